import PyProof.Rows.All
import HandS.ForMost
import HandS.Text
import KE.DataEq
import KE.DataCmp
import KE.DataFind
import KE.DataMinMax
import KE.SortData
import HandS.TupAny
import HandS.ExcOwn
import HandS.WordsExc
import HandS.WideBits
import HandS.ExcIs
import HandS.ExcField
import KE.KExcIs
import HandS.HotCalls
import HandS.Conv
import HandS.ExcInit
import PyProof.Rows.ReprR
import HandS.Style
import HandS.IsInst
import KE.KDictKeyed
import KE.KDictWalk
import KE.KDictOf
import KE.KEqDeep
import KE.KTupSum
import KE.KDictPairs
import KE.KDictCopyH
import HandS.TupSets
import HandS.Strs
import HandS.Flow
import HandS.Zip
import KE.GoesEnum
import HandS.EndBits
import PySem.Challenge.RW_switchwebs_k54_kinds_numbered_anew
set_option Elab.async false
set_option linter.all false
/-! A small evaluator over pure data: values, code, what code yields. -/
namespace Sw
open PySem

abbrev D := PyData
abbrev Store := List D
/-- a value: data, a cell of the store, an exception -/
inductive PV where
  | d (x : D)
  | cell (k : Nat)
  | exn (a : Nat) (d : Option Nat) (c : Nat) (fs : List (Str × D))
  | two (w : Str) (xs : List D)
inductive Res (α : Type) where
  | ok (a : α) (st : Store)
  | exc (c : Nat) (fs : List (Str × D)) (st : Store)
  | stuck
def Res.bind {α β : Type} (r : Res α) (f : α → Store → Res β) : Res β :=
  match r with
  | .ok a st => f a st
  | .exc c fs st => .exc c fs st
  | .stuck => .stuck
def Res.nox {α : Type} (r : Res α) : Res α :=
  match r with
  | .exc _ _ _ => .stuck
  | r => r
def ofO {α : Type} (o : Option α) (st : Store) : Res α :=
  match o with
  | some a => .ok a st
  | none => .stuck

/-! ### operators -/
inductive Op where
  | add | sub | mul | mod | fdiv | pow | shl | shr | band
  deriving DecidableEq
inductive Cm where
  | lt | le | gt | ge | eq | ne | isIn | notIn | isN | notN
  deriving DecidableEq
inductive Me where
  | cnt | ind
  deriving DecidableEq
inductive Ty where
  | int | bool | tup | lst | str | dct
  deriving DecidableEq
inductive Bi where
  | len | tupleOf | listOf | sorted | min1 | max1 | min2 | max2 | sum | all | any | int | str | isI (t : Ty) | divmod | dictOf | repr
  deriving DecidableEq

def opD : Op → D → D → Option D
  | .add, .int i, .int j => some (.int (i + j))
  | .add, .str x, .str y => if x.length + y.length ≤ sizeLine then some (.str (x ++ y)) else none
  | .add, .list xs, .list ys => if xs.length + ys.length ≤ sizeLine then some (.list (xs ++ ys)) else none
  | .add, .tuple xs, .tuple ys => if xs.length + ys.length ≤ sizeLine then some (.tuple (xs ++ ys)) else none
  | .sub, .int i, .int j => some (.int (i - j))
  | .mul, .int i, .int j => if (-(2 ^ 64) < i ∧ i < 2 ^ 64) ∨ (-(2 ^ 64) < j ∧ j < 2 ^ 64) then some (.int (i * j)) else none
  | .mul, .list xs, .int j => if -(2 ^ 63) ≤ j ∧ j < 2 ^ 63 ∧ xs.length * j.toNat ≤ sizeLine then some (.list (List.replicate j.toNat xs).flatten) else none
  | .mod, .int i, .int j => if 0 < j then some (.int (i % j)) else none
  | .fdiv, .int i, .int j => if 0 < j ∧ j < 1073741824 then some (.int (i / j)) else none
  | .pow, .int i, .int j => if 0 ≤ j ∧ j ≤ 1000000 ∧ i.natAbs < 2 ^ 64 then some (.int (i ^ j.toNat)) else none
  | .shl, .int i, .int j => if 0 ≤ j ∧ j ≤ 1000000 ∧ i.natAbs < 2 ^ 64 then some (.int (i * 2 ^ j.toNat)) else none
  | .shr, .int i, .int j => if 0 ≤ j then some (.int (i / 2 ^ j.toNat)) else none
  | .band, .int i, .int j => some (.int (Builtin.bitAnd i j))
  | _, _, _ => none

def isNone : D → Bool
  | .none => true
  | _ => false
def flat (x : D) : Bool := x.plain && decide (x.depth ≤ 60)
def flatAll (xs : List D) : Bool := PyData.plainAll xs && decide (PyData.depthAll xs ≤ 60)
def ltD : D → D → Option Bool
  | .int i, .int j => some (decide (i < j))
  | x, y => if flat x && flat y && W.alike x y && !isNone x then some (W.dataLt x y) else none
def leD : D → D → Option Bool
  | .int i, .int j => some (decide (i ≤ j))
  | x, y => if flat x && flat y && W.alike y x && !isNone y then some (!W.dataLt y x) else none
def intsOf : List D → Option (List Int)
  | [] => some []
  | .int i :: r => (intsOf r).map (i :: ·)
  | _ => none
/-- tuples of d ints each, all from -b on and below b -/
def rowOf : D → Option (List Int)
  | .tuple xs => intsOf xs
  | _ => none
/-- the keys of a dict of tuples of ints -/
def keysOf : List (D × D) → Option (List (List Int))
  | [] => some []
  | p :: r => match rowOf p.1, keysOf r with
    | some a, some b => some (a :: b)
    | _, _ => none
/-! dicts: their keys are whole numbers, or tuples of such, nested -/
def isI : D → Bool
  | .int _ => true
  | _ => false
mutual
def nestI : D → Bool
  | .int _ => true
  | .tuple xs => nestA xs
  | _ => false
def nestA : List D → Bool
  | [] => true
  | x :: xs => nestI x && nestA xs
end
def isT : D → Bool
  | .tuple xs => nestA xs && decide (PyData.depthAll xs ≤ 7)
  | _ => false
def clsAll (ks : List (D × D)) : Bool := (ks.all fun p => isI p.1) || ks.all fun p => isT p.1
def clsK (k : D) (ks : List (D × D)) : Bool := (isI k && ks.all fun p => isI p.1) || (isT k && ks.all fun p => isT p.1)
def freshK : List (D × D) → Bool
  | [] => true
  | p :: r => (r.all fun q => !PyData.eqv q.1 p.1) && freshK r
def dkOk (ks : List (D × D)) : Bool := clsAll ks && freshK ks
def lookD (ks : List (D × D)) (k : D) : Option D := (ks.find? fun p => PyData.eqv p.1 k).map (·.2)
def storeD (ks : List (D × D)) (k v : D) : List (D × D) := if ks.any (fun p => PyData.eqv p.1 k) then ks.map (fun p => if PyData.eqv p.1 k then (p.1, v) else p) else ks ++ [(k, v)]
def pairsD : List D → Option (List (D × D))
  | [] => some []
  | .tuple [k, v] :: r => (pairsD r).map ((k, v) :: ·)
  | _ => none
/-- a dict of these keys: what it holds at them is never asked -/
def dictI (ks : List (List Int)) : D := .dict (ks.map fun a => (.tuple (a.map .int), .bool true))
def inD (x : D) : D → Option Bool
  | .list ys => if flat x && flatAll ys then some (ys.any fun y => PyData.eqv y x) else none
  | .tuple ys => if flat x && flatAll ys then some (ys.any fun y => PyData.eqv y x) else none
  | .str y => match x with
    | .str z => some (!(Builtin.Str.occurrences y z 0 y.length 1).isEmpty)
    | _ => none
  | .dict ds => match rowOf x, keysOf ds with
    | some r, some ks => some (decide (r ∈ ks))
    | _, _ => if clsK x ds then some (lookD ds x).isSome else none
  | _ => none
def eqD (x y : D) : Option Bool := if flat x && flat y then some (PyData.eqv x y) else none
def cmD : Cm → D → D → Option Bool
  | .lt, x, y => ltD x y
  | .le, x, y => leD x y
  | .gt, x, y => ltD y x
  | .ge, x, y => leD y x
  | .eq, x, y => eqD x y
  | .ne, x, y => (eqD x y).map (!·)
  | .isIn, x, y => inD x y
  | .notIn, x, y => (inD x y).map (!·)
  | .isN, x, .none => some (isNone x)
  | .notN, x, .none => some (!isNone x)
  | .isN, .bool a, .bool b => some (decide (a = b))
  | .notN, .bool a, .bool b => some (!decide (a = b))
  | _, _, _ => none

def idxD : D → D → Option D
  | .list xs, .int i => L2.atI xs i
  | .tuple xs, .int i => L2.atI xs i
  | .str z, .int i => if z.length ≤ sizeLine then (L2.atI z.cps.toList i).map fun c => .str ⟨#[c]⟩ else none
  | .dict ks, k => if clsK k ks then lookD ks k else none
  | _, _ => none
def cutL (xs : List D) (lo hi : Option Int) : List D := (xs.drop (HT.sIx xs.length 0 lo)).take (HT.sIx xs.length xs.length hi - HT.sIx xs.length 0 lo)
def slcD (x : D) (lo hi : Option Int) : Option D :=
  match x with
  | .list xs => some (.list (cutL xs lo hi))
  | .tuple xs => some (.tuple (cutL xs lo hi))
  | .str z => if z.length ≤ sizeLine then some (.str (L2.cutS z lo hi)) else none
  | _ => none
def revD : D → Option D
  | .list xs => some (.list xs.reverse)
  | .tuple xs => some (.tuple xs.reverse)
  | _ => none

/-! ### built-ins -/
def tyD : Ty → D → Bool
  | .int, .int _ => true
  | .int, .bool _ => true
  | .bool, .bool _ => true
  | .tup, .tuple _ => true
  | .lst, .list _ => true
  | .str, .str _ => true
  | .dct, .dict _ => true
  | _, _ => false
def items : D → Option (List D)
  | .list xs => some xs
  | .tuple xs => some xs
  | .dict ks => if clsAll ks && decide (ks.length < 1000000) then some (ks.map (·.1)) else none
  | _ => none
def boolsOf : List D → Option (List Bool)
  | [] => some []
  | .bool b :: r => (boolsOf r).map (b :: ·)
  | _ => none
def alikeEach (xs : List D) : Bool := xs.all fun x => xs.all fun y => W.alike x y
/-- a list that can be sorted: tuples (perhaps empty ones), or ints, or texts .. -/
def fullTup : D → Bool
  | .tuple (_ :: _) => true
  | _ => false
def anyTup : D → Bool
  | .tuple _ => true
  | _ => false
def sortable (xs : List D) : Bool := alikeEach xs && xs.all (fun x => !isNone x) && flatAll xs
def insL (x : D) : List D → List D
  | [] => [x]
  | y :: ys => if W.dataLt y x then y :: insL x ys else x :: y :: ys
def sortL : List D → List D
  | [] => []
  | x :: xs => insL x (sortL xs)
def minL (x : D) (xs : List D) : D := xs.foldl (fun b y => if W.dataLt y b then y else b) x
def maxL (x : D) (xs : List D) : D := xs.foldl (fun b y => if W.dataLt b y then y else b) x
def biLen : List D → Option D
  | [.list xs] => some (.int xs.length)
  | [.tuple xs] => some (.int xs.length)
  | [.str x] => if x.length ≤ sizeLine then some (.int x.length) else none
  | _ => none
def biTuple : List D → Option D
  | [.list xs] => some (.tuple xs)
  | [.tuple xs] => some (.tuple xs)
  | _ => none
def biList : List D → Option D
  | [.list xs] => some (.list xs)
  | [.tuple xs] => some (.list xs)
  | [.dict ks] => if clsAll ks && decide (ks.length < 1000000) then some (.list (ks.map (·.1))) else none
  | _ => none
def biSorted : List D → Option D
  | [.list xs] => if sortable xs then some (.list (sortL xs)) else none
  | [.tuple xs] => if sortable xs then some (.list (sortL xs)) else none
  | _ => none
def rankable (xs : List D) : Bool := alikeEach xs && xs.all (fun x => !isNone x) && flatAll xs
def noL : D → Option D
  | .list _ => none
  | x => some x
def biMin1 : List D → Option D
  | [.list (y :: ys)] => if rankable (y :: ys) then noL (minL y ys) else none
  | [.tuple (y :: ys)] => if rankable (y :: ys) then noL (minL y ys) else none
  | _ => none
def biMax1 : List D → Option D
  | [.list (y :: ys)] => if rankable (y :: ys) then noL (maxL y ys) else none
  | [.tuple (y :: ys)] => if rankable (y :: ys) then noL (maxL y ys) else none
  | _ => none
def biMin2 : List D → Option D
  | [.int i, .int j] => some (.int (if j < i then j else i))
  | _ => none
def biMax2 : List D → Option D
  | [.int i, .int j] => some (.int (if j > i then j else i))
  | _ => none
def biSum : List D → Option D
  | [.list xs] => (intsOf xs).map fun ns => .int ns.sum
  | [.tuple xs] => (intsOf xs).map fun ns => .int ns.sum
  | _ => none
def biAll : List D → Option D
  | [.list xs] => (boolsOf xs).map fun bs => .bool (bs.all id)
  | _ => none
def biAny : List D → Option D
  | [.list xs] => (boolsOf xs).map fun bs => .bool (bs.any id)
  | _ => none
def biInt : List D → Option D
  | [.int i] => some (.int i)
  | [.bool b] => some (.int (if b then 1 else 0))
  | [.str a] => if a.length ≤ 640 then (PySem.intText? a).map .int else none
  | _ => none
def biStr : List D → Option D
  | [.int i] => if i.natAbs.log2 < 1920 then some (.str (toString i)) else none
  | _ => none
/-- a dict whose keys are texts (none of them: {}) -/
def flatKey : D → Bool
  | .str _ | .none => true
  | _ => false
def biIsI (t : Ty) : List D → Option D
  | [.dict ds] => if !ds.isEmpty && ds.all (fun p => flatKey p.1) then some (.bool (tyD t (.dict ds))) else none
  | [x] => some (.bool (tyD t x))
  | _ => none
def biDivmod : List D → Option D
  | [.int i, .int j] => if 0 < j ∧ j < 1073741824 then some (.tuple [.int (i / j), .int (i % j)]) else none
  | _ => none
def rowsOf : List D → Option (List (List Int))
  | [] => some []
  | x :: r => match rowOf x, rowsOf r with
    | some a, some b => some (a :: b)
    | _, _ => none
/-- fewer than 64 tuples of as many small ints each: what a set of them keeps -/
def setable (rs : List (List Int)) : Bool :=
  decide (rs.length < 64) && match rs with
    | [] => true
    | a :: _ => decide (1 ≤ a.length) && rs.all fun r => decide (r.length = a.length) && r.all fun i => decide (0 ≤ i ∧ i < 64)
/-- into a row that rises by f: where it is there already, it is left out -/
def insU {α : Type} (f : α → Int) (x : α) : List α → List α
  | [] => [x]
  | y :: ys => if f x < f y then x :: y :: ys else if f x = f y then y :: ys else y :: insU f x ys
def sortU {α : Type} (f : α → Int) (xs : List α) : List α := xs.foldr (insU f) []
/-- a row of small ints as one number -/
def codeR : List Int → Int
  | [] => 0
  | d :: r => d * 64 ^ r.length + codeR r
def seqOf : List D → Option (List D)
  | [.list xs] => some xs
  | [.tuple xs] => some xs
  | _ => none
def rowSet (xs : List D) : Option (List D) := (rowsOf xs).bind fun rs => if setable rs then some ((sortU codeR rs).map fun r => .tuple (r.map .int)) else none
def intSet (ns : List Int) : Option (List D) := if ns.length < 64 then some ((sortU id ns).map .int) else none
/-- sorted(set(x)) -/
def ssetD : D → Option D
  | .tuple xs => match intsOf xs with
    | some ns => (intSet ns).map .list
    | none => (rowSet xs).map .list
  | .list xs => (rowSet xs).map .list
  | _ => none
/-- len(set(x)), x a tuple of ints -/
def lenSD : D → Option D
  | .tuple xs => match intsOf xs with
    | some ns => if ns.length < 64 then some (.int ((sortU id ns).length : Nat)) else none
    | none => none
  | _ => none
def biDict : List D → Option D
  | [.list xs] => match pairsD xs with
    | some ks => if dkOk ks then some (.dict ks) else none
    | none => none
  | _ => none
mutual
/-- {} as it is -/
def realD : D → D
  | .tuple xs => .tuple (realA xs)
  | .dict ds => match ds with
    | [(.none, .none)] => .dict []
    | ds => .dict ds
  | x => x
def realA : List D → List D
  | [] => []
  | x :: xs => realD x :: realA xs
end
/-- an int or a text -/
def lit1 : D → Bool
  | .int _ | .str _ => true
  | _ => false
def noneKey : List (D × D) → Bool
  | [(.none, .none)] => true
  | _ => false
mutual
/-- no list within; dicts of ints and texts -/
def nlT : D → Bool
  | .list _ => false
  | .tuple xs => nlTA xs
  | .dict ds => noneKey ds || (!ds.isEmpty && ((ds.all fun p => lit1 p.1 && lit1 p.2) || (dkOk ds && ds.all fun p => lit1 p.2)))
  | _ => true
def nlTA : List D → Bool
  | [] => true
  | x :: xs => nlT x && nlTA xs
end
/-- the text that repr shows -/
def shownT (x : D) : Str := if x.plain then x.shown else (realD x).shown
def canShow (x : D) : Bool := if x.plain then x.showable && decide (x.depth ≤ 60) && decide (x.shown.length ≤ sizeLine) else nlT x && (realD x).showable && decide ((realD x).depth ≤ 60) && decide ((realD x).shown.length ≤ sizeLine)
def biRepr : List D → Option D
  | [x] => if canShow x then some (.str (shownT x)) else none
  | _ => none
def biD : Bi → List D → Option D
  | .len => biLen | .tupleOf => biTuple | .listOf => biList | .sorted => biSorted
  | .min1 => biMin1 | .max1 => biMax1 | .min2 => biMin2 | .max2 => biMax2 | .sum => biSum | .all => biAll | .any => biAny
  | .int => biInt | .str => biStr | .isI t => biIsI t | .divmod => biDivmod | .dictOf => biDict | .repr => biRepr

/-! ### methods -/
def mthD : Me → List D → D → Option D
  | .cnt, xs, y => if flat y && flatAll xs then some (.int (xs.countP fun z => PyData.eqv z y : Nat)) else none
  | .ind, xs, y => if flat y && flatAll xs then (xs.findIdx? fun z => PyData.eqv z y).map fun (j : Nat) => .int (j : Nat) else none
/-! ### code -/
inductive Tg where
  | nm (i : Nat)
  | tp (is : List Nat)
  deriving DecidableEq
inductive E where
  | var (i : Nat)
  | cI (i : Int) | cS (x : Str) | cB (b : Bool) | cN
  | glob (g : Nat)
  | nil | cons (a r : E)
  | tup (es : E) | lst (es : E)
  | op (o : Op) (a b : E)
  | neg (a : E)
  | cmp (o : Cm) (a b : E)
  | chain (o p : Cm) (a b c : E)
  | chain3 (o p q : Cm) (a b c d : E)
  | not (a : E)
  | and (a b : E) | or (a b : E) | one (a : E)
  | ite (c a b : E)
  | idx (a i : E)
  | slc (a lo hi : E)
  | rev (a : E)
  | call (f : Nat) (es : E)
  | blt (b : Bi) (es : E)
  | rng1 (a : E) | rng2 (a b : E)
  | comp (elt : E) (t : Tg) (it cnd : E)
  | emp (a : E)
  | enm (a : E) | zp (a b : E)
  | tupR (a : E)
  | lstR (a : E)
  | lstR2 (a b : E)
  | jn (a b : E) | spl (a b : E)
  | inR (neg : Bool) (a b : E)
  | sset (a : E)
  | lenS (a : E)
  | told (w : Str) (a : E)
  | d0 | dA (x : Str) (i : Int) | dI (i : Int) (b : Bool)
  | dget (a k z : E) | vals (a : E) | orT (a b : E)
  | xat (f : Str) (a : E)
  | mth (m : Me) (a b : E)
  | xis (c : Nat) (a : E)
  | dead
inductive S where
  | dead
  | skip
  | seq (a b : S)
  | set (i : Nat) (own : Bool) (e : E)
  | setT (is : List Nat) (e : E)
  | par (i j : Nat) (a b : E)
  | par3 (i j l : Nat) (a b c : E)
  | ite (c : E) (a b : S)
  | for (t : Tg) (it : E) (b : S)
  | ret (e : E)
  | retV (i : Nat)
  | exp (e : E)
  | app (i : Nat) (e : E)
  | ins (i : Nat) (ix e : E)
  | setI2 (i : Nat) (c d a b : E)
  | rem (i : Nat) (e : E)
  | dNew (i : Nat) | dCpy (i : Nat) (e : E) | extV (i j : Nat)
  | setI (i : Nat) (ix e : E)
  | whl (n : Nat) (c : E) (b : S)
  | popA (i j : Nat) (ix : E)
  | popS (i j : Nat) (ix : E)
  | ext (i : Nat) (e : E)
  | drop (is : List Nat) (b : S)
  | forO (t : Tg) (j : Nat) (b : S)
  | raiseS (c : Nat)
  | raiseA (c : Nat) (es : E)
  | tryR (b : S) (i : Nat) (h : S)

/-! ### slots -/
/-- what a slot owns: a list, a dict -/
inductive OC where
  | l (xs : List D)
  | d (ks : List (D × D))
def ocD : OC → D
  | .l xs => .list xs
  | .d ks => .dict ks
inductive Slot where
  | no
  | sh (p : PV)
  | own (c : OC)
  | pin
abbrev Slot.ow (xs : List D) : Slot := .own (.l xs)
abbrev Slot.od (ks : List (D × D)) : Slot := .own (.d ks)
abbrev Env := List Slot
def look (ρ : Env) (i : Nat) : Option PV :=
  match ρ[i]? with
  | some (.sh p) => some p
  | some (.own c) => some (.d (ocD c))
  | _ => none
def setSh (ρ : Env) (i : Nat) (p : PV) : Env := ρ.set i (.sh p)
/-- a target takes a value -/
def setTg (ρ : Env) (t : Tg) (x : D) : Option Env :=
  match t with
  | .nm i => some (ρ.set i (.sh (.d x)))
  | .tp is => match x with
    | .tuple xs => if xs.length = is.length then some ((is.zip xs).foldl (fun r p => r.set p.1 (.sh (.d p.2))) ρ) else none
    | _ => none

mutual
/-- no list, no dict lies within -/
def calm : D → Bool
  | .none | .bool _ | .int _ | .str _ => true
  | .list _ => false
  | .tuple xs => calmAll xs
  | .dict _ => false
def calmAll : List D → Bool
  | [] => true
  | x :: xs => calm x && calmAll xs
end

/-- the exception that is handled: its object, its dict, its class -/
abbrev Hx := Nat × Option Nat × Nat
/-- what the defs and constants of the text are worth -/
structure Ctx where
  call : Nat → List PV → Store → Res PV
  glob : Nat → D
  fresh : Nat → Bool
  hot : Option Hx
  heat : Hx → Nat → List PV → Store → Res PV
/-- .. where x is handled -/
def Ctx.hotter (Γ : Ctx) (x : Hx) : Ctx := ⟨Γ.heat x, Γ.glob, Γ.fresh, some x, fun _ _ _ _ => .stuck⟩
/-- the exceptions' classes: 0 to 9 of the program, 10 the one over them, 11 ValueError -/
def xsub (c C : Nat) : Bool := decide (c = C) || decide (10 ≤ C)
def xisR (h : Option Hx) (C : Nat) (p : PV) (st : Store) : Res PV :=
  match p with
  | .exn a d c _ => if h = some (a, d, c) then .ok (.d (.bool (xsub c C))) st else .stuck
  | _ => .stuck

/-- code whose list (if its value is one) is a new one -/
def fresh (Γ : Nat → Bool) : E → Bool
  | .lst _ => true
  | .told _ _ => true
  | .lstR _ => true
  | .lstR2 _ _ => true
  | .spl _ _ => true
  | .op _ _ _ => true
  | .slc _ _ _ => true
  | .rev _ => true
  | .comp _ _ _ _ => true
  | .blt .listOf _ => true
  | .blt .sorted _ => true
  | .sset _ => true
  | .call f _ => Γ f
  | .rng1 _ => true
  | .rng2 _ _ => true
  | _ => false
/-- the value, kept, keeps nothing that may be changed later -/
def keeps (f : Bool) : PV → Bool
  | .d (.list xs) => f && calmAll xs
  | .d x => calm x
  | .cell _ => true
  | .exn _ _ _ _ => false
  | .two _ _ => false
/-- a text beside a new list -/
def toldR (f : Bool) (w : Str) : PV → Store → Res PV
  | .d (.list xs), st => if f = true then .ok (.two w xs) st else .stuck
  | _, _ => .stuck
def occ : E → List Nat
  | .var i => [i]
  | .cons a r => occ a ++ occ r
  | .tup a | .lst a | .neg a | .not a | .one a | .rev a | .emp a | .call _ a | .xis _ a | .blt _ a | .rng1 a | .enm a | .tupR a | .lstR a | .sset a | .lenS a | .told _ a | .xat _ a | .vals a => occ a
  | .op _ a b | .mth _ a b | .cmp _ a b | .inR _ a b | .and a b | .or a b | .idx a b | .rng2 a b | .lstR2 a b | .jn a b | .spl a b | .zp a b | .orT a b => occ a ++ occ b
  | .chain3 _ _ _ a b c d => occ a ++ occ b ++ occ c ++ occ d
  | .chain _ _ a b c | .ite a b c | .slc a b c | .dget a b c => occ a ++ occ b ++ occ c
  | .comp a _ b c => occ a ++ occ b ++ occ c
  | _ => []
def demote (ρ : Env) : List Nat → Env
  | [] => ρ
  | i :: is => match ρ[i]? with
    | some (.own c) => demote (ρ.set i (.sh (.d (ocD c)))) is
    | _ => demote ρ is
def settle (ρ : Env) (b : Bool) (is : List Nat) : Env := if b then ρ else demote ρ is

/-! ### what code yields -/
def asD : PV → Option D
  | .d x => some x
  | _ => none
def asDs : List PV → Option (List D)
  | [] => some []
  | .d x :: r => (asDs r).map (x :: ·)
  | _ => none
def asB : PV → Option Bool
  | .d (.bool b) => some b
  | _ => none
def asPart : PV → Option (Option Int)
  | .d (.int i) => some (some i)
  | _ => none
def opR (o : Op) (p q : PV) (st : Store) : Res PV :=
  match p, q with
  | .d x, .d y => ofO ((opD o x y).map .d) st
  | _, _ => .stuck
def cmR (o : Cm) (p q : PV) (st : Store) : Res PV :=
  match p, q with
  | .d x, .d y => ofO ((cmD o x y).map fun b => .d (.bool b)) st
  | _, _ => .stuck
def idxR (p q : PV) (st : Store) : Res PV :=
  match p, q with
  | .d x, .d y => ofO ((idxD x y).map .d) st
  | .cell k, .d y => match st[k]? with
    | some x => ofO (((idxD x y).bind fun z => if calm z then some z else none).map .d) st
    | none => .stuck
  | _, _ => .stuck
def slcR (p : PV) (lo hi : Option Int) (st : Store) : Res PV :=
  match p with
  | .d x => ofO ((slcD x lo hi).map .d) st
  | _ => .stuck
def revR (p : PV) (st : Store) : Res PV :=
  match p with
  | .d x => ofO ((revD x).map .d) st
  | _ => .stuck
def biR (b : Bi) (ps : List PV) (st : Store) : Res PV :=
  match asDs ps with
  | some xs => ofO ((biD b xs).map .d) st
  | none => .stuck
def negR (p : PV) (st : Store) : Res PV :=
  match p with
  | .d (.int i) => .ok (.d (.int (-i))) st
  | _ => .stuck
def ifB (p : PV) (st : Store) (f : Bool → Res PV) : Res PV :=
  match p with
  | .d (.bool b) => f b
  | _ => .stuck
/-- the ints from lo on, n of them -/
def rangeL (lo : Int) (n : Nat) : List D := (List.range n).map fun i => .int (lo + (i : Nat))
def rngR (lo hi : Int) (st : Store) : Res PV :=
  if -(2 ^ 62) ≤ lo ∧ lo < 2 ^ 62 ∧ -(2 ^ 62) ≤ hi ∧ hi < 2 ^ 62 ∧ (hi - lo).toNat ≤ sizeLine then .ok (.d (.list (rangeL lo (hi - lo).toNat))) st else .stuck
def enumL : Nat → List D → List D
  | _, [] => []
  | k, x :: r => .tuple [.int (k : Nat), x] :: enumL (k + 1) r
def zipL (xs ys : List D) : List D := List.zipWith (fun x y => .tuple [x, y]) xs ys
def compL (f : D → Store → Res (Option D)) : List D → Store → Res (List D)
  | [], st => .ok [] st
  | x :: xs, st => (f x st).bind fun o st1 => (compL f xs st1).bind fun r st2 => .ok (o.toList ++ r) st2

/-- {}: what has no key -/
def emptyD : D := .dict [(.none, .none)]
/-- an exception's field -/
def xatN : List Str := ["at", "wrong", "many", "most"]
def xatR (h : Option Hx) (f : Str) (p : PV) (st : Store) : Res PV :=
  match p with
  | .exn a d c fs => if h = some (a, d, c) ∧ f ∈ xatN then ofO ((fs.lookup f).map .d) st else .stuck
  | _ => .stuck
/-- the fields that a class of the program gives its exceptions -/
def xfN : Nat → List Str
  | 6 => ["at"] | 7 => ["wrong"] | 8 => ["at"] | 9 => ["many", "most"] | _ => []
def strOk : D → Bool
  | .int i => decide (-1 ≤ i ∧ i ≤ 100)
  | .tuple xs => (PyData.tuple xs).plain && (PyData.tuple xs).showable && decide ((PyData.tuple xs).depth ≤ 8) && decide ((PyData.tuple xs).shown.length ≤ 100)
  | _ => false
def xcF (c : Nat) (xs : List D) : Option (List (Str × D)) := if 6 ≤ c ∧ c ≤ 9 ∧ xs.length = (xfN c).length ∧ xs.all strOk = true then some ((xfN c).zip xs).reverse else none
/-- d.get(k, z) -/
def dgetR (ks : List (D × D)) (q r : PV) (st : Store) : Res PV :=
  match q, r with
  | .d k, .d z => if clsK k ks then .ok (.d ((lookD ks k).getD z)) st else .stuck
  | _, _ => .stuck
/-- d.values() -/
def valsR (p : PV) (st : Store) : Res PV :=
  match p with
  | .d (.dict ks) => if clsAll ks && decide (ks.length < 1000000) then .ok (.d (.list (ks.map (·.2)))) st else .stuck
  | _ => .stuck
/-- list(range(j)) -/
def inRR (neg : Bool) : PV → PV → Store → Res PV
  | .d (.int i), .d (.int j), st => .ok (.d (.bool (if neg = true then !decide (0 ≤ i ∧ i < j) else decide (0 ≤ i ∧ i < j)))) st
  | _, _, _ => .stuck
def lstRD (j : Int) : Option D := if -(2 ^ 62) ≤ j ∧ j < 2 ^ 62 ∧ j.toNat ≤ sizeLine then some (.list (rangeL 0 j.toNat)) else none
/-- tuple(range(j)) -/
def strsOf : List D → Option (List Str)
  | [] => some []
  | .str x :: r => (strsOf r).map (x :: ·)
  | _ => none
/-- s.join(l) -/
def joinD (a : Str) : PV → Option D
  | .d (.list xs) => (strsOf xs).bind fun ys => if (ys.map (·.length)).sum + ys.length * a.length ≤ 16777216 then some (.str (Txt.join a ys)) else none
  | _ => none
/-- s.split(x) -/
def splitD (a : Str) : PV → Option D
  | .d (.str b) => if (b.length == 0) = false ∧ a.length + 2 ≤ sizeLine then some (.list ((Txt.split a b).map .str)) else none
  | _ => none
def lstR2D : PV → PV → Option D
  | .d (.int i), .d (.int j) => if -(2 ^ 62) ≤ i ∧ i < 2 ^ 62 ∧ -(2 ^ 62) ≤ j ∧ j < 2 ^ 62 ∧ (j - i).toNat ≤ sizeLine then some (.list (rangeL i (j - i).toNat)) else none
  | _, _ => none
def tupRD (j : Int) : Option D := if -(2 ^ 62) ≤ j ∧ j < 2 ^ 62 ∧ j.toNat ≤ sizeLine then some (.tuple (rangeL 0 j.toNat)) else none
/-- one turn of a comprehension -/
def elF (t : Tg) (dc : Env → Store → Res Bool) (de : Env → Store → Res PV) (ρ : Env) (x : D) (st : Store) : Res (Option D) :=
  match setTg ρ t x with
  | some ρ' => (dc ρ' st).bind fun k st => if k then (de ρ' st).bind fun y st => ofO ((asD y).map some) st else .ok none st
  | none => .stuck
mutual
def den (Γ : Ctx) : E → Env → Store → Res PV
  | .var i, ρ, st => ofO (look ρ i) st
  | .cI i, _, st => .ok (.d (.int i)) st
  | .cS x, _, st => .ok (.d (.str x)) st
  | .cB b, _, st => .ok (.d (.bool b)) st
  | .cN, _, st => .ok (.d .none) st
  | .glob g, _, st => .ok (.d (Γ.glob g)) st
  | .tup es, ρ, st => (denA Γ es ρ st).bind fun ps st => ofO ((asDs ps).map fun xs => .d (.tuple xs)) st
  | .lst es, ρ, st => (denA Γ es ρ st).bind fun ps st => ofO ((asDs ps).map fun xs => .d (.list xs)) st
  | .op o a b, ρ, st => (den Γ a ρ st).bind fun p st => (den Γ b ρ st).bind fun q st => opR o p q st
  | .neg a, ρ, st => (den Γ a ρ st).bind negR
  | .cmp o a b, ρ, st => (den Γ a ρ st).bind fun p st => (den Γ b ρ st).bind fun q st => cmR o p q st
  | .inR neg a b, ρ, st => (den Γ a ρ st).bind fun p st => (den Γ b ρ st).bind fun q st => inRR neg p q st
  | .chain o u a b c, ρ, st => (den Γ a ρ st).bind fun p st => (den Γ b ρ st).bind fun q st => (cmR o p q st).bind fun r st =>
      ifB r st fun k => if k then (den Γ c ρ st).bind fun t st => cmR u q t st else .ok (.d (.bool false)) st
  | .chain3 o u w a b c d, ρ, st => (den Γ a ρ st).bind fun p st => (den Γ b ρ st).bind fun q st => (cmR o p q st).bind fun r st =>
      ifB r st fun k => if k then (den Γ c ρ st).bind fun t st => (cmR u q t st).bind fun r st => ifB r st fun k => if k then (den Γ d ρ st).bind fun v st => cmR w t v st else .ok (.d (.bool false)) st else .ok (.d (.bool false)) st
  | .not a, ρ, st => (den Γ a ρ st).bind fun p st => ifB p st fun k => .ok (.d (.bool (!k))) st
  | .and a b, ρ, st => (den Γ a ρ st).bind fun p st => ifB p st fun k => if k then den Γ b ρ st else .ok (.d (.bool false)) st
  | .or a b, ρ, st => (den Γ a ρ st).bind fun p st => ifB p st fun k => if k then .ok (.d (.bool true)) st else den Γ b ρ st
  | .one a, ρ, st => (den Γ a ρ st).bind fun p st => ifB p st fun k => .ok (.d (.bool k)) st
  | .ite c a b, ρ, st => (den Γ c ρ st).bind fun p st => ifB p st fun k => if k then den Γ a ρ st else den Γ b ρ st
  | .idx a i, ρ, st => (den Γ a ρ st).bind fun p st => (den Γ i ρ st).bind fun q st => idxR p q st
  | .slc a lo hi, ρ, st => (den Γ a ρ st).bind fun p st => (denP Γ lo ρ st).bind fun l st => (denP Γ hi ρ st).bind fun h st => slcR p l h st
  | .rev a, ρ, st => (den Γ a ρ st).bind revR
  | .emp a, ρ, st => (den Γ a ρ st).bind fun p st => match p with
    | .d (.list xs) => .ok (.d (.bool xs.isEmpty)) st
    | _ => .stuck
  | .call f es, ρ, st => (denA Γ es ρ st).bind fun ps st => Γ.call f ps st
  | .blt b es, ρ, st => (denA Γ es ρ st).bind fun ps st => biR b ps st
  | .rng1 a, ρ, st => (den Γ a ρ st).bind fun p st => match p with
    | .d (.int j) => rngR 0 j st
    | _ => .stuck
  | .rng2 a b, ρ, st => (den Γ a ρ st).bind fun p st => (den Γ b ρ st).bind fun q st => match p, q with
    | .d (.int i), .d (.int j) => rngR i j st
    | _, _ => .stuck
  | .comp elt t it cnd, ρ, st => (den Γ it ρ st).bind fun p st => match p with
    | .d x => match items x with
      | some xs => (compL (elF t (denC Γ cnd) (den Γ elt) ρ) xs st).nox.bind fun ys st => .ok (.d (.list ys)) st
      | none => .stuck
    | _ => .stuck
  | .nil, _, _ => .stuck
  | .cons _ _, _, _ => .stuck
  | .enm a, ρ, st => (den Γ a ρ st).bind fun p st => match p with
    | .d (.list xs) => .ok (.d (.list (enumL 0 xs))) st
    | .d (.tuple xs) => .ok (.d (.list (enumL 0 xs))) st
    | _ => .stuck
  | .zp a b, ρ, st => (den Γ a ρ st).bind fun p st => (den Γ b ρ st).bind fun q st => match p, q with
    | .d (.list xs), .d (.list ys) => .ok (.d (.list (zipL xs ys))) st
    | .d (.tuple xs), .d (.tuple ys) => .ok (.d (.list (zipL xs ys))) st
    | _, _ => .stuck
  | .tupR a, ρ, st => (den Γ a ρ st).bind fun p st => match p with
    | .d (.int j) => ofO ((tupRD j).map .d) st
    | _ => .stuck
  | .jn a b, ρ, st => (den Γ a ρ st).bind fun p st => match p with
    | .d (.str x) => (den Γ b ρ st).bind fun q st => ofO ((joinD x q).map .d) st
    | _ => .stuck
  | .spl a b, ρ, st => (den Γ a ρ st).bind fun p st => match p with
    | .d (.str x) => (den Γ b ρ st).bind fun q st => ofO ((splitD x q).map .d) st
    | _ => .stuck
  | .lstR2 a b, ρ, st => (den Γ a ρ st).bind fun p st => (den Γ b ρ st).bind fun q st => ofO ((lstR2D p q).map .d) st
  | .lstR a, ρ, st => (den Γ a ρ st).bind fun p st => match p with
    | .d (.int j) => ofO ((lstRD j).map .d) st
    | _ => .stuck
  | .sset a, ρ, st => (den Γ a ρ st).bind fun p st => match p with
    | .d x => ofO ((ssetD x).map .d) st
    | _ => .stuck
  | .told w a, ρ, st => (den Γ a ρ st).bind fun p st => toldR (fresh Γ.fresh a) w p st
  | .lenS a, ρ, st => (den Γ a ρ st).bind fun p st => match p with
    | .d x => ofO ((lenSD x).map .d) st
    | _ => .stuck
  | .d0, _, st => .ok (.d emptyD) st
  | .dI i b, _, st => .ok (.d (.dict [(.int i, .bool b)])) st
  | .dget a k z, ρ, st => (den Γ a ρ st).bind fun p st => match p with
    | .d (.dict ks) => if clsAll ks then (den Γ k ρ st).bind fun q st => (den Γ z ρ st).bind fun r st => dgetR ks q r st else .stuck
    | _ => .stuck
  | .vals a, ρ, st => (den Γ a ρ st).bind valsR
  | .orT a b, ρ, st => (den Γ a ρ st).bind fun p st => match p with
    | .d (.tuple xs) => if xs.isEmpty then den Γ b ρ st else .ok (.d (.tuple xs)) st
    | _ => .stuck
  | .dA x i, _, st => .ok (.d (.dict [(.str x, .int i)])) st
  | .xat f a, ρ, st => (den Γ a ρ st).bind fun p st => xatR Γ.hot f p st
  | .mth m a b, ρ, st => (den Γ a ρ st).bind fun p st => match p with
    | .d (.list xs) => (den Γ b ρ st).bind fun q st => match q with
      | .d y => ofO ((mthD m xs y).map .d) st
      | _ => .stuck
    | .d (.tuple xs) => (den Γ b ρ st).bind fun q st => match q with
      | .d y => ofO ((mthD m xs y).map .d) st
      | _ => .stuck
    | _ => .stuck
  | .xis c a, ρ, st => (den Γ a ρ st).bind fun p st => xisR Γ.hot c p st
  | .dead, _, _ => .stuck
/-- arguments -/
def denA (Γ : Ctx) : E → Env → Store → Res (List PV)
  | .nil, _, st => .ok [] st
  | .cons a r, ρ, st => (den Γ a ρ st).bind fun p st => (denA Γ r ρ st).bind fun ps st => .ok (p :: ps) st
  | _, _, _ => .stuck
/-- a part of a slice: nothing, or an int -/
def denP (Γ : Ctx) : E → Env → Store → Res (Option Int)
  | .nil, _, st => .ok none st
  | .one a, ρ, st => (den Γ a ρ st).bind fun p st => match p with
    | .d (.int i) => .ok (some i) st
    | _ => .stuck
  | _, _, _ => .stuck
/-- the test of a comprehension: nothing, or a test -/
def denC (Γ : Ctx) : E → Env → Store → Res Bool
  | .nil, _, st => .ok true st
  | .one a, ρ, st => (den Γ a ρ st).bind fun p st => match p with
    | .d (.bool k) => .ok k st
    | _ => .stuck
  | _, _, _ => .stuck
end

/-- slots that are forgotten -/
def dropE (ρ : Env) (is : List Nat) : Env := is.foldl (fun r i => r.set i .no) ρ
inductive Out where
  | next (ρ : Env)
  | ret (p : PV) (new : Bool)
def forL (body : D → Env → Store → Res Out) : List D → Env → Store → Res Out
  | [], ρ, st => .ok (.next ρ) st
  | x :: xs, ρ, st => (body x ρ st).bind fun o st => match o with
    | .next ρ' => forL body xs ρ' st
    | .ret p n => .ok (.ret p n) st
/-- a loop by its test: at most n turns -/
def whileL (c : Env → Store → Res PV) (b : Env → Store → Res Out) : Nat → Env → Store → Res Out
  | 0, _, _ => .stuck
  | n + 1, ρ, st => (c ρ st).bind fun p st => match p with
    | .d (.bool k) => if k = true then (b ρ st).bind fun o st => match o with
        | .next ρ' => whileL c b n ρ' st
        | .ret p m => .ok (.ret p m) st
      else .ok (.next ρ) st
    | _ => .stuck
/-- what is taken out of a list at a place, and what is left -/
def popD (xs : List D) (k : Int) : Option (D × List D) := if 0 ≤ k ∧ k < 1000000 then (xs[k.toNat]?).map fun y => (y, xs.eraseIdx k.toNat) else none
/-- behind the loop the list is owned again -/
def unpin (j : Nat) (xs : List D) (o : Out) (st : Store) : Res Out :=
  match o with
  | .next ρ' => match ρ'[j]? with
    | some .pin => .ok (.next (ρ'.set j (.own (.l xs)))) st
    | _ => .stuck
  | .ret p n => .ok (.ret p n) st
/-- the dict of an exception with these fields -/
def dOf (b : Nat) (fs : List (Str × D)) : Option Nat := if fs.isEmpty then none else some b
/-- what comes of every handled object alike, and goes back to the caller -/
noncomputable def anyX (f : Nat → Nat → Res Out) : Res Out := open Classical in
  if h : ∃ p n st, ∀ a b, f a b = .ok (.ret p n) st then .ok (.ret h.choose h.choose_spec.choose) h.choose_spec.choose_spec.choose else .stuck
def raiseR (h : Option Hx) (c : Nat) (ps : List PV) (st : Store) : Res Out :=
  if h = none then match (asDs ps).bind (xcF c) with
    | some fs => .exc c fs st
    | none => .stuck
  else .stuck
noncomputable def run (Γ : Ctx) : S → Env → Store → Res Out
  | .dead, _, _ => .stuck
  | .skip, ρ, st => .ok (.next ρ) st
  | .seq a b, ρ, st => (run Γ a ρ st).bind fun o st => match o with
    | .next ρ' => run Γ b ρ' st
    | .ret p n => .ok (.ret p n) st
  | .set i own e, ρ, st => (den Γ e ρ st).bind fun p st =>
      if own then match p with
        | .d (.list xs) => .ok (.next ((settle ρ (keeps (fresh Γ.fresh e) p) (occ e)).set i (.own (.l xs)))) st
        | _ => .stuck
      else .ok (.next ((settle ρ (keeps (fresh Γ.fresh e) p) (occ e)).set i (.sh p))) st
  | .setT is e, ρ, st => (den Γ e ρ st).bind fun p st => match p with
      | .d x => match setTg (settle ρ (keeps false p) (occ e)) (.tp is) x with
        | some ρ' => .ok (.next ρ') st
        | none => .stuck
      | .two w xs => match is with
        | [i, j] => if fresh Γ.fresh e = true then .ok (.next (((settle ρ (keeps false (.two w xs)) (occ e)).set i (.sh (.d (.str w)))).set j (.own (.l xs)))) st else .stuck
        | _ => .stuck
      | _ => .stuck
  | .par i j a b, ρ, st => (den Γ a ρ st).bind fun p st => (den Γ b ρ st).bind fun q st =>
      .ok (.next (((settle (settle ρ (keeps false p) (occ a)) (keeps false q) (occ b)).set i (.sh p)).set j (.sh q))) st
  | .par3 i j l a b c, ρ, st => (den Γ a ρ st).bind fun p st => (den Γ b ρ st).bind fun q st => (den Γ c ρ st).bind fun r st =>
      .ok (.next ((((demote ρ (occ a ++ (occ b ++ occ c))).set i (.sh p)).set j (.sh q)).set l (.sh r))) st
  | .ite c a b, ρ, st => (den Γ c ρ st).bind fun p st => match p with
      | .d (.bool k) => if k then run Γ a ρ st else run Γ b ρ st
      | _ => .stuck
  | .for t it b, ρ, st => (den Γ it ρ st).bind fun p st => match p with
      | .d x => match items x with
        | some xs => forL (fun x ρ st => match setTg ρ t x with
            | some ρ' => run Γ b ρ' st
            | none => .stuck) xs (settle ρ (keeps (fresh Γ.fresh it) p) (occ it)) st
        | none => .stuck
      | _ => .stuck
  | .ret e, ρ, st => (den Γ e ρ st).bind fun p st => .ok (.ret p (fresh Γ.fresh e)) st
  | .retV i, ρ, st => match ρ[i]? with
    | some (.sh p) => .ok (.ret p false) st
    | some (.own (.l xs)) => .ok (.ret (.d (.list xs)) true) st
    | some (.own (.d ks)) => .ok (.ret (.d (.dict ks)) false) st
    | _ => .stuck
  | .exp e, ρ, st => (den Γ e ρ st).bind fun _ st => .ok (.next ρ) st
  | .app i e, ρ, st => match ρ[i]? with
    | some (.own (.l _)) => (den Γ e ρ st).bind fun p st => match p with
      | .d y => match (settle ρ (keeps false p) (occ e))[i]? with
        | some (.own (.l xs)) => if xs.length < sizeLine then .ok (.next ((settle ρ (keeps false p) (occ e)).set i (.own (.l (xs ++ [y]))))) st else .stuck
        | _ => .stuck
      | _ => .stuck
    | _ => .stuck
  | .rem i e, ρ, st => match ρ[i]? with
    | some (.own (.l _)) => (den Γ e ρ st).bind fun p st => match p with
      | .d y => match (settle ρ (keeps false (.d y)) (occ e))[i]? with
        | some (.own (.l xs)) => if flat y = true ∧ flatAll xs = true then match xs.findIdx? fun z => PyData.eqv z y with
          | some j => .ok (.next ((settle ρ (keeps false (.d y)) (occ e)).set i (.own (.l (xs.eraseIdx j))))) st
          | none => .stuck
          else .stuck
        | _ => .stuck
      | _ => .stuck
    | _ => .stuck
  | .setI2 i c d a b, ρ, st => match ρ[i]? with
    | some (.own (.l xs)) => (den Γ a ρ st).bind fun p st => (den Γ b ρ st).bind fun q st => (den Γ c ρ st).bind fun x st => match p, q, x with
      | .d (.int u), .d (.int w), .d (.int k) => match L2.ixN xs.length k with
        | some j => (den Γ d (ρ.set i (.own (.l (xs.set j (.int u))))) st).bind fun y st => match y with
          | .d (.int m) => match L2.ixN (xs.set j (.int u)).length m with
            | some l => .ok (.next ((ρ.set i (.own (.l (xs.set j (.int u))))).set i (.own (.l ((xs.set j (.int u)).set l (.int w)))))) st
            | none => .stuck
          | _ => .stuck
        | none => .stuck
      | _, _, _ => .stuck
    | _ => .stuck
  | .ins i ix e, ρ, st => match ρ[i]? with
    | some (.own (.l _)) => (den Γ ix ρ st).bind fun q st => (den Γ e ρ st).bind fun p st => match q, p with
      | .d (.int k), .d y => match (settle ρ (keeps false p) (occ e))[i]? with
        | some (.own (.l xs)) => if xs.length < sizeLine ∧ 0 ≤ k ∧ k < 1000000 then .ok (.next ((settle ρ (keeps false p) (occ e)).set i (.own (.l (xs.take k.toNat ++ y :: xs.drop k.toNat))))) st else .stuck
        | _ => .stuck
      | _, _ => .stuck
    | _ => .stuck
  | .setI i ix e, ρ, st => match ρ[i]? with
    | some (.own (.l _)) => (den Γ e ρ st).bind fun p st => (den Γ ix ρ st).bind fun q st => match p, q with
      | .d y, .d (.int k) => match (settle ρ (keeps false p) (occ e))[i]? with
        | some (.own (.l xs)) => match L2.ixN xs.length k with
          | some j => .ok (.next ((settle ρ (keeps false p) (occ e)).set i (.own (.l (xs.set j y))))) st
          | none => .stuck
        | _ => .stuck
      | _, _ => .stuck
    | some (.own (.d _)) => (den Γ e ρ st).bind fun p st => (den Γ ix ρ st).bind fun q st => match p, q with
      | .d y, .d k => match (settle ρ (keeps false p) (occ e))[i]? with
        | some (.own (.d ks)) => if clsK k ks = true ∧ ks.length < 1000000 then .ok (.next ((settle ρ (keeps false p) (occ e)).set i (.own (.d (storeD ks k y))))) st else .stuck
        | _ => .stuck
      | _, _ => .stuck
    | some (.sh (.cell c)) => (den Γ e ρ st).bind fun p st => (den Γ ix ρ st).bind fun q st => match p, q with
      | .d y, .d (.int k) => match st[c]? with
        | some (.list xs) => match L2.ixN xs.length k with
          | some j => if calm y then .ok (.next ρ) (st.set c (.list (xs.set j y))) else .stuck
          | none => .stuck
        | _ => .stuck
      | _, _ => .stuck
    | _ => .stuck
  | .extV i j, ρ, st => match ρ[i]?, ρ[j]? with
    | some (.own (.l xs)), some (.own (.l ys)) => if calmAll ys = true ∧ xs.length + ys.length ≤ sizeLine then .ok (.next (ρ.set i (.own (.l (xs ++ ys))))) st else .stuck
    | _, _ => .stuck
  | .dNew i, ρ, st => .ok (.next (ρ.set i (.own (.d [])))) st
  | .dCpy i e, ρ, st => (den Γ e ρ st).bind fun p st => match p with
    | .d (.dict ks) => if (ks.all fun q => isI q.1 && calm q.2) = true ∧ ks.length < 1000000 then .ok (.next (ρ.set i (.own (.d ks)))) st else .stuck
    | _ => .stuck
  | .whl n c b, ρ, st => whileL (den Γ c) (run Γ b) n ρ st
  | .popA i j ix, ρ, st => match ρ[i]?, ρ[j]? with
    | some (.own (.l xs)), some (.own (.l ys)) => if i = j then .stuck else (den Γ ix ρ st).bind fun p st => match p with
      | .d (.int k) => match popD ys k with
        | some (y, zs) => if xs.length < sizeLine then .ok (.next ((ρ.set j (.own (.l zs))).set i (.own (.l (xs ++ [y]))))) st else .stuck
        | none => .stuck
      | _ => .stuck
    | _, _ => .stuck
  | .popS i j ix, ρ, st => match ρ[j]? with
    | some (.own (.l ys)) => if i = j then .stuck else (den Γ ix ρ st).bind fun p st => match p with
      | .d (.int k) => match popD ys k with
        | some (y, zs) => .ok (.next ((ρ.set j (.own (.l zs))).set i (.sh (.d y)))) st
        | none => .stuck
      | _ => .stuck
    | _ => .stuck
  | .ext i e, ρ, st => match ρ[i]? with
    | some (.own (.l xs)) => if fresh Γ.fresh e = true then (den Γ e ρ st).bind fun p st => match p with
      | .d (.list ys) => if calmAll ys = true ∧ xs.length + ys.length ≤ sizeLine then .ok (.next (ρ.set i (.own (.l (xs ++ ys))))) st else .stuck
      | _ => .stuck
      else .stuck
    | _ => .stuck
  | .drop is b, ρ, st => (run Γ b ρ st).bind fun o st => match o with
    | .next ρ' => .ok (.next (dropE ρ' is)) st
    | .ret p n => .ok (.ret p n) st
  | .forO t j b, ρ, st => match ρ[j]? with
    | some (.own (.l xs)) => (forL (fun x ρ st => match setTg ρ t x with
            | some ρ' => run Γ b ρ' st
            | none => .stuck) xs (ρ.set j .pin) st).bind (unpin j xs)
    | _ => .stuck
  | .raiseS c, _, st => if Γ.hot = none then .exc c [] st else .stuck
  | .raiseA c es, ρ, st => (denA Γ es ρ st).bind fun ps st => raiseR Γ.hot c ps st
  | .tryR b i h, ρ, st => match Γ.hot, run Γ b ρ st with
    | none, .exc c fs st' => anyX fun a b => run (Γ.hotter (a, dOf b fs, c)) h ((List.replicate ρ.length .no).set i (.sh (.exn a (dOf b fs) c fs))) st'
    | none, .ok o st' => .ok o st'
    | _, _ => .stuck

/-- a def: how many parameters, how many slots, its body, whether a list that it hands back is new, whether it becomes a cell -/
structure FD where
  ar : Nat
  sl : Nat
  body : S
  fresh : Bool := false
  cell : Bool := false
def enter (f : FD) (ps : List PV) : Env := ps.map .sh ++ List.replicate (f.sl - ps.length) .no
def isList : PV → Bool
  | .d (.list _) => true
  | .two _ _ => true
  | _ => false
/-- what a def hands back: a new list (where it promises one), perhaps a cell of the store -/
def leave (f : FD) (o : Out) (st : Store) : Res PV :=
  match o with
  | .next _ => .ok (.d .none) st
  | .ret p n => if isList p && (f.fresh || f.cell) && !n then .stuck else if f.cell then match p with
      | .d (.list xs) => if calmAll xs then .ok (.cell st.length) (st ++ [.list xs]) else .stuck
      | _ => .stuck
    else .ok p st
def frT (T : Nat → Option FD) (g : Nat) : Bool := match T g with | some h => h.fresh | none => false
noncomputable def callX (T : Nat → Option FD) (gl : Nat → D) (x : Hx) : Nat → Nat → List PV → Store → Res PV
  | 0, _, _, _ => .stuck
  | k + 1, f, ps, st => match T f with
    | none => .stuck
    | some fd => if ps.length = fd.ar then
        (run ⟨fun g => callX T gl x k g, gl, frT T, some x, fun _ _ _ _ => .stuck⟩ fd.body (enter fd ps) st).bind fun o st => leave fd o st
      else .stuck
noncomputable def callF (T : Nat → Option FD) (gl : Nat → D) : Nat → Nat → List PV → Store → Res PV
  | 0, _, _, _ => .stuck
  | k + 1, f, ps, st => match T f with
    | none => .stuck
    | some fd => if ps.length = fd.ar then
        (run ⟨fun g => callF T gl k g, gl, frT T, none, fun x g => callX T gl x k g⟩ fd.body (enter fd ps) st).bind fun o st => leave fd o st
      else .stuck
end Sw

set_option Elab.async false
set_option linter.all false
set_option maxRecDepth 100000
/-! How data lie in a heap; what an expression's code must bring about. -/
namespace Sw
open PySem PySem.Spec PyProof.Rows L2

/-- the heap without what is hidden -/
noncomputable def msk (P : Addr → Prop) (H : Hp) : Hp := fun a => open Classical in if P a then none else H a
theorem msk_some {P : Addr → Prop} {H : Hp} {a : Addr} {o : HO} : msk P H a = some o ↔ ¬ P a ∧ H a = some o := by
  unfold msk
  by_cases h : P a
  · simp [h]
  · simp [h]
theorem msk_le {P : Addr → Prop} {H : Hp} : Same (msk P H) H := fun _ _ h => (msk_some.mp h).2
theorem msk_mono {P P' : Addr → Prop} {H H' : Hp} (h : ∀ a o, ¬ P a → H a = some o → ¬ P' a ∧ H' a = some o) : Same (msk P H) (msk P' H') := fun a o e =>
  have q := msk_some.mp e
  msk_some.mpr (h a o q.1 q.2)

def isStrD : D → Bool
  | .str _ => true
  | _ => false
/-- a key of a dict as data -/
def keyD : Key → D
  | .inl i => .int i
  | .inr x => .str x

/-! a key's hash -/
mutual
def hk : D → Int
  | .int i => hashInt i
  | .tuple xs => reduceHash (Builtin.Tuple.tupleHashOf (hkA xs))
  | _ => 0
def hkA : List D → List Int
  | [] => []
  | x :: xs => hk x :: hkA xs
end
/-- a dict's entry: hash, key, value -/
def entR (e : Int × V × V) (d : DictEntry) : Prop := d.hash = e.1 ∧ RelV e.2.1 d.key ∧ RelV e.2.2 d.val
/-- at a: a dict of just these entries -/
def dE (a : Addr) (ep : Nat) (ms : List (Int × V × V)) : HO := .ext fun h => (a == sysModules) = false ∧ ∃ o es, h.get? a = some o ∧ o.ExactDict ∧ o.data = .dict es ep ∧ Paired entR ms es.toList
/-- a tuple whose object bears no dict of its own -/
def SqN (H : Hp) (a : Addr) (xs : List V) : Prop := ∃ o, H a = some (.frz o (.tup xs)) ∧ o.dict = none
theorem SqN.t {K : PySem.W.Frag} {H : Hp} {a : Addr} {xs : List V} (h : SqN H a xs) : SqT K H a xs := let ⟨o, e, _⟩ := h; .inl (.inr ⟨o, e⟩)
mutual
inductive Dq (K : PySem.W.Frag) (H : Hp) : V → D → Prop
  | non : Dq K H .non .none
  | bl (b : Bool) : Dq K H (.bl b) (.bool b)
  | int (i : Int) : Dq K H (.int i) (.int i)
  | str (x : Str) : Dq K H (.str x) (.str x)
  | lst {a : Addr} {xs : List V} {ds : List D} : SqL K H a xs → DqAll K H xs ds → Dq K H (.ref a) (.list ds)
  | tup {a : Addr} {xs : List V} {ds : List D} : SqN H a xs → DqAll K H xs ds → Dq K H (.ref a) (.tuple ds)
  | dgn {a : Addr} {ep : Nat} {ms : List (Int × V × V)} {ks : List (D × D)} : H a = some (dE a ep ms) → DqAll K H (ms.map (·.2.1)) (ks.map (·.1)) → DqAll K H (ms.map (·.2.2)) (ks.map (·.2)) → ms.map (·.1) = ks.map (fun p => hk p.1) → dkOk ks = true → Dq K H (.ref a) (.dict ks)
  | dc0 {a : Addr} : H a = some (.dK []) → Dq K H (.ref a) (.dict [(.none, .none)])
  | dct {a : Addr} {kvs : List (Key × V)} {ds : List (D × D)} : kvs ≠ [] → (∀ p ∈ ds, isStrD p.1 = true) → H a = some (.dK kvs) → kvs.map (fun p => keyD p.1) = ds.map (·.1) → DqAll K H (kvs.map (·.2)) (ds.map (·.2)) → Dq K H (.ref a) (.dict ds)
inductive DqAll (K : PySem.W.Frag) (H : Hp) : List V → List D → Prop
  | nil : DqAll K H [] []
  | cons {v : V} {vs : List V} {d : D} {ds : List D} : Dq K H v d → DqAll K H vs ds → DqAll K H (v :: vs) (d :: ds)
end

section
variable {K : PySem.W.Frag} {H H' : Hp}
theorem Rd.mono {a : Addr} {u : HO} (e : Same H H') (h : Rd H a u) : Rd H' a u := by
  rcases h with h | ⟨o, h⟩
  · exact .inl (e _ _ h)
  · exact .inr ⟨o, e _ _ h⟩
theorem SqT.mono {a : Addr} {xs : List V} (e : Same H H') (h : SqT K H a xs) : SqT K H' a xs := by
  rcases h with h | h
  · exact .inl (Rd.mono e h)
  · exact .inr h
theorem SqN.mono {a : Addr} {xs : List V} (e : Same H H') (h : SqN H a xs) : SqN H' a xs := let ⟨o, q, d⟩ := h; ⟨o, e _ _ q, d⟩
theorem SqL.mono {a : Addr} {xs : List V} (e : Same H H') (h : SqL K H a xs) : SqL K H' a xs := by
  rcases h with h | h
  · exact .inl (Rd.mono e h)
  · exact .inr h
mutual
theorem Dq.mono (e : Same H H') : ∀ {v : V} {x : D}, Dq K H v x → Dq K H' v x
  | _, _, .non => .non
  | _, _, .bl b => .bl b
  | _, _, .int i => .int i
  | _, _, .str x => .str x
  | _, _, .lst h1 h2 => .lst (SqL.mono e h1) (DqAll.mono e h2)
  | _, _, .tup h1 h2 => .tup (SqN.mono e h1) (DqAll.mono e h2)
  | _, _, .dct h0 hs h1 h2 h3 => .dct h0 hs (e _ _ h1) h2 (DqAll.mono e h3)
  | _, _, .dc0 h1 => .dc0 (e _ _ h1)
  | _, _, .dgn h1 h2 h3 h4 h5 => .dgn (e _ _ h1) (DqAll.mono e h2) (DqAll.mono e h3) h4 h5
theorem DqAll.mono (e : Same H H') : ∀ {vs : List V} {xs : List D}, DqAll K H vs xs → DqAll K H' vs xs
  | _, _, .nil => .nil
  | _, _, .cons h1 h2 => .cons (Dq.mono e h1) (DqAll.mono e h2)
end
mutual
/-- what keeps no list stays where lists are hidden or changed -/
theorem Dq.calm (e : ∀ a o xs, H a = some (.frz o (.tup xs)) → H' a = some (.frz o (.tup xs))) : ∀ {v : V} {x : D}, Dq K H v x → calm x = true → Dq K H' v x
  | _, _, .non, _ => .non
  | _, _, .bl b, _ => .bl b
  | _, _, .int i, _ => .int i
  | _, _, .str x, _ => .str x
  | _, _, .lst h1 h2, h => by simp [Sw.calm] at h
  | _, _, .tup h1 h2, h => .tup (let ⟨o, q, d⟩ := h1; ⟨o, e _ _ _ q, d⟩) (DqAll.calm e h2 (by simpa [Sw.calm] using h))
  | _, _, .dct _ _ _ _ _, h => by simp [Sw.calm] at h
  | _, _, .dc0 h1, h => by simp [Sw.calm] at h
  | _, _, .dgn _ _ _ _ _, h => by simp [Sw.calm] at h
theorem DqAll.calm (e : ∀ a o xs, H a = some (.frz o (.tup xs)) → H' a = some (.frz o (.tup xs))) : ∀ {vs : List V} {xs : List D}, DqAll K H vs xs → calmAll xs = true → DqAll K H' vs xs
  | _, _, .nil, _ => .nil
  | _, _, .cons h1 h2, h => by
    simp only [calmAll, Bool.and_eq_true] at h
    exact .cons (Dq.calm e h1 h.1) (DqAll.calm e h2 h.2)
end
mutual
theorem Dq.dp : ∀ {v : V} {x : D}, Dq K H v x → x.plain = true → Dp K H v x
  | _, _, .non, _ => .non
  | _, _, .bl b, _ => .bl b
  | _, _, .int i, _ => .int i
  | _, _, .str x, _ => .str x
  | _, _, .lst h1 h2, h => .lst h1 (DqAll.dp h2 (by simpa [PyData.plain] using h))
  | _, _, .tup h1 h2, h => .tup h1.t (DqAll.dp h2 (by simpa [PyData.plain] using h))
  | _, _, .dct _ _ _ _ _, h => by simp [PyData.plain] at h
  | _, _, .dc0 h1, h => by simp [PyData.plain] at h
  | _, _, .dgn _ _ _ _ _, h => by simp [PyData.plain] at h
theorem DqAll.dp : ∀ {vs : List V} {xs : List D}, DqAll K H vs xs → PyData.plainAll xs = true → DpAll K H vs xs
  | _, _, .nil, _ => .nil
  | _, _, .cons h1 h2, h => by
    simp only [PyData.plainAll, Bool.and_eq_true] at h
    exact .cons (Dq.dp h1 h.1) (DqAll.dp h2 h.2)
end
theorem DqAll.length : ∀ {vs : List V} {xs : List D}, DqAll K H vs xs → vs.length = xs.length
  | _, _, .nil => rfl
  | _, _, .cons _ h2 => by rw [List.length_cons, List.length_cons, DqAll.length h2]
theorem DqAll.append : ∀ {vs ws : List V} {xs ys : List D}, DqAll K H vs xs → DqAll K H ws ys → DqAll K H (vs ++ ws) (xs ++ ys)
  | _, _, _, _, .nil, h => h
  | _, _, _, _, .cons h1 h2, h => .cons h1 (DqAll.append h2 h)
theorem DqAll.take : ∀ {vs : List V} {xs : List D} (n : Nat), DqAll K H vs xs → DqAll K H (vs.take n) (xs.take n)
  | _, _, 0, _ => .nil
  | _, _, _ + 1, .nil => .nil
  | _, _, n + 1, .cons h1 h2 => .cons h1 (DqAll.take n h2)
theorem DqAll.drop : ∀ {vs : List V} {xs : List D} (n : Nat), DqAll K H vs xs → DqAll K H (vs.drop n) (xs.drop n)
  | _, _, 0, h => h
  | _, _, _ + 1, .nil => .nil
  | _, _, n + 1, .cons _ h2 => DqAll.drop n h2
theorem DqAll.get : ∀ {vs : List V} {xs : List D} {i : Nat} {x : D}, DqAll K H vs xs → xs[i]? = some x → ∃ v, vs[i]? = some v ∧ Dq K H v x
  | _, _, _, _, .nil, e => by simp at e
  | _, _, 0, _, .cons r _, e => by simp at e; subst e; exact ⟨_, rfl, r⟩
  | _, _, i + 1, _, .cons _ t, e => by
    obtain ⟨v, h1, h2⟩ := DqAll.get (i := i) t (by simpa using e)
    exact ⟨v, by simpa using h1, h2⟩
theorem DqAll.got : ∀ {vs : List V} {xs : List D} {i : Nat} {v : V}, DqAll K H vs xs → vs[i]? = some v → ∃ x, xs[i]? = some x ∧ Dq K H v x
  | _, _, _, _, .nil, e => by simp at e
  | _, _, 0, _, .cons r _, e => by simp at e; subst e; exact ⟨_, rfl, r⟩
  | _, _, i + 1, _, .cons _ t, e => by
    obtain ⟨v, h1, h2⟩ := DqAll.got (i := i) t (by simpa using e)
    exact ⟨v, by simpa using h1, h2⟩
theorem DqAll.set : ∀ {vs : List V} {xs : List D} {v : V} {x : D} (i : Nat), DqAll K H vs xs → Dq K H v x → DqAll K H (vs.set i v) (xs.set i x)
  | _, _, _, _, _, .nil, _ => .nil
  | _, _, _, _, 0, .cons _ t, r => .cons r t
  | _, _, _, _, i + 1, .cons q t, r => .cons q (DqAll.set i t r)
theorem DqAll.eraseIdx : ∀ {vs : List V} {xs : List D} (i : Nat), DqAll K H vs xs → DqAll K H (vs.eraseIdx i) (xs.eraseIdx i)
  | _, _, _, .nil => .nil
  | _, _, 0, .cons _ t => t
  | _, _, i + 1, .cons q t => .cons q (DqAll.eraseIdx i t)
theorem DqAll.reverse {vs : List V} {xs : List D} (h : DqAll K H vs xs) : DqAll K H vs.reverse xs.reverse := by
  induction xs generalizing vs with
  | nil => cases h; exact .nil
  | cons x xs ih =>
    cases h with
    | cons h1 h2 =>
      rw [List.reverse_cons, List.reverse_cons]
      exact (ih h2).append (.cons h1 .nil)
theorem DqAll.rep {vs : List V} {xs : List D} (h : DqAll K H vs xs) : ∀ n : Nat, DqAll K H (List.replicate n vs).flatten (List.replicate n xs).flatten
  | 0 => .nil
  | n + 1 => by
    rw [List.replicate_succ, List.replicate_succ, List.flatten_cons, List.flatten_cons]
    exact h.append (DqAll.rep h n)
theorem DqAll.ints : ∀ {ns : List Int}, DqAll K H (ns.map V.int) (ns.map PyData.int)
  | [] => .nil
  | n :: ns => .cons (.int n) DqAll.ints
/-- a value's inversions -/
theorem Dq.int_inv {v : V} {i : Int} (h : Dq K H v (.int i)) : v = .int i := by cases h; rfl
theorem Dq.bool_inv {v : V} {b : Bool} (h : Dq K H v (.bool b)) : v = .bl b := by cases h; rfl
theorem Dq.str_inv {v : V} {x : Str} (h : Dq K H v (.str x)) : v = .str x := by cases h; rfl
theorem Dq.none_inv {v : V} (h : Dq K H v .none) : v = .non := by cases h; rfl
theorem Dq.list_inv {v : V} {ds : List D} (h : Dq K H v (.list ds)) : ∃ a xs, v = .ref a ∧ SqL K H a xs ∧ DqAll K H xs ds := by
  cases h with
  | lst h1 h2 => exact ⟨_, _, rfl, h1, h2⟩
theorem Dq.tup_inv {v : V} {ds : List D} (h : Dq K H v (.tuple ds)) : ∃ a xs, v = .ref a ∧ SqT K H a xs ∧ DqAll K H xs ds := by
  cases h with
  | tup h1 h2 => exact ⟨_, _, rfl, h1.t, h2⟩
theorem Dq.tupN_inv {v : V} {ds : List D} (h : Dq K H v (.tuple ds)) : ∃ a xs, v = .ref a ∧ SqN H a xs ∧ DqAll K H xs ds := by
  cases h with
  | tup h1 h2 => exact ⟨_, _, rfl, h1, h2⟩
theorem DqAll.ints_inv : ∀ {vs : List V} {xs : List D} {ns : List Int}, DqAll K H vs xs → intsOf xs = some ns → vs = ns.map V.int
  | _, _, ns, .nil, e => by
    have : ns = [] := by simpa [intsOf] using e.symm
    subst this; rfl
  | _, _, ns, .cons (d := d) h1 h2, e => by
    cases d with
    | int i =>
      simp only [intsOf, Option.map_eq_some_iff] at e
      obtain ⟨r, e1, rfl⟩ := e
      rw [h1.int_inv, DqAll.ints_inv h2 e1]
      rfl
    | _ => simp [intsOf] at e
theorem DqAll.bools_inv : ∀ {vs : List V} {xs : List D} {ns : List Bool}, DqAll K H vs xs → boolsOf xs = some ns → vs = ns.map V.bl
  | _, _, ns, .nil, e => by
    have : ns = [] := by simpa [boolsOf] using e.symm
    subst this; rfl
  | _, _, ns, .cons (d := d) h1 h2, e => by
    cases d with
    | bool i =>
      simp only [boolsOf, Option.map_eq_some_iff] at e
      obtain ⟨r, e1, rfl⟩ := e
      rw [h1.bool_inv, DqAll.bools_inv h2 e1]
      rfl
    | _ => simp [boolsOf] at e
end

/-! ### what a slot owns -/
def OcR (K : PySem.W.Frag) (H : Hp) (a : Addr) (o : HO) : OC → Prop
  | .l xs => ∃ vs, o = .lst vs ∧ DqAll K H vs xs
  | .d ks => ∃ ep ms, o = dE a ep ms ∧ DqAll K H (ms.map (·.2.1)) (ks.map (·.1)) ∧ DqAll K H (ms.map (·.2.2)) (ks.map (·.2)) ∧ ms.map (·.1) = ks.map (fun p => hk p.1) ∧ dkOk ks = true
theorem OcR.mono {K : PySem.W.Frag} {H H' : Hp} (e : Same H H') {a : Addr} {o : HO} {c : OC} (h : OcR K H a o c) : OcR K H' a o c := by
  cases c with
  | l xs => obtain ⟨vs, h1, h2⟩ := h; exact ⟨vs, h1, h2.mono e⟩
  | d ks => obtain ⟨ep, ms, h1, h2, h3, h4⟩ := h; exact ⟨ep, ms, h1, h2.mono e, h3.mono e, h4⟩
theorem OcR.noTup {K : PySem.W.Frag} {H : Hp} {a : Addr} {o : HO} {c : OC} (h : OcR K H a o c) (ob : Obj) (us : List V) : o ≠ .frz ob (.tup us) := fun z => by
  cases c with
  | l xs => obtain ⟨vs, h1, _⟩ := h; rw [h1] at z; cases z
  | d ks => obtain ⟨ep, ms, h1, _⟩ := h; rw [h1] at z; cases z
theorem OcR.dq {K : PySem.W.Frag} {H : Hp} {a : Addr} {o : HO} {c : OC} (h : OcR K H a o c) (e : H a = some o) : Dq K H (.ref a) (ocD c) := by
  cases c with
  | l xs => obtain ⟨vs, rfl, h2⟩ := h; exact .lst (SqL.of e) h2
  | d ks => obtain ⟨ep, ms, rfl, h2, h3, h4, h5⟩ := h; exact .dgn e h2 h3 h4 h5
/-! ### exceptions -/
/-- an exception's fields: none, or those of its dict -/
def XF (K : PySem.W.Frag) (H : Hp) (d : Option Addr) (fs : List (Str × D)) : Prop :=
  (fs = [] ∧ d = none) ∨ ∃ b vs, fs ≠ [] ∧ d = some b ∧ H b = some (.xd vs) ∧ vs.map (·.1) = fs.map (·.1) ∧ DqAll K H (vs.map (·.2)) (fs.map (·.2))
theorem XF.mono {K : PySem.W.Frag} {H H' : Hp} {d : Option Addr} {fs : List (Str × D)} (e : Same H H') (h : XF K H d fs) : XF K H' d fs := by
  rcases h with h | ⟨b, vs, h0, h1, h2, h3, h4⟩
  · exact .inl h
  · exact .inr ⟨b, vs, h0, h1, e _ _ h2, h3, h4.mono e⟩
/-- what isinstance is asked about -/
def xval (xc : Nat → Addr) (C : Nat) : Value := if C = 11 then .type "ValueError" else .ref (xc C)
/-- what the written part says of an exception's class -/
structure XCls (K : PySem.W.Frag) (xc : Nat → Addr) (c : Nat) : Prop where
  kp : PySem.W.keepIn K (.ref (xc c)) = true
  bs : PySem.W.subIn K (.ref (xc c)) (.type "BaseException") = some true
  ty : PySem.W.typeIn K (.ref (xc c)) = some (.type "type")
  ec : L2.ExcC K (xc c)
  is : ∀ C, C ≤ 11 → PySem.W.kitOne K (.ref (xc c)) (xval xc C) = some (xsub c C)
  em : PySem.W.exmOne K (.ref (xc c)) (.ref (xc 10)) = some true
  na : ∀ f ∈ xatN, PySem.W.findIn K (.ref (xc c)) f = some none
/-! ### values, cells, slots -/
def Rp (K : PySem.W.Frag) (κ : List Addr) (H : Hp) (v : V) : PV → Prop
  | .d x => Dq K H v x
  | .cell k => ∃ a, κ[k]? = some a ∧ v = .ref a
  | .exn a d _ fs => v = .ref a ∧ XF K H d fs
  | .two w xs => Dq K H v (.tuple [.str w, .list xs])
/-- what an expression doesn't see: the cells' lists, what is owned elsewhere -/
def Hid (κ : List Addr) (M : Addr → Prop) : Addr → Prop := fun a => a ∈ κ ∨ M a
structure Cells (K : PySem.W.Frag) (κ : List Addr) (M : Addr → Prop) (H : Hp) (st : Store) : Prop where
  len : κ.length = st.length
  nd : κ.Nodup
  at_ : ∀ (k : Nat) (x : D), st[k]? = some x → ∃ (a : Addr) (ds : List D) (vs : List V), κ[k]? = some a ∧ x = .list ds ∧ H a = some (.lst vs) ∧ DqAll K (msk (Hid κ M) H) vs ds ∧ calmAll ds = true
  own : ∀ a, M a → ∃ o, H a = some o
  off : ∀ a ∈ κ, ¬ M a
/-- from (κ, H) to (κ', H') -/
structure Aft (K : PySem.W.Frag) (κ : List Addr) (M : Addr → Prop) (H : Hp) (κ' : List Addr) (H' : Hp) (st' : Store) : Prop where
  pre : κ <+: κ'
  keep : ∀ a o, H a = some o → a ∉ κ → H' a = some o ∧ a ∉ κ'
  cells : Cells K κ' M H' st'
section
variable {K : PySem.W.Frag} {κ κ' κ₁ : List Addr} {M : Addr → Prop} {H H' H₁ : Hp} {st st' st₁ : Store}
theorem Aft.same (h : Aft K κ M H κ' H' st') : Same (msk (Hid κ M) H) (msk (Hid κ' M) H') := msk_mono fun a o n e => by
  have q := h.keep a o e fun z => n (.inl z)
  exact ⟨fun z => z.elim q.2 fun z => n (.inr z), q.1⟩
theorem Aft.trans (h : Aft K κ M H κ₁ H₁ st₁) (g : Aft K κ₁ M H₁ κ' H' st') : Aft K κ M H κ' H' st' :=
  ⟨h.pre.trans g.pre, fun a o e n => have q := h.keep a o e n; g.keep a o q.1 q.2, g.cells⟩
theorem Aft.refl (c : Cells K κ M H st) : Aft K κ M H κ H st := ⟨List.prefix_refl _, fun _ _ e n => ⟨e, n⟩, c⟩
theorem Cells.same (c : Cells K κ M H st) (e : Same H H') : Cells K κ M H' st where
  len := c.len
  nd := c.nd
  at_ := fun k x q => by
    obtain ⟨a, ds, vs, h1, h2, h3, h4, h5⟩ := c.at_ k x q
    exact ⟨a, ds, vs, h1, h2, e _ _ h3, h4.mono (msk_mono fun a o n q => ⟨n, e _ _ q⟩), h5⟩
  own := fun a m => let ⟨o, q⟩ := c.own a m; ⟨o, e _ _ q⟩
  off := c.off
theorem Cells.has (c : Cells K κ M H st) {a : Addr} (h : a ∈ κ) : ∃ vs, H a = some (.lst vs) := by
  obtain ⟨k, hk, e⟩ := List.getElem_of_mem h
  have hk' : k < st.length := by rw [← c.len]; exact hk
  obtain ⟨b, ds, vs, h1, _, h3, _, _⟩ := c.at_ k st[k] (List.getElem?_eq_getElem hk')
  rw [List.getElem?_eq_getElem hk, e] at h1
  cases h1
  exact ⟨vs, h3⟩
theorem Cells.free (c : Cells K κ M H st) {a : Addr} (h : H a = none) : ¬ Hid κ M a := fun z => by
  rcases z with z | z
  · obtain ⟨vs, q⟩ := c.has z
    rw [h] at q; cases q
  · obtain ⟨o, q⟩ := c.own a z
    rw [h] at q; cases q
theorem Aft.of_same (c : Cells K κ M H st) (e : Same H H') : Aft K κ M H κ H' st := ⟨List.prefix_refl _, fun _ _ q n => ⟨e _ _ q, n⟩, c.same e⟩
theorem Rp.mono {v : V} {p : PV} (pre : κ <+: κ') (e : Same H H') (h : Rp K κ H v p) : Rp K κ' H' v p := by
  cases p with
  | d x => exact Dq.mono e h
  | cell k =>
    obtain ⟨a, h1, h2⟩ := h
    obtain ⟨t, rfl⟩ := pre
    have hk := (List.getElem?_eq_some_iff.mp h1).1
    exact ⟨a, by rw [List.getElem?_append_left hk]; exact h1, h2⟩
  | exn a d c fs => exact ⟨h.1, h.2.mono e⟩
  | two w xs => exact Dq.mono e h
theorem Aft.rp {v : V} {p : PV} (a : Aft K κ M H κ' H' st') (h : Rp K κ (msk (Hid κ M) H) v p) : Rp K κ' (msk (Hid κ' M) H') v p := h.mono a.pre a.same
end
inductive RpAll (K : PySem.W.Frag) (κ : List Addr) (H : Hp) : List V → List PV → Prop
  | nil : RpAll K κ H [] []
  | cons {v : V} {vs : List V} {p : PV} {ps : List PV} : Rp K κ H v p → RpAll K κ H vs ps → RpAll K κ H (v :: vs) (p :: ps)
theorem RpAll.mono {K : PySem.W.Frag} {κ κ' : List Addr} {H H' : Hp} (pre : κ <+: κ') (e : Same H H') : ∀ {vs : List V} {ps : List PV}, RpAll K κ H vs ps → RpAll K κ' H' vs ps
  | _, _, .nil => .nil
  | _, _, .cons h1 h2 => .cons (h1.mono pre e) (RpAll.mono pre e h2)
theorem RpAll.length {K : PySem.W.Frag} {κ : List Addr} {H : Hp} : ∀ {vs : List V} {ps : List PV}, RpAll K κ H vs ps → vs.length = ps.length
  | _, _, .nil => rfl
  | _, _, .cons _ h2 => by rw [List.length_cons, List.length_cons, RpAll.length h2]
theorem RpAll.ds {K : PySem.W.Frag} {κ : List Addr} {H : Hp} : ∀ {vs : List V} {ps : List PV} {xs : List D}, RpAll K κ H vs ps → asDs ps = some xs → DqAll K H vs xs
  | _, _, xs, .nil, e => by
    have : xs = [] := by simpa [asDs] using e.symm
    subst this; exact .nil
  | _, _, xs, .cons (p := p) h1 h2, e => by
    cases p with
    | d x =>
      simp only [asDs, Option.map_eq_some_iff] at e
      obtain ⟨r, e1, rfl⟩ := e
      exact .cons h1 (RpAll.ds h2 e1)
    | _ => simp [asDs] at e

structure EnvE (K : PySem.W.Frag) (κ : List Addr) (M : Addr → Prop) (vis : List Nat) (σ : L2.St) (H : Hp) (ρ : Env) (st : Store) : Prop where
  cells : Cells K κ M H st
  ls : ρ.length = σ.length
  slots : ∀ i ∈ vis, ∀ p, look ρ i = some p → ∃ v, σ[i]? = some (some v) ∧ Rp K κ (msk (Hid κ M) H) v p
section
variable {K : PySem.W.Frag} {κ κ' : List Addr} {M : Addr → Prop} {H H' : Hp} {st st' : Store} {vis vis' : List Nat} {σ : L2.St} {ρ : Env}
theorem EnvE.sub (h : EnvE K κ M vis σ H ρ st) (s : ∀ i ∈ vis', i ∈ vis) : EnvE K κ M vis' σ H ρ st := ⟨h.cells, h.ls, fun i hi => h.slots i (s i hi)⟩
theorem EnvE.aft (h : EnvE K κ M vis σ H ρ st) (a : Aft K κ M H κ' H' st') : EnvE K κ' M vis σ H' ρ st' :=
  ⟨a.cells, h.ls, fun i hi p e => let ⟨v, h1, h2⟩ := h.slots i hi p e; ⟨v, h1, a.rp h2⟩⟩
end

/-! ### what is wanted of an expression -/
/-- the list at v is new, its items don't lean on it -/
def NewL (K : PySem.W.Frag) (κ' : List Addr) (M : Addr → Prop) (H H' : Hp) (v : V) (xs : List D) : Prop :=
  ∃ (a : Addr) (vs : List V), v = .ref a ∧ H a = none ∧ H' a = some (.lst vs) ∧ a ∉ κ' ∧ DqAll K (msk (fun b => Hid κ' M b ∨ b = a) H') vs xs
/-- a new list, or a text beside a new list -/
def NewP (K : PySem.W.Frag) (κ' : List Addr) (M : Addr → Prop) (H H' : Hp) (v : V) : PV → Prop
  | .d (.list xs) => NewL K κ' M H H' v xs
  | .two w xs => ∃ t l, v = .ref t ∧ SqT K H' t [V.str w, l] ∧ NewL K κ' M H H' l xs
  | _ => True
/-- an exception that has come -/
def XRel (K : PySem.W.Frag) (xc : Nat → Addr) (κ' : List Addr) (M : Addr → Prop) (H' : Hp) (c : Nat) (fs : List (Str × D)) (cls : Value) (d : Option Addr) : Prop :=
  cls = .ref (xc c) ∧ XCls K xc c ∧ XF K (msk (Hid κ' M) H') d fs
def Goal (K : PySem.W.Frag) (xc : Nat → Addr) (W : WX) (σ : L2.St) (κ : List Addr) (M : Addr → Prop) (H : Hp) (fr : Bool) (r : Res PV) (Q : VK) : Prop :=
  match r with
  | .ok p st' => ∀ κ' H' v, Aft K κ M H κ' H' st' → Rp K κ' (msk (Hid κ' M) H') v p → (fr = true → NewP K κ' M H H' v p) → Q v H'
  | .exc c fs st' => ∀ κ' H' cls d, Aft K κ M H κ' H' st' → XRel K xc κ' M H' c fs cls d → W cls d σ H'
  | .stuck => False
/-- likewise of any other outcome, by how it lies in the heap -/
def GoalA {α : Type} (K : PySem.W.Frag) (xc : Nat → Addr) (W : WX) (σ : L2.St) (κ : List Addr) (M : Addr → Prop) (H : Hp) (r : Res α) (Q : α → List Addr → Hp → Store → Prop) : Prop :=
  match r with
  | .ok p st' => ∀ κ' H', Aft K κ M H κ' H' st' → Q p κ' H' st'
  | .exc c fs st' => ∀ κ' H' cls d, Aft K κ M H κ' H' st' → XRel K xc κ' M H' c fs cls d → W cls d σ H'
  | .stuck => False

section
variable {K : PySem.W.Frag} {xc : Nat → Addr} {W : WX} {σ : L2.St} {κ κ₁ : List Addr} {M : Addr → Prop} {H H₁ : Hp} {fr fr' : Bool} {st₁ : Store} {Q Q' : VK}
theorem NewL.back {κ' : List Addr} {H' : Hp} {v : V} {xs : List D} {st : Store} (a : Aft K κ M H κ₁ H₁ st₁) (h : NewL K κ' M H₁ H' v xs) (c : Cells K κ M H st) (pre : κ₁ <+: κ') : NewL K κ' M H H' v xs := by
  obtain ⟨b, vs, h1, h2, h3, h4, h5⟩ := h
  refine ⟨b, vs, h1, ?_, h3, h4, h5⟩
  cases q : H b with
  | none => rfl
  | some o =>
    by_cases z : b ∈ κ
    · exact absurd (pre.subset (a.pre.subset z)) h4
    · have := (a.keep b o q z).1
      rw [h2] at this; cases this
theorem NewP.back {κ' : List Addr} {H' : Hp} {v : V} {p : PV} {st : Store} (a : Aft K κ M H κ₁ H₁ st₁) (h : NewP K κ' M H₁ H' v p) (c : Cells K κ M H st) (pre : κ₁ <+: κ') : NewP K κ' M H H' v p := by
  match p, h with
  | .d (.list xs), h => exact NewL.back a h c pre
  | .two w xs, ⟨t, l, e, s, h⟩ => exact ⟨t, l, e, s, NewL.back a h c pre⟩
  | .d .none, _ | .d (.bool _), _ | .d (.int _), _ | .d (.str _), _ | .d (.tuple _), _ | .d (.dict _), _ | .cell _, _ | .exn _ _ _ _, _ => trivial
theorem NewP.dat {κ' : List Addr} {H' : Hp} {v : V} {x : D} (h : ∀ xs, x = .list xs → NewL K κ' M H H' v xs) : NewP K κ' M H H' v (.d x) := by
  unfold NewP
  split
  · rename_i e
    cases e
    exact h _ rfl
  · rename_i e
    cases e
  · trivial
/-- the goal from a later point -/
theorem Goal.shift {r : Res PV} {st : Store} (c : Cells K κ M H st) (a : Aft K κ M H κ₁ H₁ st₁) (h : Goal K xc W σ κ M H fr r Q) : Goal K xc W σ κ₁ M H₁ fr r Q := by
  cases r with
  | ok p st' => exact fun κ' H' v b r n => h κ' H' v (a.trans b) r fun e => NewP.back a (n e) c b.pre
  | exc c fs st' => exact fun κ' H' cls d b x => h κ' H' cls d (a.trans b) x
  | stuck => exact h
/-- two in a row -/
theorem Goal.bind {r : Res PV} {f : PV → Store → Res PV} (g : Goal K xc W σ κ M H fr (r.bind f) Q)
    (h : ∀ p st₁ κ₁ H₁ v, r = .ok p st₁ → Aft K κ M H κ₁ H₁ st₁ → Rp K κ₁ (msk (Hid κ₁ M) H₁) v p → Goal K xc W σ κ M H fr (f p st₁) Q → Q' v H₁) : Goal K xc W σ κ M H fr' r Q' := by
  cases r with
  | ok p st' => exact fun κ' H' v a r _ => h p st' κ' H' v rfl a r g
  | exc c fs st' => exact g
  | stuck => exact g
theorem Goal.bindA {α : Type} {r : Res α} {f : α → Store → Res PV} {QA : α → List Addr → Hp → Store → Prop} (g : Goal K xc W σ κ M H fr (r.bind f) Q)
    (h : ∀ p st₁ κ₁ H₁, r = .ok p st₁ → Aft K κ M H κ₁ H₁ st₁ → Goal K xc W σ κ M H fr (f p st₁) Q → QA p κ₁ H₁ st₁) : GoalA K xc W σ κ M H r QA := by
  cases r with
  | ok p st' => exact fun κ' H' a => h p st' κ' H' rfl a g
  | exc c fs st' => exact g
  | stuck => exact g
/-- a value that comes of data alone -/
def Done (K : PySem.W.Frag) (P : Addr → Prop) (H : Hp) (r : D) (Q : VK) : Prop :=
  ∀ v H', Same H H' → Dq K (msk P H') v r → (∀ xs, r = .list xs → ∃ a vs, v = .ref a ∧ H a = none ∧ H' a = some (.lst vs) ∧ DqAll K (msk (fun b => P b ∨ b = a) H') vs xs) → Q v H'
theorem Goal.done {x : D} {st : Store} (c : Cells K κ M H st) (g : Goal K xc W σ κ M H fr (.ok (.d x) st) Q) : Done K (Hid κ M) H x Q := fun v H' e r n => by
  refine g κ H' v (Aft.of_same c e) r fun _ => NewP.dat fun xs ex => ?_
  cases ex
  obtain ⟨a, vs, h1, h2, h3, h4⟩ := n xs rfl
  exact ⟨a, vs, h1, h2, h3, fun z => c.free h2 (.inl z), h4⟩
theorem Goal.doneO {o : Option D} {st : Store} (c : Cells K κ M H st) (g : Goal K xc W σ κ M H fr (ofO (o.map .d) st) Q) : ∃ x, o = some x ∧ Done K (Hid κ M) H x Q := by
  cases o with
  | none => exact g.elim
  | some x => exact ⟨x, rfl, Goal.done c g⟩
end

/-- the reading of an expression's code -/
def rdE (Γ : Ctx) (K : PySem.W.Frag) (xc : Nat → Addr) (W : WX) (c : E) : TE := fun σ H Q => ∃ κ M ρ st, EnvE K κ M (occ c) σ H ρ st ∧ Goal K xc W σ κ M H (fresh Γ.fresh c) (den Γ c ρ st) Q
def rdT (Γ : Ctx) (K : PySem.W.Frag) (xc : Nat → Addr) (W : WX) (c : E) : TT := fun σ H Q => ∃ κ M ρ st, EnvE K κ M (occ c) σ H ρ st ∧ Goal K xc W σ κ M H false (den Γ c ρ st) fun v H' => ∃ b, v = .bl b ∧ Q b H'
def rdA (Γ : Ctx) (K : PySem.W.Frag) (xc : Nat → Addr) (W : WX) (c : E) : TA := fun σ H Q => ∃ κ M ρ st, EnvE K κ M (occ c) σ H ρ st ∧
  GoalA K xc W σ κ M H (denA Γ c ρ st) fun ps κ' H' _ => ∀ vs, RpAll K κ' (msk (Hid κ' M) H') vs ps → Q vs H'
end Sw

set_option Elab.async false
set_option linter.all false
set_option maxRecDepth 100000
set_option maxHeartbeats 1000000
/-! Tuples whose objects bear no dict of their own: how they are made. -/
namespace Sw
open PySem PySem.Spec PyProof.Rows L2

/-- a new tuple of these, wherever it lies -/
def NwT (H : Hp) (xs : List V) (Q : VK) : Prop := ∀ (p : Addr) (o : Obj), H p = none → o.dict = none → Q (.ref p) (L2.upd H p (.frz o (.tup xs)))
section
variable {X : Cx}
theorem laid_tup {pn : List (Addr × Obj)} {sl : L2.St} {H : Hp} {s : Shared} {xs : List V} {its : List Value} {t : Nat} {Q : VK} (I : Inv X pn sl H s) (r : Vals xs its) (hz : xs.length ≤ sizeLine) (q : NwT H xs Q) :
    EP X pn sl Q (.ref s.heap.objs.size) { s with heap := s.heap.push { cls := .type "tuple", data := .seq its.toArray }, toks := t } :=
  ⟨.ref s.heap.objs.size, _, I.laid (t' := t) (o := .frz { cls := .type "tuple", data := .seq its.toArray } (.tup xs)) (fun b ob e => Heap.get?_push_of_some _ e) (Nat.le_refl _) ⟨Heap.get?_push_size _ rfl, hz, its, r, IsTup.new _ _⟩, rfl, q _ _ (I.hok.fresh (Nat.le_refl _)) rfl⟩
/-- (a, b, ..) -/
def tTupN (t : TA) : TE := fun σ H Q => t σ H fun xs H1 => xs.length ≤ sizeLine ∧ NwT H1 xs Q
theorem pe_tupN {es : List Expr} {j : Nat} {pos : Pos} {t : TA} (h : PA X es t) : PE X (.Tuple es j pos) (tTupN t) := ⟨fun pn s sl H Q I w =>
  wpAny_Tuple_spliced (thn (h.run pos pn s sl H _ I w) fun us s1 ⟨xs, H1, I1, r, z, q⟩ => ⟨by rw [← r.length]; exact z, laid_tup (t := s1.toks) I1 r z q⟩)⟩
/-- tuple(x): of a list a new one, of a tuple itself -/
def rTupOf (K : PySem.W.Frag) : List V → Hp → VK → Prop := fun vs H Q => ∃ p ys, vs = [.ref p] ∧ ((SqL K H p ys ∧ NwT H ys Q) ∨ (SqT K H p ys ∧ Q (.ref p) H))
theorem call_tupN : CallR X (.type "tuple") (rTupOf X.K) := by
  intro pn s sl H vs us Q I r ⟨p, ys, e, w⟩
  subst e
  obtain ⟨u, rfl, rx⟩ := vals1 r
  cases rx
  rcases w with ⟨hq, q⟩ | ⟨hq, q⟩
  · obtain ⟨its, r1, pl, hz⟩ := I.list hq
    refine call_tuple_list pl.isList (fun h1 kp => ?_) (by have := r1.length; simp only [List.size_toArray]; omega)
    have I1 : Inv X pn sl H { s with heap := h1 } := I.kept (t' := s.toks) kp
    exact laid_tup (t := s.toks) I1 r1 hz q
  · obtain ⟨its, r1, pl, hz⟩ := I.tuple hq
    exact call_tuple_same pl ⟨.ref p, H, I, rfl, q⟩
/-- divmod(i, j) -/
def rDivN : List V → Hp → VK → Prop := fun vs H Q => ∃ i j, vs = [.int i, .int j] ∧ CDiv i j ∧ NwT H [.int (i / j), .int (i % j)] Q
theorem call_divN : CallR X (.builtin "divmod") rDivN := by
  intro pn s sl H vs us Q I r ⟨i, j, e, ⟨h1, h2⟩, q⟩
  subst e
  obtain ⟨u, w, rfl, ⟨t, rfl⟩, ⟨t2, rfl⟩⟩ := vals2 r
  refine divmod_int (by omega) ?_ (.inl (PyProof.noPylong_small (by omega)))
  have e1 : i.fdiv j = i / j := Int.fdiv_eq_ediv_of_nonneg i (by omega)
  have e2 : i.fmod j = i % j := Int.fmod_eq_emod_of_nonneg i (by omega)
  rw [e1, e2]
  exact laid_tup (xs := [.int (i / j), .int (i % j)]) (its := [.int (i / j) s.toks, .int (i % j) (s.toks + 1)]) I (.cons ⟨_, rfl⟩ (.cons ⟨_, rfl⟩ .nil)) (by show 2 ≤ sizeLine; rw [sizeLine_eq]; decide) q
/-- t + u -/
def rCatN (K : PySem.W.Frag) : R2 := fun x y H Q => ∃ a b xs ys, x = .ref a ∧ y = .ref b ∧ SqT K H a xs ∧ SqT K H b ys ∧ xs.length + ys.length ≤ sizeLine ∧
  (xs = [] → Q (.ref b) H) ∧ (xs ≠ [] → ys = [] → Q (.ref a) H) ∧ (xs ≠ [] → ys ≠ [] → NwT H (xs ++ ys) Q)
theorem op_catN : OpR X (binaryOp .Add) (rCatN X.K) := by
  intro pn s sl H x y v u Q I rx ry ⟨a, b, xs, ys, ex, ey, ha, hb, hz, q0, q1, q2⟩
  subst ex ey
  cases rx
  cases ry
  obtain ⟨its, r1, p1, _⟩ := I.tuple ha
  obtain ⟨jts, r2, p2, _⟩ := I.tuple hb
  by_cases hx : xs = []
  · subst hx
    cases r1
    exact cat_tup0 p1 p2 ⟨.ref b, H, I, rfl, q0 rfl⟩
  · refine HT.cat_tup p1 p2 (fun z => hx (r1.nil_iff.mp z)) (fun z => ⟨.ref a, H, I, rfl, q1 hx (r2.nil_iff.mp z)⟩) (fun z => ?_) (by rw [← r1.length, ← r2.length]; exact hz)
    exact laid_tup (t := s.toks) I (r1.append r2) (by rw [List.length_append]; exact hz) (q2 hx fun w => z (r2.nil_iff.mpr w))
/-- t[lo:hi] -/
def rSlN (K : PySem.W.Frag) : V → Option Int → Option Int → Hp → VK → Prop := fun x lo hi H Q => ∃ a xs, x = .ref a ∧ SqT K H a xs ∧
  (HT.sIx xs.length 0 lo = 0 ∧ HT.sIx xs.length xs.length hi = xs.length → Q (.ref a) H) ∧ (¬ (HT.sIx xs.length 0 lo = 0 ∧ HT.sIx xs.length xs.length hi = xs.length) → NwT H (cutV xs lo hi) Q)
theorem sl_tupN : SlR X (rSlN X.K) := by
  intro pn s sl H x v vl vu lo hi z Q I rx hs pl pu ⟨a, xs, ex, hx, q1, q2⟩
  subst ex
  cases rx
  obtain ⟨its, r, ht, hz⟩ := I.tuple hx
  have len : its.toArray.size = xs.length := by rw [List.size_toArray]; exact r.length.symm
  refine ⟨"tuple", _, PyProof.Rows.slot_tuple_getitem.lookup, ht.typeIs, ?_⟩
  by_cases hw : HT.sIx xs.length 0 lo = 0 ∧ HT.sIx xs.length xs.length hi = xs.length
  · exact getItem_tuple_whole ht hs pl pu (by rw [len]; exact hw) ⟨.ref a, H, I, rfl, q1 hw⟩
  · refine HT.getItem_tuple_cut ht hs pl pu (by rw [len]; exact hw) ?_ (by rw [len]; exact hz)
    rw [len]
    exact laid_tup (t := s.toks) I ((r.drop (HT.sIx xs.length 0 lo)).take (HT.sIx xs.length xs.length hi - HT.sIx xs.length 0 lo)) (Nat.le_trans (cutV_length xs lo hi) hz) (q2 hw)
/-- tuple(range(..)) -/
def tTupRgN (te : L2.St → Hp → (Int → Int → Hp → Prop) → Prop) : TE := fun σ H Q => te σ H fun a b H1 => RgOk a b ∧ NwT H1 (rgV a b) Q
theorem pe_tupRgN {e : Expr} {te : L2.St → Hp → (Int → Int → Hp → Prop) → Prop} {p pos : Pos} (hc : X.calm = true) (hg : Gl X "tuple") (hm : X.mg "tuple" = none) (he : PRg X e te) (na : starEach [e] X.env = (false, eval e X.env) :: starEach [] X.env) :
    PE X (.Call (.Name "tuple" p) [e] [] pos) (tTupRgN te) := ⟨fun pn s sl H Q I w => by
  refine Call_ (ld_blt I hg hm boot_tuple (PyProof.Rows.callWith_type1 (args_cons (thn (he pn s sl H _ I w) fun x s1 z => args_nil ?_) na) na))
  obtain ⟨r, a, b, t, u, v, H1, ex, hr, I1, ⟨b1, b2, b3, b4, b5⟩, q⟩ := z
  subst ex
  refine call_tuple_range (n := (b - a).toNat) (I1.ok.hd hc) hr (small_one b1 b2 b3 b4) (rangeSize_nat a b) b5 fun h2 tk acc hk hi => ?_
  have I2 : Inv X pn sl H1 { s1 with heap := h2, toks := tk } := I1.kept hk
  have fin := laid_tup (its := acc.toList) (t := tk) I2 (vals_rg hi) (by rw [rgV_length, sizeLine_eq]; omega) q
  rw [Array.toArray_toList] at fin
  exact fin⟩
end
end Sw

set_option Elab.async false
set_option linter.all false
set_option maxRecDepth 100000
set_option maxHeartbeats 1000000
/-! The program's exceptions with fields: their own __init__. -/
namespace Sw
open PySem PySem.Spec PyProof.Rows L2

mutual
theorem plain_noDict : ∀ x : D, x.plain = true → x.hasDict = false
  | .none, _ => by simp only [PyData.hasDict]
  | .bool _, _ => by simp only [PyData.hasDict]
  | .int _, _ => by simp only [PyData.hasDict]
  | .str _, _ => by simp only [PyData.hasDict]
  | .list xs, h => by
    simp only [PyData.hasDict]
    exact plain_noDictA xs (by simpa only [PyData.plain] using h)
  | .tuple xs, h => by
    simp only [PyData.hasDict]
    exact plain_noDictA xs (by simpa only [PyData.plain] using h)
  | .dict _, h => by simp [PyData.plain] at h
theorem plain_noDictA : ∀ xs : List D, PyData.plainAll xs = true → PyData.hasDictAll xs = false
  | [], _ => by simp only [PyData.hasDictAll]
  | x :: xs, h => by
    simp only [PyData.plainAll, Bool.and_eq_true] at h
    simp only [PyData.hasDictAll, plain_noDict x h.1, plain_noDictA xs h.2, Bool.or_self]
end
/-- what the written part says of the class over them -/
structure BaseC (K : PySem.W.Frag) (B : Addr) : Prop where
  g : PySem.W.specialIn K (.ref B) "__getattribute__" = some (some (.builtin "type.__getattribute__"))
  r : PySem.W.readsIn K B (.type "type") = true
  f : PySem.W.findCls K (.ref B) (.type "type") "__init__" = some (.val (.builtin "ValueError.__init__"))
def nst1 : Expr → Bool
  | .Starred _ _ => false
  | _ => true
theorem star1_of {e : Expr} {es : List Expr} {env : PySem.Env} (h : nst1 e = true) : starEach (e :: es) env = (false, eval e env) :: starEach es env := by
  cases e <;> first | rfl | (simp [nst1] at h)
section
variable {X : Cx} {B : Addr} {x : Str} {e : Expr} {es : List Expr} {ta : TA} {p1 p2 pos : Pos}
theorem binit_eq {env : PySem.Env} {e1 e2 : Expr} (h1 : nst1 e1 = true) (h2 : nst1 e2 = true) (hl : (p2.endLine == pos.line) = true) : eval (.Call (.Attribute (.Name x p1) "__init__" p2) [e1, e2] [] pos) env = (do
      let ov ← eval (.Name x p1) env
      standAt p2.atName
      let (f, first) ← holding [ov] (getMethod ov "__init__" (do return (← importBound (.Name x p1) env).getD true))
      callWith pos f first (backTo pos (starEach [e1, e2] env)) (backToKw pos (keywordEach [] env))) := by
  have k1 : starEach [e1, e2] env = [(false, eval e1 env), (false, eval e2 env)] := by rw [star1_of h1, star1_of h2]; rfl
  have k2 : methodCallForm 2 (backTo pos (starEach [e1, e2] env)) (backToKw pos (keywordEach [] env)) = true := by rw [k1]; rfl
  have k3 : methodCallPos true (.Name x p1) env p2 pos = pure pos := by
    unfold methodCallPos
    rw [if_pos (by rw [hl]; rfl)]
  show (do
    let ov ← attributeBase (.Name x p1) "__init__" env (eval (.Name x p1) env)
    standAt p2.atName
    methodCall (.Name x p1) "__init__" p2 pos env ov 2 (backTo pos (starEach [e1, e2] env)) (backToKw pos (keywordEach [] env))) = _
  unfold methodCall
  rw [k2, k3]
  rfl
theorem pe_binit {e1 e2 : Expr} (hg : Gl X x) (hm : X.mg x = some (.ref B)) (hdb : (x == ("__debug__" : Str)) = false) (T : BaseC X.K B) (ha : PA X [e1, e2] ta) (h1 : nst1 e1 = true) (h2 : nst1 e2 = true) (hl : (p2.endLine == pos.line) = true) :
    PE X (.Call (.Attribute (.Name x p1) "__init__" p2) [e1, e2] [] pos) (tVeI X.K ta) := by
  have hc := binit_eq (x := x) (p1 := p1) (env := X.env) h1 h2 hl
  have he : starEach [e1, e2] X.env = (false, eval e1 X.env) :: starEach [e2] X.env := star1_of h1
  have hpl : (backTo pos (starEach [e2] X.env)).any (·.1) = false := by rw [star1_of h2]; rfl
  refine ⟨fun pins s σ H Q I h => ?_⟩
  refine PySem.W.methodCall_KW (ld_glob I hg hm ?_ hdb) hc
  refine PySem.W.method_cls I.kIn T.g (PySem.W.cls_value I.kIn T.r T.f rfl ?_)
  show wpAny _ _ (callWith pos (Value.builtin "ValueError.__init__") [] (backTo pos (starEach [e1, e2] X.env)) []) _ _ _
  refine PyProof.Rows.callWith_method1 (thn (ha.run pos pins _ σ H _ (I.tok _) h) fun us s1 q => ?_) he hpl
  obtain ⟨vs, H1, I1, r1, a, C, ws, ev, hl, T', ea, q⟩ := q
  subst ev
  cases r1 with
  | @cons _ u0 _ ur ra rw' =>
    obtain rfl : u0 = Value.ref a := ra
    have len := Paired.length rw'
    exact oinit_ok T' I1 ea (by rw [← len, sizeLine_eq]; omega) fun s' J => ⟨.non, H1, J, rfl, q⟩
end
/-! ### small ints as texts -/
theorem small_all : ((List.range 102).all fun n => decide ((toString ((n : Int) - 1) : Str).length ≤ 100) && decide (((n : Int) - 1).natAbs.log2 < 1920)) = true := by decide +kernel
theorem small_of {i : Int} (h : -1 ≤ i ∧ i ≤ 100) : (toString i : Str).length ≤ 100 ∧ i.natAbs.log2 < 1920 := by
  have q := List.all_eq_true.mp small_all (i + 1).toNat (List.mem_range.mpr (by omega))
  rw [Bool.and_eq_true, decide_eq_true_eq, decide_eq_true_eq] at q
  have e : (((i + 1).toNat : Nat) : Int) - 1 = i := by omega
  rw [e] at q
  exact q
/-- what a def promises where no repr is under way -/
structure FnG (P : Program) (w : World) (K : PySem.W.Frag) (mg : Str → Option Value) (base : Heap) (CX : CXT) (k : Nat) (f : Addr) (fd : FuncData) (ps : List Str) (sp : Sp) : Prop where
  len : ∀ vs H Q E, sp vs H Q E → vs.length = ps.length
  go : ∀ (A : Around), A.guards = some [] → Room k A → ∀ (outer : List PySem.Env) (s : Shared) (H : Hp) (args : Args) (us : List Value) (vs : List V) (Q : VK) (E : XK), sp vs H Q E → Vals vs us → BindsTo s fd args (ps.zip us) → Env0 P w K mg base A outer s H →
    codeAny (model P w) A (.call (.ref f) args) (CR CX outer P w H s Q E) s
theorem fn_ofG {CX : CXT} {P : Program} {w : World} {K : PySem.W.Frag} {mg : Str → Option Value} {base : Heap} {k : Nat} {f : Addr} {name qual : Str} {params : Arguments} {body : List Stmt} {scope : Scope} {dV kV doc pm cdv ct oc : Value} {an od : Option Addr}
    {osl : Array (Option Value)} {N ps : List Str} {sp : Sp} (lk : K.lookup f = some ⟨oc, od, .func (PySem.W.fnOf name qual params body scope dV kV doc pm an cdv ct), osl⟩) (hcd : PySem.W.codeIn K cdv qual = true) (S : FnScope N ps scope)
    (len : ∀ vs H Q E, sp vs H Q E → vs.length = ps.length)
    (hbody : ∀ (A : Around) (outer : List PySem.Env) (s : Shared) (H : Hp) (vs : List V) (Q : VK) (E : XK), Room k (A.deeper (envOfC qual scope s.heap.objs.size f cdv)) → (A.deeper (envOfC qual scope s.heap.objs.size f cdv)).guards = some [] → sp vs H Q E →
      ∃ t, PSs (cxOf CX P w K mg base N qual scope f cdv A outer s H E) body t ∧ t { nx := fun _ H' => Q .non H', rt := Q } (L2.start N vs) H) :
    FnG P w K mg base CX (k + 1) f (PySem.W.fnOf name qual params body scope dV kV doc pm an cdv ct) ps sp := by
  refine ⟨len, fun A hgu hr outer s H args us vs Q E hsp r hb e0 => ?_⟩
  have KX : K.In s.heap := e0.mod.kin.keeps fun b o e => (e0.bs b o e).1
  have kinds : ∀ y ∈ ps.zip us, scope.names.lookup y.1 = some .local ∨ (scope.names.lookup y.1 = some .cell ∧ ((cellsFrom (s.heap.objs.size + 1) scope.names []).lookup y.1).isSome = true) := fun y hy =>
    (S.par y.1 (List.of_mem_zip (show (y.1, y.2) ∈ ps.zip us from hy)).1).imp id fun q => ⟨q, PySem.W.cellsFrom_some _ _ _ (.inl q)⟩
  refine codeAny_call_function hr.depth (KX _ _ lk) rfl S.co S.gen rfl (PySem.W.codeRec_of KX hcd) (hb _ _ _ _ (wpAny_newFunctionEnv_cells S.kind kinds fun env he s1 y => ?_))
  subst he
  obtain ⟨t, ht, hq⟩ := hbody A outer s H vs Q E (hr.deeper _) hgu hsp
  refine ⟨(e0.mod.nolimit.keeps fun b o e => (e0.bs b o e).1).keeps y.toInCall.keep, codeAny_func ?_⟩
  have I : Inv (cxOf CX P w K mg base N qual scope f cdv A outer s H E) [] (L2.start N vs) H s1 := inv_start S hr.hd e0 (len _ _ _ _ hsp) r y
  refine wpAny_mono (ht.run [] s1 (L2.start N vs) H _ I hq) (fun fl s' hs => ?_) fun e s' hs => hs
  match fl, hs with
  | .ret u, ⟨v, σ', H', J, rv, q⟩ => exact ⟨v, H', J.os, J.bare, J.base, J.hok, rv, q⟩
  | .next, ⟨σ', H', J, q⟩ => exact ⟨V.non, H', J.os, J.bare, J.base, J.hok, rfl, q⟩
  | .brk, ⟨_, _, _, q⟩ => exact False.elim q
  | .cont, ⟨_, _, _, q⟩ => exact False.elim q
def strT : D → Str
  | .int i => toString i
  | x => x.shown
theorem strOk_len {x : D} (h : strOk x = true) : (strT x).length ≤ 100 := by
  cases x with
  | int i => exact (small_of (of_decide_eq_true h)).1
  | tuple xs =>
    simp only [strOk, Bool.and_eq_true, decide_eq_true_eq] at h
    exact h.2
  | _ => simp [strOk] at h
/-- str(x), of a small int or a tuple of such -/
def rStrD (K : PySem.W.Frag) : List V → Hp → VK → Prop := fun vs H Q => ∃ v x, vs = [v] ∧ Dq K H v x ∧ strOk x = true ∧ Q (.str (strT x)) H
theorem call_strD {X : Cx} (hg : X.A.guards = some []) (hu : X.A.units + 64 < cLine) : CallR X (.type "str") (rStrD X.K) := by
  intro pins s σ H vs us Q I r ⟨v, x, e, hd, ok, q⟩
  cases x with
  | int i =>
    have e1 := hd.int_inv
    subst e1
    exact call_str_int pins s σ H vs us Q I r ⟨i, e, (small_of (of_decide_eq_true ok)).2, q⟩
  | tuple xs =>
    subst e
    have ok' := ok
    simp only [strOk, Bool.and_eq_true, decide_eq_true_eq] at ok'
    obtain ⟨⟨⟨o1, o2⟩, o3⟩, o4⟩ := ok'
    cases r with
    | @cons _ u _ _ r1 r2 =>
      cases r2
      obtain ⟨as, rd⟩ := Dp.reads I (.tuple xs) v u (hd.dp o1) r1
      have rd2 := rd
      cases rd with
      | tuple h1 h2 h3 h4 =>
        have nd : (PyData.tuple xs).hasDict = true → sysModules ∉ as := fun z => by rw [plain_noDict _ o1] at z; cases z
        exact str_of_reads rd2 o2 nd hg (by omega) (fun _ _ z => z) (fun h' t tk hk => ⟨.str _, H, I.kept hk, ⟨t, rfl⟩, q⟩) (by rw [sizeLine_eq]; omega)
  | _ => simp [strOk] at ok
/-- what an own __init__ promises: its fields, small ints or tuples of such -/
def spI (K : PySem.W.Frag) (C : Addr) (fs : List Str) : Sp := fun vs H Q _ => ∃ (a : Addr) (ws : List V) (xs : List D), vs = .ref a :: ws ∧ ws.length = fs.length ∧ DqAll K H ws xs ∧ xs.all strOk = true ∧ OexC K C ∧ (∀ f ∈ fs, PySem.W.findIn K (.ref C) f = some none) ∧ H a = some (exo a C none) ∧
  ∀ dx, H dx = none → dx ≠ a → Q .non (upd (upd H dx (exd dx (fs.zip ws).reverse)) a (exo a C (some dx)))
theorem pmk_oexG {X : Cx} {CX : CXT} {x : Str} {C fI : Addr} {k : Nat} {fd : FuncData} {ps : List Str} {sp : Sp} {e : Expr} {es : List Expr} {ta : TA} {p pos : Pos} (T : OexC X.K C) (iC : PySem.W.findIn X.K (.ref C) "__init__" = some (some (.ref fI)))
    (tI : PySem.W.typeIn X.K (.ref fI) = some (.type "function")) (FG : FnG X.prog X.w X.K X.mg X.base CX k fI fd ps sp) (hr : Room (k + 1) X.A) (gd : X.A.guards = some []) (hb : Binds X.K fd ps []) (hx : Passes CX X (fun _ _ _ => False)) (hg : Gl X x) (hm : X.mg x = some (.ref C)) (ha : PA X (e :: es) ta)
    (hdb : (x == ("__debug__" : Str)) = false) (he : starEach (e :: es) X.env = (false, eval e X.env) :: starEach es X.env) (hpl : (backTo pos (starEach es X.env)).any (·.1) = false) : PMk X (.Call (.Name x p) (e :: es) [] pos) (tMkO C sp [] ta) := fun pn s0 sl H0 Qx I0 w0 => by
  obtain ⟨cn, cq, cN, cb, cm, c1, c2, c3, c4, c5, y0, y1, y2, y3, y5, hCl, hRf⟩ := T.cls
  refine wpAny_Call_Name_kw (ld_glob I0 hg hm (PySem.W.callWith_K (h₀ := X.base) I0.ok.mod.kin T.kC (thn (ha.run pos pn s0 sl H0 _ I0 w0) fun us s1 ⟨vs, H1, J1, rv, few, w1⟩ => ⟨J1.kIn, ?_⟩) he hpl) hdb)
  show wpAny _ _ (call (.ref C) us) _ _ _
  match s1, J1 with
  | ⟨hp, g1, dr, t1, o1⟩, J1 =>
    have le1 : hp.objs.size ≤ hp.objs.size + 1 := Nat.le_succ _
    have new1 : H1 (hp.objs.size + 1) = none := J1.hok.fresh le1
    have w2 := w1 (hp.objs.size + 1) new1
    rw [List.append_nil] at w2
    have stay : ∀ b o, hp.get? b = some o → ((hp.push (PySem.W.kdv_tup us)).push (PySem.HandSPX.excO C hp.objs.size)).get? b = some o := fun b o z => Heap.get?_push_of_some _ (Heap.get?_push_of_some _ z)
    have there : ((hp.push (PySem.W.kdv_tup us)).push (PySem.HandSPX.excO C hp.objs.size)).get? (hp.objs.size + 1) = some (PySem.HandSPX.excO C hp.objs.size) := by heap_get
    have J2 : Inv X pn sl (upd H1 (hp.objs.size + 1) (exo (hp.objs.size + 1) C none)) ⟨(hp.push (PySem.W.kdv_tup us)).push (PySem.HandSPX.excO C hp.objs.size), g1, dr, t1, o1⟩ := J1.laid (t' := t1) stay le1 (exo_ok there)
    have rv2 : Vals (V.ref (hp.objs.size + 1) :: vs) (Value.ref (hp.objs.size + 1) :: us) := .cons rfl rv
    have len2 : (Value.ref (hp.objs.size + 1) :: us).length = ps.length := by rw [← rv2.length]; exact FG.len _ _ _ _ w2
    have bd := hb _ (Value.ref (hp.objs.size + 1) :: us) J2.kIn (by rw [List.append_nil]; exact len2)
    rw [List.append_nil] at bd
    refine wpAny_call (PySem.HandSPX.call_own F.excBase_ValueError (fun Y => PySem.HandSPX.refsVE_contains Y cm hRf) (J1.kIn _ _ hCl) (PySem.W.looks_findIn J1.kIn iC) (fun self => PySem.W.bind_fn J1.kIn self tI) (by rw [← Paired.length rv, sizeLine_eq]; omega)
      (codeAny_mono (FG.go (X.A.under (.builtin "type.__call__" ⟨.ref C :: us, []⟩)) gd (hr.make C us []) X.stack _ _ ⟨Value.ref (hp.objs.size + 1) :: us, []⟩ _ _ _ (fun _ _ _ => False) w2 rv2 bd (J2.env0.make C us [])) fun z s2 w3 => ?_))
    match z, w3 with
    | .error er, w3 => exact hx pn sl _ _ er s2 J2 w3
    | .ok (.ret u), ⟨v, H2, os2, bare2, un2, hok2, rv3, ev, d, fs, ea, ed, hd1, w4⟩ =>
      subst ev
      match s2, os2, bare2, un2, hok2 with
      | ⟨h2, g2, d2, t2, o2⟩, os2, bare2, un2, hok2 => exact ⟨rv3, mk_end (raises_own T.exC T.tyC) J1 le1 stay un2 hok2 os2 bare2 ea ed hd1 w4⟩
    | .ok .next, w3 => exact w3.elim
    | .ok .brk, w3 => exact w3.elim
    | .ok .cont, w3 => exact w3.elim
/-! ### their texts -/
def vInit1 : List Stmt → Option (Str × Str)
  | [.Expr (.Call (.Attribute (.Name b _) i p2) [.Name s _, .BinOp (.Constant (.str m) _ _) .Add (.Call (.Name r _) [.Name n _] [] _) _] [] p8) _, .Assign [.Attribute (.Name s2 _) n2 _] (.Name n3 _) _] =>
    if i = "__init__" ∧ s = "self" ∧ r = "str" ∧ n3 = n ∧ s2 = "self" ∧ n2 = n ∧ m.length ≤ 100 ∧ (p2.endLine == p8.line) = true then some (b, n) else none
  | _ => none
theorem vInit1_inv {l : List Stmt} {b n : Str} (h : vInit1 l = some (b, n)) : ∃ p1 p2 p3 m k p4 p5 p6 p7 p8 p9 p10 p11 p12 p13 p14, (m.length ≤ 100 ∧ (p2.endLine == p9.line) = true) ∧
    l = [.Expr (.Call (.Attribute (.Name b p1) "__init__" p2) [.Name "self" p3, .BinOp (.Constant (.str m) k p4) .Add (.Call (.Name "str" p5) [.Name n p6] [] p7) p8] [] p9) p10, .Assign [.Attribute (.Name "self" p11) n p12] (.Name n p13) p14] := by
  unfold vInit1 at h
  split at h
  · split at h
    · rename_i c
      obtain ⟨rfl, rfl, rfl, rfl, rfl, rfl, hm⟩ := c
      cases h
      exact ⟨_, _, _, _, _, _, _, _, _, _, _, _, _, _, _, _, hm, rfl⟩
    · cases h
  · cases h
def vInit2 : List Stmt → Option (Str × Str × Str)
  | [.Expr (.Call (.Attribute (.Name b _) i p2) [.Name s _, .BinOp (.BinOp (.Call (.Name r _) [.Name n _] [] _) .Add (.Constant (.str m) _ _) _) .Add (.Call (.Name r2 _) [.Name o _] [] _) _] [] p8) _, .Assign [.Attribute (.Name s2 _) n2 _] (.Name n3 _) _, .Assign [.Attribute (.Name s3 _) o2 _] (.Name o3 _) _] =>
    if i = "__init__" ∧ s = "self" ∧ r = "str" ∧ r2 = "str" ∧ n3 = n ∧ s2 = "self" ∧ n2 = n ∧ o3 = o ∧ s3 = "self" ∧ o2 = o ∧ m.length ≤ 100 ∧ (p2.endLine == p8.line) = true then some (b, n, o) else none
  | _ => none
theorem vInit2_inv {l : List Stmt} {b n o : Str} (h : vInit2 l = some (b, n, o)) : ∃ p1 p2 p3 m k p4 p5 p6 p7 p8 p9 p10 p11 p12 p13 p14 p15 p16 p17 p18 p19 p20 p21 p22, (m.length ≤ 100 ∧ (p2.endLine == p9.line) = true) ∧
    l = [.Expr (.Call (.Attribute (.Name b p1) "__init__" p2) [.Name "self" p3, .BinOp (.BinOp (.Call (.Name "str" p5) [.Name n p6] [] p7) .Add (.Constant (.str m) k p4) p8) .Add (.Call (.Name "str" p15) [.Name o p16] [] p17) p18] [] p9) p10, .Assign [.Attribute (.Name "self" p11) n p12] (.Name n p13) p14, .Assign [.Attribute (.Name "self" p19) o p20] (.Name o p21) p22] := by
  unfold vInit2 at h
  split at h
  · split at h
    · rename_i c
      obtain ⟨rfl, rfl, rfl, rfl, rfl, rfl, rfl, rfl, rfl, rfl, hm⟩ := c
      cases h
      exact ⟨_, _, _, _, _, _, _, _, _, _, _, _, _, _, _, _, _, _, _, _, _, _, _, _, hm, rfl⟩
    · cases h
  · cases h
def locOk (sc : Scope) (x : Str) : Bool := match sc.names.lookup x with
  | some .local => true
  | _ => false
def glbOk (sc : Scope) (x : Str) : Bool := match sc.names.lookup x with
  | some .globalImplicit => true
  | _ => false
theorem locOk_of {sc : Scope} {x : Str} (h : locOk sc x = true) : sc.names.lookup x = some .local := by
  unfold locOk at h
  split at h
  · assumption
  · cases h
theorem glbOk_of {sc : Scope} {x : Str} (h : glbOk sc x = true) : sc.names.lookup x = some .globalImplicit := by
  unfold glbOk at h
  split at h
  · assumption
  · cases h
def ckScI (N : List Str) (b : Str) (sc : Scope) : Bool :=
  (match sc.kind with | .function => true | _ => false) && !sc.isCoroutine && !sc.isGenerator && decide N.Nodup && N.all (fun x => locOk sc x && !(x == ("__debug__" : Str)) && !(x == ("__classdict__" : Str))) && sc.names.all (fun y => !(decide (y.2 = .free))) && glbOk sc b && !(b == ("__debug__" : Str)) && glbOk sc "str"
structure ScI (N : List Str) (b : Str) (sc : Scope) : Prop where
  s : FnScope N N sc
  l : ∀ x ∈ N, sc.names.lookup x = some .local ∧ (x == ("__debug__" : Str)) = false ∧ (x == ("__classdict__" : Str)) = false
  g : sc.names.lookup b = some .globalImplicit
  d : (b == ("__debug__" : Str)) = false
  t : sc.names.lookup ("str" : Str) = some .globalImplicit
theorem ckScI_ok {N : List Str} {b : Str} {sc : Scope} (h : ckScI N b sc = true) : ScI N b sc := by
  unfold ckScI at h
  simp only [Bool.and_eq_true, Bool.not_eq_true', decide_eq_true_eq, List.all_eq_true, decide_eq_false_iff_not] at h
  obtain ⟨⟨⟨⟨⟨⟨⟨⟨h1, h2⟩, h3⟩, h4⟩, h5⟩, h6⟩, h7⟩, h8⟩, h9⟩ := h
  refine ⟨⟨?_, h2, h3, h4, List.take_length, fun x hx => .inl (locOk_of (h5 x hx).1.1), h6⟩, fun x hx => ⟨locOk_of (h5 x hx).1.1, (h5 x hx).1.2, (h5 x hx).2⟩, glbOk_of h7, h8, glbOk_of h9⟩
  split at h1
  · assumption
  · cases h1
section
variable {P : Program} {w : World} {K : PySem.W.Frag} {mg : Str → Option Value} {base : Heap} {B C : Addr} {b n o q x : Str} {st : Stmt} {f : Addr} {fd : FuncData}
theorem upd2 {H : Hp} {a dx : Addr} {u v w z : HO} (h : dx ≠ a) : upd (upd (upd H dx u) a v) dx w = upd (upd H dx w) a v := by
  funext c
  by_cases h1 : c = dx
  · subst h1
    rw [upd_same, upd_ne h, upd_same]
  · rw [upd_ne h1]
    by_cases h2 : c = a
    · subst h2; rw [upd_same, upd_same]
    · rw [upd_ne h2, upd_ne h2, upd_ne h1, upd_ne h1]
theorem init1 (F : Fun K x q st f fd) (hb : vInit1 (defBody st) = some (b, n)) (hs : ckScI ["self", n] b (defScope st) = true) (mB : mg b = some (.ref B)) (T : BaseC K B) (mS : mg "str" = none) : FnG P w K mg base (L2.CX P w) 1 f fd ["self", n] (spI K C [n]) := by
  obtain ⟨p1, p2, p3, m, k, p4, p5, p6, p7, p8, p9, p10, p11, p12, p13, p14, ⟨hm, hln⟩, hbody⟩ := vInit1_inv hb
  have S := ckScI_ok hs
  have ls := S.l "self" (by simp)
  have ln := S.l n (by simp)
  obtain ⟨oc, od, kV, doc, pm, an, cdv, ct, osl, rfl, lk, hcd⟩ := F.ex
  refine fn_ofG (k := 0) lk hcd S.s (fun vs H Q E h => ?_) fun A outer s H vs Q E hr hgu h => ?_
  · obtain ⟨a, ws, xs, rfl, hl, _⟩ := h
    simpa using hl
  obtain ⟨a, ws, xs, rfl, hl, hd, hok, hC, hno, ha, hq⟩ := h
  obtain ⟨v, rfl⟩ : ∃ v, ws = [v] := by
    match ws, hl with
    | [v], _ => exact ⟨v, rfl⟩
  cases hd with
  | @cons _ _ d ds hd1 hd2 =>
    cases hd2
    have o1 : strOk d = true := by simpa using hok
    have sl := strOk_len o1
    rw [hbody]
    refine ⟨_, pss_cons (ps_expr (pe_binit (x := b) (B := B) S.g mB S.d T (pa_cons (pe_var (i := 0) rfl (.inl ls.1) ls.2.1 ls.2.2) (pa_cons (pe_op op_add_str pe_str (pe_callTy (call_strD hgu hr.units) S.t mS (by decide +kernel) (pa_cons (pe_var (i := 1) rfl (.inl ln.1) ln.2.1 ln.2.2) pa_nil))) pa_nil)) rfl rfl hln))
      (pss_one (ps_ost (f := n) (pe_var (i := 0) rfl (.inl ls.1) ls.2.1 ls.2.2) (pe_var (i := 1) rfl (.inl ln.1) ln.2.1 ln.2.2))), ?_⟩
    refine ⟨_, rfl, _, rfl, v, d, rfl, hd1, o1, m, strT d, rfl, rfl, ?_, a, C, _, rfl, by simp, hC, ha, ?_⟩
    · have := sizeLine_eq
      omega
    · refine ⟨_, rfl, _, rfl, a, C, rfl, hC, hno n (by simp), .inl ⟨ha, fun dx n1 n2 => ?_⟩⟩
      exact hq dx n1 n2
theorem init2 (F : Fun K x q st f fd) (hb : vInit2 (defBody st) = some (b, n, o)) (hs : ckScI ["self", n, o] b (defScope st) = true) (mB : mg b = some (.ref B)) (T : BaseC K B) (mS : mg "str" = none) : FnG P w K mg base (L2.CX P w) 1 f fd ["self", n, o] (spI K C [n, o]) := by
  obtain ⟨p1, p2, p3, m, k, p4, p5, p6, p7, p8, p9, p10, p11, p12, p13, p14, p15, p16, p17, p18, p19, p20, p21, p22, ⟨hm, hln⟩, hbody⟩ := vInit2_inv hb
  have S := ckScI_ok hs
  have ls := S.l "self" (by simp)
  have ln := S.l n (by simp)
  have lo := S.l o (by simp)
  obtain ⟨oc, od, kV, doc, pm, an, cdv, ct, osl, rfl, lk, hcd⟩ := F.ex
  refine fn_ofG (k := 0) lk hcd S.s (fun vs H Q E h => ?_) fun A outer s H vs Q E hr hgu h => ?_
  · obtain ⟨a, ws, xs, rfl, hl, _⟩ := h
    simpa using hl
  obtain ⟨a, ws, xs, rfl, hl, hd, hok, hC, hno, ha, hq⟩ := h
  obtain ⟨v, v2, rfl⟩ : ∃ v v2, ws = [v, v2] := by
    match ws, hl with
    | [v, v2], _ => exact ⟨v, v2, rfl⟩
  cases hd with
  | @cons _ _ d ds hd1 hd2 =>
   cases hd2 with
   | @cons _ _ d2 ds2 hd2 hd3 =>
    cases hd3
    have oo : strOk d = true ∧ strOk d2 = true := by simpa using hok
    have zi := strOk_len oo.1
    have zj := strOk_len oo.2
    rw [hbody]
    refine ⟨_, pss_cons (ps_expr (pe_binit (x := b) (B := B) S.g mB S.d T (pa_cons (pe_var (i := 0) rfl (.inl ls.1) ls.2.1 ls.2.2) (pa_cons (pe_op op_add_str (pe_op op_add_str (pe_callTy (call_strD hgu hr.units) S.t mS (by decide +kernel) (pa_cons (pe_var (i := 1) rfl (.inl ln.1) ln.2.1 ln.2.2) pa_nil)) pe_str) (pe_callTy (call_strD hgu hr.units) S.t mS (by decide +kernel) (pa_cons (pe_var (i := 2) rfl (.inl lo.1) lo.2.1 lo.2.2) pa_nil))) pa_nil)) rfl rfl hln))
      (pss_cons (ps_ost (f := n) (pe_var (i := 0) rfl (.inl ls.1) ls.2.1 ls.2.2) (pe_var (i := 1) rfl (.inl ln.1) ln.2.1 ln.2.2)) (pss_one (ps_ost (f := o) (pe_var (i := 0) rfl (.inl ls.1) ls.2.1 ls.2.2) (pe_var (i := 2) rfl (.inl lo.1) lo.2.1 lo.2.2)))), ?_⟩
    have z := sizeLine_eq
    have app : (strT d ++ m : Str).length = (strT d).length + m.length := PySem.Str.length_append _ _
    refine ⟨_, rfl, _, rfl, v, d, rfl, hd1, oo.1, strT d, m, rfl, rfl, by omega, _, rfl, v2, d2, rfl, hd2, oo.2, strT d ++ m, strT d2, rfl, rfl, by omega, a, C, _, rfl, by simp, hC, ha, ?_⟩
    refine ⟨_, rfl, _, rfl, a, C, rfl, hC, hno n (by simp), .inl ⟨ha, fun dx n1 n2 => ?_⟩⟩
    refine ⟨_, rfl, _, rfl, a, C, rfl, hC, hno o (by simp), .inr ⟨dx, [(n, v)], upd_same, ?_, by simp, ?_⟩⟩
    · rw [upd_ne n2, upd_same]
    · rw [upd2 (z := exd dx []) n2]
      exact hq dx n1 n2
end
/-- what a raise of such a class rests on -/
def XMk (P : Program) (w : World) (K : PySem.W.Frag) (mg : Str → Option Value) (base : Heap) (C : Addr) (fs : List Str) : Prop :=
  OexC K C ∧ (∀ f ∈ fs, PySem.W.findIn K (.ref C) f = some none) ∧ ∃ fI fd, PySem.W.findIn K (.ref C) "__init__" = some (some (.ref fI)) ∧ PySem.W.typeIn K (.ref fI) = some (.type "function") ∧ Binds K fd ("self" :: fs) [] ∧ FnG P w K mg base (L2.CX P w) 1 fI fd ("self" :: fs) (spI K C fs)
end Sw

set_option Elab.async false
set_option linter.all false
set_option maxRecDepth 100000
/-! Operators and built-ins upon values that stand for data. -/
namespace Sw
open PySem PySem.Spec PyProof.Rows L2

def Occ (P : Addr → Prop) (H : Hp) : Prop := ∀ a, P a → ∃ o, H a = some o
section
variable {K : PySem.W.Frag} {P : Addr → Prop} {H : Hp} {Q : VK}
theorem Occ.free {a : Addr} (h : Occ P H) (n : H a = none) : ¬ P a := fun z => by
  obtain ⟨o, e⟩ := h a z
  rw [n] at e
  cases e
theorem Same.upd {a : Addr} {o : HO} (n : H a = none) : Same H (L2.upd H a o) := fun b x e => by
  rw [upd_ne (ne_of_none e n)]
  exact e
theorem same_msk {a : Addr} {o : HO} (hP : Occ P H) (n : H a = none) : Same (msk P H) (msk (fun b => P b ∨ b = a) (L2.upd H a o)) := msk_mono fun b x q e =>
  ⟨fun z => z.elim q fun z => ne_of_none e n z, Same.upd n b x e⟩
theorem same_msk2 {H' : Hp} (e : Same H H') : Same (msk P H) (msk P H') := msk_mono fun b x q z => ⟨q, e b x z⟩
theorem Done.lst {vs : List V} {xs : List D} {a : Addr} (hP : Occ P H) (n : H a = none) (h : DqAll K (msk P H) vs xs) (g : Done K P H (.list xs) Q) : Q (.ref a) (L2.upd H a (.lst vs)) := by
  refine g _ _ (Same.upd n) (.lst (SqL.of (msk_some.mpr ⟨hP.free n, upd_same⟩)) (h.mono (same_msk2 (Same.upd n)))) fun ys e => ?_
  cases e
  exact ⟨a, vs, rfl, n, upd_same, h.mono (same_msk hP n)⟩
theorem Done.tup {vs : List V} {xs : List D} (hP : Occ P H) (h : DqAll K (msk P H) vs xs) (g : Done K P H (.tuple xs) Q) : NwT H vs Q := fun a o n d =>
  g _ _ (Same.upd n) (.tup ⟨o, msk_some.mpr ⟨hP.free n, upd_same⟩, d⟩ (h.mono (same_msk2 (Same.upd n)))) fun ys e => by cases e
theorem Done.val {v : V} {r : D} (h : Dq K (msk P H) v r) (n : ∀ xs, r ≠ .list xs) (g : Done K P H r Q) : Q v H := g v H (Same.refl H) h fun xs e => absurd e (n xs)
theorem Done.int {i : Int} (g : Done K P H (.int i) Q) : Q (.int i) H := g.val (.int i) (fun _ e => by cases e)
theorem Done.bool {i : Bool} (g : Done K P H (.bool i) Q) : Q (.bl i) H := g.val (.bl i) (fun _ e => by cases e)
theorem Done.str {x : Str} (g : Done K P H (.str x) Q) : Q (.str x) H := g.val (.str x) (fun _ e => by cases e)
theorem rd_of {a : Addr} {xs : List V} (h : SqL K (msk P H) a xs) : SqL K H a xs := SqL.mono msk_le h
theorem sq_of {a : Addr} {xs : List V} (h : SqT K (msk P H) a xs) : SqT K H a xs := SqT.mono msk_le h
end
section
variable {X : Cx}
theorem inv_sq {pins : List (Addr × Obj)} {σ : L2.St} {H : Hp} {s : Shared} {a : Addr} {xs : List V} (I : Inv X pins σ H s) (h : SqL X.K H a xs) :
    ∃ (its : List Value) (n : Nat) (sl : Array (Option Value)), Vals xs its ∧ xs.length ≤ sizeLine ∧ s.heap.get? a = some { cls := .type "list", dict := none, data := .seq its.toArray n, slots := sl } := by
  rcases h with h | ⟨⟨c, dd, da, sl⟩, its, n, h1, h2, h3, h4, h5, h6⟩
  · obtain ⟨z, its, n, r, e⟩ := h.ok I.hok
    exact ⟨its, n, _, r, z, e⟩
  · simp only at h2 h3 h4
    subst h2 h3 h4
    exact ⟨its.toList, n, sl, h6, by rw [h6.length, Array.length_toList]; exact h5, I.kIn _ _ h1⟩
theorem inv_rd {pins : List (Addr × Obj)} {σ : L2.St} {H : Hp} {s : Shared} {a : Addr} {xs : List V} (I : Inv X pins σ H s) (h : Rd H a (.lst xs)) :
    ∃ (its : List Value) (n : Nat), Vals xs its ∧ xs.length ≤ sizeLine ∧ s.heap.get? a = some { cls := .type "list", data := .seq its.toArray n } := by
  obtain ⟨z, its, n, r, e⟩ := h.ok I.hok
  exact ⟨its, n, r, z, e⟩

/-! ### operators -/
def rOp (K : PySem.W.Frag) (o : Op) : R2 := fun x y H Q => ∃ P dx dy r, Occ P H ∧ Dq K (msk P H) x dx ∧ Dq K (msk P H) y dy ∧ opD o dx dy = some r ∧ Done K P H r Q
def opA : Op → Operator
  | .add => .Add | .sub => .Sub | .mul => .Mult | .mod => .Mod | .fdiv => .FloorDiv | .pow => .Pow | .shl => .LShift | .shr => .RShift | .band => .BitAnd
theorem cat_lists : OpR X (binaryOp .Add) (fun x y H Q => ∃ l b xs zs, x = .ref l ∧ y = .ref b ∧ SqL X.K H l xs ∧ SqL X.K H b zs ∧ xs.length + zs.length ≤ sizeLine ∧ ∀ p, H p = none → Q (.ref p) (L2.upd H p (.lst (xs ++ zs)))) := by
  intro pins s σ H x y v u Q I rx ry h
  obtain ⟨l, b, xs, zs, rfl, rfl, hH, hB, hz, q⟩ := h
  cases rx
  cases ry
  obtain ⟨its, n, sl1, r, _, e⟩ := inv_sq I hH
  obtain ⟨its2, n2, sl2, r2, _, e2⟩ := inv_sq I hB
  have hl := r.length
  have hl2 := r2.length
  refine concat_meets ⟨_, e, rfl⟩ ⟨_, e2, rfl⟩ noFill_list_add seq_list_add PySem.F.slot_list_add PySem.F.entry_list_add (PySem.F.args_list_add_2 _ _) (list_addW l b its.toArray its2.toArray n n2 none none sl1 sl2 (by simp only [List.size_toArray]; omega)) ⟨e, e2, ?_⟩
  rw [show its.toArray ++ its2.toArray = (its ++ its2).toArray by simp]
  exact ⟨.ref _, _, I.lnew (t' := s.toks) (r.append r2) (by simp only [List.length_append]; omega), rfl, q _ I.fresh⟩
theorem rep_list : OpR X (binaryOp .Mult) (fun x y H Q => ∃ l k xs, x = .ref l ∧ y = .int k ∧ SqL X.K H l xs ∧ -(2 ^ 63) ≤ k ∧ k < 2 ^ 63 ∧ xs.length * k.toNat ≤ sizeLine ∧ ∀ p, H p = none → Q (.ref p) (L2.upd H p (.lst (List.replicate k.toNat xs).flatten))) := by
  intro pins s σ H x y v u Q I rx ry h
  obtain ⟨l, k, xs, rfl, rfl, hH, h1, h2, hz, q⟩ := h
  cases rx
  obtain ⟨t, rfl⟩ := ry
  obtain ⟨its, n, sl1, r, _, e⟩ := inv_sq I hH
  have hl := r.length
  have hs : its.toArray.size * k.toNat ≤ sizeLine := by
    simp only [List.size_toArray, ← hl]
    exact hz
  have hc : ¬ its.toArray.size * k.toNat > (2 ^ 63 - 1) / 8 := fun z => by
    have z2 : (sizeLine : Nat) ≤ (2 ^ 63 - 1) / 8 := by decide
    omega
  have hf : ¬ (!Builtin.List.listFitsIndex k) = true := by
    rw [fitsIndex_both h1 h2]; exact Bool.false_ne_true
  have hg : ¬ Builtin.List.listTooLong (its.toArray.size * k.toNat) = true := by
    rw [notLongL hs]; exact Bool.false_ne_true
  have hn : List.foldl (fun x1 x2 => x1 ++ x2) #[] (List.replicate (if its.toArray.isEmpty = true then 0 else k.toNat) its.toArray) = (List.replicate k.toNat its).flatten.toArray := by
    have f0 : ∀ m : Nat, List.foldl (fun x1 x2 => x1 ++ x2) #[] (List.replicate m its.toArray) = (List.replicate m its).flatten.toArray := fun m => by
      have z := foldl_rep its m []
      rwa [List.nil_append] at z
    rw [f0]
    cases its with
    | nil => simp
    | cons a b => rw [if_neg (by simp)]
  refine wpAny_binaryOp_repeat_ref (U := "int") (T := "list") (by decide) ⟨_, e, rfl⟩ (fun s' => typeIs_int s' k t) noFill_list_mul F.fills_int_mul F.slot_int_rmul repeat_list F.slot_int_index.lookup
    (call_meets F.slot_int_rmul (typeIs_int s k t) F.entry_int_rmul (F.args_int_rmul_2 _ _) (lm_int_rmul_list_any k t l its.toArray n none sl1)
      ⟨e, rfl, ⟨_, e, rfl⟩, call_meets F.slot_list_mul ⟨_, e, rfl⟩ F.entry_list_mul (F.args_list_mul_2 _ _) (lm_list_mul_any l its.toArray n none sl1 k t hf hc hg) ⟨e, ?_⟩⟩)
  rw [hn]
  exact ⟨.ref _, _, I.lnew (t' := s.toks) (r.rep k.toNat) (by rw [PyProof.Rows.lm_len_rep_flat, Nat.mul_comm]; exact hz), rfl, q _ I.fresh⟩
theorem op_of {o : Op} : OpR X (binaryOp (opA o)) (rOp X.K o) := by
  intro pins s σ H x y v u Q I rx ry h
  obtain ⟨P, dx, dy, r, hP, hx, hy, e, g⟩ := h
  cases o <;> cases dx <;> simp only [opD, reduceCtorEq] at e <;> cases dy <;> simp only [opD, reduceCtorEq, Option.ite_none_right_eq_some, Option.some.injEq] at e
  case add.int.int i j =>
    subst e
    exact op_add pins s σ H x y v u Q I rx ry ⟨i, j, hx.int_inv, hy.int_inv, g.int⟩
  case add.str.str i j =>
    obtain ⟨e1, rfl⟩ := e
    exact op_add_str pins s σ H x y v u Q I rx ry ⟨i, j, hx.str_inv, hy.str_inv, e1, g.str⟩
  case add.list.list xs ys =>
    obtain ⟨e1, rfl⟩ := e
    obtain ⟨a, us, rfl, h1, h2⟩ := hx.list_inv
    obtain ⟨b, ws, rfl, h3, h4⟩ := hy.list_inv
    exact cat_lists pins s σ H _ _ v u Q I rx ry ⟨a, b, us, ws, rfl, rfl, rd_of h1, rd_of h3, by rw [h2.length, h4.length]; exact e1, fun p n => g.lst hP n (h2.append h4)⟩
  case add.tuple.tuple xs ys =>
    obtain ⟨e1, rfl⟩ := e
    obtain ⟨a, us, rfl, h1, h2⟩ := hx.tup_inv
    obtain ⟨b, ws, rfl, h3, h4⟩ := hy.tup_inv
    refine op_catN pins s σ H _ _ v u Q I rx ry ⟨a, b, us, ws, rfl, rfl, sq_of h1, sq_of h3, by rw [h2.length, h4.length]; exact e1, fun z => ?_, fun z z2 => ?_, fun z z2 => g.tup hP (h2.append h4)⟩
    · subst z
      cases h2
      exact g.val hy (fun _ e => by cases e)
    · subst z2
      cases h4
      rw [List.append_nil] at g
      exact g.val hx (fun _ e => by cases e)
  case sub.int.int i j =>
    subst e
    exact op_sub pins s σ H x y v u Q I rx ry ⟨i, j, hx.int_inv, hy.int_inv, g.int⟩
  case mul.int.int i j =>
    obtain ⟨e1, rfl⟩ := e
    exact op_mul pins s σ H x y v u Q I rx ry ⟨i, j, hx.int_inv, hy.int_inv, e1, g.int⟩
  case mul.list.int xs j =>
    obtain ⟨⟨e1, e2, e3⟩, rfl⟩ := e
    obtain ⟨a, us, rfl, h1, h2⟩ := hx.list_inv
    exact rep_list pins s σ H _ _ v u Q I rx ry ⟨a, j, us, rfl, hy.int_inv, rd_of h1, e1, e2, by rw [h2.length]; exact e3, fun p n => g.lst hP n (h2.rep _)⟩
  case mod.int.int i j =>
    obtain ⟨e1, rfl⟩ := e
    exact op_mod pins s σ H x y v u Q I rx ry ⟨i, j, hx.int_inv, hy.int_inv, e1, g.int⟩
  case fdiv.int.int i j =>
    obtain ⟨e1, rfl⟩ := e
    exact op_fdiv pins s σ H x y v u Q I rx ry ⟨i, j, hx.int_inv, hy.int_inv, e1, g.int⟩
  case pow.int.int i j =>
    obtain ⟨e1, rfl⟩ := e
    exact op_pow pins s σ H x y v u Q I rx ry ⟨i, j, hx.int_inv, hy.int_inv, e1, g.int⟩
  case shl.int.int i j =>
    obtain ⟨e1, rfl⟩ := e
    exact op_shl pins s σ H x y v u Q I rx ry ⟨i, j, hx.int_inv, hy.int_inv, e1, g.int⟩
  case shr.int.int i j =>
    obtain ⟨e1, rfl⟩ := e
    exact op_shr pins s σ H x y v u Q I rx ry ⟨i, j, hx.int_inv, hy.int_inv, e1, g.int⟩
  case band.int.int i j =>
    subst e
    exact op_and pins s σ H x y v u Q I rx ry ⟨i, j, hx.int_inv, hy.int_inv, g.int⟩
end
end Sw

set_option Elab.async false
set_option linter.all false
set_option maxRecDepth 100000
set_option maxHeartbeats 1000000
/-! Dicts: what their keys are, how they lie, the roads to them. -/
namespace Sw
open PySem PySem.Spec PyProof.Rows L2

/-! ### keys -/
mutual
def keyN : D → NestedKey
  | .int i => .num i
  | .tuple xs => .tup (keyNs xs)
  | _ => .none
def keyNs : List D → List NestedKey
  | [] => []
  | x :: xs => keyN x :: keyNs xs
end
mutual
theorem keyN_hash {w : World} : ∀ x : D, nestI x = true → (keyN x).hash w = hk x
  | .int i, _ => by simp only [keyN, NestedKey.hash, hk]
  | .tuple xs, h => by
    simp only [keyN, NestedKey.hash, hk]
    rw [keyNs_hash xs (by simpa only [nestI] using h)]
  | .none, h | .bool _, h | .str _, h | .list _, h | .dict _, h => by simp [nestI] at h
theorem keyNs_hash {w : World} : ∀ xs : List D, nestA xs = true → NestedKey.hashes w (keyNs xs) = hkA xs
  | [], _ => by simp only [keyNs, NestedKey.hashes, hkA]
  | x :: xs, h => by
    simp only [nestA, Bool.and_eq_true] at h
    simp only [keyNs, NestedKey.hashes, hkA, keyN_hash x h.1, keyNs_hash xs h.2]
end
mutual
theorem keyN_depth : ∀ x : D, nestI x = true → (keyN x).depth = x.depth
  | .int i, _ => by simp only [keyN, NestedKey.depth, PyData.depth]
  | .tuple xs, h => by
    simp only [keyN, NestedKey.depth, PyData.depth]
    rw [keyNs_depth xs (by simpa only [nestI] using h)]
  | .none, h | .bool _, h | .str _, h | .list _, h | .dict _, h => by simp [nestI] at h
theorem keyNs_depth : ∀ xs : List D, nestA xs = true → NestedKey.depthAll (keyNs xs) = PyData.depthAll xs
  | [], _ => by simp only [keyNs, NestedKey.depthAll, PyData.depthAll]
  | x :: xs, h => by
    simp only [nestA, Bool.and_eq_true] at h
    simp only [keyNs, NestedKey.depthAll, PyData.depthAll, keyN_depth x h.1, keyNs_depth xs h.2]
end
mutual
theorem keyN_eqv : ∀ x y : D, nestI x = true → nestI y = true → PyData.eqv x y = NestedKey.beq (keyN x) (keyN y)
  | .int i, .int j, _, _ => by
    simp only [keyN, NestedKey.beq, PyData.eqv]
    exact Bool.eq_iff_iff.mpr (by simp)
  | .tuple xs, .tuple ys, h, g => by
    simp only [keyN, NestedKey.beq, PyData.eqv]
    exact keyNs_eqv xs ys (by simpa only [nestI] using h) (by simpa only [nestI] using g)
  | .int _, .tuple _, _, _ => by simp only [keyN, NestedKey.beq, PyData.eqv]
  | .tuple _, .int _, _, _ => by simp only [keyN, NestedKey.beq, PyData.eqv]
  | .none, _, h, _ | .bool _, _, h, _ | .str _, _, h, _ | .list _, _, h, _ | .dict _, _, h, _ => by simp [nestI] at h
  | .int _, .none, _, h | .int _, .bool _, _, h | .int _, .str _, _, h | .int _, .list _, _, h | .int _, .dict _, _, h => by simp [nestI] at h
  | .tuple _, .none, _, h | .tuple _, .bool _, _, h | .tuple _, .str _, _, h | .tuple _, .list _, _, h | .tuple _, .dict _, _, h => by simp [nestI] at h
theorem keyNs_eqv : ∀ xs ys : List D, nestA xs = true → nestA ys = true → PyData.eqvAll xs ys = NestedKey.beqAll (keyNs xs) (keyNs ys)
  | [], [], _, _ => by simp only [keyNs, NestedKey.beqAll, PyData.eqvAll]
  | x :: xs, y :: ys, h, g => by
    simp only [nestA, Bool.and_eq_true] at h g
    simp only [keyNs, NestedKey.beqAll, PyData.eqvAll, keyN_eqv x y h.1 g.1, keyNs_eqv xs ys h.2 g.2]
  | [], _ :: _, _, _ => by simp only [keyNs, NestedKey.beqAll, PyData.eqvAll]
  | _ :: _, [], _, _ => by simp only [keyNs, NestedKey.beqAll, PyData.eqvAll]
end
theorem key_dec {x y : D} (h : nestI x = true) (g : nestI y = true) : decide (keyN x = keyN y) = PyData.eqv x y := by rw [keyN_eqv x y h g, NestedKey.decide_eq]
theorem isI_inv {x : D} (h : isI x = true) : ∃ i, x = .int i := by
  cases x <;> first | exact ⟨_, rfl⟩ | simp [isI] at h
theorem isI_nest {x : D} (h : isI x = true) : nestI x = true := by obtain ⟨i, rfl⟩ := isI_inv h; simp only [nestI]
theorem isT_inv {x : D} (h : isT x = true) : ∃ xs, x = .tuple xs ∧ nestA xs = true ∧ PyData.depthAll xs ≤ 7 := by
  cases x <;> simp only [isT, Bool.and_eq_true, decide_eq_true_eq, Bool.false_eq_true] at h
  exact ⟨_, rfl, h.1, h.2⟩
theorem isT_nest {x : D} (h : isT x = true) : nestI x = true := by
  obtain ⟨xs, rfl, h1, _⟩ := isT_inv h
  simpa only [nestI] using h1
mutual
theorem nestI_calm : ∀ {x : D}, nestI x = true → calm x = true
  | .int _, _ => rfl
  | .tuple xs, h => by
    rw [Sw.calm]
    exact nestA_calm (by simpa only [nestI] using h)
  | .none, h | .bool _, h | .str _, h | .list _, h | .dict _, h => by simp [nestI] at h
theorem nestA_calm : ∀ {xs : List D}, nestA xs = true → calmAll xs = true
  | [], _ => rfl
  | x :: xs, h => by
    simp only [nestA, Bool.and_eq_true] at h
    rw [calmAll, nestI_calm h.1, nestA_calm h.2]
    rfl
end
theorem eqv_self {x : D} (h : nestI x = true) : PyData.eqv x x = true := by rw [keyN_eqv x x h h]; exact NestedKey.beq_self _
mutual
theorem keyN_inj : ∀ {x y : D}, nestI x = true → nestI y = true → keyN x = keyN y → x = y
  | .int i, .int j, _, _, e => by simp only [keyN, NestedKey.num.injEq] at e; rw [e]
  | .tuple xs, .tuple ys, h, g, e => by
    simp only [keyN, NestedKey.tup.injEq] at e
    rw [keyNs_inj (by simpa only [nestI] using h) (by simpa only [nestI] using g) e]
  | .int _, .tuple _, _, _, e => by simp [keyN] at e
  | .tuple _, .int _, _, _, e => by simp [keyN] at e
  | .none, _, h, _, _ | .bool _, _, h, _, _ | .str _, _, h, _, _ | .list _, _, h, _, _ | .dict _, _, h, _, _ => by simp [nestI] at h
  | .int _, .none, _, h, _ | .int _, .bool _, _, h, _ | .int _, .str _, _, h, _ | .int _, .list _, _, h, _ | .int _, .dict _, _, h, _ => by simp [nestI] at h
  | .tuple _, .none, _, h, _ | .tuple _, .bool _, _, h, _ | .tuple _, .str _, _, h, _ | .tuple _, .list _, _, h, _ | .tuple _, .dict _, _, h, _ => by simp [nestI] at h
theorem keyNs_inj : ∀ {xs ys : List D}, nestA xs = true → nestA ys = true → keyNs xs = keyNs ys → xs = ys
  | [], [], _, _, _ => rfl
  | x :: xs, y :: ys, h, g, e => by
    simp only [nestA, Bool.and_eq_true] at h g
    simp only [keyNs, List.cons.injEq] at e
    rw [keyN_inj h.1 g.1 e.1, keyNs_inj h.2 g.2 e.2]
  | [], _ :: _, _, _, e => by simp [keyNs] at e
  | _ :: _, [], _, _, e => by simp [keyNs] at e
end
theorem eqv_eq {x y : D} (h : nestI x = true) (g : nestI y = true) (e : PyData.eqv x y = true) : x = y := keyN_inj h g (NestedKey.eq_of_beq _ _ (by rw [← keyN_eqv x y h g]; exact e))

section
variable {X : Cx} {pins : List (Addr × Obj)} {σ : L2.St} {H Hv : Hp} {s : Shared}
mutual
theorem keyN_is (I : Inv X pins σ H s) (sm : Same Hv H) : ∀ {x : D} {v : V} {u : Value}, Dq X.K Hv v x → nestI x = true → RelV v u → NestedIs s.heap (keyN x) u
  | .int i, v, u, h, _, r => by
    rw [h.int_inv] at r
    obtain ⟨t, rfl⟩ := r
    simp only [keyN]
    exact .int i t
  | .tuple xs, v, u, h, n, r => by
    obtain ⟨a, ws, rfl, h1, h2⟩ := h.tup_inv
    obtain ⟨its, rv, pt, hz⟩ := I.tuple (SqT.mono sm h1)
    cases r
    obtain ⟨⟨cls, dd, data, sl⟩, ho, hc, m, hd⟩ := pt
    simp only [keyN]
    exact .tup ho hc hd (by simpa using keyNs_is I sm h2 (by simpa only [nestI] using n) rv)
  | .none, _, _, _, h, _ | .bool _, _, _, _, h, _ | .str _, _, _, _, h, _ | .list _, _, _, _, h, _ | .dict _, _, _, _, h, _ => by simp [nestI] at h
theorem keyNs_is (I : Inv X pins σ H s) (sm : Same Hv H) : ∀ {xs : List D} {vs : List V} {us : List Value}, DqAll X.K Hv vs xs → nestA xs = true → Vals vs us → NestedAll s.heap (keyNs xs) us
  | [], _, _, h, _, r => by
    cases h
    cases r
    simp only [keyNs]
    exact .nil
  | x :: xs, _, _, h, n, r => by
    cases h with
    | cons h1 h2 =>
      cases r with
      | cons r1 r2 =>
        simp only [nestA, Bool.and_eq_true] at n
        simp only [keyNs]
        exact .cons (keyN_is I sm h1 n.1 r1) (keyNs_is I sm h2 n.2 r2)
end
theorem keyT_is (I : Inv X pins σ H s) (sm : Same Hv H) {x : D} {v : V} {u : Value} (h : Dq X.K Hv v x) (n : isT x = true) (r : RelV v u) : ∃ a, v = .ref a ∧ u = .ref a ∧ (nestedKind X.prog X.w).is s.heap (keyN x) a := by
  obtain ⟨xs, rfl, n1, n2⟩ := isT_inv n
  obtain ⟨a, ws, rfl, _, _⟩ := h.tup_inv
  have q := keyN_is I sm h (isT_nest n) r
  cases r
  refine ⟨a, rfl, rfl, q, ?_⟩
  rw [keyN_depth _ (isT_nest n)]
  simp only [PyData.depth]
  omega
/-- a dict as it lies -/
theorem raw_of {a : Addr} {ep : Nat} {ms : List (Int × V × V)} (I : Inv X pins σ H s) (h : H a = some (dE a ep ms)) : (a == sysModules) = false ∧ ∃ o es, s.heap.get? a = some o ∧ o.ExactDict ∧ o.data = .dict es ep ∧ Paired entR ms es.toList := by
  have z : ObjOk X.prog X.w H s.heap a (.ext fun h => (a == sysModules) = false ∧ ∃ o es, h.get? a = some o ∧ o.ExactDict ∧ o.data = .dict es ep ∧ Paired entR ms es.toList) := I.hok a _ h
  exact z.1
theorem dE_ok {P : Program} {w : World} {h : Heap} {a : Addr} {ep : Nat} {ms : List (Int × V × V)} {o : Obj} {es : Array DictEntry} (z : (a == sysModules) = false) (h1 : h.get? a = some o) (h2 : o.ExactDict) (h3 : o.data = .dict es ep) (h4 : Paired entR ms es.toList) : ObjOk P w H h a (dE a ep ms) :=
  ⟨⟨z, o, es, h1, h2, h3, h4⟩, ⟨o, h1⟩, fun g1 g2 ⟨_, o', es', q1, q2⟩ k => ⟨z, o', es', k _ q1, q2⟩⟩
theorem ent_vals : ∀ {ms : List (Int × V × V)} {es : List DictEntry}, Paired entR ms es → Vals (ms.map (·.2.1)) (es.map (·.key)) ∧ Vals (ms.map (·.2.2)) (es.map (·.val)) ∧ ms.map (·.1) = es.map (·.hash)
  | _, _, .nil => ⟨.nil, .nil, rfl⟩
  | _, _, .cons r t => by
    have q := ent_vals t
    exact ⟨.cons r.2.1 q.1, .cons r.2.2 q.2.1, by rw [List.map_cons, List.map_cons, q.2.2, r.1]⟩
/-- whole numbers for keys -/
theorem viewI {P : Program} {w : World} {K : PySem.W.Frag} : ∀ {ms : List (Int × V × V)} {es : List DictEntry} {ds : List (D × D)}, Paired entR ms es → DqAll K Hv (ms.map (·.2.1)) (ds.map (·.1)) → (ds.all fun p => isI p.1) = true → ms.map (·.1) = ds.map (fun p => hk p.1) →
    ∃ kvs : List (Int × Value), Pairs (intKind P w) es kvs ∧ kvs.map (fun p => PyData.int p.1) = ds.map (·.1) ∧ kvs.map (·.2) = es.map (·.val) ∧ ∀ e ∈ es, ∃ k, (intKind P w).is k e.key = true ∧ e.hash = hashInt k
  | [], _, [], .nil, _, _, _ => ⟨[], .nil, rfl, rfl, fun e h => by cases h⟩
  | [], _, _ :: _, .nil, h, _, _ => by
    rw [List.map_nil, List.map_cons] at h
    cases h
  | m :: ms, _, ds, .cons (b := e) (l₂ := es) r t, h, g, hh => by
    cases ds with
    | nil => rw [List.map_nil, List.map_cons] at h; cases h
    | cons d ds =>
      rw [List.map_cons, List.map_cons] at h
      cases h with
      | cons h1 h2 =>
        rw [List.all_cons, Bool.and_eq_true] at g
        simp only [List.map_cons, List.cons.injEq] at hh
        obtain ⟨kvs, q1, q2, q3, q4⟩ := viewI (P := P) (w := w) t h2 g.2 hh.2
        obtain ⟨i, ei⟩ := isI_inv g.1
        rw [ei] at h1
        have rk := r.2.1
        rw [h1.int_inv] at rk
        obtain ⟨tk, ek⟩ := rk
        have ik : (intKind P w).is i e.key = true := by rw [ek]; show Value.isInt i (.int i tk) = true; simp [Value.isInt]
        refine ⟨(i, e.val) :: kvs, .cons ik rfl q1, by rw [List.map_cons, List.map_cons, q2, ei], by rw [List.map_cons, List.map_cons, q3], fun e' he => ?_⟩
        rcases List.mem_cons.mp he with rfl | he
        · refine ⟨i, ik, ?_⟩
          rw [r.1, hh.1, ei]
          simp only [hk]
        · exact q4 e' he
/-- tuples for keys -/
theorem viewT (I : Inv X pins σ H s) (sm : Same Hv H) : ∀ {ms : List (Int × V × V)} {es : List DictEntry} {ds : List (D × D)}, Paired entR ms es → DqAll X.K Hv (ms.map (·.2.1)) (ds.map (·.1)) → (ds.all fun p => isT p.1) = true → ms.map (·.1) = ds.map (fun p => hk p.1) →
    ∃ xs : List (NestedKey × Addr × Value), es = xs.map (entryOfKey (nestedKind X.prog X.w)) ∧ xs.map (·.1) = ds.map (fun p => keyN p.1) ∧ xs.map (·.2.2) = es.map (·.val) ∧ xs.map (fun x => V.ref x.2.1) = ms.map (·.2.1) ∧ ∀ x ∈ xs, (nestedKind X.prog X.w).is s.heap x.1 x.2.1
  | [], _, [], .nil, _, _, _ => ⟨[], rfl, rfl, rfl, rfl, fun e h => by cases h⟩
  | [], _, _ :: _, .nil, h, _, _ => by
    rw [List.map_nil, List.map_cons] at h
    cases h
  | m :: ms, _, ds, .cons (b := e) (l₂ := es) r t, h, g, hh => by
    cases ds with
    | nil => rw [List.map_nil, List.map_cons] at h; cases h
    | cons d ds =>
      rw [List.map_cons, List.map_cons] at h
      cases h with
      | cons h1 h2 =>
        rw [List.all_cons, Bool.and_eq_true] at g
        simp only [List.map_cons, List.cons.injEq] at hh
        obtain ⟨xs, q1, q2, q3, q4, q5⟩ := viewT I sm t h2 g.2 hh.2
        obtain ⟨a, ea, eu, ik⟩ := keyT_is I sm h1 g.1 r.2.1
        have ee : e = entryOfKey (nestedKind X.prog X.w) (keyN d.1, a, e.val) := by
          obtain ⟨eh, ek, ev⟩ := e
          simp only at eu
          have e1 : eh = m.1 := r.1
          simp only [entryOfKey, DictEntry.mk.injEq]
          refine ⟨?_, eu, trivial⟩
          rw [e1, hh.1]
          exact (keyN_hash _ (isT_nest g.1)).symm
        refine ⟨(keyN d.1, a, e.val) :: xs, by rw [List.map_cons, ← q1, ← ee], by rw [List.map_cons, List.map_cons, q2], by rw [List.map_cons, List.map_cons, q3], by rw [List.map_cons, List.map_cons, q4, ea], fun x hx => ?_⟩
        rcases List.mem_cons.mp hx with rfl | hx
        · exact ik
        · exact q5 x hx
theorem freshK_nodup : ∀ {ds : List (D × D)}, (∀ p ∈ ds, nestI p.1 = true) → freshK ds = true → (ds.map fun p => keyN p.1).Nodup
  | [], _, _ => List.nodup_nil
  | d :: ds, n, h => by
    simp only [freshK, Bool.and_eq_true, List.all_eq_true, Bool.not_eq_true'] at h
    rw [List.map_cons, List.nodup_cons]
    refine ⟨fun z => ?_, freshK_nodup (fun p hp => n p (by simp [hp])) h.2⟩
    obtain ⟨q, hq, e⟩ := List.mem_map.mp z
    have := h.1 q hq
    rw [← key_dec (n q (by simp [hq])) (n d (by simp)), decide_eq_false_iff_not] at this
    exact this e
theorem cls_nest {ds : List (D × D)} (h : clsAll ds = true) : ∀ p ∈ ds, nestI p.1 = true := fun p hp => by
  simp only [clsAll, Bool.or_eq_true, List.all_eq_true] at h
  rcases h with h | h
  · exact isI_nest (h p hp)
  · exact isT_nest (h p hp)
theorem dkOk_nest {ds : List (D × D)} (h : dkOk ds = true) : ∀ p ∈ ds, nestI p.1 = true := by
  simp only [dkOk, Bool.and_eq_true] at h
  exact cls_nest h.1
/-- as a dict of whole numbers -/
theorem dict_I {a : Addr} {ep : Nat} {ms : List (Int × V × V)} {ds : List (D × D)} (I : Inv X pins σ H s) (h : H a = some (dE a ep ms)) (dk : DqAll X.K Hv (ms.map (·.2.1)) (ds.map (·.1))) (hh : ms.map (·.1) = ds.map (fun p => hk p.1)) (ok : dkOk ds = true) (al : (ds.all fun p => isI p.1) = true) :
    (a == sysModules) = false ∧ ∃ kvs : List (Int × Value), s.heap.DictOf (intKind X.prog X.w) a kvs ∧ kvs.map (fun p => PyData.int p.1) = ds.map (·.1) ∧ Vals (ms.map (·.2.2)) (kvs.map (·.2)) := by
  obtain ⟨z, o, es, h1, h2, h3, h4⟩ := raw_of I h
  obtain ⟨kvs, q1, q2, q3, q4⟩ := viewI (P := X.prog) (w := X.w) h4 dk al hh
  have nd : (kvs.map (·.1)).Nodup := by
    have n := freshK_nodup (dkOk_nest ok) (by simp only [dkOk, Bool.and_eq_true] at ok; exact ok.2)
    have e : ds.map (fun p => keyN p.1) = (kvs.map (·.1)).map NestedKey.num := by
      have : ds.map (fun p => keyN p.1) = (ds.map (·.1)).map keyN := by rw [List.map_map]; rfl
      rw [this, ← q2, List.map_map, List.map_map]
      exact List.map_congr_left fun p _ => by simp only [Function.comp, keyN]
    rw [e] at n
    exact List.Pairwise.of_map NestedKey.num (fun _ _ hne e => hne (congrArg NestedKey.num e)) n
  exact ⟨z, kvs, ⟨o, es, ep, h1, h2, h3, fun e he => q4 e (Array.mem_toList_iff.mpr he), q1, nd⟩, q2, by rw [q3]; exact (ent_vals h4).2.1⟩
/-- as a dict of tuples -/
theorem dict_T {a : Addr} {ep : Nat} {ms : List (Int × V × V)} {ds : List (D × D)} (I : Inv X pins σ H s) (sm : Same Hv H) (h : H a = some (dE a ep ms)) (dk : DqAll X.K Hv (ms.map (·.2.1)) (ds.map (·.1))) (hh : ms.map (·.1) = ds.map (fun p => hk p.1)) (ok : dkOk ds = true) (al : (ds.all fun p => isT p.1) = true) :
    (a == sysModules) = false ∧ ∃ xs : List (NestedKey × Addr × Value), s.heap.DictOfH (nestedKind X.prog X.w) a xs ∧ xs.map (·.1) = ds.map (fun p => keyN p.1) ∧ Vals (ms.map (·.2.2)) (xs.map (·.2.2)) ∧ xs.map (fun x => V.ref x.2.1) = ms.map (·.2.1) := by
  obtain ⟨z, o, es, h1, h2, h3, h4⟩ := raw_of I h
  obtain ⟨xs, q1, q2, q3, q4, q5⟩ := viewT I sm h4 dk al hh
  refine ⟨z, xs, ⟨o, es, ep, h1, h2, h3, q1, q5, ?_⟩, q2, by rw [q3]; exact (ent_vals h4).2.1, q4⟩
  rw [q2]
  exact freshK_nodup (dkOk_nest ok) (by simp only [dkOk, Bool.and_eq_true] at ok; exact ok.2)
/-! ### what is looked for -/
theorem look_I : ∀ {kvs : List (Int × Value)} {ds : List (D × D)} {vs : List V} {K : PySem.W.Frag} {i : Int}, kvs.map (fun p => PyData.int p.1) = ds.map (·.1) → Vals vs (kvs.map (·.2)) → DqAll K Hv vs (ds.map (·.2)) →
    (lookD ds (.int i) = none ∧ valueAt kvs i = none) ∨ ∃ y v u, lookD ds (.int i) = some y ∧ valueAt kvs i = some u ∧ RelV v u ∧ Dq K Hv v y
  | [], [], _, _, _, _, _, _ => .inl ⟨rfl, rfl⟩
  | [], _ :: _, _, _, _, e, _, _ => by simp at e
  | _ :: _, [], _, _, _, e, _, _ => by simp at e
  | p :: kvs, d :: ds, vs, K, i, e, r, dv => by
    simp only [List.map_cons, List.cons.injEq] at e
    rw [List.map_cons] at r dv
    cases r with
    | cons r1 r2 =>
      cases dv with
      | cons d1 d2 =>
        have ek : PyData.eqv d.1 (.int i) = decide (p.1 = i) := by
          rw [← e.1]
          simp only [PyData.eqv]
          exact Bool.eq_iff_iff.mpr (by simp)
        have l1 : lookD (d :: ds) (.int i) = if p.1 = i then some d.2 else lookD ds (.int i) := by
          unfold lookD
          rw [List.find?_cons, ek]
          by_cases z : p.1 = i <;> simp [z]
        have l2 : valueAt (p :: kvs) i = if p.1 = i then some p.2 else valueAt kvs i := by
          unfold valueAt
          rw [List.find?_cons]
          by_cases z : p.1 = i <;> simp [z]
        rw [l1, l2]
        by_cases z : p.1 = i
        · rw [if_pos z, if_pos z]
          exact .inr ⟨_, _, _, rfl, rfl, r1, d1⟩
        · rw [if_neg z, if_neg z]
          exact look_I e.2 r2 d2
theorem look_T : ∀ {xs : List (NestedKey × Addr × Value)} {ds : List (D × D)} {vs : List V} {K : PySem.W.Frag} {k : D}, xs.map (·.1) = ds.map (fun p => keyN p.1) → Vals vs (xs.map (·.2.2)) → DqAll K Hv vs (ds.map (·.2)) → nestI k = true → (∀ p ∈ ds, nestI p.1 = true) →
    (lookD ds k = none ∧ atKey xs (keyN k) = none) ∨ ∃ y v q, lookD ds k = some y ∧ atKey xs (keyN k) = some q ∧ RelV v q.2 ∧ Dq K Hv v y
  | [], [], _, _, _, _, _, _, _, _ => .inl ⟨rfl, rfl⟩
  | [], _ :: _, _, _, _, e, _, _, _, _ => by simp at e
  | _ :: _, [], _, _, _, e, _, _, _, _ => by simp at e
  | p :: xs, d :: ds, vs, K, k, e, r, dv, n, nd => by
    simp only [List.map_cons, List.cons.injEq] at e
    rw [List.map_cons] at r dv
    cases r with
    | cons r1 r2 =>
      cases dv with
      | cons d1 d2 =>
        have ek : PyData.eqv d.1 k = decide (p.1 = keyN k) := by rw [e.1, key_dec (nd d (by simp)) n]
        have l1 : lookD (d :: ds) k = if p.1 = keyN k then some d.2 else lookD ds k := by
          unfold lookD
          rw [List.find?_cons, ek]
          by_cases z : p.1 = keyN k <;> simp [z]
        have l2 : atKey (p :: xs) (keyN k) = if p.1 = keyN k then some p.2 else atKey xs (keyN k) := by
          unfold atKey
          rw [List.find?_cons]
          by_cases z : p.1 = keyN k <;> simp [z]
        rw [l1, l2]
        by_cases z : p.1 = keyN k
        · rw [if_pos z, if_pos z]
          exact .inr ⟨_, _, _, rfl, rfl, r1, d1⟩
        · rw [if_neg z, if_neg z]
          exact look_T e.2 r2 d2 n fun q hq => nd q (by simp [hq])
/-- a shared dict, where its keys are whole numbers or tuples -/
theorem Dq.dict_inv {K : PySem.W.Frag} {v : V} {ds : List (D × D)} (h : Dq K H v (.dict ds)) (c : clsAll ds = true) : ∃ a ep ms, v = .ref a ∧ H a = some (dE a ep ms) ∧ DqAll K H (ms.map (·.2.1)) (ds.map (·.1)) ∧ DqAll K H (ms.map (·.2.2)) (ds.map (·.2)) ∧ ms.map (·.1) = ds.map (fun p => hk p.1) ∧ dkOk ds = true := by
  generalize hd : (PyData.dict ds) = dd at h
  cases h with
  | dgn h1 h2 h3 h4 h5 =>
    cases hd
    exact ⟨_, _, _, rfl, h1, h2, h3, h4, h5⟩
  | dc0 h1 =>
    cases hd
    simp [clsAll, isI, isT] at c
  | dct h0 hs h1 h2 h3 =>
    rename_i a kvs ds'
    cases hd
    cases ds with
    | nil =>
      cases kvs with
      | nil => exact absurd rfl h0
      | cons p kvs => simp at h2
    | cons d ds =>
      have z := hs d (by simp)
      have c' := cls_nest c d (by simp)
      cases e : d.1 <;> rw [e] at z c' <;> simp [isStrD, nestI] at z c'
  | _ => cases hd
theorem clsK_all {k : D} {ds : List (D × D)} (h : clsK k ds = true) : clsAll ds = true := by
  simp only [clsK, Bool.or_eq_true, Bool.and_eq_true] at h
  simp only [clsAll, Bool.or_eq_true]
  exact h.imp (·.2) (·.2)
theorem clsK_nest {k : D} {ds : List (D × D)} (h : clsK k ds = true) : nestI k = true := by
  simp only [clsK, Bool.or_eq_true, Bool.and_eq_true] at h
  exact h.elim (fun z => isI_nest z.1) fun z => isT_nest z.1
/-! ### dicts as they come back -/
theorem back_I {P : Program} {w : World} : ∀ {kvs : List (Int × Value)} {es : List DictEntry} {vs : List V}, Pairs (intKind P w) es kvs → (∀ e ∈ es, ∃ k, (intKind P w).is k e.key = true ∧ e.hash = hashInt k) → Vals vs (kvs.map (·.2)) →
    ∃ ms : List (Int × V × V), Paired entR ms es ∧ ms.map (·.2.1) = kvs.map (fun p => V.int p.1) ∧ ms.map (·.2.2) = vs ∧ ms.map (·.1) = kvs.map (fun p => hashInt p.1)
  | _, _, vs, .nil, _, r => by
    cases r
    exact ⟨[], .nil, rfl, rfl, rfl⟩
  | _, _, _, .cons (e := e) (kv := kv) h1 h2 h3, hk, .cons r1 r2 => by
    obtain ⟨ms, q1, q2, q3, q4⟩ := back_I h3 (fun e he => hk e (by simp [he])) r2
    obtain ⟨k, k1, k2⟩ := hk e (by simp)
    have ek : kv.1 = k := (intKind P w).inj e.key _ _ h1 k1
    obtain ⟨t, et⟩ := Value.isInt_shape h1
    exact ⟨(hashInt kv.1, .int kv.1, _) :: ms, .cons ⟨by rw [k2, ek], ⟨t, et⟩, by show RelV _ e.val; rw [h2]; exact r1⟩ q1, by rw [List.map_cons, List.map_cons, q2], by rw [List.map_cons, q3], by rw [List.map_cons, List.map_cons, q4]⟩
theorem back_T {P : Program} {w : World} : ∀ {xs : List (NestedKey × Addr × Value)} {vs : List V}, Vals vs (xs.map (·.2.2)) →
    ∃ ms : List (Int × V × V), Paired entR ms (xs.map (entryOfKey (nestedKind P w))) ∧ ms.map (·.2.1) = xs.map (fun x => V.ref x.2.1) ∧ ms.map (·.2.2) = vs ∧ ms.map (·.1) = xs.map (fun x => x.1.hash w)
  | [], _, .nil => ⟨[], .nil, rfl, rfl, rfl⟩
  | x :: xs, _, .cons r1 r2 => by
    obtain ⟨ms, q1, q2, q3, q4⟩ := back_T (P := P) r2
    exact ⟨(x.1.hash w, .ref x.2.1, _) :: ms, .cons ⟨rfl, rfl, r1⟩ q1, by rw [List.map_cons, List.map_cons, q2], by rw [List.map_cons, q3], by rw [List.map_cons, List.map_cons, q4]⟩
theorem ints_keys {K : PySem.W.Frag} : ∀ {kvs : List (Int × Value)} {ds : List (D × D)}, kvs.map (fun p => PyData.int p.1) = ds.map (·.1) → DqAll K Hv (kvs.map (fun p => V.int p.1)) (ds.map (·.1)) ∧ kvs.map (fun p => hashInt p.1) = ds.map (fun p => hk p.1)
  | [], [], _ => ⟨.nil, rfl⟩
  | [], _ :: _, e => by simp at e
  | _ :: _, [], e => by simp at e
  | p :: kvs, d :: ds, e => by
    simp only [List.map_cons, List.cons.injEq] at e
    have q := ints_keys (K := K) e.2
    refine ⟨by rw [List.map_cons, List.map_cons, ← e.1]; exact .cons (.int _) q.1, ?_⟩
    rw [List.map_cons, List.map_cons, q.2, ← e.1]
    simp only [hk]
theorem tups_hash {w : World} : ∀ {xs : List (NestedKey × Addr × Value)} {ds : List (D × D)}, xs.map (·.1) = ds.map (fun p => keyN p.1) → (∀ p ∈ ds, nestI p.1 = true) → xs.map (fun x => x.1.hash w) = ds.map (fun p => hk p.1)
  | [], [], _, _ => rfl
  | [], _ :: _, e, _ => by simp at e
  | _ :: _, [], e, _ => by simp at e
  | x :: xs, d :: ds, e, n => by
    simp only [List.map_cons, List.cons.injEq] at e
    rw [List.map_cons, List.map_cons, tups_hash e.2 (fun p hp => n p (by simp [hp])), e.1, keyN_hash _ (n d (by simp))]
/-- a heap's dict of whole numbers, told -/
theorem told_I {P : Program} {w : World} {K : PySem.W.Frag} {h : Heap} {a : Addr} {kvs : List (Int × Value)} {vs : List V} {ds : List (D × D)} (z : (a == sysModules) = false) (d : h.DictOf (intKind P w) a kvs) (e : kvs.map (fun p => PyData.int p.1) = ds.map (·.1)) (r : Vals vs (kvs.map (·.2))) :
    ∃ ep ms, ObjOk P w H h a (dE a ep ms) ∧ DqAll K Hv (ms.map (·.2.1)) (ds.map (·.1)) ∧ ms.map (·.2.2) = vs ∧ ms.map (·.1) = ds.map (fun p => hk p.1) := by
  obtain ⟨o, es, ep, h1, h2, h3, h4, h5, _⟩ := d
  obtain ⟨ms, q1, q2, q3, q4⟩ := back_I h5 (fun e he => h4 e (Array.mem_toList_iff.mp he)) r
  have k := ints_keys (Hv := Hv) (K := K) e
  exact ⟨ep, ms, dE_ok z h1 h2 h3 q1, by rw [q2]; exact k.1, q3, by rw [q4]; exact k.2⟩
theorem told_T {P : Program} {w : World} {K : PySem.W.Frag} {h : Heap} {a : Addr} {xs : List (NestedKey × Addr × Value)} {vs : List V} {ds : List (D × D)} (z : (a == sysModules) = false) (d : h.DictOfH (nestedKind P w) a xs) (e : xs.map (·.1) = ds.map (fun p => keyN p.1)) (n : ∀ p ∈ ds, nestI p.1 = true) (r : Vals vs (xs.map (·.2.2)))
    (dk : DqAll K Hv (xs.map fun x => V.ref x.2.1) (ds.map (·.1))) :
    ∃ ep ms, ObjOk P w H h a (dE a ep ms) ∧ DqAll K Hv (ms.map (·.2.1)) (ds.map (·.1)) ∧ ms.map (·.2.2) = vs ∧ ms.map (·.1) = ds.map (fun p => hk p.1) := by
  obtain ⟨o, es, ep, h1, h2, h3, h4, _⟩ := d
  obtain ⟨ms, q1, q2, q3, q4⟩ := back_T (P := P) (w := w) r
  exact ⟨ep, ms, dE_ok z h1 h2 h3 (by rw [h4]; exact q1), by rw [q2]; exact dk, q3, by rw [q4]; exact tups_hash e n⟩
/-! ### d[k] = v -/
theorem any_I : ∀ {kvs : List (Int × Value)} {ds : List (D × D)} {i : Int}, kvs.map (fun p => PyData.int p.1) = ds.map (·.1) → (kvs.any fun kv => decide (kv.1 = i)) = ds.any fun p => PyData.eqv p.1 (.int i)
  | [], [], _, _ => rfl
  | [], _ :: _, _, e => by simp at e
  | _ :: _, [], _, e => by simp at e
  | p :: kvs, d :: ds, i, e => by
    simp only [List.map_cons, List.cons.injEq] at e
    rw [List.any_cons, List.any_cons, any_I e.2, ← e.1]
    congr 1
theorem put_I {K : PySem.W.Frag} {v : V} {u : Value} {y : D} {i : Int} (rv : RelV v u) (dv : Dq K Hv v y) : ∀ {kvs : List (Int × Value)} {ds : List (D × D)} {vs : List V}, kvs.map (fun p => PyData.int p.1) = ds.map (·.1) → Vals vs (kvs.map (·.2)) → DqAll K Hv vs (ds.map (·.2)) →
    ∃ vs', (kvs.map fun kv => if kv.1 = i then (kv.1, u) else kv).map (fun p => PyData.int p.1) = (ds.map fun p => if PyData.eqv p.1 (.int i) then (p.1, y) else p).map (·.1) ∧ Vals vs' ((kvs.map fun kv => if kv.1 = i then (kv.1, u) else kv).map (·.2)) ∧ DqAll K Hv vs' ((ds.map fun p => if PyData.eqv p.1 (.int i) then (p.1, y) else p).map (·.2))
  | [], [], vs, _, r, d => ⟨vs, rfl, r, d⟩
  | [], _ :: _, _, e, _, _ => by simp at e
  | _ :: _, [], _, e, _, _ => by simp at e
  | p :: kvs, d :: ds, vs, e, r, dd => by
    simp only [List.map_cons, List.cons.injEq] at e
    rw [List.map_cons] at r dd
    cases r with
    | @cons v0 _ _ _ r1 r2 =>
      cases dd with
      | cons d1 d2 =>
        obtain ⟨vs', q1, q2, q3⟩ := put_I rv dv e.2 r2 d2
        have ek : PyData.eqv d.1 (.int i) = decide (p.1 = i) := by
          rw [← e.1]
          simp only [PyData.eqv]
          exact Bool.eq_iff_iff.mpr (by simp)
        by_cases z : p.1 = i
        · refine ⟨v :: vs', ?_, ?_, ?_⟩
          · rw [List.map_cons, List.map_cons, List.map_cons, List.map_cons, q1, ek, if_pos z, decide_eq_true z, if_pos rfl, ← e.1]
          · rw [List.map_cons, List.map_cons, if_pos z]
            exact .cons rv q2
          · rw [List.map_cons, List.map_cons, ek, decide_eq_true z, if_pos rfl]
            exact .cons dv q3
        · refine ⟨v0 :: vs', ?_, ?_, ?_⟩
          · rw [List.map_cons, List.map_cons, List.map_cons, List.map_cons, q1, ek, if_neg z, decide_eq_false z, if_neg (by simp), e.1]
          · rw [List.map_cons, List.map_cons, if_neg z]
            exact .cons r1 q2
          · rw [List.map_cons, List.map_cons, ek, decide_eq_false z, if_neg (by simp)]
            exact .cons d1 q3
theorem store_I {K : PySem.W.Frag} {v : V} {u : Value} {y : D} {i : Int} (rv : RelV v u) (dv : Dq K Hv v y) {kvs : List (Int × Value)} {ds : List (D × D)} {vs : List V} (e : kvs.map (fun p => PyData.int p.1) = ds.map (·.1)) (r : Vals vs (kvs.map (·.2))) (d : DqAll K Hv vs (ds.map (·.2))) :
    ∃ vs', (stored kvs i u).map (fun p => PyData.int p.1) = (storeD ds (.int i) y).map (·.1) ∧ Vals vs' ((stored kvs i u).map (·.2)) ∧ DqAll K Hv vs' ((storeD ds (.int i) y).map (·.2)) := by
  unfold stored storeD
  rw [any_I e]
  by_cases z : (ds.any fun p => PyData.eqv p.1 (.int i)) = true
  · rw [if_pos z, if_pos z]
    exact put_I rv dv e r d
  · rw [if_neg z, if_neg z]
    refine ⟨vs ++ [v], by rw [List.map_append, List.map_append, e]; rfl, ?_, ?_⟩
    · rw [List.map_append]
      exact r.append (.cons rv .nil)
    · rw [List.map_append]
      exact d.append (.cons dv .nil)
theorem any_T : ∀ {xs : List (NestedKey × Addr × Value)} {ds : List (D × D)} {k : D}, xs.map (·.1) = ds.map (fun p => keyN p.1) → nestI k = true → (∀ p ∈ ds, nestI p.1 = true) → (atKey xs (keyN k)).isSome = ds.any fun p => PyData.eqv p.1 k
  | [], [], _, _, _, _ => rfl
  | [], _ :: _, _, e, _, _ => by simp at e
  | _ :: _, [], _, e, _, _ => by simp at e
  | p :: xs, d :: ds, k, e, n, nd => by
    simp only [List.map_cons, List.cons.injEq] at e
    have ek : PyData.eqv d.1 k = decide (p.1 = keyN k) := by rw [e.1, key_dec (nd d (by simp)) n]
    have l2 : atKey (p :: xs) (keyN k) = if p.1 = keyN k then some p.2 else atKey xs (keyN k) := by
      unfold atKey
      rw [List.find?_cons]
      by_cases z : p.1 = keyN k <;> simp [z]
    rw [List.any_cons, ek, l2]
    by_cases z : p.1 = keyN k
    · simp [z]
    · rw [if_neg z, any_T e.2 n fun q hq => nd q (by simp [hq]), decide_eq_false z, Bool.false_or]
theorem put_T {K : PySem.W.Frag} {v : V} {u : Value} {y k : D} (rv : RelV v u) (dv : Dq K Hv v y) (n : nestI k = true) : ∀ {xs : List (NestedKey × Addr × Value)} {ds : List (D × D)} {vs : List V}, xs.map (·.1) = ds.map (fun p => keyN p.1) → (∀ p ∈ ds, nestI p.1 = true) → Vals vs (xs.map (·.2.2)) → DqAll K Hv vs (ds.map (·.2)) →
    DqAll K Hv (xs.map fun x => V.ref x.2.1) (ds.map (·.1)) →
    ∃ vs', (xs.map (putAt (keyN k) u)).map (·.1) = (ds.map fun p => if PyData.eqv p.1 k then (p.1, y) else p).map (fun p => keyN p.1) ∧ Vals vs' ((xs.map (putAt (keyN k) u)).map (·.2.2)) ∧ DqAll K Hv vs' ((ds.map fun p => if PyData.eqv p.1 k then (p.1, y) else p).map (·.2)) ∧
      DqAll K Hv ((xs.map (putAt (keyN k) u)).map fun x => V.ref x.2.1) ((ds.map fun p => if PyData.eqv p.1 k then (p.1, y) else p).map (·.1))
  | [], [], vs, _, _, r, d, a => ⟨vs, rfl, r, d, a⟩
  | [], _ :: _, _, e, _, _, _, _ => by simp at e
  | _ :: _, [], _, e, _, _, _, _ => by simp at e
  | p :: xs, d :: ds, vs, e, nd, r, dd, da => by
    simp only [List.map_cons, List.cons.injEq] at e
    rw [List.map_cons] at r dd da
    cases r with
    | @cons v0 _ _ _ r1 r2 =>
      cases dd with
      | cons d1 d2 =>
        rw [List.map_cons] at da
        cases da with
        | cons a1 a2 =>
          obtain ⟨vs', q1, q2, q3, q4⟩ := put_T rv dv n e.2 (fun q hq => nd q (by simp [hq])) r2 d2 a2
          have ek : PyData.eqv d.1 k = decide (p.1 = keyN k) := by rw [e.1, key_dec (nd d (by simp)) n]
          by_cases z : p.1 = keyN k
          · have ep : putAt (keyN k) u p = (p.1, p.2.1, u) := if_pos z
            have ed : (if PyData.eqv d.1 k = true then (d.1, y) else d) = (d.1, y) := if_pos (by rw [ek, decide_eq_true z])
            exact ⟨v :: vs', by rw [List.map_cons, List.map_cons, List.map_cons, List.map_cons, q1, ep, ed, e.1], by rw [List.map_cons, List.map_cons, ep]; exact .cons rv q2, by rw [List.map_cons, List.map_cons, ed]; exact .cons dv q3, by rw [List.map_cons, List.map_cons, List.map_cons, List.map_cons, ep, ed]; exact .cons a1 q4⟩
          · have ep : putAt (keyN k) u p = p := if_neg z
            have ed : (if PyData.eqv d.1 k = true then (d.1, y) else d) = d := if_neg (by rw [ek, decide_eq_false z]; simp)
            exact ⟨v0 :: vs', by rw [List.map_cons, List.map_cons, List.map_cons, List.map_cons, q1, ep, ed, e.1], by rw [List.map_cons, List.map_cons, ep]; exact .cons r1 q2, by rw [List.map_cons, List.map_cons, ed]; exact .cons d1 q3, by rw [List.map_cons, List.map_cons, List.map_cons, List.map_cons, ep, ed]; exact .cons a1 q4⟩
theorem store_T {K : PySem.W.Frag} {v : V} {u : Value} {y k : D} {b : Addr} (rv : RelV v u) (dv : Dq K Hv v y) (n : nestI k = true) (dk : Dq K Hv (.ref b) k) {xs : List (NestedKey × Addr × Value)} {ds : List (D × D)} {vs : List V} (e : xs.map (·.1) = ds.map (fun p => keyN p.1)) (nd : ∀ p ∈ ds, nestI p.1 = true) (r : Vals vs (xs.map (·.2.2))) (d : DqAll K Hv vs (ds.map (·.2)))
    (a : DqAll K Hv (xs.map fun x => V.ref x.2.1) (ds.map (·.1))) :
    ∃ vs', (storedH xs (keyN k) b u).map (·.1) = (storeD ds k y).map (fun p => keyN p.1) ∧ Vals vs' ((storedH xs (keyN k) b u).map (·.2.2)) ∧ DqAll K Hv vs' ((storeD ds k y).map (·.2)) ∧ DqAll K Hv ((storedH xs (keyN k) b u).map fun x => V.ref x.2.1) ((storeD ds k y).map (·.1)) := by
  unfold storedH storeD
  rw [any_T e n nd]
  by_cases z : (ds.any fun p => PyData.eqv p.1 k) = true
  · rw [if_pos z, if_pos z]
    exact put_T rv dv n e nd r d a
  · rw [if_neg z, if_neg z]
    refine ⟨vs ++ [v], by rw [List.map_append, List.map_append, e]; rfl, ?_, ?_, ?_⟩
    · rw [List.map_append]
      exact r.append (.cons rv .nil)
    · rw [List.map_append]
      exact d.append (.cons dv .nil)
    · rw [List.map_append, List.map_append]
      exact a.append (.cons dk .nil)
theorem freshK_keys : ∀ {ds es : List (D × D)}, ds.map (·.1) = es.map (·.1) → freshK ds = freshK es
  | [], [], _ => rfl
  | [], _ :: _, e => by simp at e
  | _ :: _, [], e => by simp at e
  | d :: ds, f :: es, e => by
    simp only [List.map_cons, List.cons.injEq] at e
    have h : (ds.all fun q => !PyData.eqv q.1 d.1) = (es.all fun q => !PyData.eqv q.1 d.1) := by
      have := congrArg (fun l : List D => l.all fun q => !PyData.eqv q d.1) e.2
      simpa [List.all_map, Function.comp_def] using this
    rw [freshK, freshK, freshK_keys e.2, h, e.1]
theorem freshK_end : ∀ {ds : List (D × D)} {k y : D}, (∀ p ∈ ds, nestI p.1 = true) → nestI k = true → freshK ds = true → (ds.any fun p => PyData.eqv p.1 k) = false → freshK (ds ++ [(k, y)]) = true
  | [], _, _, _, _, _, _ => rfl
  | d :: ds, k, y, n, nk, h, a => by
    simp only [freshK, Bool.and_eq_true] at h
    rw [List.any_cons, Bool.or_eq_false_iff] at a
    rw [List.cons_append, freshK, freshK_end (fun p hp => n p (by simp [hp])) nk h.2 a.2, List.all_append, h.1]
    have : PyData.eqv k d.1 = false := by
      have q := a.1
      rw [← key_dec (n d (by simp)) nk, decide_eq_false_iff_not] at q
      rw [← key_dec nk (n d (by simp)), decide_eq_false_iff_not]
      exact fun z => q z.symm
    simp [this]
theorem store_ok {ds : List (D × D)} {k y : D} (h : dkOk ds = true) (c : clsK k ds = true) : dkOk (storeD ds k y) = true := by
  have n := dkOk_nest h
  have nk := clsK_nest c
  simp only [dkOk, Bool.and_eq_true] at h ⊢
  unfold storeD
  by_cases z : (ds.any fun p => PyData.eqv p.1 k) = true
  · rw [if_pos z]
    have e : (ds.map fun p => if PyData.eqv p.1 k = true then (p.1, y) else p).map (·.1) = ds.map (·.1) := by
      rw [List.map_map]
      refine List.map_congr_left fun p _ => ?_
      simp only [Function.comp]
      split <;> rfl
    refine ⟨?_, by rw [freshK_keys e]; exact h.2⟩
    have ca : ∀ f : D → Bool, ((ds.map fun p => if PyData.eqv p.1 k = true then (p.1, y) else p).all fun p => f p.1) = ds.all fun p => f p.1 := fun f => by
      have := congrArg (fun l : List D => l.all f) e
      simpa [List.all_map, Function.comp_def] using this
    unfold clsAll
    rw [ca, ca]
    exact h.1
  · rw [if_neg z]
    refine ⟨?_, freshK_end n nk h.2 (by simpa using z)⟩
    simp only [clsK, Bool.or_eq_true, Bool.and_eq_true] at c
    simp only [clsAll, List.all_append, Bool.or_eq_true, Bool.and_eq_true, List.all_cons, List.all_nil, Bool.and_true]
    exact c.imp (fun z => ⟨z.2, z.1⟩) fun z => ⟨z.2, z.1⟩
/-- d[k] = v, of a dict -/
def rSetG (K : PySem.W.Frag) : TSet := fun o i v H Q => ∃ a ep ms Hv ks kd y, o = .ref a ∧ H a = some (dE a ep ms) ∧ Same Hv H ∧ DqAll K Hv (ms.map (·.2.1)) (ks.map (·.1)) ∧ DqAll K Hv (ms.map (·.2.2)) (ks.map (·.2)) ∧ ms.map (·.1) = ks.map (fun p => hk p.1) ∧ dkOk ks = true ∧ Dq K Hv i kd ∧ Dq K Hv v y ∧ clsK kd ks = true ∧ ks.length < 1000000 ∧
  ∀ ep' ms', DqAll K Hv (ms'.map (·.2.1)) ((storeD ks kd y).map (·.1)) → DqAll K Hv (ms'.map (·.2.2)) ((storeD ks kd y).map (·.2)) → ms'.map (·.1) = (storeD ks kd y).map (fun p => hk p.1) → Q (upd H a (dE a ep' ms'))
theorem set_gen (hu : X.A.units + 64 < cLine) : PSet X (rSetG X.K) := by
  intro pins s σ H o i v ov iv u Q I ro ri rv ⟨a, ep, ms, Hv, ks, kd, y, ho, h1, e, h2, h3, h4, h5, hi, hv, c, hz, q⟩
  subst ho
  cases ro
  have mu : Mut (H a) := by rw [h1]; exact trivial
  have hl : ks.length ≤ sizeLine := by rw [sizeLine_eq]; omega
  have c2 := c
  simp only [clsK, Bool.or_eq_true, Bool.and_eq_true] at c2
  rcases c2 with c2 | c2
  · obtain ⟨j, rfl⟩ := isI_inv c2.1
    have ex := hi.int_inv
    subst ex
    obtain ⟨t, rfl⟩ := ri
    obtain ⟨z, kvs, k1, k2, k3⟩ := dict_I I h1 h2 h4 h5 c2.2
    have hkey : (intKind X.prog X.w).is j (.int j t) = true := by show Value.isInt j (.int j t) = true; simp [Value.isInt]
    have kl : kvs.length = ks.length := by simpa using congrArg List.length k2
    obtain ⟨vs', s1, s2, s3⟩ := store_I (i := j) rv hv k2 k3 h3
    refine wpAny_setItem_pairs hkey k1 (fun h' hd' hs => ?_) (by rw [kl]; exact hl)
    obtain ⟨ep', ms', t1, t2, t3, t4⟩ := told_I (H := H) (Hv := Hv) (K := X.K) z hd' s1 s2
    exact ⟨_, I.write (o := dE a ep' ms') (t' := s.toks + 1) mu (.inl rfl) (fun b ob ne eb => (hs.2 b ne).trans eb) (let ⟨o', _, _, e', _⟩ := hd'; ⟨_, e'⟩) (show ObjOk X.prog X.w (upd H a (dE a ep' ms')) h' a (dE a ep' ms') from t1), q ep' ms' t2 (by rw [t3]; exact s3) t4⟩
  · obtain ⟨b, rfl, rfl, hkey⟩ := keyT_is I e hi c2.1 ri
    obtain ⟨z, xs, k1, k2, k3, k4⟩ := dict_T I e h1 h2 h4 h5 c2.2
    have hroom : (nestedKind X.prog X.w).room X.A.in1 := by
      show X.A.in1.units + 8 < cLine
      have : X.A.in1.units = X.A.units + 1 := rfl
      omega
    have kl : xs.length = ks.length := by simpa using congrArg List.length k2
    obtain ⟨vs', s1, s2, s3, s4⟩ := store_T rv hv (isT_nest c2.1) hi k2 (dkOk_nest h5) k3 h3 (by rw [k4]; exact h2)
    refine wpAny_setItem_heap hroom hkey k1 (fun h' hd' hs => ?_) (by rw [kl]; exact hl)
    obtain ⟨ep', ms', t1, t2, t3, t4⟩ := told_T (H := H) (Hv := Hv) (K := X.K) z hd' s1 (dkOk_nest (store_ok h5 c)) s2 s4
    exact ⟨_, I.write (o := dE a ep' ms') mu (.inl rfl) (fun b ob ne eb => (hs.2 b ne).trans eb) (let ⟨o', _, _, e', _⟩ := hd'; ⟨_, e'⟩) (show ObjOk X.prog X.w (upd H a (dE a ep' ms')) h' a (dE a ep' ms') from t1), q ep' ms' t2 (by rw [t3]; exact s3) t4⟩
end
end Sw

set_option Elab.async false
set_option linter.all false
set_option maxRecDepth 100000
set_option maxHeartbeats 1000000
namespace Sw
open PySem PySem.Spec PyProof.Rows L2
section
variable {X : Cx}
theorem flat_plain {x : D} (h : flat x = true) : x.plain = true ∧ x.depth ≤ 60 := by
  simpa [flat] using h
theorem flatAll_plain {xs : List D} (h : flatAll xs = true) : PyData.plainAll xs = true ∧ PyData.depthAll xs ≤ 60 := by
  simpa [flatAll] using h
theorem reads_of {pins : List (Addr × Obj)} {σ : L2.St} {H : Hp} {s : Shared} {v : V} {u : Value} {x : D} (I : Inv X pins σ H s) (h : Dq X.K H v x) (f : x.plain = true) (r : RelV v u) : ∃ as, Reads s.heap u x as :=
  Dp.reads I x v u (h.dp f) r
theorem readsAll_of {pins : List (Addr × Obj)} {σ : L2.St} {H : Hp} {s : Shared} {vs : List V} {us : List Value} {xs : List D} (I : Inv X pins σ H s) (h : DqAll X.K H vs xs) (f : PyData.plainAll xs = true) (r : Vals vs us) : ∃ as, ReadsAll s.heap us xs as :=
  Dp.readsAll I xs vs us (h.dp f) r

/-! ### comparisons -/
def cmA : Cm → CmpOp
  | .lt => .Lt | .le => .LtE | .gt => .Gt | .ge => .GtE | .eq => .Eq | .ne => .NotEq | .isIn => .In | .notIn => .NotIn | .isN => .Is | .notN => .IsNot
def rCm (K : PySem.W.Frag) (o : Cm) : R2 := fun x y H Q => ∃ Hv dx dy b, Same Hv H ∧ Dq K Hv x dx ∧ Dq K Hv y dy ∧ cmD o dx dy = some b ∧ Q (.bl b) H
theorem ltD_cases {x y : D} {b : Bool} (h : ltD x y = some b) : (∃ i j, x = .int i ∧ y = .int j ∧ b = decide (i < j)) ∨ (flat x = true ∧ flat y = true ∧ W.alike x y = true ∧ x ≠ .none ∧ b = W.dataLt x y) := by
  unfold ltD at h
  split at h
  · exact .inl ⟨_, _, rfl, rfl, (Option.some.inj h).symm⟩
  · rename_i h0
    split at h
    · rename_i h1
      simp only [Bool.and_eq_true, Bool.not_eq_true'] at h1
      refine .inr ⟨h1.1.1.1, h1.1.1.2, h1.1.2, fun z => ?_, (Option.some.inj h).symm⟩
      subst z
      exact absurd h1.2 (by decide)
    · cases h
theorem leD_cases {x y : D} {b : Bool} (h : leD x y = some b) : (∃ i j, x = .int i ∧ y = .int j ∧ b = decide (i ≤ j)) ∨ (flat x = true ∧ flat y = true ∧ W.alike y x = true ∧ y ≠ .none ∧ b = !W.dataLt y x) := by
  unfold leD at h
  split at h
  · exact .inl ⟨_, _, rfl, rfl, (Option.some.inj h).symm⟩
  · rename_i h0
    split at h
    · rename_i h1
      simp only [Bool.and_eq_true, Bool.not_eq_true'] at h1
      refine .inr ⟨h1.1.1.1, h1.1.1.2, h1.1.2, fun z => ?_, (Option.some.inj h).symm⟩
      subst z
      exact absurd h1.2 (by decide)
    · cases h
theorem ne_none_sym {x y : D} (h : W.alike x y = true) (n : x ≠ .none) : y ≠ .none := W.ne_none_both h n
theorem eqD_cases {x y : D} {b : Bool} (h : eqD x y = some b) : flat x = true ∧ flat y = true ∧ b = PyData.eqv x y := by
  unfold eqD at h
  split at h
  · rename_i h1
    simp only [Bool.and_eq_true] at h1
    exact ⟨h1.1, h1.2, (Option.some.inj h).symm⟩
  · cases h
theorem cm_eq (hu : X.A.units + 64 < cLine) {pins : List (Addr × Obj)} {s : Shared} {σ : L2.St} {H Hv : Hp} {x y : V} {v u : Value} {Q : VK} {dx dy : D} {neg : Bool} (I : Inv X pins σ H s) (rx : RelV x v) (ry : RelV y u) (e : Same Hv H) (hx : Dq X.K Hv x dx) (hy : Dq X.K Hv y dy)
    (f : flat dx = true) (g : flat dy = true) (q : Q (.bl (if neg then !PyData.eqv dx dy else PyData.eqv dx dy)) H) : wpAny (model X.prog X.w) X.A (compareOp (if neg then .NotEq else .Eq) v u) (EP X pins σ Q) X.xe s := by
  obtain ⟨as, r1⟩ := reads_of I (hx.mono e) (flat_plain f).1 rx
  obtain ⟨bs, r2⟩ := reads_of I (hy.mono e) (flat_plain g).1 ry
  have h1 := (flat_plain f).2
  have hm : min dx.depth dy.depth ≤ dx.depth := Nat.min_le_left _ _
  cases neg with
  | true => exact SeqAt.ne_plain r1 r2 (flat_plain f).1 (flat_plain g).1 (by omega) ⟨.bl _, H, I, rfl, q⟩
  | false => exact SeqAt.eq_plain r1 r2 (flat_plain f).1 (flat_plain g).1 (by omega) ⟨.bl _, H, I, rfl, q⟩
/-! ### dicts of tuples of ints -/
theorem intsOf_inv : ∀ {xs : List D} {r : List Int}, intsOf xs = some r → xs = r.map PyData.int
  | [], r, h => by
    have : r = [] := by simpa [intsOf] using h.symm
    subst this; rfl
  | x :: xs, r, h => by
    cases x with
    | int i =>
      simp only [intsOf, Option.map_eq_some_iff] at h
      obtain ⟨q, e, rfl⟩ := h
      rw [List.map_cons, ← intsOf_inv e]
    | _ => simp [intsOf] at h
theorem intsOf_map : ∀ r : List Int, intsOf (r.map PyData.int) = some r
  | [] => rfl
  | i :: r => by rw [List.map_cons, intsOf, intsOf_map r]; rfl
theorem rowOf_inv {x : D} {r : List Int} (h : rowOf x = some r) : x = .tuple (r.map PyData.int) := by
  cases x with
  | tuple xs => rw [intsOf_inv (xs := xs) h]
  | _ => simp [rowOf] at h
theorem vals_ints {P : Program} {w : World} : ∀ {ns : List Int} {us : List Value}, Vals (ns.map V.int) us → ItemsAre (intKind P w) ns us
  | [], _, r => by rw [List.map_nil] at r; cases r; exact .nil
  | k :: ks, _, r => by
    rw [List.map_cons] at r
    cases r with
    | cons h t =>
      obtain ⟨tk, rfl⟩ := h
      exact .cons (by show Value.isInt k (.int k tk) = true; simp [Value.isInt]) (vals_ints t)
theorem tup_key {pins : List (Addr × Obj)} {σ : L2.St} {H : Hp} {s : Shared} {a : Addr} {ns : List Int} (I : Inv X pins σ H s) (h : SqT X.K H a (ns.map V.int)) : (tupleKind (intKind X.prog X.w)).is s.heap ns a := by
  obtain ⟨its, rv, ⟨o, h1, h2, n, h3⟩, _⟩ := I.tuple h
  exact ⟨o, its.toArray, n, h1, h2, h3, by simpa using vals_ints rv⟩
theorem keysOf_cons {p : D × D} {ds : List (D × D)} {ks : List (List Int)} (h : keysOf (p :: ds) = some ks) : ∃ a b, rowOf p.1 = some a ∧ keysOf ds = some b ∧ ks = a :: b := by
  rw [keysOf] at h
  split at h
  · rename_i a b e1 e2
    cases h
    exact ⟨a, b, e1, e2, rfl⟩
  · cases h
theorem nestA_ints : ∀ r : List Int, nestA (r.map PyData.int) = true ∧ PyData.depthAll (r.map PyData.int) = 0
  | [] => ⟨by simp only [List.map_nil, nestA], by simp only [List.map_nil, PyData.depthAll]⟩
  | i :: r => by
    have q := nestA_ints r
    refine ⟨?_, ?_⟩
    · simp only [List.map_cons, nestA, nestI, q.1, Bool.and_self]
    · simp only [List.map_cons, PyData.depthAll, PyData.depth, q.2, Nat.max_self]
theorem isT_row (r : List Int) : isT (.tuple (r.map PyData.int)) = true := by
  simp only [isT, nestA_ints r]
  rfl
theorem eqv_rows (r t : List Int) : PyData.eqv (.tuple (r.map PyData.int)) (.tuple (t.map PyData.int)) = decide (r = t) := by
  rw [PyData.eqv]
  exact PySem.W.ked_eqvAll r t
theorem look_row : ∀ {ds : List (D × D)} {ks : List (List Int)} (r : List Int), keysOf ds = some ks → (ds.all fun p => isT p.1) = true ∧ (lookD ds (.tuple (r.map PyData.int))).isSome = decide (r ∈ ks)
  | [], ks, r, h => by
    have : ks = [] := by simpa [keysOf] using h.symm
    subst this
    exact ⟨rfl, by simp [lookD]⟩
  | p :: ds, ks, r, h => by
    obtain ⟨a, b, e1, e2, rfl⟩ := keysOf_cons h
    have q := look_row r e2
    have ep := rowOf_inv e1
    refine ⟨by rw [List.all_cons, q.1, ep, isT_row]; rfl, ?_⟩
    have l1 : lookD (p :: ds) (.tuple (r.map PyData.int)) = if a = r then some p.2 else lookD ds (.tuple (r.map PyData.int)) := by
      unfold lookD
      rw [List.find?_cons, ep, eqv_rows]
      by_cases z : a = r <;> simp [z]
    rw [l1]
    by_cases z : a = r
    · simp [z]
    · rw [if_neg z, q.2]
      have z' : ¬ r = a := fun w => z w.symm
      simp [z']
theorem in_gen (hu : X.A.units + 64 < cLine) {pins : List (Addr × Obj)} {s : Shared} {σ : L2.St} {H Hv : Hp} {x y : V} {v u : Value} {Q : VK} {dx : D} {ds : List (D × D)} {neg : Bool} (I : Inv X pins σ H s) (rx : RelV x v) (ry : RelV y u) (e : Same Hv H) (hx : Dq X.K Hv x dx) (hy : Dq X.K Hv y (.dict ds))
    (c : clsK dx ds = true) (q : Q (.bl (if neg then !(lookD ds dx).isSome else (lookD ds dx).isSome)) H) : wpAny (model X.prog X.w) X.A (compareOp (if neg then .NotIn else .In) v u) (EP X pins σ Q) X.xe s := by
  obtain ⟨a, ep, ms, rfl, h1, h2, h3, h4, h5⟩ := hy.dict_inv (clsK_all c)
  cases ry
  have c2 := c
  simp only [clsK, Bool.or_eq_true, Bool.and_eq_true] at c2
  rcases c2 with c2 | c2
  · obtain ⟨i, rfl⟩ := isI_inv c2.1
    have ex := hx.int_inv
    subst ex
    obtain ⟨t, rfl⟩ := rx
    obtain ⟨z, kvs, k1, k2, k3⟩ := dict_I I (e _ _ h1) h2 h4 h5 c2.2
    have hkey : (intKind X.prog X.w).is i (.int i t) = true := by show Value.isInt i (.int i t) = true; simp [Value.isInt]
    have ee : (valueAt kvs i).isSome = (lookD ds (.int i)).isSome := by
      rcases look_I k2 k3 h3 with ⟨l1, l2⟩ | ⟨y, v, w, l1, l2, _⟩ <;> rw [l1, l2] <;> rfl
    cases neg with
    | true => exact wpAny_notIn_of hkey z k1.mapOf ⟨.bl _, H, I.tok _, rfl, by rw [ee]; exact q⟩
    | false => exact wpAny_in_of hkey z k1.mapOf ⟨.bl _, H, I.tok _, rfl, by rw [ee]; exact q⟩
  · obtain ⟨b, rfl, rfl, hkey⟩ := keyT_is I e hx c2.1 rx
    obtain ⟨z, xs, k1, k2, k3, k4⟩ := dict_T I e (e _ _ h1) h2 h4 h5 c2.2
    have hroom : (nestedKind X.prog X.w).room X.A.in1 := by
      show X.A.in1.units + 8 < cLine
      have : X.A.in1.units = X.A.units + 1 := rfl
      omega
    have ee : (atKey xs (keyN dx)).isSome = (lookD ds dx).isSome := by
      rcases look_T k2 k3 h3 (isT_nest c2.1) (dkOk_nest h5) with ⟨l1, l2⟩ | ⟨y, v, w, l1, l2, _⟩ <;> rw [l1, l2] <;> rfl
    cases neg with
    | true => exact wpAny_notIn_heap hroom hkey z k1 ⟨.bl _, H, I.tok _, rfl, by rw [ee]; exact q⟩
    | false => exact wpAny_in_heap hroom hkey z k1 ⟨.bl _, H, I.tok _, rfl, by rw [ee]; exact q⟩
theorem in_dict (hu : X.A.units + 64 < cLine) {pins : List (Addr × Obj)} {s : Shared} {σ : L2.St} {H Hv : Hp} {x y : V} {v u : Value} {Q : VK} {dx : D} {ds : List (D × D)} {b neg : Bool} (I : Inv X pins σ H s) (rx : RelV x v) (ry : RelV y u) (e : Same Hv H) (hx : Dq X.K Hv x dx) (hy : Dq X.K Hv y (.dict ds))
    (hb : inD dx (.dict ds) = some b) (q : Q (.bl (if neg then !b else b)) H) : wpAny (model X.prog X.w) X.A (compareOp (if neg then .NotIn else .In) v u) (EP X pins σ Q) X.xe s := by
  simp only [inD] at hb
  split at hb
  · rename_i r ks h1 h2
    cases hb
    obtain rfl := rowOf_inv h1
    have l := look_row r h2
    have c : clsK (.tuple (r.map PyData.int)) ds = true := by
      unfold clsK
      rw [isT_row, l.1]
      simp
    exact in_gen hu I rx ry e hx hy c (by rw [l.2]; exact q)
  · split at hb
    · rename_i c
      cases hb
      exact in_gen hu I rx ry e hx hy c q
    · cases hb
theorem inD_ok (hu : X.A.units + 64 < cLine) {pins : List (Addr × Obj)} {s : Shared} {σ : L2.St} {H Hv : Hp} {x y : V} {v u : Value} {Q : VK} {dx dy : D} {b neg : Bool} (I : Inv X pins σ H s) (rx : RelV x v) (ry : RelV y u) (e : Same Hv H) (hx : Dq X.K Hv x dx) (hy : Dq X.K Hv y dy)
    (hb : inD dx dy = some b) (q : Q (.bl (if neg then !b else b)) H) : wpAny (model X.prog X.w) X.A (compareOp (if neg then .NotIn else .In) v u) (EP X pins σ Q) X.xe s := by
  cases dy with
  | list ys =>
    simp only [inD, Option.ite_none_right_eq_some, Bool.and_eq_true, Option.some.injEq] at hb
    obtain ⟨⟨f, g⟩, rfl⟩ := hb
    obtain ⟨as, r1⟩ := reads_of I (hx.mono e) (flat_plain f).1 rx
    have pl : (PyData.list ys).plain = true := by
      simp only [PyData.plain]
      exact (flatAll_plain g).1
    obtain ⟨bs, r2⟩ := reads_of I (hy.mono e) pl ry
    have hm : min (PyData.depthAll ys) dx.depth ≤ dx.depth := Nat.min_le_right _ _
    have h1 := (flat_plain f).2
    cases neg with
    | true => exact SeqAt.notIn_list_data r2 r1 (flatAll_plain g).1 (flat_plain f).1 (by omega) ⟨.bl _, H, I, rfl, q⟩
    | false => exact SeqAt.in_list_data r2 r1 (flatAll_plain g).1 (flat_plain f).1 (by omega) ⟨.bl _, H, I, rfl, q⟩
  | tuple ys =>
    simp only [inD, Option.ite_none_right_eq_some, Bool.and_eq_true, Option.some.injEq] at hb
    obtain ⟨⟨f, g⟩, rfl⟩ := hb
    obtain ⟨as, r1⟩ := reads_of I (hx.mono e) (flat_plain f).1 rx
    have pl : (PyData.tuple ys).plain = true := by
      simp only [PyData.plain]
      exact (flatAll_plain g).1
    obtain ⟨bs, r2⟩ := reads_of I (hy.mono e) pl ry
    have hm : min (PyData.depthAll ys) dx.depth ≤ dx.depth := Nat.min_le_right _ _
    have h1 := (flat_plain f).2
    cases neg with
    | true => exact SeqAt.notIn_tuple_data r2 r1 (flatAll_plain g).1 (flat_plain f).1 (by omega) ⟨.bl _, H, I, rfl, q⟩
    | false => exact SeqAt.in_tuple_data r2 r1 (flatAll_plain g).1 (flat_plain f).1 (by omega) ⟨.bl _, H, I, rfl, q⟩
  | str z =>
    cases dx with
    | str w =>
      simp only [inD, Option.some.injEq] at hb
      subst hb
      cases neg with
      | true => exact op_notin_str pins s σ H x y v u Q I rx ry ⟨w, z, hx.str_inv, hy.str_inv, q⟩
      | false => exact op_in_str pins s σ H x y v u Q I rx ry ⟨w, z, hx.str_inv, hy.str_inv, q⟩
    | _ => simp [inD] at hb
  | dict ds => exact in_dict hu I rx ry e hx hy hb q
  | _ => simp [inD] at hb
theorem rel_none {x : V} {Hv : Hp} {dx : D} (hx : Dq X.K Hv x dx) : decide (x = .non) = isNone dx := by
  cases hx <;> rfl
theorem cm_of (hu : X.A.units + 64 < cLine) {o : Cm} : OpR X (compareOp (cmA o)) (rCm X.K o) := by
  intro pins s σ H x y v u Q I rx ry h
  obtain ⟨Hv, dx, dy, b, e, hx, hy, hb, q⟩ := h
  cases o with
  | lt =>
    rcases ltD_cases hb with ⟨i, j, rfl, rfl, rfl⟩ | ⟨f, g, al, nn, rfl⟩
    · exact op_lt pins s σ H x y v u Q I rx ry ⟨i, j, hx.int_inv, hy.int_inv, q⟩
    · obtain ⟨as, r1⟩ := reads_of I (hx.mono e) (flat_plain f).1 rx
      obtain ⟨bs, r2⟩ := reads_of I (hy.mono e) (flat_plain g).1 ry
      have h1 := (flat_plain f).2
      have hm : min dx.depth dy.depth ≤ dx.depth := Nat.min_le_left _ _
      exact W.lt_data r1 r2 al nn (by omega) ⟨.bl _, H, I, rfl, q⟩
  | gt =>
    rcases ltD_cases hb with ⟨i, j, rfl, rfl, rfl⟩ | ⟨f, g, al, nn, rfl⟩
    · exact op_gt pins s σ H x y v u Q I rx ry ⟨j, i, hx.int_inv, hy.int_inv, q⟩
    · obtain ⟨as, r1⟩ := reads_of I (hx.mono e) (flat_plain g).1 rx
      obtain ⟨bs, r2⟩ := reads_of I (hy.mono e) (flat_plain f).1 ry
      have h1 := (flat_plain f).2
      have hm : min dx.depth dy.depth ≤ dy.depth := Nat.min_le_right _ _
      exact W.gt_data r1 r2 (by rw [W.alike_comm]; exact al) (ne_none_sym al nn) (by omega) ⟨.bl _, H, I, rfl, q⟩
  | le =>
    rcases leD_cases hb with ⟨i, j, rfl, rfl, rfl⟩ | ⟨f, g, al, nn, rfl⟩
    · exact op_le pins s σ H x y v u Q I rx ry ⟨i, j, hx.int_inv, hy.int_inv, q⟩
    · obtain ⟨as, r1⟩ := reads_of I (hx.mono e) (flat_plain f).1 rx
      obtain ⟨bs, r2⟩ := reads_of I (hy.mono e) (flat_plain g).1 ry
      have h1 := (flat_plain f).2
      have hm : min dx.depth dy.depth ≤ dx.depth := Nat.min_le_left _ _
      exact W.le_data r1 r2 (by rw [W.alike_comm]; exact al) (ne_none_sym al nn) (by omega) ⟨.bl _, H, I, rfl, q⟩
  | ge =>
    rcases leD_cases hb with ⟨i, j, rfl, rfl, rfl⟩ | ⟨f, g, al, nn, rfl⟩
    · exact op_ge pins s σ H x y v u Q I rx ry ⟨j, i, hx.int_inv, hy.int_inv, q⟩
    · obtain ⟨as, r1⟩ := reads_of I (hx.mono e) (flat_plain g).1 rx
      obtain ⟨bs, r2⟩ := reads_of I (hy.mono e) (flat_plain f).1 ry
      have h1 := (flat_plain f).2
      have hm : min dx.depth dy.depth ≤ dy.depth := Nat.min_le_right _ _
      exact W.ge_data r1 r2 al nn (by omega) ⟨.bl _, H, I, rfl, q⟩
  | eq =>
    obtain ⟨f, g, rfl⟩ := eqD_cases hb
    exact cm_eq (neg := false) hu I rx ry e hx hy f g q
  | ne =>
    simp only [cmD, Option.map_eq_some_iff] at hb
    obtain ⟨c, hc, rfl⟩ := hb
    obtain ⟨f, g, rfl⟩ := eqD_cases hc
    exact cm_eq (neg := true) hu I rx ry e hx hy f g q
  | isIn => exact inD_ok (neg := false) hu I rx ry e hx hy hb q
  | notIn =>
    simp only [cmD, Option.map_eq_some_iff] at hb
    obtain ⟨c, hc, rfl⟩ := hb
    exact inD_ok (neg := true) hu I rx ry e hx hy hc q
  | isN =>
    cases dy with
    | none =>
      simp only [cmD, Option.some.injEq] at hb
      subst hb
      exact op_isN pins s σ H x y v u Q I rx ry ⟨hy.none_inv, by rw [rel_none hx]; exact q⟩
    | bool c =>
      cases dx <;> simp only [cmD, reduceCtorEq, Option.some.injEq] at hb
      subst hb
      exact op_isBl pins s σ H x y v u Q I rx ry ⟨_, _, hx.bool_inv, hy.bool_inv, q⟩
    | _ => simp [cmD] at hb
  | notN =>
    cases dy with
    | none =>
      simp only [cmD, Option.some.injEq] at hb
      subst hb
      exact op_notN pins s σ H x y v u Q I rx ry ⟨hy.none_inv, by rw [rel_none hx]; exact q⟩
    | bool c =>
      cases dx <;> simp only [cmD, reduceCtorEq, Option.some.injEq] at hb
      subst hb
      exact op_notBl pins s σ H x y v u Q I rx ry ⟨_, _, hx.bool_inv, hy.bool_inv, q⟩
    | _ => simp [cmD] at hb

/-! ### places, slices -/
theorem atI_both {H : Hp} {us : List V} {xs : List D} {i : Int} {r : D} (h : DqAll X.K H us xs) (e : atI xs i = some r) : ∃ v, atI us i = some v ∧ Dq X.K H v r := by
  unfold atI at e ⊢
  rw [h.length]
  obtain ⟨j, h1, h2⟩ := Option.bind_eq_some_iff.mp e
  obtain ⟨v, h3, h4⟩ := h.get h2
  exact ⟨v, by rw [h1]; exact h3, h4⟩
/-- d[k] -/
def rIxG (K : PySem.W.Frag) : R2 := fun x y H Q => ∃ Hv ks kd r, Same Hv H ∧ Dq K Hv x (.dict ks) ∧ Dq K Hv y kd ∧ clsK kd ks = true ∧ lookD ks kd = some r ∧ ∀ v, Dq K Hv v r → Q v H
theorem ix_gen (hu : X.A.units + 64 < cLine) : IxR X (rIxG X.K) := by
  intro value slice pins s σ H x y v u Q I rx ry h hs
  obtain ⟨Hv, ks, kd, r, e, hx, hy, c, l, q⟩ := h
  obtain ⟨a, ep, ms, rfl, h1, h2, h3, h4, h5⟩ := hx.dict_inv (clsK_all c)
  cases rx
  have c2 := c
  simp only [clsK, Bool.or_eq_true, Bool.and_eq_true] at c2
  rcases c2 with c2 | c2
  · obtain ⟨i, rfl⟩ := isI_inv c2.1
    have ex := hy.int_inv
    subst ex
    obtain ⟨t, rfl⟩ := ry
    obtain ⟨z, kvs, k1, k2, k3⟩ := dict_I I (e _ _ h1) h2 h4 h5 c2.2
    have hkey : (intKind X.prog X.w).is i (.int i t) = true := by show Value.isInt i (.int i t) = true; simp [Value.isInt]
    rcases look_I k2 k3 h3 with ⟨l1, _⟩ | ⟨y, v, w, l1, l2, rv, dv⟩
    · rw [l] at l1; cases l1
    · rw [l] at l1
      cases l1
      exact tail_any k1.mapOf.typeIs slot_dict_getitem.lookup (wpAny_getItem_of hkey k1.mapOf l2 ⟨v, H, I.tok _, rv, q v dv⟩) hs
  · obtain ⟨b, rfl, rfl, hkey⟩ := keyT_is I e hy c2.1 ry
    obtain ⟨z, xs, k1, k2, k3, k4⟩ := dict_T I e (e _ _ h1) h2 h4 h5 c2.2
    have hroom : (nestedKind X.prog X.w).room X.A.in1 := by
      show X.A.in1.units + 8 < cLine
      have : X.A.in1.units = X.A.units + 1 := rfl
      omega
    rcases look_T k2 k3 h3 (isT_nest c2.1) (dkOk_nest h5) with ⟨l1, _⟩ | ⟨y, v, w, l1, l2, rv, dv⟩
    · rw [l] at l1; cases l1
    · rw [l] at l1
      cases l1
      exact tail_any k1.typeIs slot_dict_getitem.lookup (wpAny_getItem_heap hroom hkey k1 l2 ⟨v, H, I.tok _, rv, q v dv⟩) hs
def rIxA (K : PySem.W.Frag) : R2 := fun x y H Q => rIx K x y H Q ∨ rIxG K x y H Q
theorem ix_any (hu : X.A.units + 64 < cLine) : IxR X (rIxA X.K) := ix_seq.or (ix_gen hu)
theorem ix_ready {P : Addr → Prop} {H : Hp} {x y : V} {dx dy r : D} {Q : VK} (hx : Dq X.K (msk P H) x dx) (hy : Dq X.K (msk P H) y dy) (e : idxD dx dy = some r) (q : ∀ v, Dq X.K (msk P H) v r → Q v H) : rIxA X.K x y H Q := by
  cases dx with
  | list xs =>
    cases dy <;> simp only [idxD, reduceCtorEq] at e
    obtain ⟨a, us, rfl, h1, h2⟩ := hx.list_inv
    obtain ⟨w, h3, h4⟩ := atI_both h2 e
    exact .inl (.inl ⟨a, us, _, w, rfl, hy.int_inv, (rd_of h1), h3, q w h4⟩)
  | tuple xs =>
    cases dy <;> simp only [idxD, reduceCtorEq] at e
    obtain ⟨a, us, rfl, h1, h2⟩ := hx.tup_inv
    obtain ⟨w, h3, h4⟩ := atI_both h2 e
    exact .inl (.inr (.inl ⟨a, us, _, w, rfl, hy.int_inv, sq_of h1, h3, q w h4⟩))
  | str z =>
    cases dy <;> simp only [idxD, reduceCtorEq, Option.ite_none_right_eq_some, Option.map_eq_some_iff] at e
    obtain ⟨e1, c, e2, rfl⟩ := e
    exact .inl (.inr (.inr ⟨z, _, c, hx.str_inv, hy.int_inv, e1, e2, q _ (.str _)⟩))
  | dict ks =>
    have e2 : (if clsK dy ks then lookD ks dy else none) = some r := by cases dy <;> exact e
    simp only [Option.ite_none_right_eq_some] at e2
    exact .inr ⟨_, ks, dy, r, msk_le, hx, hy, e2.1, e2.2, q⟩
  | _ => simp [idxD] at e
theorem ix_cell {P : Addr → Prop} {H : Hp} {a : Addr} {vs : List V} {ds : List D} {y : V} {dy r : D} {Q : VK} (ha : H a = some (.lst vs)) (hd : DqAll X.K (msk P H) vs ds) (hy : Dq X.K (msk P H) y dy) (e : idxD (.list ds) dy = some r) (q : ∀ v, Dq X.K (msk P H) v r → Q v H) : rIxA X.K (.ref a) y H Q := by
  cases dy <;> simp only [idxD, reduceCtorEq] at e
  obtain ⟨w, h3, h4⟩ := atI_both hd e
  exact .inl (.inl ⟨a, vs, _, w, rfl, hy.int_inv, .inl (.inl ha), h3, q w h4⟩)
def rSlD (K : PySem.W.Frag) : V → Option Int → Option Int → Hp → VK → Prop := fun x lo hi H Q => ∃ P dx r, Occ P H ∧ Dq K (msk P H) x dx ∧ slcD dx lo hi = some r ∧ Done K P H r Q
theorem cut_both {H : Hp} {us : List V} {xs : List D} {lo hi : Option Int} (h : DqAll X.K H us xs) : DqAll X.K H (cutV us lo hi) (cutL xs lo hi) := by
  unfold cutV cutL
  rw [h.length]
  exact (h.drop _).take _
theorem cut_whole {xs : List D} {lo hi : Option Int} (h : HT.sIx xs.length 0 lo = 0 ∧ HT.sIx xs.length xs.length hi = xs.length) : cutL xs lo hi = xs := by
  unfold cutL
  rw [h.1, h.2]
  simp
theorem sl_of : SlR X (rSlD X.K) := by
  intro pins s σ H x v vl vu lo hi sl Q I rx hs pl pu h
  obtain ⟨P, dx, r, hP, hx, e, g⟩ := h
  cases dx <;> simp only [slcD, reduceCtorEq, Option.some.injEq] at e
  case list xs =>
    subst e
    obtain ⟨a, us, rfl, h1, h2⟩ := hx.list_inv
    exact sl_list pins s σ H _ v vl vu lo hi sl Q I rx hs pl pu ⟨a, us, rfl, (rd_of h1), fun p n => g.lst hP n (cut_both h2)⟩
  case tuple xs =>
    subst e
    obtain ⟨a, us, rfl, h1, h2⟩ := hx.tup_inv
    refine sl_tupN pins s σ H _ v vl vu lo hi sl Q I rx hs pl pu ⟨a, us, rfl, sq_of h1, fun z => ?_, fun z => g.tup hP (cut_both h2)⟩
    rw [h2.length] at z
    rw [cut_whole z] at g
    exact g.val hx (fun _ e => by cases e)
  case str z =>
    simp only [Option.ite_none_right_eq_some, Option.some.injEq] at e
    obtain ⟨hz, rfl⟩ := e
    have ev := Dq.str_inv hx
    subst ev
    exact sl_str pins s σ H _ v vl vu lo hi sl Q I rx hs pl pu ⟨z, rfl, hz, g.str⟩
end
end Sw

set_option Elab.async false
set_option linter.all false
set_option maxRecDepth 100000
set_option maxHeartbeats 1000000
namespace Sw
open PySem PySem.Spec PyProof.Rows L2
section
variable {X : Cx}
def rBi (K : PySem.W.Frag) (f : List D → Option D) : List V → Hp → VK → Prop := fun vs H Q => ∃ P ds r, Occ P H ∧ DqAll K (msk P H) vs ds ∧ f ds = some r ∧ Done K P H r Q
theorem one_of {K : PySem.W.Frag} {H : Hp} {vs : List V} {x : D} (h : DqAll K H vs [x]) : ∃ v, vs = [v] ∧ Dq K H v x := by
  cases h with
  | cons h1 h2 => cases h2; exact ⟨_, rfl, h1⟩
theorem two_of {K : PySem.W.Frag} {H : Hp} {vs : List V} {x y : D} (h : DqAll K H vs [x, y]) : ∃ v w, vs = [v, w] ∧ Dq K H v x ∧ Dq K H w y := by
  cases h with
  | cons h1 h2 =>
    obtain ⟨w, rfl, h3⟩ := one_of h2
    exact ⟨_, w, rfl, h1, h3⟩
theorem bi_len : CallR X (.builtin "len") (rBi X.K biLen) := by
  intro pins s σ H vs us Q I r ⟨P, ds, x, hP, hd, e, g⟩
  unfold biLen at e
  split at e
  · rename_i xs
    cases e
    obtain ⟨v, rfl, h1⟩ := one_of hd
    obtain ⟨a, ws, rfl, h2, h3⟩ := h1.list_inv
    exact call_len_seq pins s σ H _ us Q I r ⟨a, ws, rfl, .inl ((rd_of h2)), by rw [h3.length]; exact g.int⟩
  · rename_i xs
    cases e
    obtain ⟨v, rfl, h1⟩ := one_of hd
    obtain ⟨a, ws, rfl, h2, h3⟩ := h1.tup_inv
    exact call_len_seq pins s σ H _ us Q I r ⟨a, ws, rfl, .inr (sq_of h2), by rw [h3.length]; exact g.int⟩
  · rename_i z
    obtain ⟨v, rfl, h1⟩ := one_of hd
    simp only [Option.ite_none_right_eq_some, Option.some.injEq] at e
    obtain ⟨e1, rfl⟩ := e
    exact call_len_str pins s σ H _ us Q I r ⟨z, by rw [h1.str_inv], e1, g.int⟩
  · cases e
theorem bi_tuple : CallR X (.type "tuple") (rBi X.K biTuple) := by
  intro pins s σ H vs us Q I r ⟨P, ds, x, hP, hd, e, g⟩
  unfold biTuple at e
  split at e
  · cases e
    obtain ⟨v, rfl, h1⟩ := one_of hd
    obtain ⟨a, ws, rfl, h2, h3⟩ := h1.list_inv
    exact call_tupN pins s σ H _ us Q I r ⟨a, ws, rfl, .inl ⟨(rd_of h2), g.tup hP h3⟩⟩
  · cases e
    obtain ⟨v, rfl, h1⟩ := one_of hd
    obtain ⟨a, ws, rfl, h2, h3⟩ := h1.tup_inv
    exact call_tupN pins s σ H _ us Q I r ⟨a, ws, rfl, .inr ⟨sq_of h2, g.val h1 (fun _ e => by cases e)⟩⟩
  · cases e
theorem bi_list (hc : X.calm = true) : CallR X (.type "list") (rBi X.K biList) := by
  intro pins s σ H vs us Q I r ⟨P, ds, x, hP, hd, e, g⟩
  unfold biList at e
  split at e
  · cases e
    obtain ⟨v, rfl, h1⟩ := one_of hd
    obtain ⟨a, ws, rfl, h2, h3⟩ := h1.list_inv
    exact call_list_of pins s σ H _ us Q I r ⟨a, ws, rfl, .inl ((rd_of h2)), fun l n => g.lst hP n h3⟩
  · cases e
    obtain ⟨v, rfl, h1⟩ := one_of hd
    obtain ⟨a, ws, rfl, h2, h3⟩ := h1.tup_inv
    exact call_list_of pins s σ H _ us Q I r ⟨a, ws, rfl, .inr (sq_of h2), fun l n => g.lst hP n h3⟩
  · rename_i ks
    simp only [Option.ite_none_right_eq_some, Option.some.injEq] at e
    obtain ⟨c, rfl⟩ := e
    simp only [Bool.and_eq_true, decide_eq_true_eq] at c
    obtain ⟨c, few⟩ := c
    obtain ⟨v, rfl, h1⟩ := one_of hd
    obtain ⟨a, ep, ms, rfl, g1, g2, g3, g4, g5⟩ := h1.dict_inv c
    rw [Vals.ref1 r]
    obtain ⟨z, o, es, r1, r2, r3, r4⟩ := raw_of I (msk_le _ _ g1)
    have lo : es.size ≤ sizeLine := by
      have e0 : (ms.map (·.2.1)).length = (ks.map (·.1)).length := g2.length
      rw [List.length_map, List.length_map] at e0
      have e1 : ms.length = es.size := by rw [← Array.length_toList]; exact Paired.length r4
      rw [sizeLine_eq]
      omega
    refine W.kdl_call (KdlSrc.rawDict (es := es) (ep := ep) z) (I.ok.hd hc) ⟨o, r1, r2, r3⟩ lo fun h' tk acc c2 hk hS hacc => ?_
    have nn := I.hok.fresh (Nat.le_refl s.heap.objs.size)
    have ev := (ent_vals r4).1
    have ea : acc.toList = es.toList.map (·.key) := by
      refine List.ext_getElem? fun j => ?_
      rw [List.getElem?_map, Array.getElem?_toList, Array.getElem?_toList]
      by_cases hj : j < es.size
      · have hj' : j < acc.size := by rw [hacc.1]; exact hj
        obtain ⟨hi, ex⟩ := hacc.2 j acc[j] (Array.getElem?_eq_getElem hj')
        rw [Array.getElem?_eq_getElem hj', Array.getElem?_eq_getElem hj, ex]
        rfl
      · rw [Array.getElem?_eq_none (by rw [hacc.1]; omega), Array.getElem?_eq_none (by omega)]
        rfl
    have rv : Vals (ms.map (·.2.1)) acc.toList := by rw [ea]; exact ev
    refine ⟨.ref s.heap.objs.size, upd H s.heap.objs.size (.lst (ms.map (·.2.1))), I.laid (t' := tk) hk (Nat.le_refl _) ⟨by rw [rv.length, Array.length_toList, hacc.1]; exact lo, acc.toList, c2, rv, by rw [Array.toArray_toList]; exact hS⟩, rfl, g.lst hP nn g2⟩
  · cases e
theorem bi_min2 (hc : X.calm = true) : CallR X (.builtin "min") (rBi X.K biMin2) := by
  intro pins s σ H vs us Q I r ⟨P, ds, x, hP, hd, e, g⟩
  unfold biMin2 at e
  split at e
  · cases e
    obtain ⟨v, w, rfl, h1, h2⟩ := two_of hd
    exact call_min2 hc pins s σ H _ us Q I r ⟨_, _, by rw [h1.int_inv, h2.int_inv], g.int⟩
  · cases e
theorem bi_max2 (hc : X.calm = true) : CallR X (.builtin "max") (rBi X.K biMax2) := by
  intro pins s σ H vs us Q I r ⟨P, ds, x, hP, hd, e, g⟩
  unfold biMax2 at e
  split at e
  · cases e
    obtain ⟨v, w, rfl, h1, h2⟩ := two_of hd
    exact call_max2 hc pins s σ H _ us Q I r ⟨_, _, by rw [h1.int_inv, h2.int_inv], g.int⟩
  · cases e
def rSumT (K : PySem.W.Frag) : List V → Hp → VK → Prop := fun vs H Q => ∃ (a : Addr) (ns : List Int), vs = [V.ref a] ∧ SqT K H a (ns.map V.int) ∧ Q (.int ns.sum) H
theorem cr_sumT (hc : X.calm = true) : CallR X (.builtin "sum") (rSumT X.K) := by
  intro pins s σ H vs us Q I r h
  obtain ⟨a, ns, rfl, hs, q⟩ := h
  obtain ⟨its, rv, p, _⟩ := I.tuple hs
  rw [Vals.ref1 r]
  have hl : s.heap.IsTuple a its.toArray := p
  obtain ⟨xs, e⟩ := rv.ints.allInts.items
  have hn : numsOf (intItems xs).toList = ns := by rw [← e]; exact rv.ints.numsOf
  rw [nums_intItems] at hn
  rw [e] at hl
  refine PySem.W.ktm_sumG (I.ok.hd hc) hl fun h' tk t' hk => ?_
  rw [preSum_eq, List.take_of_length_le (by simp), hn]
  exact ⟨.int _, H, I.kept hk, ⟨_, rfl⟩, q⟩
theorem bi_sum (hc : X.calm = true) : CallR X (.builtin "sum") (rBi X.K biSum) := by
  intro pins s σ H vs us Q I r ⟨P, ds, x, hP, hd, e, g⟩
  unfold biSum at e
  split at e
  · obtain ⟨ns, e1, rfl⟩ := Option.map_eq_some_iff.mp e
    obtain ⟨v, rfl, h1⟩ := one_of hd
    obtain ⟨a, ws, rfl, h2, h3⟩ := h1.list_inv
    exact cr_sum hc pins s σ H _ us Q I r ⟨a, ns, rfl, by rw [← h3.ints_inv e1]; exact (rd_of h2), g.int⟩
  · obtain ⟨ns, e1, rfl⟩ := Option.map_eq_some_iff.mp e
    obtain ⟨v, rfl, h1⟩ := one_of hd
    obtain ⟨a, ws, rfl, h2, h3⟩ := h1.tup_inv
    exact cr_sumT hc pins s σ H _ us Q I r ⟨a, ns, rfl, by rw [← h3.ints_inv e1]; exact (sq_of h2), g.int⟩
  · cases e
theorem bi_all (hc : X.calm = true) : CallR X (.builtin "all") (rBi X.K biAll) := by
  intro pins s σ H vs us Q I r ⟨P, ds, x, hP, hd, e, g⟩
  unfold biAll at e
  split at e
  · obtain ⟨ns, e1, rfl⟩ := Option.map_eq_some_iff.mp e
    obtain ⟨v, rfl, h1⟩ := one_of hd
    obtain ⟨a, ws, rfl, h2, h3⟩ := h1.list_inv
    exact cr_all hc pins s σ H _ us Q I r ⟨a, ns, rfl, by rw [← h3.bools_inv e1]; exact (rd_of h2), g.bool⟩
  · cases e
theorem bi_any (hc : X.calm = true) : CallR X (.builtin "any") (rBi X.K biAny) := by
  intro pins s σ H vs us Q I r ⟨P, ds, x, hP, hd, e, g⟩
  unfold biAny at e
  split at e
  · obtain ⟨ns, e1, rfl⟩ := Option.map_eq_some_iff.mp e
    obtain ⟨v, rfl, h1⟩ := one_of hd
    obtain ⟨a, ws, rfl, h2, h3⟩ := h1.list_inv
    exact cr_any hc pins s σ H _ us Q I r ⟨a, ns, rfl, by rw [← h3.bools_inv e1]; exact (rd_of h2), g.bool⟩
  · cases e
theorem bi_int : CallR X (.type "int") (rBi X.K biInt) := by
  intro pins s σ H vs us Q I r ⟨P, ds, x, hP, hd, e, g⟩
  unfold biInt at e
  split at e
  · cases e
    obtain ⟨v, rfl, h1⟩ := one_of hd
    exact call_int1 pins s σ H _ us Q I r (.inl ⟨_, by rw [h1.int_inv], g.int⟩)
  · cases e
    obtain ⟨v, rfl, h1⟩ := one_of hd
    exact call_int1 pins s σ H _ us Q I r (.inr ⟨_, by rw [h1.bool_inv], g.int⟩)
  · simp only [Option.ite_none_right_eq_some, Option.map_eq_some_iff] at e
    obtain ⟨hl, n, hn, rfl⟩ := e
    obtain ⟨v, rfl, h1⟩ := one_of hd
    exact call_int_str pins s σ H _ us Q I r ⟨_, n, by rw [Dq.str_inv h1], hn, hl, g.int⟩
  · cases e
theorem bi_str : CallR X (.type "str") (rBi X.K biStr) := by
  intro pins s σ H vs us Q I r ⟨P, ds, x, hP, hd, e, g⟩
  unfold biStr at e
  split at e
  · simp only [Option.ite_none_right_eq_some, Option.some.injEq] at e
    obtain ⟨e1, rfl⟩ := e
    obtain ⟨v, rfl, h1⟩ := one_of hd
    exact call_str_int pins s σ H _ us Q I r ⟨_, by rw [h1.int_inv], e1, g.str⟩
  · cases e
theorem bi_divmod : CallR X (.builtin "divmod") (rBi X.K biDivmod) := by
  intro pins s σ H vs us Q I r ⟨P, ds, x, hP, hd, e, g⟩
  unfold biDivmod at e
  split at e
  · simp only [Option.ite_none_right_eq_some, Option.some.injEq] at e
    obtain ⟨e1, rfl⟩ := e
    obtain ⟨v, w, rfl, h1, h2⟩ := two_of hd
    exact call_divN pins s σ H _ us Q I r ⟨_, _, by rw [h1.int_inv, h2.int_inv], e1, g.tup hP (.cons (.int _) (.cons (.int _) .nil))⟩
  · cases e
/-! dict of a list of pairs -/
theorem pair_items {pins : List (Addr × Obj)} {σ : L2.St} {H Hv : Hp} {s : Shared} (I : Inv X pins σ H s) (sm : Same Hv H) : ∀ {ws : List V} {ds : List D} {ks : List (D × D)} {us : List Value}, DqAll X.K Hv ws ds → pairsD ds = some ks → Vals ws us →
    ∃ ps : List (Addr × (V × V) × (Value × Value)), us = ps.map (fun p => Value.ref p.1) ∧ DqAll X.K Hv (ps.map (·.2.1.1)) (ks.map (·.1)) ∧ DqAll X.K Hv (ps.map (·.2.1.2)) (ks.map (·.2)) ∧ (∀ p ∈ ps, s.heap.IsTuple p.1 #[p.2.2.1, p.2.2.2] ∧ RelV p.2.1.1 p.2.2.1) ∧ Vals (ps.map (·.2.1.2)) (ps.map (·.2.2.2))
  | _, _, ks, _, .nil, e, r => by
    have : ks = [] := by simpa [pairsD] using e.symm
    subst this
    cases r
    exact ⟨[], rfl, .nil, .nil, fun p h => (by cases h), .nil⟩
  | _, _, ks, _, .cons (d := d) h1 h2, e, r => by
    unfold pairsD at e
    split at e
    · rename_i e0; cases e0
    · rename_i k y rest e0
      cases e0
      obtain ⟨b, e2, rfl⟩ := Option.map_eq_some_iff.mp e
      cases r with
      | cons ru rr =>
        obtain ⟨ps, q1, q2, q3, q4, q5⟩ := pair_items I sm h2 e2 rr
        obtain ⟨T, zs, rfl, t1, t2⟩ := h1.tup_inv
        obtain ⟨kv, yv, rfl, d1, d2⟩ := two_of t2
        cases ru
        obtain ⟨its, rv, pt, _⟩ := I.tuple (SqT.mono sm t1)
        cases rv with
        | @cons _ ku _ _ rk rv =>
          cases rv with
          | @cons _ yu _ _ ry rn =>
            cases rn
            refine ⟨(T, (kv, yv), (ku, yu)) :: ps, by rw [List.map_cons, ← q1], .cons d1 q2, .cons d2 q3, fun p hp => ?_, .cons ry q5⟩
            rcases List.mem_cons.mp hp with rfl | hp
            · exact ⟨pt, rk⟩
            · exact q4 p hp
    · cases e
theorem pairs_I : ∀ {ps : List (Addr × (V × V) × (Value × Value))} {ks : List (D × D)} {H : Hp}, DqAll X.K H (ps.map (·.2.1.1)) (ks.map (·.1)) → (∀ p ∈ ps, RelV p.2.1.1 p.2.2.1) → (ks.all fun p => isI p.1) = true →
    ∃ ns : List Int, ns.length = ps.length ∧ ns.map PyData.int = ks.map (·.1) ∧ ∀ (j : Nat) (p : Addr × (V × V) × (Value × Value)), ps[j]? = some p → ∃ i : Int, ns[j]? = some i ∧ Value.isInt i p.2.2.1 = true
  | [], [], _, _, _, _ => ⟨[], rfl, rfl, fun j p h => by simp at h⟩
  | [], _ :: _, _, h, _, _ => by rw [List.map_nil, List.map_cons] at h; cases h
  | _ :: _, [], _, h, _, _ => by rw [List.map_nil, List.map_cons] at h; cases h
  | p :: ps, k :: ks, H, h, r, a => by
    rw [List.map_cons, List.map_cons] at h
    cases h with
    | cons h1 h2 =>
      rw [List.all_cons, Bool.and_eq_true] at a
      obtain ⟨ns, q1, q2, q3⟩ := pairs_I h2 (fun p hp => r p (by simp [hp])) a.2
      obtain ⟨i, ei⟩ := isI_inv a.1
      have rp := r p (by simp)
      rw [ei] at h1
      rw [h1.int_inv] at rp
      obtain ⟨t, et⟩ := rp
      refine ⟨i :: ns, by simp [q1], by rw [List.map_cons, List.map_cons, q2, ei], fun j p' hp' => ?_⟩
      cases j with
      | zero =>
        simp only [List.getElem?_cons_zero, Option.some.injEq] at hp'
        subst hp'
        exact ⟨i, rfl, by rw [et]; simp [Value.isInt]⟩
      | succ j => exact q3 j p' (by simpa using hp')
theorem pairs_T {pins : List (Addr × Obj)} {σ : L2.St} {H Hv : Hp} {s : Shared} (I : Inv X pins σ H s) (sm : Same Hv H) : ∀ {ps : List (Addr × (V × V) × (Value × Value))} {ks : List (D × D)}, DqAll X.K Hv (ps.map (·.2.1.1)) (ks.map (·.1)) → (∀ p ∈ ps, RelV p.2.1.1 p.2.2.1) → (ks.all fun p => isT p.1) = true →
    ∃ xs : List (NestedKey × Addr × Value), xs.length = ps.length ∧ xs.map (·.1) = ks.map (fun p => keyN p.1) ∧ xs.map (fun x => V.ref x.2.1) = ps.map (·.2.1.1) ∧ xs.map (·.2.2) = ps.map (·.2.2.2) ∧ (∀ x ∈ xs, (nestedKind X.prog X.w).is s.heap x.1 x.2.1) ∧ ∀ (j : Nat) (p : Addr × (V × V) × (Value × Value)), ps[j]? = some p → ∃ x : NestedKey × Addr × Value, xs[j]? = some x ∧ p.2.2.1 = Value.ref x.2.1 ∧ p.2.2.2 = x.2.2
  | [], [], _, _, _ => ⟨[], rfl, rfl, rfl, rfl, fun x h => (by cases h), fun j p h => by simp at h⟩
  | [], _ :: _, h, _, _ => by rw [List.map_nil, List.map_cons] at h; cases h
  | _ :: _, [], h, _, _ => by rw [List.map_nil, List.map_cons] at h; cases h
  | p :: ps, k :: ks, h, r, a => by
    rw [List.map_cons, List.map_cons] at h
    cases h with
    | cons h1 h2 =>
      rw [List.all_cons, Bool.and_eq_true] at a
      obtain ⟨xs, q1, q2, q3, q4, q5, q6⟩ := pairs_T I sm h2 (fun p hp => r p (by simp [hp])) a.2
      obtain ⟨b, ev, eu, ik⟩ := keyT_is I sm h1 a.1 (r p (by simp))
      refine ⟨(keyN k.1, b, p.2.2.2) :: xs, by simp [q1], by rw [List.map_cons, List.map_cons, q2], by rw [List.map_cons, List.map_cons, q3, ev], by rw [List.map_cons, List.map_cons, q4], fun x hx => ?_, fun j p' hp' => ?_⟩
      · rcases List.mem_cons.mp hx with rfl | hx
        · exact ik
        · exact q5 x hx
      · cases j with
        | zero =>
          simp only [List.getElem?_cons_zero, Option.some.injEq] at hp'
          subst hp'
          exact ⟨_, rfl, eu, rfl⟩
        | succ j => exact q6 j p' (by simpa using hp')
theorem storedAll_new {K : Type} [DecidableEq K] : ∀ {ps acc : List (K × Addr × Value)}, ((acc ++ ps).map (·.1)).Nodup → storedAllH acc ps = acc ++ ps
  | [], acc, _ => by simp [storedAllH]
  | p :: ps, acc, h => by
    have n : atKey acc p.1 = none := by
      unfold atKey
      rw [Option.map_eq_none_iff, List.find?_eq_none]
      intro x hx z
      rw [List.map_append, List.nodup_append] at h
      exact h.2.2 x.1 (List.mem_map.mpr ⟨x, hx, rfl⟩) p.1 (by simp) (by simpa using z)
    have e : storedAllH acc (p :: ps) = storedAllH (storedH acc p.1 p.2.1 p.2.2) ps := rfl
    rw [e, storedH_new n, storedAll_new (by simpa using h)]
    simp
theorem bi_dict (hc : X.calm = true) (hu : X.A.units + 64 < cLine) : CallR X (.type "dict") (rBi X.K biDict) := by
  intro pins s σ H vs us Q I r ⟨P, ds, x, hP, hd, e, g⟩
  unfold biDict at e
  split at e
  · rename_i ls
    split at e
    · rename_i ks hks
      simp only [Option.ite_none_right_eq_some, Option.some.injEq] at e
      obtain ⟨ok, rfl⟩ := e
      obtain ⟨v, rfl, h1⟩ := one_of hd
      obtain ⟨a, ws, rfl, h2, h3⟩ := h1.list_inv
      rw [Vals.ref1 r]
      obtain ⟨its, n, sl, rv, hz, hob⟩ := inv_sq I (rd_of h2)
      obtain ⟨ps, q1, q2, q3, q4, q5⟩ := pair_items I msk_le h3 hks rv
      subst q1
      have hl : ws.length = ps.length := by rw [rv.length, List.length_map]
      have hm : (s.heap.objs.size == sysModules) = false := beq_eq_false_iff_ne.mpr (Nat.ne_of_gt I.big)
      have nn := I.hok.fresh (Nat.le_refl s.heap.objs.size)
      have getp : ∀ {j : Nat} {k w : Value}, (ps.map fun (p : Addr × (V × V) × (Value × Value)) => p.2.2)[j]? = some (k, w) → ∃ p, ps[j]? = some p ∧ k = p.2.2.1 ∧ w = p.2.2.2 := fun {j k w} e => by
        rw [List.getElem?_map, Option.map_eq_some_iff] at e
        obtain ⟨p, e1, e2⟩ := e
        exact ⟨p, e1, by rw [e2], by rw [e2]⟩
      have PA := PairArg.list (prog := X.prog) (w := X.w) a ((ps.map fun p => Value.ref p.1).toArray) (fun j => ((ps[j]?).map fun (p : Addr × (V × V) × (Value × Value)) => p.1).getD 0) (ps.map fun (p : Addr × (V × V) × (Value × Value)) => p.2.2)
      have OK : PlainSeq "list" s.heap a ((ps.map fun p => Value.ref p.1).toArray) ∧ PairItems s.heap ((ps.map fun p => Value.ref p.1).toArray) (fun j => ((ps[j]?).map fun (p : Addr × (V × V) × (Value × Value)) => p.1).getD 0) (ps.map fun (p : Addr × (V × V) × (Value × Value)) => p.2.2) := by
        refine ⟨⟨_, n, hob, rfl, rfl, rfl⟩, by simp, fun j k w e => ?_⟩
        obtain ⟨p, e1, rfl, rfl⟩ := getp e
        refine ⟨by simp [e1], ?_⟩
        dsimp only
        rw [e1]
        exact .inl (q4 p (List.mem_of_getElem? e1)).1
      have fin : ∀ (h' : Heap) (tk : Nat) (ep : Nat) (ms : List (Int × V × V)), (∀ b o, s.heap.get? b = some o → h'.get? b = some o) → ObjOk X.prog X.w H h' s.heap.objs.size (dE s.heap.objs.size ep ms) → DqAll X.K (msk P H) (ms.map (·.2.1)) (ks.map (·.1)) → DqAll X.K (msk P H) (ms.map (·.2.2)) (ks.map (·.2)) → ms.map (·.1) = ks.map (fun p => hk p.1) →
          EP X pins σ Q (.ref s.heap.objs.size) { s with heap := h', toks := tk } := fun h' tk ep ms kp t1 t2 t3 t4 => by
        refine ⟨.ref s.heap.objs.size, upd H s.heap.objs.size (dE s.heap.objs.size ep ms), I.laid (t' := tk) (o := dE s.heap.objs.size ep ms) kp (Nat.le_refl _) (show ObjOk X.prog X.w (upd H s.heap.objs.size (dE s.heap.objs.size ep ms)) h' s.heap.objs.size (dE s.heap.objs.size ep ms) from t1), rfl, ?_⟩
        have up : Same (msk P H) (msk P (upd H s.heap.objs.size (dE s.heap.objs.size ep ms))) := same_msk2 (Same.upd nn)
        exact g _ _ (Same.upd nn) (.dgn (msk_some.mpr ⟨hP.free nn, upd_same⟩) (t2.mono up) (t3.mono up) t4 ok) (fun ys e => by cases e)
      have okc := ok
      simp only [dkOk, clsAll, Bool.and_eq_true, Bool.or_eq_true] at okc
      rcases okc.1 with al | al
      · obtain ⟨ns, n1, n2, n3⟩ := pairs_I q2 (fun p hp => (q4 p hp).2) al
        let kvs : List (Int × Value) := ns.zip (ps.map (·.2.2.2))
        have kv1 : kvs.map (·.1) = ns := by rw [List.map_fst_zip (by simp [n1])]
        have kv2 : kvs.map (·.2) = ps.map (·.2.2.2) := by rw [List.map_snd_zip (by simp [n1])]
        have ki : kvs.map (fun p => PyData.int p.1) = ks.map (·.1) := by
          rw [← n2, ← kv1, List.map_map]; rfl
        have nd : (kvs.map (·.1)).Nodup := by
          have nk := freshK_nodup (dkOk_nest ok) okc.2
          have e : ks.map (fun p => keyN p.1) = (kvs.map (·.1)).map NestedKey.num := by
            have : ks.map (fun p => keyN p.1) = (ks.map (·.1)).map keyN := by rw [List.map_map]; rfl
            rw [this, ← ki, List.map_map, List.map_map]
            exact List.map_congr_left fun p _ => by simp only [Function.comp, keyN]
          rw [e] at nk
          exact List.Pairwise.of_map NestedKey.num (fun _ _ hne e => hne (congrArg NestedKey.num e)) nk
        refine call_dict_pairs (knd := intKind X.prog X.w) (kvs := kvs) PA (I.ok.hd hc) OK ⟨by simp [kvs, n1], fun j k w e => ?_⟩ (by rw [List.length_map, ← hl]; exact hz) (fun h' tk hd' kp => ?_)
        · obtain ⟨p, e1, rfl, rfl⟩ := getp e
          obtain ⟨i, e2, e3⟩ := n3 j p e1
          refine ⟨i, ?_, e3⟩
          show (ns.zip (ps.map (·.2.2.2)))[j]? = _
          rw [List.getElem?_zip_eq_some]
          exact ⟨e2, by rw [List.getElem?_map, e1]; rfl⟩
        · rw [merged_nil_of_nodup _ nd] at hd'
          obtain ⟨ep', ms', t1, t2, t3, t4⟩ := told_I (H := H) (Hv := msk P H) (K := X.K) hm hd' ki (by rw [kv2]; exact q5)
          exact fin h' tk ep' ms' (fun b o e => kp b o (by simp) e) t1 t2 (by rw [t3]; exact q3) t4
      · obtain ⟨xs, n1, n2, n3, n4, n5, n6⟩ := pairs_T I msk_le q2 (fun p hp => (q4 p hp).2) al
        have nd : ((([] : List (NestedKey × Addr × Value)) ++ xs).map (·.1)).Nodup := by
          rw [List.nil_append, n2]
          exact freshK_nodup (dkOk_nest ok) okc.2
        refine call_dict_pairsH (knd := nestedKind X.prog X.w) (ps := xs) PA (I.ok.hd hc) ?_ OK ⟨by simp [n1], fun j k w e => ?_⟩ (fun h' kh y hy => ?_) (by rw [List.length_map, ← hl]; exact hz) (fun h' tk hd' kp => ?_)
        · show X.A.in1.in1.units + 8 < cLine
          have : X.A.in1.in1.units = X.A.units + 2 := rfl
          omega
        · obtain ⟨p, e1, rfl, rfl⟩ := getp e
          obtain ⟨x, e2, e3, e4⟩ := n6 j p e1
          exact ⟨x.1, x.2.1, by rw [e2, e4], e3⟩
        · refine ⟨NestedIs.at (fun b ob vs n hb hc' => kh b ob (Nat.ne_of_lt (Heap.lt_size hb)) (by simp) hb) _ _ (n5 y hy).1, (n5 y hy).2⟩
        · rw [storedAll_new nd, List.nil_append] at hd'
          obtain ⟨ep', ms', t1, t2, t3, t4⟩ := told_T (H := H) (Hv := msk P H) (K := X.K) hm hd' n2 (dkOk_nest ok) (by rw [n4]; exact q5) (by rw [n3]; exact q2)
          exact fin h' tk ep' ms' (fun b o e => kp b o (by simp) e) t1 t2 (by rw [t3]; exact q3) t4
    · cases e
  · cases e
/-! isinstance -/
def tyN : Ty → String
  | .int => "int" | .bool => "bool" | .tup => "tuple" | .lst => "list" | .str => "str" | .dct => "dict"
def tyS : D → String
  | .none => "NoneType" | .bool _ => "bool" | .int _ => "int" | .str _ => "str" | .list _ => "list" | .tuple _ => "tuple" | .dict _ => "dict"
theorem flat_str {ks : List (D × D)} (h : ks ≠ []) (q : (ks.all fun p => flatKey p.1) = true) : ¬ dkOk ks = true := fun z => by
  cases ks with
  | nil => exact h rfl
  | cons k ks =>
    have n := dkOk_nest z k (by simp)
    rw [List.all_cons, Bool.and_eq_true] at q
    have q1 := q.1
    cases e : k.1 <;> rw [e] at n q1 <;> simp [flatKey, nestI] at n q1
theorem tyx_of {H : Hp} {v : V} {x : D} (h : Dq X.K H v x) (nd : ∀ ds, x = .dict ds → (!ds.isEmpty && ds.all fun p => flatKey p.1) = true) : TyX X.K H v (.type (tyS x)) := by
  cases h with
  | non => exact .base .non
  | bl b => exact .base (.bl b)
  | int i => exact .base (.int i)
  | str x => exact .base (.str x)
  | lst h1 h2 =>
    rcases h1 with (h1 | ⟨o, h1⟩) | ⟨o, its, n, h1, h3, _⟩
    · exact .base (.lst h1)
    · exact .base (.frz h1)
    · exact .kList h1 h3
  | tup h1 h2 =>
    obtain ⟨o, h1, _⟩ := h1
    exact .fTuple h1
  | dct h0 hs h1 h2 h3 => exact .base (.dK h1)
  | dc0 h1 => exact .base (.dK h1)
  | @dgn a ep ms ks h1 h2 h3 h4 h5 =>
    have q := nd _ rfl
    simp only [Bool.and_eq_true, Bool.not_eq_true', List.isEmpty_eq_false_iff] at q
    obtain ⟨q1, q2⟩ := q
    exact absurd h5 (flat_str q1 q2)
theorem kit_all (t : Ty) (x : D) : kitB (tyS x) (tyN t) = some (tyD t x) := by
  cases t <;> cases x <;> (simp only [tyS, tyN, tyD]; decide +kernel)
theorem bi_isI (t : Ty) : CallR X (.builtin "isinstance") (fun vs H Q => ∃ v, vs = [v, .ty (tyN t)] ∧ rBi X.K (biIsI t) [v] H Q) := by
  intro pins s σ H vs us Q I r ⟨v, ev, P, ds, x, hP, hd, e, g⟩
  subst ev
  unfold biIsI at e
  split at e
  · rename_i ds
    simp only [Option.ite_none_right_eq_some, Option.some.injEq] at e
    obtain ⟨c, rfl⟩ := e
    obtain ⟨v', e', h1⟩ := one_of hd
    cases e'
    refine call_isi pins s σ H _ us Q I r ⟨v, _, _, _, _, rfl, .ty _, tyx_of (h1.mono msk_le) (fun ds z => (by cases z; exact c)), kit_ty (kit_all t (.dict ds)), g.bool⟩
  · rename_i y ny
    cases e
    obtain ⟨v', e', h1⟩ := one_of hd
    cases e'
    refine call_isi pins s σ H _ us Q I r ⟨v, _, _, _, _, rfl, .ty _, tyx_of (h1.mono msk_le) (fun ds z => absurd (by rw [z]) (ny ds)), kit_ty (kit_all t y), g.bool⟩
  · cases e
end
end Sw

set_option Elab.async false
set_option linter.all false
set_option maxRecDepth 100000
set_option maxHeartbeats 1000000
/-! repr(x) over data. -/
namespace Sw
open PySem PySem.Spec PyProof.Rows L2
section
variable {X : Cx} {pins : List (Addr × Obj)} {σ : L2.St} {H : Hp} {s : Shared}
/-- a dict's entries, read -/
theorem pairs_read {h : Heap} : ∀ {kvs : List (Key × V)} {vs : List (Key × Value)} {es : List DictEntry} {ds : List (D × D)}, KV kvs vs → Pairs (mixKind X.prog X.w) es vs → kvs.map (fun p => keyD p.1) = ds.map (·.1) → DqAll X.K H (kvs.map (·.2)) (ds.map (·.2)) → (ds.all fun p => lit1 p.1 && lit1 p.2) = true →
    ∃ as bs, ReadsAll h (es.map (·.key)) (ds.map (·.1)) as ∧ ReadsAll h (es.map (·.val)) (ds.map (·.2)) bs ∧ as = [] ∧ bs = []
  | [], vs, es, ds, k, p, e, q, _ => by
    cases k
    cases p
    cases ds with
    | nil => exact ⟨[], [], .nil, .nil, rfl, rfl⟩
    | cons d ds => cases e
  | kv :: kvs, vs, es, ds, k, p, e, q, al => by
    cases ds with
    | nil => cases e
    | cons d ds =>
      cases k with
      | cons k1 k2 =>
        cases p with
        | cons p1 p2 p3 =>
          simp only [List.map_cons, List.cons.injEq] at e
          cases q with
          | cons q1 q2 =>
            rw [List.all_cons, Bool.and_eq_true, Bool.and_eq_true] at al
            obtain ⟨as, bs, r1, r2, e1, e2⟩ := pairs_read (h := h) k2 p3 e.2 q2 al.2
            subst e1 e2
            obtain ⟨kk, kw⟩ := kv
            obtain ⟨z1, z2⟩ := k1
            refine ⟨[], [], ?_, ?_, rfl, rfl⟩
            · rw [List.map_cons, List.map_cons]
              refine .cons (as := []) (bs := []) ?_ r1
              rw [← e.1]
              simp only at z1
              rw [← z1] at p1
              rcases keyIs_shape p1 with ⟨i, t, e3, e4⟩ | ⟨i, t, e3, e4⟩
              · rw [e4]; simp only [e3, keyD]; exact .int i t
              · rw [e4]; simp only [e3, keyD]; exact .str i t
            · rw [List.map_cons, List.map_cons]
              refine .cons (as := []) (bs := []) ?_ r2
              rw [p2]
              obtain ⟨d1, d2⟩ := d
              simp only at q1 al z2 ⊢
              cases d2 with
              | int i => rw [q1.int_inv] at z2; obtain ⟨t, e5⟩ := z2; rw [e5]; exact .int i t
              | str x => rw [q1.str_inv] at z2; obtain ⟨t, e5⟩ := z2; rw [e5]; exact .str x t
              | _ => simp [lit1] at al
mutual
theorem reads_calm0 {h : Heap} : ∀ {x : D} {u : Value} {as : List Addr}, Reads h u x as → calm x = true → as = []
  | .none, _, _, r, _ => by cases r; rfl
  | .bool _, _, _, r, _ => by cases r; rfl
  | .int _, _, _, r, _ => by cases r; rfl
  | .str _, _, _, r, _ => by cases r; rfl
  | .tuple xs, _, _, r, c => by
    cases r with
    | tuple h1 h2 h3 h4 => exact readsAll_calm0 h4 (by simpa [Sw.calm] using c)
  | .list _, _, _, _, c => by simp [Sw.calm] at c
  | .dict _, _, _, _, c => by simp [Sw.calm] at c
theorem readsAll_calm0 {h : Heap} : ∀ {xs : List D} {us : List Value} {as : List Addr}, ReadsAll h us xs as → calmAll xs = true → as = []
  | [], _, _, r, _ => by cases r; rfl
  | x :: xs, _, _, r, c => by
    simp only [calmAll, Bool.and_eq_true] at c
    cases r with
    | cons r1 r2 => rw [reads_calm0 r1 c.1, readsAll_calm0 r2 c.2]; rfl
end
mutual
theorem nestI_plain : ∀ {x : D}, nestI x = true → x.plain = true
  | .int _, _ => by simp only [PyData.plain]
  | .tuple xs, h => by
    simp only [PyData.plain]
    exact nestA_plain (by simpa only [nestI] using h)
  | .none, h | .bool _, h | .str _, h | .list _, h | .dict _, h => by simp [nestI] at h
theorem nestA_plain : ∀ {xs : List D}, nestA xs = true → PyData.plainAll xs = true
  | [], _ => by simp only [PyData.plainAll]
  | x :: xs, h => by
    simp only [nestA, Bool.and_eq_true] at h
    simp only [PyData.plainAll, nestI_plain h.1, nestA_plain h.2, Bool.and_self]
end
theorem dict_read {v : V} {u : Value} {ds : List (D × D)} (I : Inv X pins σ H s) (h : Dq X.K H v (.dict ds)) (al : nlT (.dict ds) = true) (r : RelV v u) : ∃ as, Reads s.heap u (realD (.dict ds)) as ∧ sysModules ∉ as := by
  rw [nlT, Bool.or_eq_true, Bool.and_eq_true] at al
  have nn : noneKey ds = false → realD (.dict ds) = .dict ds := fun z => by
    unfold realD
    split
    · simp [noneKey] at z
    · rfl
  generalize hdd : (PyData.dict ds) = dd at h
  cases h with
  | dc0 ha =>
    cases hdd
    cases r
    have z : ObjOk X.prog X.w H s.heap _ (.dK []) := I.hok _ _ ha
    obtain ⟨_, hsm, vs, kv, o, es, ep, e1, e2, e3, _, e5, _⟩ := z
    obtain ⟨as, bs, r1, r2, rfl, rfl⟩ := pairs_read (h := s.heap) (X := X) (H := H) (ds := []) kv e5 rfl .nil rfl
    refine ⟨_, .dict e1 e2.1 e3 r1 r2, ?_⟩
    simp only [List.append_nil, List.mem_singleton]
    intro z
    rw [z] at hsm
    simp at hsm
  | dct hne hs ha hk hv =>
    rename_i a kvs ds'
    cases hdd
    cases r
    have hne2 : ds ≠ [] := fun z => by
      subst z
      cases kvs with
      | nil => exact hne rfl
      | cons p kvs => simp at hk
    have nk : noneKey ds = false := by
      cases ds with
      | nil => exact absurd rfl hne2
      | cons d ds =>
        have := hs d (by simp)
        unfold noneKey
        split
        · rename_i e; cases e; simp [isStrD] at this
        · rfl
    rw [nn nk]
    rw [nk] at al
    have al2 := (al.resolve_left (by simp)).2
    rw [Bool.or_eq_true, Bool.and_eq_true] at al2
    rcases al2 with hl | hl
    · have z : ObjOk X.prog X.w H s.heap a (.dK kvs) := I.hok a _ ha
      obtain ⟨_, hsm, vs, kv, o, es, ep, e1, e2, e3, _, e5, _⟩ := z
      obtain ⟨as, bs, r1, r2, rfl, rfl⟩ := pairs_read (h := s.heap) kv e5 hk hv hl
      refine ⟨_, .dict e1 e2.1 e3 r1 r2, ?_⟩
      simp only [List.append_nil, List.mem_singleton]
      intro z
      rw [z] at hsm
      simp at hsm
    · cases ds with
      | nil => exact absurd rfl hne2
      | cons d ds =>
        have q := hs d (by simp)
        have n := dkOk_nest hl.1 d (by simp)
        cases e : d.1 <;> rw [e] at q n <;> simp [isStrD, nestI] at q n
  | dgn h1 h2 h3 h4 h5 =>
    rename_i a ep ms ks
    cases hdd
    cases r
    have n := dkOk_nest h5
    have nk : noneKey ds = false := by
      unfold noneKey
      split
      · have := n _ (List.mem_singleton.mpr rfl)
        simp [nestI] at this
      · rfl
    rw [nn nk]
    rw [nk] at al
    have vl : ∀ p ∈ ds, lit1 p.2 = true := fun p hp => by
      have q := (al.resolve_left (by simp)).2
      simp only [Bool.or_eq_true, Bool.and_eq_true, List.all_eq_true] at q
      rcases q with q | q
      · exact (q p hp).2
      · exact q.2 p hp
    have kc : calmAll (ds.map (·.1)) = true ∧ PyData.plainAll (ds.map (·.1)) = true := by
      clear h1 h2 h3 h4 h5 nk vl al nn
      induction ds with
      | nil => exact ⟨rfl, by simp only [List.map_nil, PyData.plainAll]⟩
      | cons d ds ih =>
        have q := ih (fun p hp => n p (by simp [hp]))
        have nd := n d (by simp)
        exact ⟨by rw [List.map_cons, calmAll, nestI_calm nd, q.1]; rfl, by simp only [List.map_cons, PyData.plainAll, nestI_plain nd, q.2, Bool.and_self]⟩
    have vc : calmAll (ds.map (·.2)) = true ∧ PyData.plainAll (ds.map (·.2)) = true := by
      clear h1 h2 h3 h4 h5 nk n al nn kc
      induction ds with
      | nil => exact ⟨rfl, by simp only [List.map_nil, PyData.plainAll]⟩
      | cons d ds ih =>
        have q := ih (fun p hp => vl p (by simp [hp]))
        have nd := vl d (by simp)
        have nd2 : calm d.2 = true ∧ d.2.plain = true := by
          cases e : d.2 <;> rw [e] at nd <;> first | (simp [lit1] at nd; done) | exact ⟨rfl, by simp only [PyData.plain]⟩
        exact ⟨by rw [List.map_cons, calmAll, nd2.1, q.1]; rfl, by simp only [List.map_cons, PyData.plainAll, nd2.2, q.2, Bool.and_self]⟩
    obtain ⟨z, o, es, r1, r2, r3, r4⟩ := raw_of I h1
    have ev := ent_vals r4
    obtain ⟨as, q1⟩ := readsAll_of I h2 kc.2 ev.1
    obtain ⟨bs, q2⟩ := readsAll_of I h3 vc.2 ev.2.1
    have e1 := readsAll_calm0 q1 kc.1
    have e2 := readsAll_calm0 q2 vc.1
    subst e1 e2
    refine ⟨_, .dict r1 r2.1 r3 q1 q2, ?_⟩
    simp only [List.append_nil, List.mem_singleton]
    intro w
    rw [← w] at z
    simp at z
  | _ => cases hdd
mutual
theorem reads_nl (I : Inv X pins σ H s) : ∀ {x : D} {v : V} {u : Value}, Dq X.K H v x → nlT x = true → RelV v u → ∃ as, Reads s.heap u (realD x) as ∧ sysModules ∉ as
  | .none, v, u, h, _, r => by
    rw [h.none_inv] at r
    cases r
    exact ⟨[], .none, by simp⟩
  | .bool b, v, u, h, _, r => by
    rw [h.bool_inv] at r
    cases r
    exact ⟨[], .bool b, by simp⟩
  | .int i, v, u, h, _, r => by
    rw [h.int_inv] at r
    obtain ⟨t, e⟩ := r
    rw [e]
    exact ⟨[], .int i t, by simp⟩
  | .str x, v, u, h, _, r => by
    rw [h.str_inv] at r
    obtain ⟨t, e⟩ := r
    rw [e]
    exact ⟨[], .str x t, by simp⟩
  | .list xs, v, u, h, al, r => by simp [nlT] at al
  | .tuple xs, v, u, h, al, r => by
    obtain ⟨a, ws, rfl, h1, h2⟩ := h.tup_inv
    obtain ⟨its, rv, pt, hz⟩ := I.tuple h1
    cases r
    obtain ⟨⟨cls, dd, data, sl⟩, ho, hc, n, hd⟩ := pt
    rw [nlT] at al
    obtain ⟨as, q1, q2⟩ := reads_nlA I h2 al rv
    refine ⟨as, ?_, q2⟩
    rw [realD]
    exact .tuple ho hc hd (by simpa using q1)
  | .dict ds, v, u, h, al, r => dict_read I h al r
theorem reads_nlA (I : Inv X pins σ H s) : ∀ {xs : List D} {vs : List V} {us : List Value}, DqAll X.K H vs xs → nlTA xs = true → Vals vs us → ∃ as, ReadsAll s.heap us (realA xs) as ∧ sysModules ∉ as
  | [], vs, us, h, _, r => by
    cases h
    cases r
    exact ⟨[], .nil, by simp⟩
  | x :: xs, vs, us, h, al, r => by
    cases h with
    | cons h1 h2 =>
      cases r with
      | cons r1 r2 =>
        rw [nlTA, Bool.and_eq_true] at al
        obtain ⟨as, q1, q2⟩ := reads_nl I h1 al.1 r1
        obtain ⟨bs, q3, q4⟩ := reads_nlA I h2 al.2 r2
        exact ⟨as ++ bs, .cons q1 q3, fun z => (List.mem_append.mp z).elim q2 q4⟩
end
/-- repr(x) of what is read -/
theorem repr_reads {u : Value} {x : D} {as : List Addr} {Q : Value → Shared → Prop} {E : Value → Shared → Prop} (r : Reads s.heap u x as) (hs : x.showable = true) (hsm : x.hasDict = true → sysModules ∉ as) (hg : X.A.guards = some []) (hu : X.A.units + 64 < cLine) (hd : x.depth ≤ 60) (hz : x.shown.length ≤ sizeLine)
    (hQ : ∀ h' t tk, (∀ b o, s.heap.get? b = some o → h'.get? b = some o) → Q (.str x.shown t) { s with heap := h', toks := tk }) : wpAny (model X.prog X.w) X.A (call (.builtin "repr") [u]) Q E s := by
  have now : ∀ t k, Q (.str x.shown t) { s with toks := k } := fun t k => hQ s.heap t k fun _ _ e => e
  cases r with
  | none => exact PySem.P.repr_of_none (now _ _)
  | bool b => exact PySem.P.repr_of_bool (now _ _)
  | int i t => exact PySem.P.repr_of_int (by simpa only [PyData.showable, decide_eq_true_eq] using hs) (now _ _)
  | str y t => exact PySem.P.repr_of_str (now _ _) hz
  | list h1 h2 h3 h4 => exact repr_of_reads' (Reads.list h1 h2 h3 h4) hs hsm hg (by omega) (fun _ _ e => e) (fun h' t tk hk => hQ h' t tk hk) hz
  | tuple h1 h2 h3 h4 => exact repr_of_reads' (Reads.tuple h1 h2 h3 h4) hs hsm hg (by omega) (fun _ _ e => e) (fun h' t tk hk => hQ h' t tk hk) hz
  | dict h1 h2 h3 h4 h5 => exact repr_of_reads' (Reads.dict h1 h2 h3 h4 h5) hs hsm hg (by omega) (fun _ _ e => e) (fun h' t tk hk => hQ h' t tk hk) hz
theorem bi_repr (hg : X.A.guards = some []) (hu : X.A.units + 64 < cLine) : CallR X (.builtin "repr") (rBi X.K biRepr) := by
  intro pins s σ H vs us Q I r ⟨P, ds, x, hP, hd, e, g⟩
  unfold biRepr at e
  split at e
  · rename_i y
    simp only [Option.ite_none_right_eq_some, Option.some.injEq] at e
    obtain ⟨e1, rfl⟩ := e
    obtain ⟨v, rfl, h1⟩ := one_of hd
    cases r with
    | cons r1 r2 =>
      cases r2
      have h1' := h1.mono msk_le
      unfold canShow at e1
      have fin : ∀ {x : D} (hx : shownT y = x.shown) (h' : Heap) (t : Tok) (tk : Nat), (∀ b o, s.heap.get? b = some o → h'.get? b = some o) → EP X pins σ Q (.str x.shown t) { s with heap := h', toks := tk } := fun hx h' t tk hk => ⟨.str _, H, I.kept hk, ⟨t, rfl⟩, by rw [← hx]; exact g.str⟩
      by_cases hp : y.plain = true
      · rw [if_pos hp] at e1
        simp only [Bool.and_eq_true, decide_eq_true_eq] at e1
        obtain ⟨as, q⟩ := reads_of I h1' hp r1
        have ex : shownT y = y.shown := if_pos hp
        exact repr_reads q e1.1.1 (fun z => by rw [plain_noDict y hp] at z; cases z) hg hu e1.1.2 e1.2 (fin ex)
      · rw [if_neg hp] at e1
        simp only [Bool.and_eq_true, decide_eq_true_eq] at e1
        obtain ⟨as, q, z⟩ := reads_nl I h1' e1.1.1.1 r1
        have ex : shownT y = (realD y).shown := if_neg hp
        exact repr_reads q e1.1.1.2 (fun _ => z) hg hu e1.1.2 e1.2 (fin ex)
  · cases e
end
end Sw

set_option Elab.async false
set_option linter.all false
set_option maxRecDepth 100000
set_option maxHeartbeats 3000000
/-! sorted(set(x)), len(set(x)): ints, or rows of small ints. -/
namespace Sw
open PySem PySem.Spec PyProof.Rows L2

/-! ### rows in order -/
section
variable {α : Type} {f : α → Int}
theorem mem_insU {x y : α} (inj : ∀ a b, f a = f b → a = b) : ∀ {l : List α}, y ∈ insU f x l ↔ y = x ∨ y ∈ l
  | [] => by simp [insU]
  | z :: l => by
    simp only [insU]
    split
    · simp
    · split
      · rename_i e
        have := inj _ _ e
        subst this
        simp
      · simp only [List.mem_cons, mem_insU inj (l := l)]
        constructor
        · rintro (h | h | h) <;> simp [h]
        · rintro (h | h | h) <;> simp [h]
theorem insU_mem {x y : α} : ∀ {l : List α}, y ∈ insU f x l → y = x ∨ y ∈ l
  | [], h => by simpa [insU] using h
  | z :: l, h => by
    simp only [insU] at h
    split at h
    · simpa using h
    · split at h
      · exact .inr h
      · rcases List.mem_cons.mp h with h | h
        · exact .inr (by simp [h])
        · rcases insU_mem h with h | h <;> simp [h]
theorem insU_lt {x : α} : ∀ {l : List α}, (l.Pairwise fun a b => f a < f b) → (insU f x l).Pairwise fun a b => f a < f b
  | [], _ => by simp [insU]
  | z :: l, h => by
    obtain ⟨h1, h2⟩ := List.pairwise_cons.mp h
    simp only [insU]
    split
    · rename_i c
      refine List.pairwise_cons.mpr ⟨fun b hb => ?_, h⟩
      rcases List.mem_cons.mp hb with rfl | hb
      · exact c
      · exact Int.lt_trans c (h1 b hb)
    · split
      · exact h
      · refine List.pairwise_cons.mpr ⟨fun b hb => ?_, insU_lt h2⟩
        rcases insU_mem hb with rfl | hb
        · omega
        · exact h1 b hb
theorem sortU_lt (f : α → Int) : ∀ xs : List α, (sortU f xs).Pairwise fun a b => f a < f b
  | [] => .nil
  | x :: xs => insU_lt (sortU_lt f xs)
theorem mem_sortU (inj : ∀ a b, f a = f b → a = b) {y : α} : ∀ {xs : List α}, y ∈ sortU f xs ↔ y ∈ xs
  | [] => Iff.rfl
  | x :: xs => by
    show y ∈ insU f x (sortU f xs) ↔ _
    rw [mem_insU inj, mem_sortU inj, List.mem_cons]
/-- there is but one rising row of the same things -/
theorem rise_one : ∀ {l m : List α}, (l.Pairwise fun a b => f a < f b) → (m.Pairwise fun a b => f a < f b) → (∀ a, a ∈ l ↔ a ∈ m) → l = m
  | [], [], _, _, _ => rfl
  | [], b :: m, _, _, h => absurd ((h b).mpr (by simp)) (by simp)
  | a :: l, [], _, _, h => absurd ((h a).mp (by simp)) (by simp)
  | a :: l, b :: m, h1, h2, h => by
    obtain ⟨p1, p2⟩ := List.pairwise_cons.mp h1
    obtain ⟨q1, q2⟩ := List.pairwise_cons.mp h2
    have e : a = b := by
      rcases List.mem_cons.mp ((h a).mp (by simp)) with e | e
      · exact e
      · rcases List.mem_cons.mp ((h b).mpr (by simp)) with e2 | e2
        · exact e2.symm
        · have := p1 b e2
          have := q1 a e
          omega
    subst e
    rw [rise_one p2 q2 fun c => ?_]
    have hc := h c
    rw [List.mem_cons, List.mem_cons] at hc
    constructor
    · intro z
      rcases hc.mp (.inr z) with rfl | z2
      · have := p1 c z; omega
      · exact z2
    · intro z
      rcases hc.mpr (.inr z) with rfl | z2
      · have := q1 c z; omega
      · exact z2
end
theorem codeR_eq : ∀ r : List Int, codeR r = TS.code 64 r
  | [] => rfl
  | d :: r => by
    rw [codeR, TS.code, codeR_eq r]
theorem rowsOf_inv : ∀ {xs : List D} {rs : List (List Int)}, rowsOf xs = some rs → xs = rs.map fun r => .tuple (r.map .int)
  | [], rs, h => by
    have : rs = [] := by simpa [rowsOf] using h.symm
    subst this; rfl
  | x :: xs, rs, h => by
    unfold rowsOf at h
    split at h
    · rename_i a b e1 e2
      cases h
      rw [rowsOf_inv e2, rowOf_inv e1]
      rfl
    · cases h
/-- the rows of a list of tuples, with where they lie -/
theorem rows_at {K : PySem.W.Frag} {H : Hp} : ∀ {vs : List V} {rs : List (List Int)}, DqAll K H vs (rs.map fun r => .tuple (r.map .int)) →
    ∃ ks : List (Addr × List Int), vs = ks.map (fun p => V.ref p.1) ∧ ks.map (·.2) = rs ∧ ∀ p ∈ ks, SqN H p.1 (p.2.map V.int)
  | vs, [], h => by cases h; exact ⟨[], rfl, rfl, fun p h => by cases h⟩
  | vs, r :: rs, h => by
    rw [List.map_cons] at h
    cases h with
    | cons h1 h2 =>
      obtain ⟨ks, rfl, rfl, h3⟩ := rows_at h2
      obtain ⟨a, us, rfl, h4, h5⟩ := h1.tupN_inv
      have := h5.ints_inv (intsOf_map r)
      subst this
      refine ⟨(a, r) :: ks, rfl, rfl, fun p hp => ?_⟩
      rcases List.mem_cons.mp hp with rfl | hp
      · exact h4
      · exact h3 p hp
structure RowsOk (rs : List (List Int)) : Prop where
  few : rs.length < 64
  bd : ∀ r ∈ rs, TS.Bd 64 r
  len : ∃ d, 1 ≤ d ∧ ∀ r ∈ rs, r.length = d
theorem setable_ok {rs : List (List Int)} (h : setable rs = true) : RowsOk rs := by
  unfold setable at h
  rw [Bool.and_eq_true, decide_eq_true_eq] at h
  obtain ⟨h0, h⟩ := h
  cases rs with
  | nil => exact ⟨h0, fun r z => (by cases z), 1, Nat.le_refl _, fun r z => by cases z⟩
  | cons a rs =>
    simp only [Bool.and_eq_true, decide_eq_true_eq, List.all_eq_true] at h
    exact ⟨h0, fun r hr => fun m hm => (h.2 r hr).2 m hm, a.length, h.1, fun r hr => (h.2 r hr).1⟩
theorem code_inj {d : Nat} : ∀ {a b : List Int}, a.length = d → b.length = d → TS.Bd 64 a → TS.Bd 64 b → TS.code 64 a = TS.code 64 b → a = b := by
  intro a b ha hb ba bb h
  induction a generalizing b d with
  | nil =>
    cases b with
    | nil => rfl
    | cons y b => subst ha; simp at hb
  | cons x a ih =>
    cases b with
    | nil => subst hb; simp at ha
    | cons y b =>
      have hl : a.length = b.length := by simp at ha hb; omega
      rcases Int.lt_trichotomy x y with c | c | c
      · have := TS.code_lt (B := 64) hl ba.tail bb.tail c
        omega
      · subst c
        have e : TS.code 64 a = TS.code 64 b := by
          have h' : x * 64 ^ a.length + TS.code 64 a = x * 64 ^ b.length + TS.code 64 b := h
          rw [hl] at h'
          omega
        rw [ih (d := a.length) rfl hl.symm ba.tail bb.tail e]
      · have := TS.code_lt (B := 64) hl.symm bb.tail ba.tail c
        omega
/-- among such rows the number tells the row -/
noncomputable def codeS (rs : List (List Int)) (r : List Int) : Int := codeR r
theorem mem_sortR {rs : List (List Int)} (h : RowsOk rs) (r : List Int) : r ∈ sortU codeR rs ↔ r ∈ rs := by
  obtain ⟨d, _, hd⟩ := h.len
  have key : ∀ l : List (List Int), (∀ x ∈ l, x ∈ rs) → ∀ r, (r ∈ sortU codeR l ↔ r ∈ l) := by
    intro l
    induction l with
    | nil => intro _ r; exact Iff.rfl
    | cons x l ih =>
      intro hs r
      have ih' := ih fun y hy => hs y (by simp [hy])
      have ins : ∀ m : List (List Int), (∀ y ∈ m, y ∈ rs) → (r ∈ insU codeR x m ↔ r = x ∨ r ∈ m) := by
        intro m
        induction m with
        | nil => intro _; simp [insU]
        | cons z m ihm =>
          intro hm
          simp only [insU]
          split
          · simp
          · split
            · rename_i e
              rw [codeR_eq, codeR_eq] at e
              have := code_inj (hd x (hs x (by simp))) (hd z (hm z (by simp))) (h.bd x (hs x (by simp))) (h.bd z (hm z (by simp))) e
              subst this
              simp
            · rw [List.mem_cons, ihm fun y hy => hm y (by simp [hy]), List.mem_cons]
              constructor
              · rintro (h | h | h) <;> simp [h]
              · rintro (h | h | h) <;> simp [h]
      show r ∈ insU codeR x (sortU codeR l) ↔ _
      rw [ins _ fun y hy => hs y (by simp [(ih' y).mp hy]), ih' r, List.mem_cons]
  exact key rs (fun x hx => hx) r

/-! ### set(t), t a tuple of rows -/
section
variable {P : Program} {w : World} {A : Around} {E : Value → Shared → Prop} {s : Shared}
/-- a new set's object -/
abbrev setO0 (w : World) : Obj := { cls := .type "set", dict := none, data := .set #[] 0 (.fresh 0 0 (!w.params.followText "set-order")) }
theorem beyond {h : Heap} {b : Addr} (hb : h.objs.size ≤ b) : h.get? b = none := by
  cases q : h.get? b with
  | none => rfl
  | some o => exact absurd (Heap.lt_size q) (Nat.not_lt.mpr hb)
set_option maxHeartbeats 6000000 in
theorem set_of_tup {l : Addr} {items : Array Value} (ks : List (Addr × List Int)) {Q : Value → Shared → Prop} (hh : A.handled = none) (tl : s.heap.IsTuple l items) (hi : items.toList = ks.map fun p => Value.ref p.1) (hk : ∀ p ∈ ks, IsT P w s.heap p.2 p.1) (few : ks.length < 64) (un : A.units + 3 < cLine)
    (done : ∀ (hp : Heap) (tk : Nat) L es ep t, SetTR P w hp s.heap.objs.size L es ep t → Got ks ks.length L → (∀ b o, s.heap.get? b = some o → hp.get? b = some o) → Q (.ref s.heap.objs.size) { s with heap := hp, toks := tk }) : wpAny (model P w) A (call (.type "set") [.ref l]) Q E s := by
  have size : items.size = ks.length := by simpa using congrArg List.length hi
  obtain ⟨c, mt, m1⟩ := F.called_set.mro
  have m2 := F.called_set.made
  have m3 := F.called_set.sub
  have m4 := F.called_set.notType
  have m5 := F.called_set.canCreate
  have m6 := F.typeCall_set_1 (.ref l)
  have i1 := F.called_set.init.lookup
  have i2 := F.called_set.init.bind (.ref s.heap.objs.size)
  have got0 : ∀ x : Heap, (s.heap.push (setO0 w)).get? s.heap.objs.size = some (setO0 w) := fun _ => Heap.get?_push_size _ rfl
  have got := got0 s.heap
  have isT : Shared.TypeIs { s with heap := s.heap.push (setO0 w) } (.ref s.heap.objs.size) "set" := ⟨_, got, rfl⟩
  refine wpAny_call (codeAny_of_tree ?_)
  show wpAny _ _ (callAny (.type "set") _) _ _ _
  refine wpAny_pure ⟨Code.quiet_builtin _ (by decide +kernel), codeAny_builtin F.entry_type_call ?_⟩
  rw [Around.under_plain (weight_type_call_type "set" [.ref l] []) rfl]
  repeat (any_goals (first | assumption | wp_step))
  refine codeAny_mono (code_set_led1 (.ref l) (E := E) (Q₁ := fun v s1 => v = .ref s.heap.objs.size ∧ s1 = { s with heap := s.heap.push (setO0 w) }) ⟨rfl, rfl⟩) fun r1 s1 q1 => ?_
  rcases r1 with er | fl
  · exact q1
  cases fl <;> first | exact q1.elim | skip
  case ret v1 =>
    obtain ⟨rfl, rfl⟩ := q1
    repeat (any_goals (first | assumption | wp_step))
    refine codeAny_mono (codeAny_call_builtin (R := wants (fun r s2 => r = .none ∧ ∃ hp tk L es ep t, s2 = { s with heap := hp, toks := tk } ∧ SetTR P w hp s.heap.objs.size L es ep t ∧ Got ks ks.length L ∧ ∀ b o, s.heap.get? b = some o → hp.get? b = some o) E) F.called_set.init.plain F.entry_set_init (check_set_init_1 isT ?_)) fun r2 s2 q2 => ?_
    · obtain ⟨⟨oc, od, oda, osl⟩, ho, hc, n, hd⟩ := tl
      simp only at hc hd
      subst hc hd
      have there : (s.heap.push (setO0 w)).get? l = some { cls := .type "tuple", dict := od, data := .seq items n, slots := osl } := Heap.get?_push_of_some _ ho
      have s1 := F.sub_tuple_set
      have s2 := F.sub_tuple_frozenset
      have nd : (Value.type "tuple" == Value.type "dict") = false := by decide
      have tup : (s.heap.push (setO0 w)).IsTuple l items := ⟨_, there, rfl, n, rfl⟩
      unfold Builtin.«set.__init__» noKeywords Builtin.Frozenset.updateFrom
      generalize hPI : pyIter = PI
      wp_walk
      subst hPI
      refine wpAny_pyIter_tuple tup (wpAny_bind (wpAny_runValue ?_))
      have lt := Heap.lt_size ho
      have z1 : (s.heap.push (setO0 w)).objs.size = s.heap.objs.size + 1 := Heap.size_push ..
      have h3 : A.in1.in1.in1.handled = none := by simp [hh]
      have ne : l ≠ (s.heap.push (setO0 w)).objs.size := Nat.ne_of_lt (by rw [z1]; exact Nat.lt_succ_of_lt lt)
      refine set_update_tups ((Walks.tuple h3 _ l ne items).toS) s.heap.objs.size ?fp ks size few ?val s.heap hk (beyond (Nat.le_refl _)) (fun b hb => beyond ?wr) un (items.size - 0) 0 _ (by omega) (Nat.zero_le _) ⟨⟨_, Heap.get?_push_size _ rfl, rfl, rfl⟩, tup.push _⟩ (fun b o e => Heap.get?_push_of_some _ (Heap.get?_push_of_some _ e)) ⟨[], #[], 0, _, setTR_fresh (Heap.get?_push_of_some _ got), Got.zero ks⟩ ?fin
      case fp =>
        intro z
        rcases List.mem_cons.mp z with z | z
        · rw [z1] at z
          exact absurd z (Nat.ne_of_lt (Nat.lt_succ_self _))
        · exact absurd (List.mem_singleton.mp z) (Nat.ne_of_gt lt)
      case wr =>
        rw [List.mem_singleton.mp hb, z1]
        exact Nat.le_succ _
      case val =>
        intro i v hv
        have e : items.toList[i]? = some v := by rw [Array.getElem?_toList]; exact hv
        rw [hi, List.getElem?_map, Option.map_eq_some_iff] at e
        obtain ⟨p, h1, h2⟩ := e
        exact ⟨p, h1, h2.symm⟩
      case fin =>
        rintro ⟨hp, g2, d2, tk, os2⟩ L es ep t mv R g kp
        obtain rfl : g2 = s.gens := mv.gens
        obtain rfl : d2 = s.drawn := mv.drawn
        obtain rfl : os2 = s.os := mv.os
        show wpAny _ _ _ _ _ _
        refine wpAny_pure ?_
        show wpAny _ _ (ret Value.none) _ _ _
        rw [size] at g
        exact wpAny_pure ⟨rfl, hp, tk, L, es, ep, t, rfl, R, g, kp⟩
    · rcases r2 with er | fl
      · exact q2
      cases fl <;> first | exact q2.elim | skip
      case ret v2 =>
        obtain ⟨rfl, hp, tk, L, es, ep, t, rfl, R, g, kp⟩ := q2
        repeat (any_goals (first | assumption | wp_step))
        exact done _ _ _ _ _ _ R g kp
end
end Sw

set_option Elab.async false
set_option linter.all false
set_option maxRecDepth 100000
set_option maxHeartbeats 3000000
namespace Sw
open PySem PySem.Spec PyProof.Rows L2
section
variable {X : Cx}
/-- set(t): ints, or rows -/
def rSetA (K : PySem.W.Frag) (P : Program) (w : World) : List V → Hp → VK → Prop := fun xs H Q => ∃ l : Addr, xs = [V.ref l] ∧
  ((∃ ns : List Int, SqT K H l (ns.map V.int) ∧ ns.length < 64 ∧ ∀ a n, H a = none → n ≤ ns.length → Q (.ref a) (upd H a (SetO w a (fun j => decide (j ∈ ns)) n))) ∨
   (∃ ks : List (Addr × List Int), (SqT K H l (ks.map fun p => V.ref p.1) ∨ SqL K H l (ks.map fun p => V.ref p.1)) ∧ (∀ p ∈ ks, SqT K H p.1 (p.2.map V.int)) ∧ ks.length < 64 ∧
     ∀ a L, H a = none → (∀ p ∈ L, p ∈ ks) → (∀ p ∈ ks, p.2 ∈ L.map (·.2)) → Q (.ref a) (upd H a (SetTO P w a L))))
theorem cr_setA (hc : X.calm = true) (hu : X.A.units + 64 < cLine) : CallR X (.type "set") (rSetA X.K X.prog X.w) := by
  intro pins s σ H xs us Q I r ⟨l, ex, h⟩
  subst ex
  have hn : H s.heap.objs.size = none := I.hok.fresh (Nat.le_refl _)
  rcases h with ⟨ns, hl, few, q⟩ | ⟨ks, hl, hk, few, q⟩
  · rw [Vals.ref1 r]
    obtain ⟨its, rv, pt, hz⟩ := I.tuple hl
    refine call_set_tupI ns (I.ok.hd hc) (show s.heap.IsTuple l its.toArray from pt) (ints_of_vals rv) (by unfold scanBound; omega) fun hp tk c R le k => ?_
    exact ⟨.ref s.heap.objs.size, _, I.laid (t' := tk) k (Nat.le_refl _) (setO_new R), rfl, q _ c hn le⟩
  · rcases hl with hl | hl
    · rw [Vals.ref1 r]
      obtain ⟨its, rv, pt, hz⟩ := I.tuple hl
      refine set_of_tup (P := X.prog) (w := X.w) ks (I.ok.hd hc) (show s.heap.IsTuple l its.toArray from pt) (by simpa using refs_of_vals rv) (fun p hp => L2.Inv.isT I (hk p hp)) few (by omega) fun hp tk L es ep t R g k => ?_
      exact ⟨.ref s.heap.objs.size, _, I.laid (t' := tk) k (Nat.le_refl _) (setTO_new R.t0), rfl, q _ L hn (fun p hp => List.mem_of_mem_take (g.sub p hp)) fun p hp => g.all p (by rw [List.take_length]; exact hp)⟩
    · exact cr_setOfT hc hu pins s σ H _ us Q I r ⟨l, ks, rfl, hl, hk, few, q⟩
def rSortA (K : PySem.W.Frag) (P : Program) (w : World) : List V → Hp → VK → Prop := fun vs H Q => rSortedSet w vs H Q ∨ rSortedT K P w vs H Q
theorem cr_sortA (hc : X.calm = true) : CallR X (.builtin "sorted") (rSortA X.K X.prog X.w) := by
  intro pins s σ H vs us Q I r h
  rcases h with h | h
  · exact cr_sortedSet hc pins s σ H vs us Q I r h
  · exact cr_sortedT hc pins s σ H vs us Q I r h
def tLenSetT (K : PySem.W.Frag) (ta : TE) : TE := fun σ H Q => ta σ H fun x H1 => ∃ (l : Addr) (ns : List Int), x = V.ref l ∧ SqT K H1 l (ns.map V.int) ∧ ns.length < 64 ∧ Q (.int ((sortU id ns).length : Nat)) H1
theorem pe_lenSetT {a : Expr} {ta : TE} {p p2 q pos : Pos} (hc : X.calm = true) (hg : Gl X "len") (hm : X.mg "len" = none) (hg2 : Gl X "set") (hm2 : X.mg "set" = none) (ha : PE X a ta)
    (na : starEach [a] X.env = (false, eval a X.env) :: starEach [] X.env) : PE X (.Call (.Name "len" p) [.Call (.Name "set" p2) [a] [] q] [] pos) (tLenSetT X.K ta) := by
  refine ⟨fun pins s σ H Q I h => ?_⟩
  refine Call_ (ld_blt I hg hm PySem.boot_len ?_)
  refine PyProof.Rows.callWith_builtin1 (PyProof.Rows.args_cons ?_ rfl) rfl rfl
  refine Call_ (ld_blt I hg2 hm2 PyProof.Rows.boot_set ?_)
  refine PyProof.Rows.callWith_type1 (PyProof.Rows.args_cons (thn (ha.run pins s σ H _ I h) fun v s1 ⟨x, H1, I1, r1, q1⟩ => PyProof.Rows.args_nil ?_) na) na rfl
  obtain ⟨l, ns, rfl, hq, h1, q1⟩ := q1
  cases r1
  obtain ⟨its, r, pl, hz⟩ := I1.tuple hq
  refine call_set_tupI ns (I1.ok.hd hc) (show s1.heap.IsTuple l its.toArray from pl) (ints_of_vals r) (by unfold scanBound; omega) fun h' tk c hS le hk => ?_
  refine PyProof.Rows.args_nil ?_
  obtain ⟨o, es, ep, t, ho, hex, hd, _, nd, hm3, _, hf, hn, _⟩ := hS
  have I2 : Inv X pins σ H1 { s1 with heap := h', toks := tk } := I1.kept fun b o e => hk b o e
  have eL : es.size = (sortU id ns).length := by
    have p1 : (es.toList.map keyOf).Perm (sortU id ns) := (List.perm_ext_iff_of_nodup nd ((sortU_lt id ns).imp fun {a b} h => (by intro z; subst z; exact Int.lt_irrefl _ h))).mpr fun k => by
      rw [mem_sortU (f := id) (fun _ _ z => z), ← hm3 k, decide_eq_true_iff]
    have := p1.length_eq
    simpa using this
  refine call_len_set ho hex hd hf (by omega) ⟨.int ((sortU id ns).length : Nat), H1, I2.tok _, ⟨_, by rw [eL]⟩, q1⟩
theorem dq_ints {K : PySem.W.Frag} {H : Hp} (ns : List Int) : DqAll K H (ns.map V.int) (ns.map PyData.int) := DqAll.ints
theorem rows_dq {K : PySem.W.Frag} {H : Hp} : ∀ {L : List (Addr × List Int)}, (∀ p ∈ L, SqN H p.1 (p.2.map V.int)) → DqAll K H (L.map fun p => V.ref p.1) (L.map fun p => PyData.tuple (p.2.map .int))
  | [], _ => .nil
  | p :: L, h => .cons (.tup (h p (by simp)) DqAll.ints) (rows_dq fun q hq => h q (by simp [hq]))
theorem sqT_same {K : PySem.W.Frag} {P : Addr → Prop} {H : Hp} {a : Addr} {xs : List V} (h : SqT K (msk P H) a xs) : SqT K H a xs := SqT.mono msk_le h
theorem pe_sset {a : Expr} {te : TE} {p p2 q pos : Pos} (hc : X.calm = true) (hu : X.A.units + 64 < cLine) (hg : Gl X "sorted") (hm : X.mg "sorted" = none) (hg2 : Gl X "set") (hm2 : X.mg "set" = none) (ha : PE X a te) (h1 : starEach [a] X.env = [(false, eval a X.env)])
    (h2 : starEach [.Call (.Name "set" p2) [a] [] q] X.env = [(false, eval (.Call (.Name "set" p2) [a] [] q) X.env)]) : PE X (.Call (.Name "sorted" p) [.Call (.Name "set" p2) [a] [] q] [] pos) (tCB (rSortA X.K X.prog X.w) (tCons (tCB (rSetA X.K X.prog X.w) (tCons te tNil)) tNil)) :=
  pe_callB (cr_sortA hc) hg hm (by decide +kernel) (pa_cons (pe_callTy (cr_setA hc hu) hg2 hm2 (by decide +kernel) (pa_cons ha pa_nil h1) (by decide +kernel) (by decide +kernel) h1 rfl) pa_nil h2) (by decide +kernel) (by decide +kernel) h2 rfl
theorem sset_ints {K : PySem.W.Frag} {pr : Program} {w : World} {P : Addr → Prop} {H : Hp} {Q : VK} {v : V} {xs : List D} {ns : List Int} {r : List D} (hP : Occ P H) (h : Dq K (msk P H) v (.tuple xs)) (e1 : intsOf xs = some ns) (e2 : intSet ns = some r) (g : Done K P H (.list r) Q) :
    rSetA K pr w [v] H fun u H2 => rSortA K pr w [u] H2 Q := by
  unfold intSet at e2
  simp only [Option.ite_none_right_eq_some, Option.some.injEq] at e2
  obtain ⟨few, rfl⟩ := e2
  obtain ⟨l, ws, rfl, h1, h2⟩ := h.tup_inv
  have e := h2.ints_inv e1
  subst e
  refine ⟨l, rfl, .inl ⟨ns, sqT_same h1, few, fun a n ha hn => .inl ⟨a, _, n, rfl, upd_same, by omega, fun ms b hp hm hl hb => ?_⟩⟩⟩
  have em : ms = sortU id ns := rise_one (f := id) hp (sortU_lt id ns) fun k => by rw [mem_sortU (f := id) (fun _ _ z => z), hm k, decide_eq_true_iff]
  subst em
  have ne : b ≠ a := fun z => by rw [z, upd_same] at hb; cases hb
  have hb' : H b = none := by rwa [upd_ne ne] at hb
  refine g _ _ (Same.trans (Same.upd ha) (Same.upd hb)) (.lst (SqL.of (msk_some.mpr ⟨hP.free hb', upd_same⟩)) DqAll.ints) fun ys ey => ?_
  cases ey
  exact ⟨b, _, rfl, hb', upd_same, DqAll.ints⟩
theorem sset_rows {K : PySem.W.Frag} {pr : Program} {w : World} {P : Addr → Prop} {H : Hp} {Q : VK} {v : V} {xs : List D} {r : List D} (hP : Occ P H) (h : Dq K (msk P H) v (.tuple xs) ∨ Dq K (msk P H) v (.list xs)) (e : rowSet xs = some r) (g : Done K P H (.list r) Q) :
    rSetA K pr w [v] H fun u H2 => rSortA K pr w [u] H2 Q := by
  unfold rowSet at e
  obtain ⟨rs, e1, e2⟩ := Option.bind_eq_some_iff.mp e
  simp only [Option.ite_none_right_eq_some, Option.some.injEq] at e2
  obtain ⟨hs, rfl⟩ := e2
  have S := setable_ok hs
  have ex := rowsOf_inv e1
  subst ex
  obtain ⟨l, ks, rfl, hl, hk, hr⟩ : ∃ (l : Addr) (ks : List (Addr × List Int)), v = V.ref l ∧ (SqT K (msk P H) l (ks.map fun p => V.ref p.1) ∨ SqL K (msk P H) l (ks.map fun p => V.ref p.1)) ∧ ks.map (·.2) = rs ∧ ∀ p ∈ ks, SqN (msk P H) p.1 (p.2.map V.int) := by
    rcases h with h | h
    · obtain ⟨l, ws, rfl, h1, h2⟩ := h.tup_inv
      obtain ⟨ks, rfl, h3, h4⟩ := rows_at h2
      exact ⟨l, ks, rfl, .inl h1, h3, h4⟩
    · obtain ⟨l, ws, rfl, h1, h2⟩ := h.list_inv
      obtain ⟨ks, rfl, h3, h4⟩ := rows_at h2
      exact ⟨l, ks, rfl, .inr h1, h3, h4⟩
  have lk : ks.length = rs.length := by rw [← hk, List.length_map]
  obtain ⟨d, hd1, hd⟩ := S.len
  have inR : ∀ p ∈ ks, p.2 ∈ rs := fun p hp => by rw [← hk]; exact List.mem_map.mpr ⟨p, hp, rfl⟩
  refine ⟨l, rfl, .inr ⟨ks, hl.imp sqT_same (fun z => SqL.mono msk_le z), fun p hp => sqT_same (hr p hp).t, by have := S.few; omega, fun a L ha hL hA => .inr ⟨a, L, d, 64, rfl, upd_same, fun p hp => SqT.mono (Same.upd ha) (sqT_same (hr p (hL p hp)).t), hd1, fun p hp => ⟨hd _ (inR p (hL p hp)), S.bd _ (inR p (hL p hp))⟩, fun L' b pm nd few pw hb => ?_⟩⟩⟩
  have ne : b ≠ a := fun z => by rw [z, upd_same] at hb; cases hb
  have hb' : H b = none := by rwa [upd_ne ne] at hb
  have hL' : ∀ p ∈ L', p ∈ ks := fun p hp => hL p (pm.mem_iff.mp hp)
  have er : L'.map (·.2) = sortU codeR rs := by
    refine rise_one (f := codeR) ?_ (sortU_lt codeR rs) fun r => ?_
    · rw [List.pairwise_map]
      have both := List.Pairwise.and pw (List.pairwise_map.mp (List.nodup_iff_pairwise_ne.mp nd))
      refine List.Pairwise.imp_of_mem (fun {p q} hp hq hpq => ?_) both
      rw [codeR_eq, codeR_eq]
      rcases Int.lt_or_eq_of_le hpq.1 with z | z
      · exact z
      · exact absurd (code_inj (hd _ (inR p (hL' p hp))) (hd _ (inR q (hL' q hq))) (S.bd _ (inR p (hL' p hp))) (S.bd _ (inR q (hL' q hq))) z) hpq.2
    · rw [mem_sortR S r]
      constructor
      · intro z
        obtain ⟨p, hp, rfl⟩ := List.mem_map.mp z
        exact inR p (hL' p hp)
      · intro z
        rw [← hk] at z
        obtain ⟨p, hp, rfl⟩ := List.mem_map.mp z
        obtain ⟨q, hq, e⟩ := List.mem_map.mp (hA p hp)
        exact List.mem_map.mpr ⟨q, pm.mem_iff.mpr hq, e⟩
  have eD : (sortU codeR rs).map (fun r => PyData.tuple (r.map .int)) = L'.map fun p => PyData.tuple (p.2.map .int) := by rw [← er, List.map_map]; rfl
  have up : Same H (upd (upd H a (SetTO pr w a L)) b (.lst (L'.map fun q => V.ref q.1))) := Same.trans (Same.upd ha) (Same.upd hb)
  rw [eD] at g
  refine g _ _ up (.lst (SqL.of (msk_some.mpr ⟨hP.free hb', upd_same⟩)) (rows_dq fun p hp => SqN.mono (same_msk2 up) (hr p (hL' p hp)))) fun ys ey => ?_
  cases ey
  refine ⟨b, _, rfl, hb', upd_same, rows_dq fun p hp => SqN.mono (msk_mono fun c o n e => ⟨fun z => z.elim n fun z => ?_, up _ _ e⟩) (hr p (hL' p hp))⟩
  rw [z, hb'] at e
  cases e
theorem sset_read {K : PySem.W.Frag} {pr : Program} {w : World} {P : Addr → Prop} {H : Hp} {Q : VK} {v : V} {x r : D} (hP : Occ P H) (h : Dq K (msk P H) v x) (e : ssetD x = some r) (g : Done K P H r Q) : rSetA K pr w [v] H fun u H2 => rSortA K pr w [u] H2 Q := by
  unfold ssetD at e
  split at e
  · split at e
    · rename_i ns e1
      obtain ⟨y, e2, rfl⟩ := Option.map_eq_some_iff.mp e
      exact sset_ints hP h e1 e2 g
    · obtain ⟨y, e2, rfl⟩ := Option.map_eq_some_iff.mp e
      exact sset_rows hP (.inl h) e2 g
  · obtain ⟨y, e2, rfl⟩ := Option.map_eq_some_iff.mp e
    exact sset_rows hP (.inr h) e2 g
  · cases e
end
end Sw

set_option Elab.async false
set_option linter.all false
set_option maxRecDepth 100000
set_option maxHeartbeats 1000000
/-! sorted(xs) over data, empty tuples among them. -/
namespace Sw
open PySem PySem.Spec PyProof.Rows L2 PySem.W PySem.SeqAt PySem.Calls
section
variable {prog : Program} {w : World} {A : Around} {s : Shared} {E : Value → Shared → Prop}
theorem call_tuple_lt {Q : Value → Shared → Prop} {l b : Addr} {items items2 : Array Value} {e r : Nat → Bool} (hl : s.heap.IsTuple l items) (hb : s.heap.IsTuple b items2)
    (he : ∀ j (h1 : j < items.size) (h2 : j < items2.size), EqAt A.in1 s items[j] items2[j] (e j)) (hr : ∀ j (h1 : j < items.size) (h2 : j < items2.size), e j = false → RcLt A.in1 s items[j] items2[j] (r j))
    (h : Q (.bool (firstLt e r (decide (items.size < items2.size)) (List.range (min items.size items2.size)))) s) : wpAny (model prog w) A (call (.builtin "tuple.__lt__") [.ref l, .ref b]) Q E s := by
  obtain ⟨⟨cls, dd, data, sl⟩, ho, hc, n, hd⟩ := id hl
  obtain ⟨⟨cls2, dd2, data2, sl2⟩, ho2, hc2, n2, hd2⟩ := id hb
  simp only at hc hd hc2 hd2
  subst hc hd hc2 hd2
  exact call_meets F.slot_tuple_lt ⟨_, ho, rfl⟩ F.entry_tuple_lt (F.args_tuple_lt_2 _ _) (tuple_ltAt l b items items2 n n2 dd dd2 sl sl2 e r) ⟨ho, ho2, he, hr, h⟩
/-- one tuple against another, as sorting does it -/
theorem oneLt_tuple {f : Bool} {xs ys : List PyData} {a b : Value} {as bs : List Addr} {Q : Bool → Shared → Prop} (ra : Reads s.heap a (.tuple xs) as) (rb : Reads s.heap b (.tuple ys) bs) (hal : alikeAll xs ys = true)
    (hu : A.units + min (PyData.tuple xs).depth (PyData.tuple ys).depth < cLine) (hq : Q (dataLt (.tuple xs) (.tuple ys)) s) : wpAny (model prog w) A (oneLt' f a b) Q E s := by
  cases f with
  | false => exact oneLt_alike (fun z => by cases z) ra rb (by simpa [alike] using hal) (fun z => by cases z) hu hq
  | true =>
    cases ra with
    | @tuple l o vs n _ as₁ h1 h2 h3 h4 =>
      cases rb with
      | @tuple l' o' vs' n' _ bs₁ k1 k2 k3 k4 =>
        have n1 : vs.size = xs.length := by simpa using ReadsAll.length _ _ _ h4
        have n2 : vs'.size = ys.length := by simpa using ReadsAll.length _ _ _ k4
        rw [dataLt_tuple, ← firstLt_toks xs ys hal, ← n1, ← n2] at hq
        rw [oneLt'_eq]
        simp only [if_true]
        refine wpAny_bind (wpAny_cRoomFor (room_here hu) ?_)
        refine wpAny_bind (wpAny_callSpecialIfBound?_slot (T := "tuple") ⟨_, h1, h2⟩ F.slot_tuple_lt (call_tuple_lt (e := pairEq xs ys) (r := fun j => dataLt (xs.getD j .none) (ys.getD j .none)) ⟨_, h1, h2, _, h3⟩ ⟨_, k1, k2, _, k3⟩ (fun j j1 j2 => ?_) (fun j j1 j2 hj => ?_) ?_))
        · have := eqAt_alikeAll xs ys A.in1 s vs.toList vs'.toList _ _ h4 k4 hal (room_in hu) j (by simpa using j1) (by simpa using j2)
          simpa using this
        · have := rcLt_alikeAll xs ys A.in1 s vs.toList vs'.toList _ _ h4 k4 hal (room_in hu) j (by simpa using j1) (by simpa using j2) hj
          simpa using this
        · exact wpAny_truthy_bool hq
/-- the first items of tuples, if there are such -/
theorem firsts_of {M : Model} : ∀ {vs : List Value} {ds : List PyData} {Q : List (Option Value) → Shared → Prop}, EachIs (fun v d => ∃ as, Reads s.heap v d as) vs ds → (∀ d ∈ ds, anyTup d = true) →
    (∀ fs : List (Option Value), fs.map (·.isSome) = ds.map fullTup → Q fs s) → wpAny M A (vs.mapM firstOfTuple') Q E s
  | _, _, Q, .nil, _, h => by
    rw [List.mapM_nil]
    exact wpAny_pure (h [] rfl)
  | _, _, Q, .cons (a := v) (as := vs) (b := d) (bs := ds) ⟨as, r⟩ t, ht, h => by
    have hd := ht d (List.mem_cons_self ..)
    cases d with
    | tuple xs =>
      cases r with
      | @tuple a o its n _ _ ho hc hdt hr =>
        rw [List.mapM_cons]
        refine wpAny_bind ?_
        rw [kas_first_eq]
        refine wpAny_bind (Looks.here (show Looks M s.heap (typeOf (.ref a)) o.cls from (Looks.ld ho).andThen .now) ?_)
        rw [hc, if_neg (by first | decide | simp)]
        refine wpAny_bind (listItems_at ho hdt (wpAny_pure ?_))
        refine wpAny_bind (firsts_of t (fun d hd => ht d (List.mem_cons_of_mem _ hd)) fun fs hf => wpAny_pure (h _ ?_))
        simp only [List.map_cons, hf, List.cons.injEq, and_true]
        cases xs with
        | nil =>
          cases q : its.toList with
          | nil =>
            have : its = #[] := Array.toList_inj.mp q
            subst this
            rfl
          | cons y ys => rw [q] at hr; cases hr
        | cons x xs =>
          cases q : its.toList with
          | nil => rw [q] at hr; cases hr
          | cons y ys =>
            have : its[0]? = some y := by rw [← Array.getElem?_toList, q]; rfl
            rw [this]
            rfl
    | _ => cases hd
/-- tuples, an empty one among them: what kind of keys -/
theorem mix_kind {M : Model} {vs : List Value} {ds : List PyData} {Q : SortKind → Shared → Prop} (h2 : 2 ≤ vs.length) (e : EachIs (fun v d => ∃ as, Reads s.heap v d as) vs ds) (ht : ∀ d ∈ ds, anyTup d = true) (hm : ds.all fullTup = false)
    (h : ∀ kd, (kd = if ((ds.head?.map fullTup).getD false) = true then general' else oneType') → Q kd s) : wpAny M A (keyKind' vs.toArray) Q E s := by
  rw [keyKind'_eq, List.mapM_toArray, map_eq_pure_bind]
  refine wpAny_bind (wpAny_bind (firsts_of e ht fun fs hf => wpAny_pure ?_))
  have hall : (fs.toArray.all fun x => x.isSome) = false := by
    rw [List.all_toArray]
    have : fs.all (·.isSome) = (fs.map (·.isSome)).all id := by rw [List.all_map]; rfl
    rw [this, hf, List.all_map]
    exact hm
  rw [hall, if_neg (by simp)]
  have h0 : (fs.toArray[0]?.bind id).isSome = (ds.head?.map fullTup).getD false := by
    cases fs with
    | nil =>
      cases ds with
      | nil => rfl
      | cons d ds => simp at hf
    | cons f fs =>
      cases ds with
      | nil => simp at hf
      | cons d ds =>
        simp only [List.map_cons, List.cons.injEq] at hf
        simp only [List.getElem?_toArray, List.getElem?_cons_zero, Option.bind_some, id, List.head?_cons, Option.map_some, Option.getD_some]
        exact hf.1
  rw [h0]
  by_cases hg : ((ds.head?.map fullTup).getD false) = true
  · rw [if_pos hg]
    exact wpAny_pure (h _ (by rw [if_pos hg]))
  · rw [if_neg hg]
    rw [oneTypeOnly'_eq, List.mapM_toArray, map_eq_pure_bind]
    obtain ⟨v₁, v₂, rest, rfl⟩ : ∃ v₁ v₂ rest, vs = v₁ :: v₂ :: rest := by
      match vs, h2 with
      | [], h2 => simp at h2
      | [_], h2 => simp at h2
      | v₁ :: v₂ :: rest, _ => exact ⟨v₁, v₂, rest, rfl⟩
    refine wpAny_bind (wpAny_bind (wpAny_bind (kas_mapM (r := Value.type "tuple") _ (fun v hv Q' hq => ?_) (wpAny_pure ?_))))
    · obtain ⟨d, hd, as, r⟩ := e.left v hv
      have q := ht d hd
      cases d with
      | tuple xs => exact (looks_reads r).here hq
      | _ => cases q
    · have hall2 : ((List.map (fun _ => Value.type "tuple") (v₁ :: v₂ :: rest)).toArray.all fun x => x == Value.type "tuple") = true := by
        simp only [List.all_toArray, List.all_map, List.all_eq_true]
        intro _ _
        rfl
      have h0 : (List.map (fun _ => Value.type "tuple") (v₁ :: v₂ :: rest)).toArray[0]? = some (Value.type "tuple") := by simp
      rw [h0]
      simp only [hall2, if_true]
      exact wpAny_pure (wpAny_pure (h _ (by rw [if_neg hg]; rfl)))
theorem anyTup_alike {x y : PyData} (h : alike x y = true) : anyTup x = anyTup y := by
  cases x <;> cases y <;> first | rfl | (simp [alike] at h)
theorem fullTup_ex {d : PyData} (h : fullTup d = true) : ∃ x r, d = .tuple (x :: r) := by
  cases d with
  | tuple ys =>
    cases ys with
    | nil => cases h
    | cons y ys => exact ⟨y, ys, rfl⟩
  | _ => cases h
/-- alike data can be sorted -/
theorem sortsAt_any {vs : List Value} {ds : List PyData} (e : EachIs (fun v d => ∃ as, Reads s.heap v d as) vs ds) (hal : AllAlike ds) (hn : ∀ d ∈ ds, d ≠ .none) (hu : ∀ d, d ∈ ds → A.units + d.depth < cLine) : SortsAt prog w A s (dataKind s.heap ds) vs := by
  by_cases h1 : ds.all fullTup = true
  · exact SortsAt.data e hal (.inl fun d hd => fullTup_ex (List.all_eq_true.mp h1 d hd)) hu
  by_cases h2 : ∃ d, d ∈ ds ∧ anyTup d = true
  · obtain ⟨d0, hd0, t0⟩ := h2
    have ht : ∀ d ∈ ds, anyTup d = true := fun d hd => by rw [anyTup_alike (hal d hd d0 hd0)]; exact t0
    have room : ∀ {d d' : PyData}, d ∈ ds → A.units + min d.depth d'.depth < cLine := fun {d d'} hd => Nat.lt_of_le_of_lt (Nat.add_le_add_left (Nat.min_le_left _ _) _) (hu d hd)
    refine ⟨fun v hv => ?_, (if ((ds.head?.map fullTup).getD false) = true then general' else oneType'), ?_, fun h2 E Q hq => mix_kind h2 e ht (by simpa using h1) fun kd ek => by rw [ek]; exact hq⟩
    · obtain ⟨d, hd, as, r⟩ := e.left v hv
      exact ⟨_, dataKind_some hal hd r⟩
    · intro E x y a b Q ha hb hq
      obtain ⟨d, as, hd, ra, rfl⟩ := dataKind_inv ha
      obtain ⟨d', as', hd', rb, rfl⟩ := dataKind_inv hb
      have q1 := ht d hd
      have q2 := ht d' hd'
      have al := hal d hd d' hd'
      cases d with
      | tuple xs =>
        cases d' with
        | tuple ys =>
          have al' : alikeAll xs ys = true := by simpa [alike] using al
          by_cases hg : ((ds.head?.map fullTup).getD false) = true
          · rw [if_pos hg]
            exact oneLt_tuple (f := false) ra rb al' (room hd) hq
          · rw [if_neg hg]
            exact oneLt_tuple (f := true) ra rb al' (room hd) hq
        | _ => cases q2
      | _ => cases q1
  · refine SortsAt.data e hal (.inr fun d hd => ⟨hn d hd, fun xs z => h2 ⟨d, hd, by rw [z]; rfl⟩⟩) hu
/-- sorted(xs), of any alike data -/
theorem sorted_any {β : Type} {bs : List β} {vs : List Value} {R : Value → β → Prop} {enc : β → PyData} {l : Addr} {Q : Value → Shared → Prop} (hl : s.heap.IsList l vs.toArray) (e : EachIs R vs bs) (er : EachIs (fun v b => ∃ as, Reads s.heap v (enc b) as) vs bs) (hal : AllAlike (bs.map enc)) (hn : ∀ d ∈ bs.map enc, d ≠ .none) (hL : bs.length ≤ sizeLine)
    (hu : ∀ b, b ∈ bs → A.units + 2 + (enc b).depth < cLine) (h : ∀ out, out.length = bs.length → EachIs R out (bs.mergeSort (dataLe false enc)) → Q (.ref (s.heap.objs.size + 1)) { s with heap := sortedAll s.heap vs (List.toArray out) }) :
    wpAny (model prog w) A (call (.builtin "sorted") [.ref l]) Q E s := by
  have er' : EachIs (fun v b => ∃ as, Reads (sortingHeap (copyHeap s.heap vs) (s.heap.objs.size + 1) vs) v (enc b) as) vs bs := er.mono fun _ _ ⟨as, r⟩ => ⟨as, PyProof.Rows.Reads.keeps (fun _ _ => sorting_copy_old) r⟩
  exact sorted_vals hl (sortsAt_any (s := { s with heap := sortingHeap (copyHeap s.heap vs) (s.heap.objs.size + 1) vs }) (each_map (R := fun v d => ∃ as, Reads (sortingHeap (copyHeap s.heap vs) (s.heap.objs.size + 1) vs) v d as) enc er') hal hn (bound_map hu)) (by rw [e.length]; exact hL)
    (h _ (by rw [sortVals_length false rfl]; exact e.length) (sortVals_data false e er' hal))
theorem collect_tup {l : Addr} {vs : List Value} {Q : List Value → Shared → Prop} (hl : IsTup s.heap l vs.toArray)
    (h : Q vs { s with heap := (s.heap.push (seqObj "list" #[] 0)).update s.heap.objs.size (Obj.mapSeq (· ++ vs.toArray)) }) (hsz : vs.length ≤ sizeLine) :
    wpAny (model prog w) A (collect (.ref l)) Q E s := by
  obtain ⟨o, ho, hc, n, hd⟩ := id hl
  unfold collect
  refine wpAny_bind (wpAny_runValue (codeAny_builtin entry_proto_collect' ?_))
  show wpAny _ _ (do again (.builtin "list.__iadd__" ⟨[← newList [], .ref l], []⟩)) _ _ s
  refine wpAny_bind (wpAny_newList (wpAny_pure ⟨Code.quiet_builtin _ (by decide +kernel), codeAny_builtin entry_list_iadd' ?_⟩))
  show wpAny _ _ (Builtin.List.listExtendWith (.ref s.heap.objs.size) (.ref l) (.ref s.heap.objs.size)) _ _ { s with heap := s.heap.push (seqObj "list" #[] 0) }
  unfold Builtin.List.listExtendWith
  have ho' : (s.heap.push (seqObj "list" #[] 0)).get? l = some o := Heap.get?_push_of_some _ ho
  refine wpAny_bind (wpAny_typeOf (T := "tuple") ⟨o, ho', hc⟩ ?_)
  have ht : (Value.type "tuple" == Value.type "tuple") = true := by rfl
  rw [if_pos (by rw [ht]; simp)]
  refine wpAny_bind (listItems_at ho' hd ?_)
  refine wpAny_bind (listItems_at (xs := #[]) (n := 0) (Heap.get?_push_size _ rfl) rfl ?_)
  rw [if_neg (by simp)]
  refine wpAny_bind (listUpdate_at (xs := #[]) (n := 0) (Heap.get?_push_size _ rfl) rfl ?_ (Nat.zero_le _) (by show (#[] ++ vs.toArray).size ≤ sizeLine + 1; simp only [Array.size_append, List.size_toArray, List.length_nil]; omega))
  refine wpAny_pure ?_
  show wpAny (model prog w) A (do
      let o ← load s.heap.objs.size
      match o.data with
      | .seq xs _ => pure xs.toList
      | _ => unsupported "internal:collect") Q E { s with heap := (s.heap.push (seqObj "list" #[] 0)).update s.heap.objs.size (Obj.mapSeq (· ++ vs.toArray)) }
  refine wpAny_bind (wpAny_load (get?_update_seq (Heap.get?_push_size _ rfl) _) ?_)
  show wpAny _ _ (pure ((#[] : Array Value) ++ vs.toArray).toList) Q E _
  rw [show ((#[] : Array Value) ++ vs.toArray).toList = vs by simp]
  exact wpAny_pure h
theorem sorted_of_sortT {l : Addr} {vs : List Value} {kw : List (Str × Value)} {Q : Value → Shared → Prop} (hl : IsTup s.heap l vs.toArray) (hL : vs.length ≤ sizeLine) (ha1 : argsOk "sorted" ⟨[.ref l], kw⟩) (ha2 : ∀ x, argsOk "list.sort" ⟨[.ref x], kw⟩)
    (body : ∀ E' : Value → Shared → Prop, wpAny (model prog w) A.in1.in1 (Builtin.«list.sort» ⟨[.ref (s.heap.objs.size + 1)], kw⟩) (fun f s' => f = .done (.ret .none) ∧ Q (.ref (s.heap.objs.size + 1)) s') E' { s with heap := copyHeap s.heap vs }) :
    wpAny (model prog w) A (call (.builtin "sorted") [.ref l] kw) Q E s := by
  refine call_function_entry_kw kind_sorted plain_sorted entry_sorted ha1 ?_
  unfold Builtin.«sorted»
  refine wpAny_bind (m := checkCount "sorted" 1 1 _) (wpAny_pure ?_)
  refine wpAny_bind (collect_tup hl ?_ hL)
  refine wpAny_bind (wpAny_newList ?_ hL)
  have hsz : ((s.heap.push (seqObj "list" #[] 0)).update s.heap.objs.size (Obj.mapSeq (· ++ vs.toArray))).objs.size = s.heap.objs.size + 1 := by
    rw [Heap.size_update, size_push']
  show wpAny _ _ _ _ _ { s with heap := copyHeap s.heap vs }
  rw [hsz]
  refine wpAny_bind (wpAny_holding (wpAny_call_entry_kw slot_list_sort ⟨_, copyHeap_at s.heap vs, rfl⟩ entry_list_sort ?body (ha2 _)))
  case body =>
    show wpAny (model prog w) A.in1.in1 (Builtin.«list.sort» ⟨[.ref (s.heap.objs.size + 1)], kw⟩) _ _ _
    refine wpAny_mono (body _) (fun f s' hf => ?_) fun _ _ e => e
    obtain ⟨rfl, hq⟩ := hf
    exact ⟨_, rfl, wpAny_pure ⟨_, rfl, hq⟩⟩
/-- sorted(t) of a tuple -/
theorem sorted_anyT {β : Type} {bs : List β} {vs : List Value} {R : Value → β → Prop} {enc : β → PyData} {l : Addr} {Q : Value → Shared → Prop} (hl : IsTup s.heap l vs.toArray) (e : EachIs R vs bs) (er : EachIs (fun v b => ∃ as, Reads s.heap v (enc b) as) vs bs) (hal : AllAlike (bs.map enc)) (hn : ∀ d ∈ bs.map enc, d ≠ .none) (hL : bs.length ≤ sizeLine)
    (hu : ∀ b, b ∈ bs → A.units + 2 + (enc b).depth < cLine) (h : ∀ out, out.length = bs.length → EachIs R out (bs.mergeSort (dataLe false enc)) → Q (.ref (s.heap.objs.size + 1)) { s with heap := sortedAll s.heap vs (List.toArray out) }) :
    wpAny (model prog w) A (call (.builtin "sorted") [.ref l]) Q E s := by
  have er' : EachIs (fun v b => ∃ as, Reads (sortingHeap (copyHeap s.heap vs) (s.heap.objs.size + 1) vs) v (enc b) as) vs bs := er.mono fun _ _ ⟨as, r⟩ => ⟨as, PyProof.Rows.Reads.keeps (fun _ _ => sorting_copy_old) r⟩
  refine sorted_of_sortT hl (by rw [e.length]; exact hL) (args_sorted1 _) (fun _ => args_list_sort _) fun _ => list_sort_vals (s := { s with heap := copyHeap s.heap vs }) (copyHeap_at s.heap vs) (sortsAt_any (s := { s with heap := sortingHeap (copyHeap s.heap vs) (s.heap.objs.size + 1) vs }) (each_map (R := fun v d => ∃ as, Reads (sortingHeap (copyHeap s.heap vs) (s.heap.objs.size + 1) vs) v d as) enc er') hal hn (bound_map hu)) (by rw [e.length]; exact hL) ⟨rfl, ?_⟩
  exact h _ (by rw [sortVals_length false rfl]; exact e.length) (sortVals_data false e er' hal)
end
end Sw

set_option Elab.async false
set_option linter.all false
set_option maxRecDepth 100000
set_option maxHeartbeats 1000000
/-! sorted(xs) over data. -/
namespace Sw
open PySem PySem.Spec PyProof.Rows L2 PySem.W
section
variable {X : Cx}
theorem each_rel {K : PySem.W.Frag} {H : Hp} : ∀ {vs : List V} {us : List Value} {xs : List D}, Vals vs us → DqAll K H vs xs → EachIs (fun u d => ∃ v, RelV v u ∧ Dq K H v d) us xs
  | _, _, _, .nil, .nil => .nil
  | _, _, _, .cons r rs, .cons h hs => .cons ⟨_, r, h⟩ (each_rel rs hs)
theorem rel_each {K : PySem.W.Frag} {H : Hp} : ∀ {us : List Value} {xs : List D}, EachIs (fun u d => ∃ v, RelV v u ∧ Dq K H v d) us xs → ∃ vs, Vals vs us ∧ DqAll K H vs xs
  | _, _, .nil => ⟨[], .nil, .nil⟩
  | _, _, .cons ⟨v, r, h⟩ t => by
    obtain ⟨vs, a, b⟩ := rel_each t
    exact ⟨v :: vs, .cons r a, .cons h b⟩
theorem plain_mem : ∀ {xs : List D} {x : D}, PyData.plainAll xs = true → x ∈ xs → x.plain = true
  | y :: ys, x, h, m => by
    simp only [PyData.plainAll, Bool.and_eq_true] at h
    rcases List.mem_cons.mp m with rfl | m
    · exact h.1
    · exact plain_mem h.2 m
theorem depth_mem : ∀ {xs : List D} {x : D}, x ∈ xs → x.depth ≤ PyData.depthAll xs
  | y :: ys, x, m => by
    simp only [PyData.depthAll]
    rcases List.mem_cons.mp m with rfl | m
    · exact Nat.le_max_left _ _
    · exact Nat.le_trans (depth_mem m) (Nat.le_max_right _ _)
def leL (a b : D) : Bool := !W.dataLt b a
theorem leL_total : TotalLe leL := by
  have e : leL = dataLe false id := rfl
  rw [e]
  exact sortLe_total _ false _
theorem ins_pair : ∀ {x : D} {l : List D}, l.Pairwise (fun a b => leL a b = true) → (insL x l).Pairwise (fun a b => leL a b = true) ∧ ∀ y ∈ insL x l, y = x ∨ y ∈ l
  | x, [], _ => ⟨by simp [insL], fun y h => .inl (by simpa [insL] using h)⟩
  | x, y :: ys, h => by
    obtain ⟨h1, h2⟩ := List.pairwise_cons.mp h
    unfold insL
    by_cases hy : W.dataLt y x = true
    · rw [if_pos hy]
      obtain ⟨p, q⟩ := ins_pair (x := x) h2
      refine ⟨List.pairwise_cons.mpr ⟨fun z hz => ?_, p⟩, fun z hz => ?_⟩
      · rcases q z hz with rfl | hz
        · rcases leL_total.total y z with w | w
          · exact w
          · unfold leL at w
            rw [hy] at w
            cases w
        · exact h1 z hz
      · rcases List.mem_cons.mp hz with rfl | hz
        · exact .inr (by simp)
        · exact (q z hz).imp id fun w => by simp [w]
    · rw [if_neg hy]
      have lxy : leL x y = true := by
        unfold leL
        simpa using hy
      refine ⟨List.pairwise_cons.mpr ⟨fun z hz => ?_, h⟩, fun z hz => by simpa using hz⟩
      rcases List.mem_cons.mp hz with rfl | hz
      · exact lxy
      · exact leL_total.trans _ _ _ lxy (h1 z hz)
theorem ins_filter (c : D) : ∀ {x : D} {l : List D}, (insL x l).filter (sameRank leL c) = (x :: l).filter (sameRank leL c)
  | x, [] => rfl
  | x, y :: ys => by
    unfold insL
    by_cases hy : W.dataLt y x = true
    · rw [if_pos hy, List.filter_cons, ins_filter c, List.filter_cons, List.filter_cons, List.filter_cons]
      by_cases a : sameRank leL c x = true
      · by_cases b : sameRank leL c y = true
        · exfalso
          unfold sameRank at a b
          rw [Bool.and_eq_true] at a b
          have w := leL_total.trans _ _ _ a.2 b.1
          unfold leL at w
          rw [hy] at w
          cases w
        · rw [if_neg b, if_neg b]
      · rw [if_neg a, if_neg a]
    · rw [if_neg hy]
theorem sort_eq : ∀ xs : List D, (sortL xs).Pairwise (fun a b => leL a b = true) ∧ ∀ c, (sortL xs).filter (sameRank leL c) = xs.filter (sameRank leL c)
  | [] => ⟨.nil, fun _ => rfl⟩
  | x :: xs => by
    obtain ⟨a, b⟩ := sort_eq xs
    refine ⟨(ins_pair a).1, fun c => ?_⟩
    show (insL x (sortL xs)).filter _ = _
    rw [ins_filter, List.filter_cons, List.filter_cons, b]
theorem sortL_eq (xs : List D) : xs.mergeSort (dataLe false id) = sortL xs := (sort_unique leL_total (sort_eq xs).1 (sort_eq xs).2).symm
theorem bi_sorted {k : Nat} (hr : Room k X.A) : CallR X (.builtin "sorted") (rBi X.K biSorted) := by
  intro pins s σ H vs us Q I r ⟨P, ds, x, hP, hd, e, g⟩
  have core : ∀ (xs ws : List D) , True := fun _ _ => trivial
  have fin : ∀ {xs : List D} {its : List Value} {ws : List V}, sortable xs = true → Vals ws its → ws.length ≤ sizeLine → DqAll X.K (msk P H) ws xs → x = .list (sortL xs) →
      (EachIs (fun u d => ∃ v, RelV v u ∧ Dq X.K (msk P H) v d) its xs ∧ EachIs (fun u d => ∃ as, Reads s.heap u (id d) as) its xs ∧ AllAlike (xs.map id) ∧ (∀ d ∈ xs.map id, d ≠ .none) ∧ xs.length ≤ sizeLine ∧ (∀ b, b ∈ xs → X.A.units + 2 + (id b).depth < cLine) ∧
      ∀ out, out.length = xs.length → EachIs (fun u d => ∃ v, RelV v u ∧ Dq X.K (msk P H) v d) out (xs.mergeSort (dataLe false id)) → EP X pins σ Q (.ref (s.heap.objs.size + 1)) { s with heap := sortedAll s.heap its (List.toArray out) }) := by
    intro xs its ws hs rv hz h3 ex
    subst ex
    unfold sortable at hs
    simp only [Bool.and_eq_true] at hs
    obtain ⟨⟨ha, hn⟩, hf⟩ := hs
    unfold flatAll at hf
    simp only [Bool.and_eq_true, decide_eq_true_eq] at hf
    have e1 := each_rel rv h3
    refine ⟨e1, ?_, ?_, ?_, by rw [← h3.length]; exact hz, fun b hb => ?_, fun out ho eo => ?_⟩
    · have q := each_mem e1
      exact q.mono fun u d ⟨⟨v, r1, h⟩, hm⟩ => reads_of I (h.mono msk_le) (plain_mem hf.1 hm) r1
    · rw [List.map_id]
      unfold alikeEach at ha
      intro d hd d' hd'
      exact List.all_eq_true.mp (List.all_eq_true.mp ha d hd) d' hd'
    · rw [List.map_id]
      intro d hd z
      have q2 := List.all_eq_true.mp hn d hd
      subst z
      cases q2
    · have q := depth_mem hb
      have u := hr.units
      show X.A.units + 2 + b.depth < cLine
      omega
    · obtain ⟨zs, rz, dz⟩ := rel_each eo
      have lm : (sortL xs).length = xs.length := by rw [← sortL_eq, List.length_mergeSort]
      have hL : xs.length ≤ sizeLine := by rw [← h3.length]; exact hz
      rw [sortL_eq] at dz
      obtain ⟨ep, he'⟩ := sortedAll_at s.heap its out.toArray
      have lz : zs.length ≤ sizeLine := by rw [dz.length, lm]; exact hL
      refine ⟨.ref _, L2.upd H (s.heap.objs.size + 1) (.lst zs), I.laid (t' := s.toks) (fun _ _ => PyProof.Rows.sortedAll_old) (Nat.le_succ _) ⟨lz, out, ep, rz, he'⟩, rfl, ?_⟩
      exact g.lst hP (I.hok.fresh (Nat.le_succ _)) dz
  unfold biSorted at e
  split at e
  · rename_i xs
    simp only [Option.ite_none_right_eq_some, Option.some.injEq] at e
    obtain ⟨hs, rfl⟩ := e
    obtain ⟨v, rfl, h1⟩ := one_of hd
    obtain ⟨a, ws, rfl, h2, h3⟩ := h1.list_inv
    obtain ⟨its, n, sl, rv, hz, hob⟩ := inv_sq I (rd_of h2)
    rw [Vals.ref1 r]
    obtain ⟨e1, e2, hal, hso, hL, hu, k⟩ := fin hs rv hz h3 rfl
    exact sorted_any (enc := id) ⟨_, hob, rfl, n, rfl⟩ e1 e2 hal hso hL hu k
  · rename_i xs
    simp only [Option.ite_none_right_eq_some, Option.some.injEq] at e
    obtain ⟨hs, rfl⟩ := e
    obtain ⟨v, rfl, h1⟩ := one_of hd
    obtain ⟨a, ws, rfl, h2, h3⟩ := h1.tup_inv
    obtain ⟨its, rv, ht, hz⟩ := I.tuple (sq_of h2)
    rw [Vals.ref1 r]
    obtain ⟨e1, e2, hal, hso, hL, hu, k⟩ := fin hs rv hz h3 rfl
    exact sorted_anyT (enc := id) ht e1 e2 hal hso hL hu k
  · cases e
theorem noL_some {x r : D} (h : noL x = some r) : x = r ∧ ∀ xs, r ≠ .list xs := by
  cases x <;> simp only [noL, reduceCtorEq, Option.some.injEq] at h <;> subst h <;> exact ⟨rfl, fun _ z => by cases z⟩
theorem rank_ok {xs : List D} (h : rankable xs = true) : AlikeAll xs ∧ PyData.plainAll xs = true ∧ PyData.depthAll xs ≤ 60 := by
  unfold rankable flatAll alikeEach at h
  simp only [Bool.and_eq_true, decide_eq_true_eq] at h
  obtain ⟨⟨ha, hn⟩, hf, hd⟩ := h
  exact ⟨⟨fun d hd d' hd' => List.all_eq_true.mp (List.all_eq_true.mp ha d hd) d' hd', fun d hd z => by
    have q := List.all_eq_true.mp hn d hd
    subst z
    cases q⟩, hf, hd⟩
/-- the one that was found is one of the items -/
theorem found_at {pins : List (Addr × Obj)} {σ : L2.St} {H : Hp} {s : Shared} {P : Addr → Prop} {ws : List V} {its : List Value} {xs : List D} {i : Nat} {v : Value} {m : D} {h' : Heap} {tk : Nat} {bs : List Addr} {Q : VK} (I : Inv X pins σ H s) (rv : Vals ws its) (hd : DqAll X.K (msk P H) ws xs) (pl : PyData.plainAll xs = true)
    (hv : its.toArray[i]? = some v) (hr : Reads h' v m bs) (hk : ∀ b o, s.heap.get? b = some o → h'.get? b = some o) (nl : ∀ ys, m ≠ .list ys) (g : Done X.K P H m Q) : EP X pins σ Q v { s with heap := h', toks := tk } := by
  obtain ⟨d, hx, x, r1, h1⟩ : ∃ d, d ∈ xs ∧ ∃ x, RelV x v ∧ Dq X.K (msk P H) x d := by
    have hv' : its[i]? = some v := by simpa using hv
    clear hv hr
    induction rv generalizing xs i with
    | nil => simp at hv'
    | cons r rs ih =>
      cases hd with
      | cons h hs =>
        cases i with
        | zero =>
          simp only [List.getElem?_cons_zero, Option.some.injEq] at hv'
          subst hv'
          exact ⟨_, by simp, _, r, h⟩
        | succ j =>
          obtain ⟨d, hm, x, a, b⟩ := ih hs (by simp only [PyData.plainAll, Bool.and_eq_true] at pl; exact pl.2) (by simpa using hv')
          exact ⟨d, by simp [hm], x, a, b⟩
  obtain ⟨as, r2⟩ := reads_of I (h1.mono msk_le) (plain_mem pl hx) r1
  have e := PySem.SeqAt.plain_unique d m v _ _ (plain_mem pl hx) (reads_keeps hk r2) hr
  subst e
  exact ⟨x, H, I.kept hk, r1, g.val h1 nl⟩
theorem bi_min1 {k : Nat} (hr : Room k X.A) : CallR X (.builtin "min") (rBi X.K biMin1) := by
  intro pins s σ H vs us Q I r ⟨P, ds, x, hP, hd, e, g⟩
  unfold biMin1 at e
  split at e
  · simp only [Option.ite_none_right_eq_some] at e
    obtain ⟨hs, e⟩ := e
    obtain ⟨rfl, nl⟩ := noL_some e
    obtain ⟨ha, hf, hdp⟩ := rank_ok hs
    obtain ⟨v, rfl, h1⟩ := one_of hd
    obtain ⟨a, ws, rfl, h2, h3⟩ := h1.list_inv
    obtain ⟨its, n, sl, rv, hz, hob⟩ := inv_sq I (rd_of h2)
    rw [Vals.ref1 r]
    obtain ⟨as, rd⟩ := readsAll_of I (h3.mono msk_le) hf rv
    have u := hr.units
    refine min_list_data (vs := its.toArray) hr.hd ⟨_, hob, rfl, n, rfl⟩ (by simpa using rd) ha (by show X.A.units + 1 + _ < cLine; omega) fun i v h' tk bs hv hm hk => found_at I rv h3 hf hv hm hk nl g
  · simp only [Option.ite_none_right_eq_some] at e
    obtain ⟨hs, e⟩ := e
    obtain ⟨rfl, nl⟩ := noL_some e
    obtain ⟨ha, hf, hdp⟩ := rank_ok hs
    obtain ⟨v, rfl, h1⟩ := one_of hd
    obtain ⟨a, ws, rfl, h2, h3⟩ := h1.tup_inv
    obtain ⟨its, rv, ht, hz⟩ := I.tuple (sq_of h2)
    rw [Vals.ref1 r]
    obtain ⟨as, rd⟩ := readsAll_of I (h3.mono msk_le) hf rv
    have u := hr.units
    refine min_tuple_data (vs := its.toArray) hr.hd ht (by simpa using rd) ha (by show X.A.units + 1 + _ < cLine; omega) fun i v h' tk bs hv hm hk => found_at I rv h3 hf hv hm hk nl g
  · cases e
theorem bi_max1 {k : Nat} (hr : Room k X.A) : CallR X (.builtin "max") (rBi X.K biMax1) := by
  intro pins s σ H vs us Q I r ⟨P, ds, x, hP, hd, e, g⟩
  unfold biMax1 at e
  split at e
  · simp only [Option.ite_none_right_eq_some] at e
    obtain ⟨hs, e⟩ := e
    obtain ⟨rfl, nl⟩ := noL_some e
    obtain ⟨ha, hf, hdp⟩ := rank_ok hs
    obtain ⟨v, rfl, h1⟩ := one_of hd
    obtain ⟨a, ws, rfl, h2, h3⟩ := h1.list_inv
    obtain ⟨its, n, sl, rv, hz, hob⟩ := inv_sq I (rd_of h2)
    rw [Vals.ref1 r]
    obtain ⟨as, rd⟩ := readsAll_of I (h3.mono msk_le) hf rv
    have u := hr.units
    refine max_list_data (vs := its.toArray) hr.hd ⟨_, hob, rfl, n, rfl⟩ (by simpa using rd) ha (by show X.A.units + 1 + _ < cLine; omega) fun i v h' tk bs hv hm hk => found_at I rv h3 hf hv hm hk nl g
  · simp only [Option.ite_none_right_eq_some] at e
    obtain ⟨hs, e⟩ := e
    obtain ⟨rfl, nl⟩ := noL_some e
    obtain ⟨ha, hf, hdp⟩ := rank_ok hs
    obtain ⟨v, rfl, h1⟩ := one_of hd
    obtain ⟨a, ws, rfl, h2, h3⟩ := h1.tup_inv
    obtain ⟨its, rv, ht, hz⟩ := I.tuple (sq_of h2)
    rw [Vals.ref1 r]
    obtain ⟨as, rd⟩ := readsAll_of I (h3.mono msk_le) hf rv
    have u := hr.units
    refine max_tuple_data (vs := its.toArray) hr.hd ht (by simpa using rd) ha (by show X.A.units + 1 + _ < cLine; omega) fun i v h' tk bs hv hm hk => found_at I rv h3 hf hv hm hk nl g
  · cases e
end
end Sw

set_option Elab.async false
set_option linter.all false
set_option maxRecDepth 100000
set_option maxHeartbeats 1000000
/-! The rules for expressions, over the readings of their code. -/
namespace Sw
open PySem PySem.Spec PyProof.Rows L2

theorem occ_of {K : PySem.W.Frag} {κ : List Addr} {M : Addr → Prop} {H : Hp} {st : Store} (c : Cells K κ M H st) : Occ (Hid κ M) H := fun a h => by
  rcases h with h | h
  · obtain ⟨vs, e⟩ := c.has h
    exact ⟨_, e⟩
  · exact c.own a h
theorem peI {X : Cx} {e : Expr} {t t' : TE} (h : PE X e t) (i : ∀ σ H Q, t' σ H Q → t σ H Q) : PE X e t' := ⟨fun pins s σ H Q I q => h.run pins s σ H Q I (i σ H Q q)⟩
theorem ptI {X : Cx} {e : Expr} {t t' : TT} (h : PT X e t) (i : ∀ σ H Q, t' σ H Q → t σ H Q) : PT X e t' := ⟨fun pins s σ H Q I q => h.run pins s σ H Q I (i σ H Q q)⟩
theorem paI {X : Cx} {e : List Expr} {t t' : TA} (h : PA X e t) (i : ∀ σ H Q, t' σ H Q → t σ H Q) : PA X e t' := ⟨fun pos pins s σ H Q I q => h.run pos pins s σ H Q I (i σ H Q q)⟩

/-- what a def of the text promises: c is worth its result -/
def spF (K : PySem.W.Frag) (xc : Nat → Addr) (n : Nat) (c : List PV → Store → Res PV) (fr : Bool) : Sp := fun vs H Q E =>
  vs.length = n ∧ ∃ κ M st ps, Cells K κ M H st ∧ RpAll K κ (msk (Hid κ M) H) vs ps ∧ Goal K xc (fun cls d _ H' => E cls d H') [] κ M H fr (c ps st) Q
/-- names of the text: its defs, its constants, its exceptions' classes; hot: an exception is handled; the defs that are called there -/
structure Nm where
  fn : Nat → Option Str
  gl : Nat → Option Str
  hot : Bool
  cl : Nat → Option Str
  rz : Nat → Bool
  hots : Nat → Option Str
/-- .. in an except suite -/
def Nm.heat (nm : Nm) : Nm := ⟨nm.hots, nm.gl, true, nm.cl, nm.rz, nm.hots⟩
def bNames : List Str := ["len", "tuple", "list", "sorted", "min", "max", "sum", "all", "any", "int", "bool", "str", "dict", "isinstance", "divmod", "set", "range", "enumerate", "zip", "repr", "ValueError"]
/-- what a def promises where the exception x is handled -/
structure FnX (P : Program) (w : World) (K : PySem.W.Frag) (mg : Str → Option Value) (base : Heap) (CX : CXT) (xc : Nat → Addr) (x : Hx) (k : Nat) (f : Addr) (fd : FuncData) (ps : List Str) (sp : Sp) : Prop where
  len : ∀ vs H Q E, sp vs H Q E → vs.length = ps.length
  run : ∀ (A : Around) (outer : List PySem.Env) (s : Shared) (H : Hp) (args : Args) (us : List Value) (vs : List V) (Q : VK) (E : XK) (p : Addr × Obj), L2H.RoomH k A → p.1 = x.1 → Zc (.ref (xc x.2.2)) x.2.1 p.2 → (∃ vs, p.2.data = .fields vs) → XCls K xc x.2.2 → L2H.PinOk outer H s p → Env0 P w K mg base A outer s H → BindsTo s fd args (ps.zip us) → Vals vs us → sp vs H Q E →
    codeAny (model P w) A (.call (.ref f) args) (CR CX outer P w H s Q E) s
/-- the context bears it -/
def PinX (X : Cx) (xc : Nat → Addr) (x : Hx) : Prop := XCls X.K xc x.2.2 ∧ ∃ oe : Obj, (x.1, oe) ∈ X.pn ∧ Zc (.ref (xc x.2.2)) x.2.1 oe ∧ ∃ vs, oe.data = .fields vs
/-- a def, as it may be called here -/
def Runs (X : Cx) (xc : Nat → Addr) (ho : Option Hx) (k : Nat) (a : Addr) (fd : FuncData) (ps : List Str) (sp : Sp) : Prop :=
  (ho = none ∧ (Room (k + 2) X.A ∧ X.A.guards = some []) ∧ FnG X.prog X.w X.K X.mg X.base (L2.CX X.prog X.w) (k + 2) a fd ps sp) ∨ ∃ x, ho = some x ∧ L2H.RoomH k X.A ∧ FnX X.prog X.w X.K X.mg X.base (L2.CX X.prog X.w) xc x k a fd ps sp
structure Facts (X : Cx) (Γ : Ctx) (nm : Nm) (xc : Nat → Addr) (k : Nat) : Prop where
  un : X.A.units + 64 < cLine
  room : nm.hot = false → Room (k + 2) X.A
  calm : nm.hot = false → X.calm = true
  gds : nm.hot = false → X.A.guards = some []
  nd : X.N.Nodup
  bl : ∀ x ∈ bNames, X.mg x = none
  fns : ∀ f x, nm.fn f = some x → ∃ a fd ps, X.mg x = some (.ref a) ∧ PySem.W.keepIn X.K (.ref a) = true ∧ Binds X.K fd ps [] ∧ Runs X xc Γ.hot k a fd ps (spF X.K xc ps.length (Γ.call f) (Γ.fresh f)) ∧ ∀ qs st, Γ.call f qs st ≠ .stuck → qs.length = ps.length
  gls : ∀ g x, nm.gl g = some x → ∃ v u, X.mg x = some u ∧ RelV v u ∧ ∀ H, Dq X.K H v (Γ.glob g)
  cls : ∀ c x, nm.cl c = some x → X.mg x = some (.ref (xc c))
  xok : ∀ c, nm.rz c = true → XCls X.K xc c ∧ (c < 6 → PySem.W.excIn X.K (xc c) [.type "ValueError", .type "Exception", .type "BaseException", .type "object"] "ValueError.__new__" = true) ∧ (6 ≤ c → c ≤ 9 → XMk X.prog X.w X.K X.mg X.base (xc c) (xfN c))
  hot : Γ.hot.isSome = nm.hot
  xat : ∀ x, Γ.hot = some x → PinX X xc x
  heat : nm.hot = false → ∀ f x, nm.heat.fn f = some x → ∃ a fd ps, X.mg x = some (.ref a) ∧ PySem.W.keepIn X.K (.ref a) = true ∧ Binds X.K fd ps [] ∧ ∀ h, FnX X.prog X.w X.K X.mg X.base (L2.CX X.prog X.w) xc h k a fd ps (spF X.K xc ps.length (Γ.heat h f) (Γ.fresh f)) ∧ ∀ qs st, Γ.heat h f qs st ≠ .stuck → qs.length = ps.length
theorem Facts.cold {X : Cx} {Γ : Ctx} {nm : Nm} {xc : Nat → Addr} {k : Nat} (F : Facts X Γ nm xc k) (h : nm.hot = false) : Γ.hot = none := by
  have := F.hot
  rw [h] at this
  cases e : Γ.hot with
  | none => rfl
  | some x => rw [e] at this; cases this
section
variable {X : Cx} {CX : CXT} {xc : Nat → Addr} {h : Hx} {k : Nat} {f : Addr} {fd : FuncData} {ps : List Str} {sp : Sp} {E : L2.St → XK} {x : Str} {q pos : Pos} {e : Expr} {es : List Expr} {t : TA}
theorem run_fnX {pins : List (Addr × Obj)} {σ : L2.St} {H : Hp} {s : Shared} {Q : VK} {us : List Value} {vs : List V} (F : FnX X.prog X.w X.K X.mg X.base CX xc h k f fd ps sp) (hr : L2H.RoomH k X.A) (hc : PinX X xc h) (hb : Binds X.K fd ps []) (hx : L2.PassesAt CX X σ (E σ))
    (I : Inv X pins σ H s) (r : Vals vs us) (hsp : sp vs H Q (E σ)) : wpAny (model X.prog X.w) X.A (call (.ref f) us) (EP X pins σ Q) X.xe s := by
  obtain ⟨xk, oe, hp, hz, hf⟩ := hc
  have hl : us.length = ps.length := by rw [← r.length]; exact F.len _ _ _ _ hsp
  have b := hb s us I.kIn (by rw [List.append_nil]; exact hl)
  rw [List.append_nil] at b
  have P1 := I.pin (h.1, oe) (List.mem_append_left _ hp)
  have hpin : L2H.PinOk X.stack H s (h.1, oe) := ⟨P1.1, P1.2.1, fun hm => (List.mem_cons.mp (I.stkSub h.1 hm)).elim P1.2.2.1 P1.2.2.2.1, P1.2.2.2.2⟩
  refine wpAny_call (codeAny_mono (F.run X.A X.stack s H ⟨us, []⟩ us vs Q (E σ) (h.1, oe) hr rfl hz hf xk hpin I.env0 b r hsp) fun r s' hq => ?_)
  cases r with
  | error e => exact hx pins H s e s' I hq
  | ok fl =>
    cases fl with
    | ret u => exact I.after hq
    | next => exact False.elim hq
    | brk => exact False.elim hq
    | cont => exact False.elim hq
theorem run_fnG {pins : List (Addr × Obj)} {σ : L2.St} {H : Hp} {s : Shared} {Q : VK} {us : List Value} {vs : List V} (F : FnG X.prog X.w X.K X.mg X.base CX k f fd ps sp) (hr : Room k X.A ∧ X.A.guards = some []) (hb : Binds X.K fd ps []) (hx : L2.PassesAt CX X σ (E σ))
    (I : Inv X pins σ H s) (r : Vals vs us) (hsp : sp vs H Q (E σ)) : wpAny (model X.prog X.w) X.A (call (.ref f) us) (EP X pins σ Q) X.xe s := by
  have hn := r.length
  have hm := F.len _ _ _ _ hsp
  have b := hb s us I.kIn (by rw [List.append_nil]; omega)
  rw [List.append_nil] at b
  refine wpAny_call (codeAny_mono (F.go X.A hr.2 hr.1 X.stack s H ⟨us, []⟩ us vs Q (E σ) hsp r b I.env0) fun z s' hq => ?_)
  match z, hq with
  | .error e, hq => exact hx pins H s e s' I hq
  | .ok (.ret u), hq => exact I.after hq
  | .ok .next, hq => exact False.elim hq
  | .ok .brk, hq => exact False.elim hq
  | .ok .cont, hq => exact False.elim hq
theorem pe_callG (F : FnG X.prog X.w X.K X.mg X.base CX k f fd ps sp) (hr : Room k X.A ∧ X.A.guards = some []) (hg : Gl X x) (hm : X.mg x = some (.ref f)) (hk : PySem.W.keepIn X.K (.ref f) = true) (hb : Binds X.K fd ps []) (hx : ∀ σ, L2.PassesAt CX X σ (E σ))
    (ha : PA X (e :: es) t) (hdb : (x == ("__debug__" : Str)) = false) (he : starEach (e :: es) X.env = (false, eval e X.env) :: starEach es X.env) (hpl : (backTo pos (starEach es X.env)).any (·.1) = false) :
    PE X (.Call (.Name x q) (e :: es) [] pos) (L2.tCallS sp E t) :=
  ⟨fun pins s σ H Q I h => wpAny_Call_Name_kw (ld_glob I hg hm (PySem.W.callWith_K (h₀ := X.base) I.ok.mod.kin hk (thn (ha.run pos pins s σ H _ I h) fun us s1 ⟨vs, H1, I1, r, q⟩ => ⟨I1.kIn, run_fnG F hr hb (hx σ) I1 r q⟩) he hpl) hdb)⟩
theorem pe_callX (F : FnX X.prog X.w X.K X.mg X.base CX xc h k f fd ps sp) (hr : L2H.RoomH k X.A) (hc : PinX X xc h) (hg : Gl X x) (hm : X.mg x = some (.ref f)) (hk : PySem.W.keepIn X.K (.ref f) = true) (hb : Binds X.K fd ps []) (hx : ∀ σ, L2.PassesAt CX X σ (E σ))
    (ha : PA X (e :: es) t) (hdb : (x == ("__debug__" : Str)) = false) (he : starEach (e :: es) X.env = (false, eval e X.env) :: starEach es X.env) (hpl : (backTo pos (starEach es X.env)).any (·.1) = false) :
    PE X (.Call (.Name x q) (e :: es) [] pos) (L2.tCallS sp E t) := by
  refine ⟨fun pins s σ H Q I h => ?_⟩
  refine wpAny_Call_Name_kw (ld_glob I hg hm ?_ hdb)
  refine PySem.W.callWith_K (h₀ := X.base) I.ok.mod.kin hk (thn (ha.run pos pins s σ H _ I h) fun us s1 ⟨vs, H1, I1, r, q⟩ => ⟨I1.kIn, ?_⟩) he hpl
  exact run_fnX F hr hc hb (hx σ) I1 r q
/-- isinstance(e, c), e the exception that is handled -/
def rIsX (K : PySem.W.Frag) (D a : Addr) (dd : Option Addr) : List V → Hp → VK → Prop := fun xs H Q => ∃ (c : V) (cv : Value) (b : Bool), xs = [.ref a, c] ∧ (∀ u, RelV c u → u = cv) ∧ PySem.W.kitOne K (.ref D) cv = some b ∧ (dd = none ∨ ∃ b' vs, dd = some b' ∧ H b' = some (.xd vs)) ∧ Q (.bl b) H
theorem call_isX {a D : Addr} {dd : Option Addr} {oe : Obj} (C : L2.ExcC X.K D) (hp : (a, oe) ∈ X.pn) (hz : Zc (.ref D) dd oe) (hf : ∃ vs, oe.data = .fields vs) : CallR X (.builtin "isinstance") (rIsX X.K D a dd) := by
  intro pins s σ H xs us Q I r h
  obtain ⟨c, cv, b, rfl, hcv, e, hd, q⟩ := h
  cases r with
  | cons rx rr =>
    cases rr with
    | cons rt rr =>
      cases rr
      cases rx
      have ec := hcv _ rt
      subst ec
      obtain ⟨hget, _⟩ := I.pin (a, oe) (List.mem_append_left _ hp)
      obtain ⟨vs, hv⟩ := hf
      have hcl : (PySem.W.clsIn X.K D).isSome = true := by
        obtain ⟨cd, hc, _⟩ := PySem.W.any_some C.hd
        rw [hc]; rfl
      have nc : PySem.W.notCls oe := by unfold PySem.W.notCls; rw [hv] <;> rfl
      rcases hd with hd | ⟨b', ws, hd, hb⟩
      · have J : PySem.W.InstAt s.heap a oe D none := ⟨hget, hz.1, nc, by rw [hz.2, hd]; exact trivial⟩
        exact PySem.W.kia_one (PySem.W.kitx_exc hcl C.hg C.hk C.hs C.ha C.hn C.ht C.hm) I.kIn J e (fun z => nomatch z) fun tk => ⟨.bl b, H, I.kept (t' := tk) fun _ _ z => z, rfl, q⟩
      · have hx : ObjOk X.prog X.w H s.heap b' (.xd ws) := I.hok b' _ hb
        obtain ⟨mA, hns, _⟩ := hx
        obtain ⟨od, ho, _⟩ := lookIn_ns hns
        have J : PySem.W.InstAt s.heap a oe D (some od) := ⟨hget, hz.1, nc, by rw [hz.2, hd]; exact ho⟩
        exact PySem.W.kia_one (PySem.W.kitx_exc hcl C.hg C.hk C.hs C.ha C.hn C.ht C.hm) I.kIn J e (fun z => nomatch z) fun tk => ⟨.bl b, H, I.kept (t' := tk) fun _ _ z => z, rfl, q⟩
end

section
variable {X : Cx} {Γ : Ctx} {xc : Nat → Addr} {W : WX} {k : Nat} {nm : Nm} {a b c e : Expr} {es : List Expr} {pos p : Pos} {x : Str} {ca cb cc ce : E}

/-! ### names, constants -/
theorem r_var {i : Nat} (hN : X.N[i]? = some x) (hv : Vis X.env.scope x) (hd : (x == ("__debug__" : Str)) = false) (hcd : (x == ("__classdict__" : Str)) = false) : PE X (.Name x pos) (rdE Γ X.K xc W (.var i)) :=
  peI (pe_var hN hv hd hcd) fun σ H Q h => by
    obtain ⟨κ, M, ρ, st, env, g⟩ := h
    simp only [den] at g
    cases hl : look ρ i with
    | none => rw [hl] at g; exact g.elim
    | some q =>
      rw [hl] at g
      obtain ⟨v, h1, h2⟩ := env.slots i (by simp [occ]) q hl
      exact ⟨v, h1, g κ H v (Aft.refl env.cells) h2 fun z => by simp [fresh] at z⟩
theorem r_done {t : D} {v : V} {κ : List Addr} {M : Addr → Prop} {σ : L2.St} {H : Hp} {st : Store} {fr : Bool} {Q : VK} {K : PySem.W.Frag} (env : Cells K κ M H st) (h : Dq K (msk (Hid κ M) H) v t) (n : fr = true → ∀ xs, t ≠ .list xs) (g : Goal K xc W σ κ M H fr (.ok (.d t) st) Q) : Q v H :=
  g κ H v (Aft.refl env) h fun z => NewP.dat fun xs e => absurd e (n z xs)
theorem r_int {i : Int} {j : Nat} : PE X (.Constant (.int i) j pos) (rdE Γ X.K xc W (.cI i)) :=
  peI pe_int fun σ H Q ⟨κ, M, ρ, st, env, g⟩ => r_done env.cells (.int i) (fun _ _ e => by cases e) g
theorem r_str {i : Str} {j : Nat} : PE X (.Constant (.str i) j pos) (rdE Γ X.K xc W (.cS i)) :=
  peI pe_str fun σ H Q ⟨κ, M, ρ, st, env, g⟩ => r_done env.cells (.str i) (fun _ _ e => by cases e) g
theorem r_bool {i : Bool} {j : Nat} : PE X (.Constant (.bool i) j pos) (rdE Γ X.K xc W (.cB i)) :=
  peI pe_bl fun σ H Q ⟨κ, M, ρ, st, env, g⟩ => r_done env.cells (.bl i) (fun _ _ e => by cases e) g
theorem r_none {j : Nat} : PE X (.Constant .none j pos) (rdE Γ X.K xc W .cN) :=
  peI pe_non fun σ H Q ⟨κ, M, ρ, st, env, g⟩ => r_done env.cells .non (fun _ _ e => by cases e) g
theorem r_glob (F : Facts X Γ nm xc k) {g : Nat} (hn : nm.gl g = some x) (hg : Gl X x) (hd : (x == ("__debug__" : Str)) = false) : PE X (.Name x pos) (rdE Γ X.K xc W (.glob g)) := by
  obtain ⟨v, u, h1, h2, h3⟩ := F.gls g x hn
  exact peI (pe_glob hg h1 h2 hd) fun σ H Q ⟨κ, M, ρ, st, env, q⟩ => q κ H v (Aft.refl env.cells) (h3 _) fun z => by simp [fresh] at z

/-! ### two parts in a row -/
theorem two_parts {K : PySem.W.Frag} {κ : List Addr} {M : Addr → Prop} {σ : L2.St} {H : Hp} {ρ : Env} {st : Store} {vis : List Nat} {fr : Bool} {Q : VK} {f : PV → PV → Store → Res PV} {R : V → V → Hp → Prop} (env : EnvE K κ M vis σ H ρ st) (s1 : ∀ i ∈ occ ca, i ∈ vis) (s2 : ∀ i ∈ occ cb, i ∈ vis)
    (g : Goal K xc W σ κ M H fr ((den Γ ca ρ st).bind fun p st => (den Γ cb ρ st).bind fun q st => f p q st) Q)
    (h : ∀ p q κ₂ H₂ st₂ v w, Cells K κ₂ M H₂ st₂ → Aft K κ M H κ₂ H₂ st₂ → Rp K κ₂ (msk (Hid κ₂ M) H₂) v p → Rp K κ₂ (msk (Hid κ₂ M) H₂) w q → Goal K xc W σ κ₂ M H₂ fr (f p q st₂) Q → R v w H₂) :
    rdE Γ K xc W ca σ H fun v H1 => rdE Γ K xc W cb σ H1 fun w H2 => R v w H2 := by
  refine ⟨κ, M, ρ, st, env.sub s1, Goal.bind g fun p st₁ κ₁ H₁ v e1 a1 r1 g1 => ?_⟩
  have env1 := env.aft a1
  refine ⟨κ₁, M, ρ, st₁, env1.sub s2, Goal.bind (Goal.shift env.cells a1 g1) fun q st₂ κ₂ H₂ w e2 a2 r2 g2 => ?_⟩
  exact h p q κ₂ H₂ st₂ v w a2.cells (a1.trans a2) (a2.rp r1) r2 (Goal.shift env1.cells a2 g2)
theorem r_op {o : Op} (ha : PE X a (rdE Γ X.K xc W ca)) (hb : PE X b (rdE Γ X.K xc W cb)) : PE X (.BinOp a (opA o) b pos) (rdE Γ X.K xc W (.op o ca cb)) :=
  peI (pe_op (op_of (o := o)) ha hb) fun σ H Q ⟨κ, M, ρ, st, env, g⟩ => by
    simp only [den] at g
    refine two_parts env (fun i h => by simp [occ, h]) (fun i h => by simp [occ, h]) g fun p q κ₂ H₂ st₂ v w c2 a2 r1 r2 g2 => ?_
    cases p with
    | d x =>
      cases q with
      | d y =>
        obtain ⟨r, e, dn⟩ := Goal.doneO c2 g2
        exact ⟨_, x, y, r, occ_of c2, r1, r2, e, dn⟩
      | _ => exact g2.elim
    | _ => exact g2.elim
theorem goal_cm {K : PySem.W.Frag} {κ : List Addr} {M : Addr → Prop} {σ : L2.St} {H : Hp} {st : Store} {fr : Bool} {Q : VK} {o : Cm} {p q : PV} {v w : V} (c2 : Cells K κ M H st) (r1 : Rp K κ (msk (Hid κ M) H) v p) (r2 : Rp K κ (msk (Hid κ M) H) w q)
    (g : Goal K xc W σ κ M H fr (cmR o p q st) Q) : rCm K o v w H Q := by
  cases p with
  | d x =>
    cases q with
    | d y =>
      simp only [cmR] at g
      cases hb : cmD o x y with
      | none => rw [hb] at g; exact g.elim
      | some b =>
        rw [hb] at g
        exact ⟨_, x, y, b, msk_le, r1, r2, hb, r_done c2 (.bl b) (fun _ _ e => by cases e) g⟩
    | _ => exact g.elim
  | _ => exact g.elim
theorem r_cmp (F : Facts X Γ nm xc k) {o : Cm} (ha : PE X a (rdE Γ X.K xc W ca)) (hb : PE X b (rdE Γ X.K xc W cb)) (hm : behindInMarks (cmA o) b = false) : PE X (.Compare a [cmA o] [b] pos) (rdE Γ X.K xc W (.cmp o ca cb)) :=
  peI (pe_cmpR (cm_of F.un (o := o)) ha hb hm) fun σ H Q ⟨κ, M, ρ, st, env, g⟩ => by
    simp only [den] at g
    exact two_parts env (fun i h => by simp [occ, h]) (fun i h => by simp [occ, h]) g fun p q κ₂ H₂ st₂ v w c2 a2 r1 r2 g2 => goal_cm c2 r1 r2 g2
theorem t_cmp (F : Facts X Γ nm xc k) {o : Cm} (ha : PE X a (rdE Γ X.K xc W ca)) (hb : PE X b (rdE Γ X.K xc W cb)) (hm : behindInMarks (cmA o) b = false) : PT X (.Compare a [cmA o] [b] pos) (rdT Γ X.K xc W (.cmp o ca cb)) :=
  ptI (pt_cmpR (cm_of F.un (o := o)) ha hb hm) fun σ H Q ⟨κ, M, ρ, st, env, g⟩ => by
    simp only [den] at g
    exact two_parts env (fun i h => by simp [occ, h]) (fun i h => by simp [occ, h]) g fun p q κ₂ H₂ st₂ v w c2 a2 r1 r2 g2 => goal_cm c2 r1 r2 g2
theorem goal_ifB {K : PySem.W.Frag} {κ : List Addr} {M : Addr → Prop} {σ : L2.St} {H : Hp} {st : Store} {fr : Bool} {Q : VK} {p : PV} {v : V} {f : Bool → Res PV} {Hv : Hp} {κ' : List Addr} (r1 : Rp K κ' Hv v p) (g : Goal K xc W σ κ M H fr (ifB p st f) Q) : ∃ b, p = .d (.bool b) ∧ v = .bl b ∧ Goal K xc W σ κ M H fr (f b) Q := by
  cases p with
  | d x =>
    cases x with
    | bool b => exact ⟨b, rfl, Dq.bool_inv r1, g⟩
    | _ => exact g.elim
  | _ => exact g.elim
theorem chain_read {K : PySem.W.Frag} {o u : Cm} {σ : L2.St} {H : Hp} {Q : VK} (h : rdE Γ K xc W (.chain o u ca cb cc) σ H Q) : tChain (rCm K o) (rCm K u) (rdE Γ K xc W ca) (rdE Γ K xc W cb) (rdE Γ K xc W cc) σ H Q := by
  obtain ⟨κ, M, ρ, st, env, g⟩ := h
  simp only [den] at g
  refine two_parts env (fun i h => by simp [occ, h]) (fun i h => by simp [occ, h]) g fun p q κ₂ H₂ st₂ v w c2 a2 r1 r2 g2 => ?_
  have env2 := env.aft a2
  have g3 : Goal K xc W σ κ₂ M H₂ false (cmR o p q st₂) fun z H3 => ∃ k, z = .bl k ∧ if k = true then rdE Γ K xc W cc σ H3 (fun t H4 => rCm K u w t H4 Q) else Q (.bl false) H3 := by
    refine Goal.bind g2 fun r st₃ κ₃ H₃ z e3 a3 r3 g3 => ?_
    obtain ⟨b, rfl, rfl, g4⟩ := goal_ifB r3 g3
    refine ⟨b, rfl, ?_⟩
    cases b with
    | false =>
      rw [if_neg Bool.false_ne_true]
      exact r_done a3.cells (.bl false) (fun _ _ e => by cases e) (Goal.shift c2 a3 g4)
    | true =>
      rw [if_pos rfl]
      refine ⟨κ₃, M, ρ, st₃, (env2.aft a3).sub fun i h => by simp [occ, h], Goal.bind (Goal.shift c2 a3 g4) fun t st₄ κ₄ H₄ zt e4 a4 r4 g5 => ?_⟩
      exact goal_cm a4.cells (a4.rp (a3.rp r2)) r4 (Goal.shift a3.cells a4 g5)
  exact goal_cm c2 r1 r2 g3
theorem r_chain (F : Facts X Γ nm xc k) {o u : Cm} (ha : PE X a (rdE Γ X.K xc W ca)) (hb : PE X b (rdE Γ X.K xc W cb)) (hc : PE X c (rdE Γ X.K xc W cc)) (h1 : PE X (.Compare a [cmA o, cmA u] [b, c] pos) (tChain (rCm X.K o) (rCm X.K u) (rdE Γ X.K xc W ca) (rdE Γ X.K xc W cb) (rdE Γ X.K xc W cc))) : PE X (.Compare a [cmA o, cmA u] [b, c] pos) (rdE Γ X.K xc W (.chain o u ca cb cc)) :=
  peI h1 fun σ H Q h => chain_read h

theorem Goal.weak {K : PySem.W.Frag} {κ : List Addr} {M : Addr → Prop} {σ : L2.St} {H : Hp} {fr : Bool} {r : Res PV} {Q : VK} (g : Goal K xc W σ κ M H false r Q) : Goal K xc W σ κ M H fr r Q := by
  cases r with
  | ok p st => exact fun κ' H' v a r _ => g κ' H' v a r fun z => by cases z
  | exc c fs st => exact g
  | stuck => exact g
/-! ### truth -/
theorem r_and (ha : PE X a (rdE Γ X.K xc W ca)) (hb : PE X (.BoolOp .And (b :: es) pos) (rdE Γ X.K xc W cb)) : PE X (.BoolOp .And (a :: b :: es) pos) (rdE Γ X.K xc W (.and ca cb)) :=
  peI (pe_and ha hb) fun σ H Q ⟨κ, M, ρ, st, env, g⟩ => by
    simp only [den] at g
    refine ⟨κ, M, ρ, st, env.sub fun i h => by simp [occ, h], Goal.bind g fun p st₁ κ₁ H₁ v e1 a1 r1 g1 => ?_⟩
    obtain ⟨k, rfl, rfl, g2⟩ := goal_ifB r1 g1
    refine ⟨k, rfl, ?_⟩
    cases k with
    | false => exact r_done a1.cells (.bl false) (fun _ _ e => by cases e) (Goal.shift env.cells a1 g2)
    | true => exact ⟨κ₁, M, ρ, st₁, (env.aft a1).sub fun i h => by simp [occ, h], Goal.weak (Goal.shift env.cells a1 g2)⟩
theorem r_or (ha : PE X a (rdE Γ X.K xc W ca)) (hb : PE X (.BoolOp .Or (b :: es) pos) (rdE Γ X.K xc W cb)) : PE X (.BoolOp .Or (a :: b :: es) pos) (rdE Γ X.K xc W (.or ca cb)) :=
  peI (pe_or ha hb) fun σ H Q ⟨κ, M, ρ, st, env, g⟩ => by
    simp only [den] at g
    refine ⟨κ, M, ρ, st, env.sub fun i h => by simp [occ, h], Goal.bind g fun p st₁ κ₁ H₁ v e1 a1 r1 g1 => ?_⟩
    obtain ⟨k, rfl, rfl, g2⟩ := goal_ifB r1 g1
    refine ⟨k, rfl, ?_⟩
    cases k with
    | true => exact r_done a1.cells (.bl true) (fun _ _ e => by cases e) (Goal.shift env.cells a1 g2)
    | false => exact ⟨κ₁, M, ρ, st₁, (env.aft a1).sub fun i h => by simp [occ, h], Goal.weak (Goal.shift env.cells a1 g2)⟩
theorem one_read {K : PySem.W.Frag} {σ : L2.St} {H : Hp} {Q : VK} (h : rdE Γ K xc W (.one ca) σ H Q) : rdE Γ K xc W ca σ H Q := by
  obtain ⟨κ, M, ρ, st, env, g⟩ := h
  simp only [den] at g
  refine ⟨κ, M, ρ, st, env.sub fun i h => by simpa [occ] using h, Goal.bind g fun p st₁ κ₁ H₁ v e1 a1 r1 g1 => ?_⟩
  obtain ⟨k, rfl, rfl, g2⟩ := goal_ifB r1 g1
  exact r_done a1.cells (.bl k) (fun _ _ e => by cases e) (Goal.shift env.cells a1 g2)
theorem r_one {o : BoolOp} (ha : PE X a (rdE Γ X.K xc W ca)) : PE X (.BoolOp o [a] pos) (rdE Γ X.K xc W (.one ca)) :=
  peI (pe_one ha) fun σ H Q h => one_read h
theorem r_not (ha : PE X a (rdE Γ X.K xc W ca)) : PE X (.UnaryOp .Not a pos) (rdE Γ X.K xc W (.not ca)) :=
  peI (pe_not ha) fun σ H Q ⟨κ, M, ρ, st, env, g⟩ => by
    simp only [den] at g
    refine ⟨κ, M, ρ, st, env.sub fun i h => by simpa [occ] using h, Goal.bind g fun p st₁ κ₁ H₁ v e1 a1 r1 g1 => ?_⟩
    obtain ⟨k, rfl, rfl, g2⟩ := goal_ifB r1 g1
    exact ⟨k, rfl, r_done a1.cells (.bl (!k)) (fun _ _ e => by cases e) (Goal.shift env.cells a1 g2)⟩
/-! as tests -/
def PWt (X : Cx) (e : Expr) (t : TT) : Prop := PW X e t
theorem t_val (he : ∀ whole, isTrue e X.env whole = (do let v ← whole; standAt e.pos; holding [v] (truthy v))) (ha : PE X e (rdE Γ X.K xc W ca)) : PT X e (rdT Γ X.K xc W ca) :=
  ptI (pt_val ha he) fun σ H Q ⟨κ, M, ρ, st, env, g⟩ => ⟨κ, M, ρ, st, env, Goal.weak g⟩
theorem test_bind {K : PySem.W.Frag} {κ : List Addr} {M : Addr → Prop} {σ : L2.St} {H : Hp} {ρ : Env} {st : Store} {f : Bool → Store → Res PV} {Q : VK} {Q' : Bool → Hp → Prop} {vis : List Nat} {fr : Bool} (env : EnvE K κ M vis σ H ρ st) (s1 : ∀ i ∈ occ ca, i ∈ vis)
    (g : Goal K xc W σ κ M H fr ((den Γ ca ρ st).bind fun p st => ifB p st fun k => f k st) Q)
    (h : ∀ k st₁ κ₁ H₁, Aft K κ M H κ₁ H₁ st₁ → EnvE K κ₁ M vis σ H₁ ρ st₁ → Goal K xc W σ κ₁ M H₁ fr (f k st₁) Q → Q' k H₁) : rdT Γ K xc W ca σ H Q' := by
  refine ⟨κ, M, ρ, st, env.sub s1, Goal.bind g fun p st₁ κ₁ H₁ v e1 a1 r1 g1 => ?_⟩
  obtain ⟨k, rfl, rfl, g2⟩ := goal_ifB r1 g1
  exact ⟨k, rfl, h k st₁ κ₁ H₁ a1 (env.aft a1) (Goal.shift env.cells a1 g2)⟩
theorem t_bool {K : PySem.W.Frag} {κ : List Addr} {M : Addr → Prop} {σ : L2.St} {H : Hp} {st : Store} {k : Bool} {fr : Bool} {Q : Bool → Hp → Prop} (c : Cells K κ M H st) (g : Goal K xc W σ κ M H fr (.ok (.d (.bool k)) st) fun v H' => ∃ b, v = .bl b ∧ Q b H') : Q k H := by
  obtain ⟨b, e, q⟩ := r_done c (.bl k) (fun _ _ e => by cases e) g
  cases e
  exact q
theorem pwI {t t' : TT} (h : PW X e t) (i : ∀ σ H Q, t' σ H Q → t σ H Q) : PW X e t' := ⟨fun wh pins s σ H Q I q => h.run wh pins s σ H Q I (i σ H Q q)⟩
theorem w_and (ha : PT X a (rdT Γ X.K xc W ca)) (hb : PW X (.BoolOp .And (b :: es) pos) (rdT Γ X.K xc W cb)) : PW X (.BoolOp .And (a :: b :: es) pos) (rdT Γ X.K xc W (.and ca cb)) :=
  pwI (pw_and ha hb) fun σ H Q ⟨κ, M, ρ, st, env, g⟩ => by
    simp only [den] at g
    refine test_bind (f := fun k st => if k = true then den Γ cb ρ st else .ok (.d (.bool false)) st) env (fun i h => by simp [occ, h]) g fun k st₁ κ₁ H₁ a1 env1 g1 => ?_
    cases k with
    | false =>
      rw [if_neg Bool.false_ne_true]
      exact t_bool a1.cells g1
    | true =>
      rw [if_pos rfl]
      exact ⟨κ₁, M, ρ, st₁, env1.sub fun i h => by simp [occ, h], g1⟩
theorem w_or (ha : PT X a (rdT Γ X.K xc W ca)) (hb : PW X (.BoolOp .Or (b :: es) pos) (rdT Γ X.K xc W cb)) : PW X (.BoolOp .Or (a :: b :: es) pos) (rdT Γ X.K xc W (.or ca cb)) :=
  pwI (pw_or ha hb) fun σ H Q ⟨κ, M, ρ, st, env, g⟩ => by
    simp only [den] at g
    refine test_bind (f := fun k st => if k = true then .ok (.d (.bool true)) st else den Γ cb ρ st) env (fun i h => by simp [occ, h]) g fun k st₁ κ₁ H₁ a1 env1 g1 => ?_
    cases k with
    | true =>
      rw [if_pos rfl]
      exact t_bool a1.cells g1
    | false =>
      rw [if_neg Bool.false_ne_true]
      exact ⟨κ₁, M, ρ, st₁, env1.sub fun i h => by simp [occ, h], g1⟩
theorem one_test {K : PySem.W.Frag} {σ : L2.St} {H : Hp} {Q : Bool → Hp → Prop} (h : rdT Γ K xc W (.one ca) σ H Q) : rdT Γ K xc W ca σ H Q := by
  obtain ⟨κ, M, ρ, st, env, g⟩ := h
  simp only [den] at g
  exact test_bind (f := fun k st => .ok (.d (.bool k)) st) env (fun i h => by simpa [occ] using h) g fun k st₁ κ₁ H₁ a1 env1 g1 => t_bool a1.cells g1
theorem w_oneA (ha : PT X a (rdT Γ X.K xc W ca)) : PW X (.BoolOp .And [a] pos) (rdT Γ X.K xc W (.one ca)) := pwI (pw_and1 ha) fun σ H Q h => one_test h
theorem w_oneO (ha : PT X a (rdT Γ X.K xc W ca)) : PW X (.BoolOp .Or [a] pos) (rdT Γ X.K xc W (.one ca)) := pwI (pw_or1 ha) fun σ H Q h => one_test h
theorem t_not (ha : PT X a (rdT Γ X.K xc W ca)) : PT X (.UnaryOp .Not a pos) (rdT Γ X.K xc W (.not ca)) :=
  ptI (L2.pt_not ha) fun σ H Q ⟨κ, M, ρ, st, env, g⟩ => by
    simp only [den] at g
    exact test_bind (f := fun k st => .ok (.d (.bool (!k))) st) env (fun i h => by simpa [occ] using h) g fun k st₁ κ₁ H₁ a1 env1 g1 => t_bool a1.cells g1
theorem t_chain (F : Facts X Γ nm xc k) {o u : Cm} (h1 : PT X (.Compare a [cmA o, cmA u] [b, c] pos) (tTest (tChain (rCm X.K o) (rCm X.K u) (rdE Γ X.K xc W ca) (rdE Γ X.K xc W cb) (rdE Γ X.K xc W cc)))) : PT X (.Compare a [cmA o, cmA u] [b, c] pos) (rdT Γ X.K xc W (.chain o u ca cb cc)) :=
  ptI h1 fun σ H Q ⟨κ, M, ρ, st, env, g⟩ => chain_read (Q := fun v H' => ∃ k, v = .bl k ∧ Q k H') ⟨κ, M, ρ, st, env, g⟩
/-! a if t else b -/
theorem r_ite (hc : PT X c (rdT Γ X.K xc W cc)) (ha : PE X a (rdE Γ X.K xc W ca)) (hb : PE X b (rdE Γ X.K xc W cb)) : PE X (.IfExp c a b pos) (rdE Γ X.K xc W (.ite cc ca cb)) :=
  peI (pe_ifExp hc ha hb) fun σ H Q ⟨κ, M, ρ, st, env, g⟩ => by
    simp only [den] at g
    refine test_bind (f := fun k st => if k = true then den Γ ca ρ st else den Γ cb ρ st) env (fun i h => by simp [occ, h]) g fun k st₁ κ₁ H₁ a1 env1 g1 => ?_
    cases k with
    | true =>
      rw [if_pos rfl]
      exact ⟨κ₁, M, ρ, st₁, env1.sub fun i h => by simp [occ, h], Goal.weak g1⟩
    | false =>
      rw [if_neg Bool.false_ne_true]
      exact ⟨κ₁, M, ρ, st₁, env1.sub fun i h => by simp [occ, h], Goal.weak g1⟩

/-! ### arguments, displays, calls -/
theorem a_nil : PA X [] (rdA Γ X.K xc W .nil) := paI pa_nil fun σ H Q ⟨κ, M, ρ, st, env, g⟩ => by
  simp only [denA] at g
  exact g κ H (Aft.refl env.cells) [] .nil
theorem a_cons (ha : PE X a (rdE Γ X.K xc W ca)) (hr : PA X es (rdA Γ X.K xc W cb)) (hs : starEach (a :: es) X.env = (false, eval a X.env) :: starEach es X.env) : PA X (a :: es) (rdA Γ X.K xc W (.cons ca cb)) :=
  paI (pa_cons ha hr hs) fun σ H Q ⟨κ, M, ρ, st, env, g⟩ => by
    simp only [denA] at g
    cases h1 : den Γ ca ρ st with
    | stuck => rw [h1] at g; exact g.elim
    | exc c fs st' =>
      rw [h1] at g
      exact ⟨κ, M, ρ, st, env.sub fun i h => by simp [occ, h], by rw [h1]; exact g⟩
    | ok p st₁ =>
      rw [h1] at g
      refine ⟨κ, M, ρ, st, env.sub fun i h => by simp [occ, h], ?_⟩
      rw [h1]
      intro κ₁ H₁ v a1 r1 _
      have env1 := env.aft a1
      refine ⟨κ₁, M, ρ, st₁, env1.sub fun i h => by simp [occ, h], ?_⟩
      replace g : GoalA X.K xc W σ κ M H ((denA Γ cb ρ st₁).bind fun ps st => .ok (p :: ps) st) (fun ps κ' H' _ => ∀ vs, RpAll X.K κ' (msk (Hid κ' M) H') vs ps → Q vs H') := g
      cases h2 : denA Γ cb ρ st₁ with
      | stuck => rw [h2] at g; exact g.elim
      | exc c fs st' =>
        rw [h2] at g
        exact fun κ' H' cls d a2 x => g κ' H' cls d (a1.trans a2) x
      | ok ps st₂ =>
        rw [h2] at g
        exact fun κ₂ H₂ a2 vs r2 => g κ₂ H₂ (a1.trans a2) (v :: vs) (.cons (a2.rp r1) r2)
theorem r_tup {j : Nat} (hs : ∀ vs : List V, vs.length = es.length → vs.length ≤ sizeLine) (hl : ∀ ρ st ps st', denA Γ ca ρ st = .ok ps st' → ps.length = es.length) (h : PA X es (rdA Γ X.K xc W ca)) : PE X (.Tuple es j pos) (rdE Γ X.K xc W (.tup ca)) :=
  peI (pe_tupN h) fun σ H Q ⟨κ, M, ρ, st, env, g⟩ => by
    simp only [den] at g
    refine ⟨κ, M, ρ, st, env.sub fun i h => by simpa [occ] using h, Goal.bindA g fun ps st₁ κ₁ H₁ e1 a1 g1 vs rv => ?_⟩
    obtain ⟨r, e2, dn⟩ := Goal.doneO (o := (asDs ps).map fun xs => .tuple xs) a1.cells (by
      have g2 := Goal.shift env.cells a1 g1
      cases hd : asDs ps <;> rw [hd] at g2 <;> exact g2)
    obtain ⟨ds, e3, rfl⟩ := Option.map_eq_some_iff.mp e2
    exact ⟨hs vs (by rw [rv.length]; exact hl _ _ _ _ e1), dn.tup (occ_of a1.cells) (rv.ds e3)⟩
theorem r_told {w : Str} {k1 j : Nat} {p1 : Pos} (he : PE X e (rdE Γ X.K xc W ce)) (h1 : starEach [e] X.env = (false, eval e X.env) :: starEach [] X.env) : PE X (.Tuple [.Constant (.str w) k1 p1, e] j pos) (rdE Γ X.K xc W (.told w ce)) :=
  peI (pe_tupN (pa_cons pe_str (pa_cons he pa_nil h1))) fun σ H Q ⟨κ, M, ρ, st, env, g⟩ => by
    simp only [den] at g
    refine ⟨κ, M, ρ, st, env.sub fun i h => by simpa [occ] using h, ?_⟩
    cases hd : den Γ ce ρ st with
    | stuck => rw [hd] at g; exact g.elim
    | exc c fs st' => rw [hd] at g; exact g
    | ok p st' =>
      rw [hd] at g
      intro κ' H' v a rp nw
      simp only [Res.bind] at g
      unfold toldR at g
      split at g
      · rename_i xs
        split at g
        · rename_i hf
          refine ⟨by show 2 ≤ sizeLine; rw [sizeLine_eq]; decide, fun t o nt od => ?_⟩
          have sm : Same H' (upd H' t (.frz o (.tup [V.str w, v]))) := Same.upd nt
          refine g κ' _ (.ref t) (a.trans (Aft.of_same a.cells sm)) (Dq.tup ⟨o, msk_some.mpr ⟨a.cells.free nt, upd_same⟩, od⟩ (.cons (.str w) (.cons (Dq.mono (same_msk2 sm) rp) .nil))) fun _ => ?_
          obtain ⟨A, vs, rfl, n1, n2, n3, n4⟩ := nw hf
          refine ⟨t, .ref A, rfl, SqN.t ⟨o, upd_same, od⟩, A, vs, rfl, n1, ?_, n3, n4.mono (same_msk2 sm)⟩
          exact sm _ _ n2
        · exact g.elim
      · exact g.elim
theorem r_lst (hs : ∀ vs : List V, vs.length = es.length → vs.length ≤ sizeLine) (hl : ∀ ρ st ps st', denA Γ ca ρ st = .ok ps st' → ps.length = es.length) (h : PA X es (rdA Γ X.K xc W ca)) : PE X (.List es pos) (rdE Γ X.K xc W (.lst ca)) :=
  peI (pe_lst h) fun σ H Q ⟨κ, M, ρ, st, env, g⟩ => by
    simp only [den] at g
    refine ⟨κ, M, ρ, st, env.sub fun i h => by simpa [occ] using h, Goal.bindA g fun ps st₁ κ₁ H₁ e1 a1 g1 vs rv => ?_⟩
    obtain ⟨r, e2, dn⟩ := Goal.doneO (o := (asDs ps).map fun xs => .list xs) a1.cells (by
      have g2 := Goal.shift env.cells a1 g1
      cases hd : asDs ps <;> rw [hd] at g2 <;> exact g2)
    obtain ⟨ds, e3, rfl⟩ := Option.map_eq_some_iff.mp e2
    exact ⟨hs vs (by rw [rv.length]; exact hl _ _ _ _ e1), fun p n => dn.lst (occ_of a1.cells) n (rv.ds e3)⟩
theorem bi_read {K : PySem.W.Frag} {σ : L2.St} {H : Hp} {Q : VK} {bi : Bi} (h : rdE Γ K xc W (.blt bi ca) σ H Q) : tCB (rBi K (biD bi)) (rdA Γ K xc W ca) σ H Q := by
  obtain ⟨κ, M, ρ, st, env, g⟩ := h
  simp only [den] at g
  refine ⟨κ, M, ρ, st, env.sub fun i h => by simpa [occ] using h, Goal.bindA g fun ps st₁ κ₁ H₁ e1 a1 g1 vs rv => ?_⟩
  have g2 := Goal.shift env.cells a1 g1
  unfold biR at g2
  cases hd : asDs ps with
  | none => rw [hd] at g2; exact g2.elim
  | some ds =>
    rw [hd] at g2
    obtain ⟨r, e2, dn⟩ := Goal.doneO a1.cells g2
    exact ⟨_, ds, r, occ_of a1.cells, rv.ds hd, e2, dn⟩
theorem r_call (F : Facts X Γ nm xc k) (tk : Takes X W) {f : Nat} (hn : nm.fn f = some x) (hg : Gl X x) (ha : PA X (a :: es) (rdA Γ X.K xc W ca)) (hd : (x == ("__debug__" : Str)) = false)
    (he : starEach (a :: es) X.env = (false, eval a X.env) :: starEach es X.env) (hpl : (backTo pos (starEach es X.env)).any (·.1) = false) : PE X (.Call (.Name x p) (a :: es) [] pos) (rdE Γ X.K xc W (.call f ca)) := by
  obtain ⟨A, fd, ps, h1, h2, h3, h4, h5⟩ := F.fns f x hn
  have base : PE X (.Call (.Name x p) (a :: es) [] pos) (L2.tCallS (spF X.K xc ps.length (Γ.call f) (Γ.fresh f)) (WE W) (rdA Γ X.K xc W ca)) := by
    rcases h4 with ⟨_, hr, h4⟩ | ⟨hx, eh, hr, h4⟩
    · exact pe_callG (E := WE W) h4 hr hg h1 h2 h3 (fun σ => passAt tk σ) ha hd he hpl
    · exact pe_callX (E := WE W) h4 hr (F.xat hx eh) hg h1 h2 h3 (fun σ => passAt tk σ) ha hd he hpl
  refine peI base fun σ H Q ⟨κ, M, ρ, st, env, g⟩ => ?_
  simp only [den] at g
  refine ⟨κ, M, ρ, st, env.sub fun i h => by simpa [occ] using h, Goal.bindA g fun qs st₁ κ₁ H₁ e1 a1 g1 vs rv => ?_⟩
  have g2 := Goal.shift env.cells a1 g1
  refine ⟨?_, κ₁, M, st₁, qs, a1.cells, rv, ?_⟩
  · rw [rv.length]
    refine h5 qs st₁ fun z => ?_
    rw [z] at g2
    exact g2
  · cases hr : Γ.call f qs st₁ with
    | ok q st' => rw [hr] at g2; exact g2
    | exc c fs st' => rw [hr] at g2; exact g2
    | stuck => rw [hr] at g2; exact g2
/-! ### built-ins -/
def biNm : Bi → Str
  | .len => "len" | .tupleOf => "tuple" | .listOf => "list" | .sorted => "sorted" | .min1 => "min" | .max1 => "max" | .min2 => "min" | .max2 => "max" | .sum => "sum" | .all => "all" | .any => "any"
  | .int => "int" | .str => "str" | .isI _ => "isinstance" | .divmod => "divmod" | .dictOf => "dict" | .repr => "repr"
/-- the built-ins that have a rule here, their arguments as they stand -/
def biOk : Bi → Bool
  | .sorted | .min1 | .max1 | .len | .tupleOf | .listOf | .min2 | .max2 | .sum | .all | .any | .int | .str | .divmod | .dictOf | .repr => true
  | _ => false
/-- .. that are called in an except suite, too -/
def biHot : Bi → Bool
  | .len | .tupleOf | .int | .str | .divmod => true
  | _ => false
theorem r_blt (F : Facts X Γ nm xc k) {bi : Bi} (hb : biOk bi = true) (hq : biHot bi = true ∨ nm.hot = false) (hg : Gl X (biNm bi)) (ha : PA X (a :: es) (rdA Γ X.K xc W ca))
    (he : starEach (a :: es) X.env = (false, eval a X.env) :: starEach es X.env) (hpl : (backTo pos (starEach es X.env)).any (·.1) = false) : PE X (.Call (.Name (biNm bi) p) (a :: es) [] pos) (rdE Γ X.K xc W (.blt bi ca)) := by
  have bl := F.bl
  cases bi <;> first | (simp [biOk] at hb; done) | skip
  case sorted => exact peI (pe_callB (bi_sorted (F.room (hq.elim (fun z => by cases z) id))) hg (bl _ (by decide +kernel)) (by decide +kernel) ha (by decide +kernel) (by decide +kernel) he hpl) fun σ H Q h => bi_read h
  case min1 => exact peI (pe_callB (bi_min1 (F.room (hq.elim (fun z => by cases z) id))) hg (bl _ (by decide +kernel)) (by decide +kernel) ha (by decide +kernel) (by decide +kernel) he hpl) fun σ H Q h => bi_read h
  case max1 => exact peI (pe_callB (bi_max1 (F.room (hq.elim (fun z => by cases z) id))) hg (bl _ (by decide +kernel)) (by decide +kernel) ha (by decide +kernel) (by decide +kernel) he hpl) fun σ H Q h => bi_read h
  case len => exact peI (pe_callB bi_len hg (bl _ (by decide +kernel)) (by decide +kernel) ha (by decide +kernel) (by decide +kernel) he hpl) fun σ H Q h => bi_read h
  case tupleOf => exact peI (pe_callTy bi_tuple hg (bl _ (by decide +kernel)) (by decide +kernel) ha (by decide +kernel) (by decide +kernel) he hpl) fun σ H Q h => bi_read h
  case listOf => exact peI (pe_callTy (bi_list (F.calm (hq.elim (fun z => by cases z) id))) hg (bl _ (by decide +kernel)) (by decide +kernel) ha (by decide +kernel) (by decide +kernel) he hpl) fun σ H Q h => bi_read h
  case min2 => exact peI (pe_callB (bi_min2 (F.calm (hq.elim (fun z => by cases z) id))) hg (bl _ (by decide +kernel)) (by decide +kernel) ha (by decide +kernel) (by decide +kernel) he hpl) fun σ H Q h => bi_read h
  case max2 => exact peI (pe_callB (bi_max2 (F.calm (hq.elim (fun z => by cases z) id))) hg (bl _ (by decide +kernel)) (by decide +kernel) ha (by decide +kernel) (by decide +kernel) he hpl) fun σ H Q h => bi_read h
  case sum => exact peI (pe_callB (bi_sum (F.calm (hq.elim (fun z => by cases z) id))) hg (bl _ (by decide +kernel)) (by decide +kernel) ha (by decide +kernel) (by decide +kernel) he hpl) fun σ H Q h => bi_read h
  case all => exact peI (pe_callB (bi_all (F.calm (hq.elim (fun z => by cases z) id))) hg (bl _ (by decide +kernel)) (by decide +kernel) ha (by decide +kernel) (by decide +kernel) he hpl) fun σ H Q h => bi_read h
  case any => exact peI (pe_callB (bi_any (F.calm (hq.elim (fun z => by cases z) id))) hg (bl _ (by decide +kernel)) (by decide +kernel) ha (by decide +kernel) (by decide +kernel) he hpl) fun σ H Q h => bi_read h
  case int => exact peI (pe_callTy bi_int hg (bl _ (by decide +kernel)) (by decide +kernel) ha (by decide +kernel) (by decide +kernel) he hpl) fun σ H Q h => bi_read h
  case str => exact peI (pe_callTy bi_str hg (bl _ (by decide +kernel)) (by decide +kernel) ha (by decide +kernel) (by decide +kernel) he hpl) fun σ H Q h => bi_read h
  case dictOf => exact peI (pe_callTy (bi_dict (F.calm (hq.elim (fun z => by cases z) id)) F.un) hg (bl _ (by decide +kernel)) (by decide +kernel) ha (by decide +kernel) (by decide +kernel) he hpl) fun σ H Q h => bi_read h
  case repr => exact peI (pe_callB (bi_repr (F.gds (hq.elim (fun z => by cases z) id)) F.un) hg (bl _ (by decide +kernel)) (by decide +kernel) ha (by decide +kernel) (by decide +kernel) he hpl) fun σ H Q h => bi_read h
  case divmod => exact peI (pe_callB bi_divmod hg (bl _ (by decide +kernel)) (by decide +kernel) ha (by decide +kernel) (by decide +kernel) he hpl) fun σ H Q h => bi_read h
/-- isinstance(e, T) -/
theorem r_isI (F : Facts X Γ nm xc k) {t : Ty} {b : Expr} {p2 : Pos} (hg : Gl X "isinstance") (hg2 : Gl X (Str.ofString (tyN t))) (ha : PE X a (rdE Γ X.K xc W ca))
    (he : starEach [a, .Name (Str.ofString (tyN t)) p2] X.env = (false, eval a X.env) :: starEach [.Name (Str.ofString (tyN t)) p2] X.env) (he2 : starEach [.Name (Str.ofString (tyN t)) p2] X.env = (false, eval (.Name (Str.ofString (tyN t)) p2) X.env) :: starEach [] X.env)
    (hpl : (backTo pos (starEach [.Name (Str.ofString (tyN t)) p2] X.env)).any (·.1) = false) : PE X (.Call (.Name "isinstance" p) [a, .Name (Str.ofString (tyN t)) p2] [] pos) (rdE Γ X.K xc W (.blt (.isI t) (.cons ca .nil))) := by
  have ty : PE X (.Name (Str.ofString (tyN t)) p2) (tC (.ty (tyN t))) := pe_bltn (u := .type (tyN t)) hg2 (F.bl _ (by cases t <;> decide +kernel)) (by cases t <;> decide +kernel) rfl (by cases t <;> decide +kernel) (by cases t <;> decide +kernel)
  refine peI (pe_callB (bi_isI t) hg (F.bl _ (by decide +kernel)) (by decide +kernel) (pa_cons ha (pa_cons ty pa_nil he2) he) (by decide +kernel) (by decide +kernel) he hpl) fun σ H Q h => ?_
  obtain ⟨κ, M, ρ, st, env, g⟩ := h
  simp only [den, denA] at g
  have g0 : Goal X.K xc W σ κ M H false ((den Γ ca ρ st).bind fun p st => biR (.isI t) [p] st) Q := by
    cases hd : den Γ ca ρ st <;> rw [hd] at g <;> exact g
  refine ⟨κ, M, ρ, st, env.sub fun i h => by simp [occ, h], Goal.bind g0 fun q st₁ κ₁ H₁ v e1 a1 r1 g1 => ?_⟩
  have g2 := Goal.shift env.cells a1 g1
  refine ⟨v, rfl, ?_⟩
  cases q with
  | d y =>
    obtain ⟨r, e2, dn⟩ := Goal.doneO a1.cells (show Goal X.K xc W σ κ₁ M H₁ false (ofO ((biD (.isI t) [y]).map .d) st₁) Q from g2)
    exact ⟨_, [y], r, occ_of a1.cells, .cons r1 .nil, e2, dn⟩
  | _ => exact g2.elim
/-- isinstance(e, C) of the exception that is handled -/
theorem r_xis (F : Facts X Γ nm xc k) (hh : nm.hot = true) {C : Nat} {y : Str} {p2 : Pos} (hC : C ≤ 11) (hg : Gl X "isinstance") (hg2 : Gl X y) (hy : (y == ("__debug__" : Str)) = false) (hn : C = 11 ∧ y = "ValueError" ∨ C ≠ 11 ∧ nm.cl C = some y) (ha : PE X a (rdE Γ X.K xc W ca))
    (he : starEach [a, .Name y p2] X.env = (false, eval a X.env) :: starEach [.Name y p2] X.env) (he2 : starEach [.Name y p2] X.env = (false, eval (.Name y p2) X.env) :: starEach [] X.env)
    (hpl : (backTo pos (starEach [.Name y p2] X.env)).any (·.1) = false) : PE X (.Call (.Name "isinstance" p) [a, .Name y p2] [] pos) (rdE Γ X.K xc W (.xis C ca)) := by
  obtain ⟨x, hx⟩ : ∃ x, Γ.hot = some x := Option.isSome_iff_exists.mp (F.hot.trans hh)
  obtain ⟨xk, oe, hp, hz, hf⟩ := F.xat x hx
  obtain ⟨v, hv, ty⟩ : ∃ v : V, (∀ u, RelV v u → u = xval xc C) ∧ PE X (.Name y p2) (tC v) := by
    rcases hn with ⟨rfl, rfl⟩ | ⟨h1, h2⟩
    · exact ⟨.ty "ValueError", fun u r => r, pe_bltn (u := .type "ValueError") hg2 (F.bl _ (by decide +kernel)) (by decide +kernel) rfl (by decide +kernel) (by decide +kernel)⟩
    · refine ⟨.ref (xc C), fun u r => ?_, pe_glob hg2 (F.cls C y h2) rfl hy⟩
      unfold xval
      rw [if_neg h1]
      exact r
  refine peI (pe_callB (call_isX xk.ec hp hz hf) hg (F.bl _ (by decide +kernel)) (by decide +kernel) (pa_cons ha (pa_cons ty pa_nil he2) he) (by decide +kernel) (by decide +kernel) he hpl) fun σ H Q ⟨κ, M, ρ, st, env, g⟩ => ?_
  simp only [den] at g
  refine ⟨κ, M, ρ, st, env.sub fun i h => by simpa [occ] using h, Goal.bind g fun q st₁ κ₁ H₁ va e1 a1 r1 g1 => ?_⟩
  have g2 := Goal.shift env.cells a1 g1
  refine ⟨v, xval xc C, xsub x.2.2 C, ?_⟩
  cases q with
  | exn a' d' c' fs =>
    simp only [xisR] at g2
    by_cases z : Γ.hot = some (a', d', c')
    · rw [if_pos z] at g2
      rw [hx] at z
      cases z
      obtain ⟨rfl, hxf⟩ := r1
      refine ⟨rfl, hv, xk.is C hC, ?_, ?_⟩
      · rcases hxf with ⟨_, hd⟩ | ⟨b, vs, _, hd, hb, _⟩
        · exact .inl hd
        · exact .inr ⟨b, vs, hd, (msk_some.mp hb).2⟩
      · exact g2 κ₁ H₁ _ (Aft.refl a1.cells) (Dq.bl _) (fun z => by simp [fresh] at z)
    · rw [if_neg z] at g2
      exact g2.elim
  | _ => exact g2.elim
/-! ### an exception's field; dicts as they stand; sorted(set(e)) -/
theorem look_all {K : PySem.W.Frag} {H : Hp} {f : Str} {y : D} : ∀ {vs : List (Str × V)} {fs : List (Str × D)}, vs.map (·.1) = fs.map (·.1) → DqAll K H (vs.map (·.2)) (fs.map (·.2)) → fs.lookup f = some y → ∃ v, vs.lookup f = some v ∧ Dq K H v y
  | [], [], _, _, e => by cases e
  | [], _ :: _, h, _, _ => by simp at h
  | _ :: _, [], h, _, _ => by simp at h
  | (a, v) :: vs, (b, x) :: fs, h, d, e => by
    simp only [List.map_cons, List.cons.injEq] at h
    obtain ⟨h1, h2⟩ := h
    obtain rfl : a = b := h1
    simp only [List.map_cons] at d
    cases d with
    | cons d1 d2 =>
      rw [List.lookup_cons] at e ⊢
      cases c : (f == a) with
      | true =>
        rw [c] at e
        cases e
        exact ⟨v, rfl, d1⟩
      | false =>
        rw [c] at e
        exact look_all h2 d2 e
def tXat (a : Addr) (d : Option Addr) (f : Str) (te : TE) : TE := fun σ H Q => te σ H fun x H1 => x = .ref a ∧ ∃ (b : Addr) (fs : List (Str × V)) (v : V), d = some b ∧ H1 b = some (.xd fs) ∧ fs.lookup f = some v ∧ Q v H1
theorem pe_xat {x : Hx} {n : Str} {te : TE} (C : PinX X xc x) (hn : n ∈ xatN) (he : PE X e te) (hb : attributeBase e n X.env (eval e X.env) = eval e X.env) : PE X (.Attribute e n pos) (tXat x.1 x.2.1 n te) := by
  obtain ⟨xk, oe, hp, hz, vs, hd⟩ := C
  refine ⟨fun pins s σ H Q I h => attr_of hb (thn (he.run pins s σ H _ I h) fun u s1 q => ?_)⟩
  obtain ⟨y, H1, I1, ry, ey, b, fs, v, ed, ex, l, q⟩ := q
  subst ey
  obtain rfl : u = Value.ref x.1 := ry
  obtain ⟨here, _⟩ := I1.pin (x.1, oe) (List.mem_append_left _ hp)
  have ok : ObjOk X.prog X.w H1 s1.heap b (.xd fs) := I1.hok b _ ex
  obtain ⟨mA, ns, rel⟩ := ok
  obtain ⟨od, ho, hl⟩ := lookIn_ns ns
  obtain ⟨w, hw, rw'⟩ := RelO.some_of (v := v) (o := mA n) (by rw [← l]; exact rel n)
  have nc : PySem.W.notCls oe := by unfold PySem.W.notCls; rw [hd] <;> rfl
  have J : PySem.W.InstAt s1.heap x.1 oe (xc x.2.2) (some od) := ⟨here, hz.1, nc, by rw [hz.2, ed]; exact ho⟩
  exact PySem.HandSPX.exc_get I1.kIn J xk.ec.hg xk.ec.hk xk.ec.hs (PySem.W.findObj_own xk.ec.hd (xk.na n hn) rfl (by rw [hl, hw])) (handed_of rw') ⟨v, H1, I1.tok _, rw', q⟩
theorem r_xat (F : Facts X Γ nm xc k) (hh : nm.hot = true) {n : Str} (hn : n ∈ xatN) (ha : PE X a (rdE Γ X.K xc W ca)) (hb : attributeBase a n X.env (eval a X.env) = eval a X.env) : PE X (.Attribute a n pos) (rdE Γ X.K xc W (.xat n ca)) := by
  obtain ⟨x, hx⟩ : ∃ x, Γ.hot = some x := Option.isSome_iff_exists.mp (F.hot.trans hh)
  refine peI (pe_xat (F.xat x hx) hn ha hb) fun σ H Q ⟨κ, M, ρ, st, env, g⟩ => ?_
  simp only [den] at g
  refine ⟨κ, M, ρ, st, env.sub fun i h => by simpa [occ] using h, Goal.bind g fun q st₁ κ₁ H₁ va e1 a1 r1 g1 => ?_⟩
  have g2 := Goal.shift env.cells a1 g1
  cases q with
  | exn a' d' c' fs =>
    simp only [xatR] at g2
    by_cases z : Γ.hot = some (a', d', c') ∧ n ∈ xatN
    · rw [if_pos z] at g2
      obtain ⟨z, _⟩ := z
      rw [hx] at z
      cases z
      obtain ⟨rfl, hxf⟩ := r1
      cases el : fs.lookup n with
      | none => rw [el] at g2; exact g2.elim
      | some y =>
        rw [el] at g2
        rcases hxf with ⟨rfl, _⟩ | ⟨b, vs, _, hd, hb, hv, hw⟩
        · cases el
        · obtain ⟨v, lv, dv⟩ := look_all hv hw el
          exact ⟨rfl, b, vs, v, hd, (msk_some.mp hb).2, lv, g2 κ₁ H₁ _ (Aft.refl a1.cells) dv (fun z => by simp [fresh] at z)⟩
    · rw [if_neg z] at g2
      exact g2.elim
  | _ => exact g2.elim
theorem r_d0 : PE X (.Dict [] [] pos) (rdE Γ X.K xc W .d0) :=
  peI pe_dnewK fun σ H Q ⟨κ, M, ρ, st, env, g⟩ => fun q nq => by
    simp only [den] at g
    exact g κ _ _ (Aft.of_same env.cells (Same.upd nq)) (.dc0 (msk_some.mpr ⟨env.cells.free nq, upd_same⟩)) (fun z => by simp [fresh] at z)
theorem r_dA {x : Str} {i : Int} {j1 j2 : Nat} {p1 p2 : Pos} : PE X (.Dict [some (.Constant (.str x) j1 p1)] [.Constant (.int i) j2 p2] pos) (rdE Γ X.K xc W (.dA x i)) :=
  peI (pe_disp (pps_cons pe_str pe_int pps_nil) rfl rfl (by simp) (by simp)) fun σ H Q ⟨κ, M, ρ, st, env, g⟩ => fun q nq => by
    simp only [den] at g
    refine ⟨upd_same, [(.inr x, .int i)], rfl, by simp, ?_⟩
    have e : upd (upd H q (.dK [])) q (.dK (mergeK [] [(.inr x, V.int i)])) = upd H q (.dK [(.inr x, V.int i)]) := by
      funext b
      by_cases z : b = q
      · subst z; rw [upd_same, upd_same]; rfl
      · rw [upd_ne z, upd_ne z, upd_ne z]
    rw [e]
    exact g κ _ _ (Aft.of_same env.cells (Same.upd nq)) (.dct (kvs := [(.inr x, V.int i)]) (by simp) (fun p hp => by rw [List.mem_singleton.mp hp]; rfl) (msk_some.mpr ⟨env.cells.free nq, upd_same⟩) rfl (.cons (.int i) .nil)) (fun z => by simp [fresh] at z)
theorem r_sset {p q pos pos2 : Pos} {l : Expr} (F : Facts X Γ nm xc k) (hh : nm.hot = false) (hg : Gl X "sorted") (hg2 : Gl X "set") (he : PE X l (rdE Γ X.K xc W ce)) (h1 : starEach [l] X.env = [(false, eval l X.env)])
    (h2 : starEach [.Call (.Name "set" q) [l] [] pos2] X.env = [(false, eval (.Call (.Name "set" q) [l] [] pos2) X.env)]) : PE X (.Call (.Name "sorted" p) [.Call (.Name "set" q) [l] [] pos2] [] pos) (rdE Γ X.K xc W (.sset ce)) :=
  peI (pe_sset (F.calm hh) F.un hg (F.bl _ (by decide +kernel)) hg2 (F.bl _ (by decide +kernel)) he h1 h2) fun σ H Q ⟨κ, M, ρ, st, env, g⟩ => by
    simp only [den] at g
    refine ⟨κ, M, ρ, st, env.sub fun i h => by simpa [occ] using h, Goal.bind g fun p st₁ κ₁ H₁ v e1 a1 r1 g1 => ?_⟩
    have g2 := Goal.shift env.cells a1 g1
    cases p with
    | d x =>
      obtain ⟨r, e, dn⟩ := Goal.doneO a1.cells g2
      exact sset_read (occ_of a1.cells) r1 e dn
    | _ => exact g2.elim
theorem r_lenS {p q pos pos2 : Pos} {l : Expr} (F : Facts X Γ nm xc k) (hh : nm.hot = false) (hg : Gl X "len") (hg2 : Gl X "set") (he : PE X l (rdE Γ X.K xc W ce)) (h1 : starEach [l] X.env = [(false, eval l X.env)]) : PE X (.Call (.Name "len" p) [.Call (.Name "set" q) [l] [] pos2] [] pos) (rdE Γ X.K xc W (.lenS ce)) :=
  peI (pe_lenSetT (F.calm hh) hg (F.bl _ (by decide +kernel)) hg2 (F.bl _ (by decide +kernel)) he h1) fun σ H Q ⟨κ, M, ρ, st, env, g⟩ => by
    simp only [den] at g
    refine ⟨κ, M, ρ, st, env.sub fun i h => by simpa [occ] using h, Goal.bind g fun p st₁ κ₁ H₁ v e1 a1 r1 g1 => ?_⟩
    have g2 := Goal.shift env.cells a1 g1
    cases p with
    | d x =>
      obtain ⟨r, e, dn⟩ := Goal.doneO a1.cells g2
      unfold lenSD at e
      split at e
      · rename_i xs
        split at e
        · rename_i ns ei
          split at e
          · rename_i few
            cases e
            obtain ⟨a, us, rfl, q1, q2⟩ := Dq.tup_inv r1
            have eu := q2.ints_inv ei
            subst eu
            exact ⟨a, ns, rfl, sqT_same q1, few, dn.int⟩
          · cases e
        · cases e
      · cases e
    | _ => exact g2.elim
/-! ### places, slices -/
theorem r_idx (F : Facts X Γ nm xc k) (ha : PE X a (rdE Γ X.K xc W ca)) (hb : PE X b (rdE Γ X.K xc W cb)) (hs : PlainIx b) : PE X (.Subscript a b pos) (rdE Γ X.K xc W (.idx ca cb)) :=
  peI (pe_ix (ix_any F.un) ha hb hs) fun σ H Q ⟨κ, M, ρ, st, env, g⟩ => by
    simp only [den] at g
    refine two_parts env (fun i h => by simp [occ, h]) (fun i h => by simp [occ, h]) g fun p q κ₂ H₂ st₂ v w c2 a2 r1 r2 g2 => ?_
    cases q with
    | d y =>
      cases p with
      | d x =>
        simp only [idxR] at g2
        cases hb : idxD x y with
        | none => rw [hb] at g2; exact g2.elim
        | some r =>
          rw [hb] at g2
          exact ix_ready r1 r2 hb fun u hu => g2 κ₂ H₂ u (Aft.refl c2) hu fun z => by simp [fresh] at z
      | cell c =>
        simp only [idxR] at g2
        cases hc : st₂[c]? with
        | none => rw [hc] at g2; exact g2.elim
        | some x =>
          obtain ⟨A, ds, us, h1, rfl, h3, h4, _⟩ := c2.at_ c x hc
          simp only [hc] at g2
          obtain ⟨A', h5, rfl⟩ := r1
          rw [h1] at h5
          cases h5
          cases hb : idxD (.list ds) y with
          | none => rw [hb] at g2; exact g2.elim
          | some r =>
            rw [hb] at g2
            by_cases hcm : calm r = true
            · simp only [Option.bind_some, hcm, if_true, Option.map_some, ofO] at g2
              exact ix_cell h3 h4 r2 hb fun u hu => g2 κ₂ H₂ u (Aft.refl c2) hu fun z => by simp [fresh] at z
            · simp only [Option.bind_some, hcm] at g2
              exact g2.elim
      | exn c fs => exact g2.elim
      | two w xs => exact g2.elim
    | _ => cases p <;> exact g2.elim
def rdP (Γ : Ctx) (K : PySem.W.Frag) (xc : Nat → Addr) (W : WX) (c : E) : TO := fun σ H Q => ∃ κ M ρ st, EnvE K κ M (occ c) σ H ρ st ∧ GoalA K xc W σ κ M H (denP Γ c ρ st) fun o κ' H' _ => Q o H'
theorem poI {o : Option Expr} {t t' : TO} (h : PO X o t) (i : ∀ σ H Q, t' σ H Q → t σ H Q) : PO X o t' := ⟨fun pins s σ H Q I q => h.run pins s σ H Q I (i σ H Q q)⟩
theorem p_none : PO X none (rdP Γ X.K xc W .nil) := poI po_none fun σ H Q ⟨κ, M, ρ, st, env, g⟩ => by
  simp only [denP] at g
  exact g κ H (Aft.refl env.cells)
theorem p_some (ha : PE X a (rdE Γ X.K xc W ca)) : PO X (some a) (rdP Γ X.K xc W (.one ca)) := poI (po_some ha) fun σ H Q ⟨κ, M, ρ, st, env, g⟩ => by
  simp only [denP] at g
  refine ⟨κ, M, ρ, st, env.sub fun i h => by simpa [occ] using h, ?_⟩
  cases h1 : den Γ ca ρ st with
  | stuck => rw [h1] at g; exact g.elim
  | exc c fs st' => rw [h1] at g; exact g
  | ok p st₁ =>
    rw [h1] at g
    intro κ₁ H₁ v a1 r1 _
    cases p with
    | d x =>
      cases x with
      | int i =>
        have e := Dq.int_inv r1
        subst e
        exact ⟨i, rfl, g κ₁ H₁ a1⟩
      | _ => exact g.elim
    | _ => exact g.elim
theorem r_slc {lo hi : Option Expr} {cl ch : E} {p2 : Pos} (ha : PE X a (rdE Γ X.K xc W ca)) (hl : PO X lo (rdP Γ X.K xc W cl)) (hh : PO X hi (rdP Γ X.K xc W ch)) : PE X (.Subscript a (.Slice lo hi none p2) pos) (rdE Γ X.K xc W (.slc ca cl ch)) :=
  peI (pe_slice sl_of ha hl hh) fun σ H Q ⟨κ, M, ρ, st, env, g⟩ => by
    simp only [den] at g
    refine ⟨κ, M, ρ, st, env.sub fun i h => by simp [occ, h], Goal.bind g fun p st₁ κ₁ H₁ v e1 a1 r1 g1 => ?_⟩
    have env1 := env.aft a1
    refine ⟨κ₁, M, ρ, st₁, env1.sub fun i h => by simp [occ, h], Goal.bindA (Goal.shift env.cells a1 g1) fun l st₂ κ₂ H₂ e2 a2 g2 => ?_⟩
    have env2 := env1.aft a2
    refine ⟨κ₂, M, ρ, st₂, env2.sub fun i h => by simp [occ, h], Goal.bindA (Goal.shift env1.cells a2 g2) fun u st₃ κ₃ H₃ e3 a3 g3 => ?_⟩
    have g4 := Goal.shift env2.cells a3 g3
    cases p with
    | d x =>
      obtain ⟨r, e, dn⟩ := Goal.doneO a3.cells g4
      exact ⟨_, x, r, occ_of a3.cells, a3.rp (a2.rp r1), e, dn⟩
    | _ => exact g4.elim
theorem r_neg (ha : PE X a (rdE Γ X.K xc W ca)) : PE X (.UnaryOp .USub a pos) (rdE Γ X.K xc W (.neg ca)) :=
  peI (pe_un un_neg ha) fun σ H Q ⟨κ, M, ρ, st, env, g⟩ => by
    simp only [den] at g
    refine ⟨κ, M, ρ, st, env.sub fun i h => by simpa [occ] using h, Goal.bind g fun p st₁ κ₁ H₁ v e1 a1 r1 g1 => ?_⟩
    have g2 := Goal.shift env.cells a1 g1
    cases p with
    | d x =>
      cases x with
      | int i => exact ⟨i, Dq.int_inv r1, r_done a1.cells (.int (-i)) (fun _ _ e => by cases e) g2⟩
      | _ => exact g2.elim
    | _ => exact g2.elim
/-! ### what is walked -/
/-- an item that is walked; wk: a tuple for a target of several names, of which no more is asked -/
def DqI (K : PySem.W.Frag) (wk : Bool) (H : Hp) (v : V) (x : D) : Prop := Dq K H v x ∨ (wk = true ∧ ∃ a us ds, v = .ref a ∧ x = .tuple ds ∧ SqT K H a us ∧ DqAll K H us ds)
/-- J goes through xs wherever what stands in S stands -/
def Goes (K : PySem.W.Frag) (S : Hp) (wk : Bool) (J : It) (xs : List D) : Prop := ∀ (P : Addr → Prop) (Hc : Hp), Occ P Hc → Same S (msk P Hc) →
  (∀ (i : Nat) (x : D), xs[i]? = some x → J.go i Hc ∧ ∀ v H', J.yld i Hc v H' → Same Hc H' ∧ DqI K wk (msk P H') v x) ∧ J.stop xs.length Hc
end
end Sw

set_option Elab.async false
set_option linter.all false
set_option maxRecDepth 100000
set_option maxHeartbeats 1000000
/-! Dicts in expressions: as they stand, d.get(k, x); new ones, copies. -/
namespace Sw
open PySem PySem.Spec PyProof.Rows L2
section
variable {X : Cx} {Γ : Ctx} {xc : Nat → Addr} {W : WX} {k : Nat} {nm : Nm} {a b c e : Expr} {pos p : Pos} {ca cb cc : E}
/-- {}, a new one -/
def tDN : TE := fun _ H Q => ∀ q, H q = none → Q (.ref q) (upd H q (dE q 0 []))
theorem pe_dn : PE X (.Dict [] [] pos) tDN := ⟨fun pins s σ H Q I h => by
  have hm : (s.heap.objs.size == sysModules) = false := beq_eq_false_iff_ne.mpr (Nat.ne_of_gt I.big)
  refine wpAny_Dict_empty ⟨.ref s.heap.objs.size, _, I.laid (a := s.heap.objs.size) (o := dE s.heap.objs.size 0 []) (t' := s.toks) (fun _ _ q => Heap.get?_push_of_some _ q) (Nat.le_refl _) ?_, rfl, h _ (I.hok.fresh (Nat.le_refl _))⟩
  exact dE_ok (o := { cls := .type "dict", data := .dict #[] }) (es := #[]) hm (Heap.get?_push_size _ rfl) ⟨rfl, rfl, rfl⟩ rfl .nil⟩
/-- {i: b} -/
def tDI (i : Int) (b : Bool) : TE := fun _ H Q => ∀ q ep, H q = none → Q (.ref q) (upd H q (dE q ep [(hashInt i, .int i, .bl b)]))
theorem pe_dI {i : Int} {bb : Bool} {j1 j2 : Nat} {p1 p2 : Pos} : PE X (.Dict [some (.Constant (.int i) j1 p1)] [.Constant (.bool bb) j2 p2] pos) (tDI i bb) := ⟨fun pins s σ H Q I h => by
  refine thn ((pe_disp (pps_cons pe_int pe_bl pps_nil) rfl rfl (by simp) (by simp)).run pins s σ H (fun v H' => ∃ q, H q = none ∧ v = .ref q ∧ H' = upd H q (.dK [(.inl i, .bl bb)])) I fun q nq => ⟨upd_same, [(.inl i, .bl bb)], rfl, by simp, q, nq, rfl, ?_⟩) fun u s1 ⟨v, H', I1, rv, q, nq, ev, eH⟩ => ?_
  · show upd (upd H q (.dK [])) q (.dK (mergeK [] [(.inl i, V.bl bb)])) = _
    rw [upd_upd]
    rfl
  · subst ev eH
    have z : ObjOk X.prog X.w (upd H q (.dK [(.inl i, .bl bb)])) s1.heap q (.dK [(.inl i, .bl bb)]) := I1.hok q _ upd_same
    obtain ⟨_, hsm, vs, kv, o, es, ep, e1, e2, e3, e4, e5, _⟩ := z
    cases kv with
    | @cons _ w _ _ k1 k2 =>
      cases k2
      obtain ⟨wk, wv⟩ := w
      obtain ⟨k1a, k1b⟩ := k1
      simp only at k1a k1b
      subst k1a
      have mu : Mut (upd H q (.dK [(.inl i, .bl bb)]) q) := by rw [upd_same]; exact trivial
      have ent : Paired entR [(hashInt i, V.int i, V.bl bb)] es.toList := by
        generalize hl : es.toList = l at e5
        cases e5 with
        | @cons en _ _ _ p1 p2 p3 =>
          cases p3
          obtain ⟨kk, q1, q2⟩ := e4 en (by rw [← Array.mem_toList_iff, hl]; simp)
          have ek := (mixKind X.prog X.w).inj en.key _ _ p1 q1
          subst ek
          obtain ⟨t, et⟩ := Value.isInt_shape (show Value.isInt i en.key = true from p1)
          exact .cons ⟨q2, ⟨t, et⟩, by show RelV _ en.val; rw [p2]; exact k1b⟩ .nil
      refine ⟨.ref q, _, I1.write (o := dE q ep [(hashInt i, .int i, .bl bb)]) (t' := s1.toks) (h' := s1.heap) mu (.inl rfl) (fun _ _ _ z => z) ⟨_, e1⟩ (dE_ok hsm e1 e2 e3 ent), rv, ?_⟩
      rw [upd_upd]
      exact h q ep nq⟩
theorem r_dI {i : Int} {bb : Bool} {j1 j2 : Nat} {p1 p2 : Pos} : PE X (.Dict [some (.Constant (.int i) j1 p1)] [.Constant (.bool bb) j2 p2] pos) (rdE Γ X.K xc W (.dI i bb)) :=
  peI pe_dI fun σ H Q ⟨κ, M, ρ, st, env, g⟩ => fun q ep nq => by
    simp only [den] at g
    exact g κ _ _ (Aft.of_same env.cells (Same.upd nq)) (.dgn (ms := [(hashInt i, .int i, .bl bb)]) (msk_some.mpr ⟨env.cells.free nq, upd_same⟩) (.cons (.int i) .nil) (.cons (.bl bb) .nil) (by simp only [List.map_cons, List.map_nil, hk]) rfl) (fun z => by simp [fresh] at z)
/-- d.get(k, z) -/
def rGetG (K : PySem.W.Frag) (x y z : V) : Hp → VK → Prop := fun H Q => ∃ Hv ks kd, Same Hv H ∧ Dq K Hv x (.dict ks) ∧ Dq K Hv y kd ∧ clsK kd ks = true ∧ (lookD ks kd = none → Q z H) ∧ ∀ r v, lookD ks kd = some r → Dq K Hv v r → Q v H
def tGetG (K : PySem.W.Frag) (td ty tz : TE) : TE := fun σ H Q => td σ H fun x H1 => (∃ a ep ms, x = .ref a ∧ H1 a = some (dE a ep ms)) ∧ ty σ H1 fun y H2 => tz σ H2 fun z H3 => rGetG K x y z H3 Q
theorem pe_getG {td ty tz : TE} {apos cpos : Pos} (hu : X.A.units + 64 < cLine) (ho : PE X a td) (he : PE X b ty) (hf : PE X c tz) (m : M2 X a "get" apos b c cpos) : PE X (.Call (.Attribute a "get" apos) [b, c] [] cpos) (tGetG X.K td ty tz) := by
  refine ⟨fun pins s σ H Q I h => ?_⟩
  refine wpAny_Call_method m.base m.few m.line PySem.F.plainAttrs_dict PySem.F.slot_dict_get PySem.F.type_dict_get (thn (ho.run pins s σ H _ I h) fun u s1 ⟨x, H1, I1, rx, ⟨d, ep, ms, ex, hd⟩, q1⟩ => ?_)
  subst ex
  obtain rfl : u = Value.ref d := rx
  obtain ⟨_, o, es, r1, r2, r3, _⟩ := raw_of I1 hd
  refine ⟨⟨o, r1, r2.1⟩, fun b z => by cases z; exact ⟨o, r1, r2.2.1⟩, ?_⟩
  rw [m.trees]
  refine Calls.callWith_builtin rfl (Calls.evalArgs_plain (Calls.spliced_cons (thn (he.run pins s1 σ H1 _ I1 q1) fun iv s2 ⟨y, H2, I2, ry, q2⟩ =>
    Calls.spliced_cons (thn (hf.run pins s2 σ H2 _ I2 q2) fun fv s3 ⟨z, H3, I3, rz, q3⟩ => Calls.spliced_nil ?_))))
  obtain ⟨Hv, ks, kd, sm, hx, hy, c, q4, q5⟩ := q3
  obtain ⟨a', ep', ms', ea, g1, g2, g3, g4, g5⟩ := hx.dict_inv (clsK_all c)
  cases ea
  have c2 := c
  simp only [clsK, Bool.or_eq_true, Bool.and_eq_true] at c2
  rcases c2 with c2 | c2
  · obtain ⟨i, rfl⟩ := isI_inv c2.1
    have ey := hy.int_inv
    subst ey
    obtain ⟨t, rfl⟩ := ry
    obtain ⟨zz, kvs, k1, k2, k3⟩ := dict_I I3 (sm _ _ g1) g2 g4 g5 c2.2
    have hkey : (intKind X.prog X.w).is i (.int i t) = true := by show Value.isInt i (.int i t) = true; simp [Value.isInt]
    refine call_meetsIn PySem.F.slot_dict_get k1.mapOf.typeIs PySem.F.entry_dict_get (PySem.F.args_dict_get_3 _ _ _) (meets_dict_get_default (intKind X.prog X.w) d hkey zz fv) ⟨_, k1.mapOf, ?_⟩
    rcases look_I k2 k3 g3 with ⟨l1, l2⟩ | ⟨y, v, w, l1, l2, rv, dv⟩
    · rw [l2]
      exact ⟨z, H3, I3.tok _, rz, q4 l1⟩
    · rw [l2]
      exact ⟨v, H3, I3.tok _, rv, q5 y v l1 dv⟩
  · obtain ⟨b', rfl, rfl, hkey⟩ := keyT_is I3 sm hy c2.1 ry
    obtain ⟨zz, xs, k1, k2, k3, k4⟩ := dict_T I3 sm (sm _ _ g1) g2 g4 g5 c2.2
    have hroom : (nestedKind X.prog X.w).room X.A.in1 := by
      show X.A.in1.units + 8 < cLine
      have : X.A.in1.units = X.A.units + 1 := rfl
      omega
    refine call_meetsIn PySem.F.slot_dict_get k1.typeIs PySem.F.entry_dict_get (PySem.F.args_dict_get_3 _ _ _) (meetsH_dict_get_default (nestedKind X.prog X.w) d b' zz fv) ⟨hroom, _, xs, hkey, k1, ?_⟩
    rcases look_T k2 k3 g3 (isT_nest c2.1) (dkOk_nest g5) with ⟨l1, l2⟩ | ⟨y, v, w, l1, l2, rv, dv⟩
    · rw [l2]
      exact ⟨z, H3, I3.tok _, rz, q4 l1⟩
    · rw [l2]
      exact ⟨v, H3, I3.tok _, rv, q5 y v l1 dv⟩
theorem r_dget {apos cpos : Pos} (F : Facts X Γ nm xc k) (ho : PE X a (rdE Γ X.K xc W ca)) (he : PE X b (rdE Γ X.K xc W cb)) (hf : PE X c (rdE Γ X.K xc W cc)) (m : M2 X a "get" apos b c cpos) : PE X (.Call (.Attribute a "get" apos) [b, c] [] cpos) (rdE Γ X.K xc W (.dget ca cb cc)) := by
  refine peI (pe_getG F.un ho he hf m) fun σ H Q ⟨κ, M, ρ, st, env, g⟩ => ?_
  simp only [den] at g
  refine ⟨κ, M, ρ, st, env.sub fun i h => by simp [occ, h], Goal.bind g fun p st₁ κ₁ H₁ v e1 a1 r1 g1 => ?_⟩
  have env1 := env.aft a1
  have g1' := Goal.shift env.cells a1 g1
  cases p with
  | d x =>
    cases x with
    | dict ks =>
      simp only at g1'
      by_cases hc : clsAll ks = true
      · rw [if_pos hc] at g1'
        obtain ⟨a', ep', ms', rfl, y1, _⟩ := Dq.dict_inv r1 hc
        refine ⟨⟨a', ep', ms', rfl, msk_le _ _ y1⟩, ?_⟩
        refine ⟨κ₁, M, ρ, st₁, env1.sub fun i h => by simp [occ, h], Goal.bind g1' fun q st₂ κ₂ H₂ w e2 a2 r2 g2 => ?_⟩
        have env2 := env1.aft a2
        have g2' := Goal.shift env1.cells a2 g2
        refine ⟨κ₂, M, ρ, st₂, env2.sub fun i h => by simp [occ, h], Goal.bind g2' fun u st₃ κ₃ H₃ z e3 a3 r3 g3 => ?_⟩
        have g3' := Goal.shift env2.cells a3 g3
        cases q with
        | d kd =>
          cases u with
          | d zd =>
            simp only [dgetR] at g3'
            by_cases c : clsK kd ks = true
            · rw [if_pos c] at g3'
              have r1' := a3.rp (a2.rp r1)
              have r2' := a3.rp r2
              refine ⟨_, ks, kd, msk_le, r1', r2', c, fun l => ?_, fun r v l dv => ?_⟩
              · rw [l] at g3'
                exact g3' κ₃ H₃ z (Aft.refl a3.cells) r3 (fun z => by simp [fresh] at z)
              · rw [l] at g3'
                exact g3' κ₃ H₃ v (Aft.refl a3.cells) dv (fun z => by simp [fresh] at z)
            · rw [if_neg c] at g3'
              exact g3'.elim
          | _ => exact g3'.elim
        | _ => cases u <;> exact g3'.elim
      · rw [if_neg hc] at g1'
        exact g1'.elim
    | _ => exact g1'.elim
  | _ => exact g1'.elim
/-- dict(d): a copy -/
def rCopyG (K : PySem.W.Frag) : List V → Hp → VK → Prop := fun vs H Q => ∃ Hv v ks, vs = [v] ∧ Same Hv H ∧ Dq K Hv v (.dict ks) ∧ (ks.all fun p => isI p.1) = true ∧ ks.length < 1000000 ∧
  ∀ q ep ms, H q = none → DqAll K Hv (ms.map (·.2.1)) (ks.map (·.1)) → DqAll K Hv (ms.map (·.2.2)) (ks.map (·.2)) → ms.map (·.1) = ks.map (fun p => hk p.1) → dkOk ks = true → Q (.ref q) (upd H q (dE q ep ms))
theorem call_copyG : CallR X (.type "dict") (rCopyG X.K) := by
  intro pins s σ H vs us Q I r ⟨Hv, v, ks, e, sm, hd, al, few, q⟩
  subst e
  have c : clsAll ks = true := by unfold clsAll; rw [al]; rfl
  obtain ⟨a, ep, ms, rfl, h1, h2, h3, h4, h5⟩ := hd.dict_inv c
  rw [Vals.ref1 r]
  obtain ⟨z, kvs, k1, k2, k3⟩ := dict_I I (sm _ _ h1) h2 h4 h5 al
  have kl : kvs.length = ks.length := by simpa using congrArg List.length k2
  have hm : (s.heap.objs.size == sysModules) = false := beq_eq_false_iff_ne.mpr (Nat.ne_of_gt I.big)
  refine kt_call_dict z k1 (by rw [kl, sizeLine_eq]; omega) fun h' hd' hs => ?_
  obtain ⟨ep', ms', t1, t2, t3, t4⟩ := told_I (H := H) (Hv := Hv) (K := X.K) hm hd' k2 k3
  have kp : ∀ b o, s.heap.get? b = some o → h'.get? b = some o := fun b o e => (hs.2 b (Nat.ne_of_lt (Heap.lt_size e))).trans (Heap.get?_push_of_some _ e)
  exact ⟨.ref s.heap.objs.size, _, I.laid (t' := s.toks) (o := dE s.heap.objs.size ep' ms') kp (Nat.le_refl _) (show ObjOk X.prog X.w (upd H s.heap.objs.size (dE s.heap.objs.size ep' ms')) h' s.heap.objs.size (dE s.heap.objs.size ep' ms') from t1), rfl, q _ ep' ms' (I.hok.fresh (Nat.le_refl _)) t2 (by rw [t3]; exact h3) t4 h5⟩
end
end Sw

set_option Elab.async false
set_option linter.all false
set_option maxRecDepth 100000
set_option maxHeartbeats 1000000
/-! Rules that the layer lacks: a tuple backwards. -/
namespace Sw
open PySem PySem.Spec PyProof.Rows L2 HT
section
variable {prog : Program} {w : World} {A : Around} {E : Value → Shared → Prop} {s : Shared}
theorem adjust_rev (n : Nat) : Builtin.Slice.sliceAdjust none none (-1) (n : Int) = ((n : Int) - 1, -1) := by
  unfold Builtin.Slice.sliceAdjust
  simp
theorem places_rev (n : Nat) : Builtin.Slice.slicePlaces ((n : Int) - 1) (-1) (-1) = n := by
  unfold Builtin.Slice.slicePlaces
  simp
  omega
theorem fm_congr {f g : Nat → Option Value} : ∀ (l : List Nat), (∀ m ∈ l, f m = g m) → l.filterMap f = l.filterMap g
  | [], _ => rfl
  | m :: l, h => by
    rw [List.filterMap_cons, List.filterMap_cons, h m (by simp), fm_congr l fun k hk => h k (by simp [hk])]
theorem fm_all : ∀ l : List Value, (List.range l.length).filterMap (fun m => l[m]?) = l
  | [] => rfl
  | a :: l => by
    rw [List.length_cons, List.range_succ_eq_map, List.filterMap_cons]
    simp only [List.getElem?_cons_zero, List.filterMap_map]
    exact congrArg (a :: ·) (fm_all l)
theorem pick_rev (xs : List Value) : ((List.range xs.length).filterMap fun (m : Nat) => xs.toArray[(((xs.length : Int) - 1) + (m : Int) * -1).toNat]?) = xs.reverse := by
  have e : ((List.range xs.length).filterMap fun (m : Nat) => xs.toArray[(((xs.length : Int) - 1) + (m : Int) * -1).toNat]?) = (List.range xs.length).filterMap fun m => xs.reverse[m]? := by
    refine fm_congr _ fun m hm => ?_
    have hm' : m < xs.length := List.mem_range.mp hm
    rw [List.getElem?_toArray, List.getElem?_reverse hm']
    congr 1
    omega
  rw [e, ← List.length_reverse (as := xs), fm_all]
theorem sliceApplied_rev {sl : Addr} {vs : Value} {n : Nat} {Q : Int × Int × Nat → Shared → Prop} (hs : s.heap.IsSliceOf sl .none .none vs) (ps : IsPart vs (some (-1)))
    (h : Q ((n : Int) - 1, -1, n) s) : wpAny (model prog w) A (Builtin.Slice.sliceApplied (.ref sl) (pure (n : Int))) Q E s := by
  obtain ⟨ob, hos, hcs, hds⟩ := id hs
  unfold Builtin.Slice.sliceApplied Builtin.Slice.sliceFields
  refine wpAny_bind (wpAny_bind (wpAny_field hos hds (x := .none) rfl (wpAny_bind (wpAny_field hos hds (x := .none) rfl (wpAny_bind (wpAny_field hos hds (x := vs) rfl (wpAny_pure ?_)))))))
  refine wpAny_bind (slicePart_ ps ?_)
  show wpAny _ _ (if ((-1 : Int) == 0) = true then _ else _) _ _ s
  rw [if_neg (by decide)]
  refine wpAny_bind (slicePart_ .none (wpAny_bind (slicePart_ .none (wpAny_bind (wpAny_pure ?_)))))
  show wpAny _ _ (match Builtin.Slice.sliceAdjust none none (-1) (n : Int) with | (lo, hi) => pure (lo, (-1 : Int), Builtin.Slice.slicePlaces lo hi (-1))) _ _ s
  rw [adjust_rev]
  show wpAny _ _ (pure ((n : Int) - 1, (-1 : Int), Builtin.Slice.slicePlaces ((n : Int) - 1) (-1) (-1))) _ _ s
  rw [places_rev]
  exact wpAny_pure h
theorem item_rev {tp sl : Addr} {items : List Value} {vs : Value} {Q : Value → Shared → Prop} (hq : IsTup s.heap tp items.toArray) (hs : s.heap.IsSliceOf sl .none .none vs) (ps : IsPart vs (some (-1)))
    (h : Q (.ref s.heap.objs.size) { s with heap := s.heap.push { cls := .type "tuple", data := .seq items.reverse.toArray } }) (hsz : items.length ≤ sizeLine) : wpAny (model prog w) A (getItem (.ref tp) (.ref sl)) Q E s := by
  have hnew : sizeOk (.seq items.reverse.toArray) := by
    show items.reverse.toArray.size ≤ sizeLine
    rw [List.size_toArray, List.length_reverse]
    exact hsz
  obtain ⟨ob, h1, h2, h3⟩ := id hs
  have hTs : s.TypeIs (.ref sl) "slice" := ⟨ob, h1, h2⟩
  unfold getItem
  (try with_reducible refine wpAny_holding ?_)
  (first | refine wpAny_bind (wpAny_pure ?_) | skip)
  refine wpAny_bind (wpAny_sequenceKey hq.typeIs (by decide) ?_)
  refine wpAny_bind (wpAny_callSpecial?_slot (name := Str.ofString "__getitem__") hq.typeIs PyProof.Rows.slot_tuple_getitem (wpAny_call_entry PyProof.Rows.slot_tuple_getitem hq.typeIs entry_tuple_getitem ?_ (args_tuple_getitem _ _)))
  show wpAny _ _ (Builtin.Tuple.tupleItemsOf (.ref tp) >>= _) _ _ s
  refine wpAny_bind (tupleItemsOf_ hq (wpAny_bind (wpAny_typeOf hTs ?_)))
  rw [if_pos (by decide)]
  refine wpAny_bind (sliceApplied_rev hs ps ?_)
  have hno : ¬ ((((items.toArray.size : Nat) : Int) - 1 == 0 && (-1 : Int) == 1 && items.toArray.size == items.toArray.size) = true) := by simp
  show wpAny _ _ (if ((((items.toArray.size : Nat) : Int) - 1 == 0 && (-1 : Int) == 1 && items.toArray.size == items.toArray.size) = true) then _ else _) _ _ s
  rw [if_neg hno]
  have hp : ((List.range items.toArray.size).filterMap fun (m : Nat) => items.toArray[((((items.toArray.size : Nat) : Int) - 1) + (m : Int) * -1).toNat]?).toArray = items.reverse.toArray := by
    rw [List.size_toArray, pick_rev]
  rw [hp]
  first
    | exact wpAny_bind (m := Builtin.Tuple.tupleExact _) (wpAny_newObj_type (wpAny_pure ⟨_, rfl, wpAny_pure h⟩) hnew)
    | exact wpAny_bind (wpAny_bind (m := Builtin.Tuple.tupleExact _) (wpAny_newObj_type (wpAny_pure ⟨_, rfl, wpAny_pure h⟩) hnew))
end
section
variable {X : Cx} {Γ : Ctx} {xc : Nat → Addr} {W : WX} {e : Expr} {ce : E}
def tRev (K : PySem.W.Frag) (te : TE) : TE := fun σ H Q => te σ H fun x H1 => (∃ a xs, x = .ref a ∧ SqL K H1 a xs ∧ ∀ p, H1 p = none → Q (.ref p) (L2.upd H1 p (.lst xs.reverse))) ∨
  ∃ a xs, x = .ref a ∧ SqT K H1 a xs ∧ NwT H1 xs.reverse Q
theorem pe_rev {te : TE} {k : Nat} {p1 p2 p3 pos : Pos} (he : PE X e te) : PE X (.Subscript e (.Slice none none (some (.UnaryOp .USub (.Constant (.int 1) k p1) p2)) p3) pos) (tRev X.K te) := by
  refine ⟨fun pins s σ H Q I h => ?_⟩
  refine Subscript_ (thn (he.run pins s σ H _ I h) fun v s1 ⟨x, H1, I1, r1, q1⟩ => ?_)
  have part : PO X (some (.UnaryOp .USub (.Constant (.int 1) k p1) p2)) (tPart (tUn (rU fun i => .int (-i)) (tC (.int 1)))) := po_some (pe_un un_neg pe_int)
  refine wpAny_Slice (thn (po_none.run pins s1 σ H1 (fun o G => o = none ∧ G = H1) I1 ⟨rfl, rfl⟩) fun vl s2 ⟨l, H2, I2, pl, el, e2⟩ => ?_)
  subst el e2
  refine thn (po_none.run pins s2 σ H2 (fun o G => o = none ∧ G = H2) I2 ⟨rfl, rfl⟩) fun vu s3 ⟨u, H3, I3, pu, eu, e3⟩ => ?_
  subst eu e3
  refine thn (part.run pins s3 σ H3 (fun o G => o = some (-1) ∧ G = H3) I3 ⟨1, rfl, -1, rfl, rfl, rfl⟩) fun vs s4 ⟨o, H4, I4, ps, eo, e4⟩ => ?_
  subst eo e4
  have I5 : Inv X pins σ H4 { s4 with heap := s4.heap.push { cls := .type "slice", data := .fields #[vl, vu, vs] } } := I4.kept (t' := s4.toks) fun b ob q => Heap.get?_push_of_some _ q
  cases pl
  cases pu
  rcases q1 with ⟨a, xs, ex, hx, q⟩ | ⟨a, xs, ex, hx, q⟩
  · subst ex
    cases r1
    obtain ⟨its, r, ht, hz⟩ := I5.list hx
    have hlen := r.length
    show wpAny (model X.prog X.w) X.A (subscriptTail e (.Slice none none (some (.UnaryOp .USub (.Constant (.int 1) k p1) p2)) p3) (.ref a) (.ref s4.heap.objs.size)) (EP X pins σ Q) X.xe { s4 with heap := s4.heap.push { cls := .type "slice", data := .fields #[.none, .none, vs] } }
    refine tail_any (ops := [.ref a, .ref s4.heap.objs.size]) ht.isList.typeIs (PySem.slot_list_getitem.lookup) ?_ (by with_unfolding_all rfl)
    refine wpAny_getItem_list_slice ht.isList (Heap.IsSliceOf.new _ .none .none vs) .none .none ps (by decide) ?_ (by rw [List.size_toArray, ← hlen]; exact hz)
    rw [PySem.W.krv_pick]
    exact ⟨.ref _, _, I5.laid (t' := s4.toks) (o := .lst xs.reverse) (fun b ob q => Heap.get?_push_of_some _ q) (Nat.le_refl _) ⟨by rw [List.length_reverse]; exact hz, _, 0, r.reverse, Heap.get?_push_size _ rfl⟩, rfl, q _ (I5.hok.fresh (Nat.le_refl _))⟩
  · subst ex
    cases r1
    obtain ⟨its, r, ht, hz⟩ := I5.tuple hx
    have hlen := r.length
    show wpAny (model X.prog X.w) X.A (subscriptTail e (.Slice none none (some (.UnaryOp .USub (.Constant (.int 1) k p1) p2)) p3) (.ref a) (.ref s4.heap.objs.size)) (EP X pins σ Q) X.xe { s4 with heap := s4.heap.push { cls := .type "slice", data := .fields #[.none, .none, vs] } }
    refine tail_any (ops := [.ref a, .ref s4.heap.objs.size]) ht.typeIs (PyProof.Rows.slot_tuple_getitem.lookup) ?_ (by with_unfolding_all rfl)
    refine item_rev ht (Heap.IsSliceOf.new _ .none .none vs) ps ?_ (by rw [← hlen]; exact hz)
    exact laid_tup (t := s4.toks) I5 r.reverse (by rw [List.length_reverse]; exact hz) q
/-- a o b p c q d -/
def tChain3 (r1 r2 r3 : R2) (ta tb tc td : TE) : TE := fun σ H Q => ta σ H fun x H1 => tb σ H1 fun y H2 => r1 x y H2 fun z H3 => ∃ k, z = .bl k ∧
  (if k = true then tc σ H3 fun w H4 => r2 y w H4 fun z2 H5 => ∃ k2, z2 = .bl k2 ∧ (if k2 = true then td σ H5 fun t H6 => r3 w t H6 Q else Q (.bl false) H5) else Q (.bl false) H3)
section
variable {a b c d : Expr} {ta tb tc td : TE} {pos : Pos}
theorem pe_chain3 {o1 o2 o3 : CmpOp} {r1 r2 r3 : R2} (h1 : OpR X (compareOp o1) r1) (h2 : OpR X (compareOp o2) r2) (h3 : OpR X (compareOp o3) r3) (ha : PE X a ta) (hb : PE X b tb) (hc : PE X c tc) (hd : PE X d td)
    (hm : lastMarks [o1, o2, o3] [b, c, d] = false) : PE X (.Compare a [o1, o2, o3] [b, c, d] pos) (tChain3 r1 r2 r3 ta tb tc td) := by
  refine ⟨fun pins s σ H Q I h => ?_⟩
  refine Compare_chain (thn (ha.run pins s σ H _ I h) fun v s1 ⟨x, H1, I1, rx, q1⟩ => chain_link (thn (hb.run pins s1 σ H1 _ I1 q1) fun u s2 ⟨y, H2, I2, ry, q2⟩ => thn (h1 pins s2 σ H2 x y v u _ I2 rx ry q2) fun e s3 ⟨z, H3, I3, rz, k, ez, q3⟩ => ?_)) hm
  subst ez
  cases rz
  refine wpAny_truthy_bool ?_
  cases k with
  | false => exact ite_ff ⟨.bl false, H3, I3, rfl, q3⟩
  | true =>
    refine ite_tt (chain_link (thn (hc.run pins s3 σ H3 _ I3 q3) fun w s4 ⟨z4, H4, I4, r4, q4⟩ => thn (h2 pins s4 σ H4 y z4 u w _ I4 ry r4 q4) fun e s5 ⟨z5, H5, I5, r5, k2, e5, q5⟩ => ?_))
    subst e5
    cases r5
    refine wpAny_truthy_bool ?_
    cases k2 with
    | false => exact ite_ff ⟨.bl false, H5, I5, rfl, q5⟩
    | true => exact ite_tt (chain_last (thn (hd.run pins s5 σ H5 _ I5 q5) fun f s6 ⟨z6, H6, I6, r6, q6⟩ => h3 pins s6 σ H6 z4 z6 w f Q I6 r4 r6 q6))
theorem pt_chain3 {o1 o2 o3 : CmpOp} {r1 r2 r3 : R2} (h1 : OpR X (compareOp o1) r1) (h2 : OpR X (compareOp o2) r2) (h3 : OpR X (compareOp o3) r3) (ha : PE X a ta) (hb : PE X b tb) (hc : PE X c tc) (hd : PE X d td)
    (hm : lastMarks [o1, o2, o3] [b, c, d] = false) : PT X (.Compare a [o1, o2, o3] [b, c, d] pos) (tTest (tChain3 r1 r2 r3 ta tb tc td)) := by
  refine ⟨fun pins s σ H Q I h => ?_⟩
  refine isTrue_chain (thn (ha.run pins s σ H _ I h) fun v s1 ⟨x, H1, I1, rx, q1⟩ => test_link (thn (hb.run pins s1 σ H1 _ I1 q1) fun u s2 ⟨y, H2, I2, ry, q2⟩ => thn (h1 pins s2 σ H2 x y v u _ I2 rx ry q2) fun e s3 ⟨z, H3, I3, rz, k, ez, q3⟩ => ?_)) hm
  subst ez
  cases rz
  refine wpAny_truthy_bool ?_
  cases k with
  | false =>
    obtain ⟨k', e', q'⟩ := q3
    cases e'
    exact ite_ff ⟨H3, I3, q'⟩
  | true =>
    refine ite_tt (test_link (thn (hc.run pins s3 σ H3 _ I3 q3) fun w s4 ⟨z4, H4, I4, r4, q4⟩ => thn (h2 pins s4 σ H4 y z4 u w _ I4 ry r4 q4) fun e s5 ⟨z5, H5, I5, r5, k2, e5, q5⟩ => ?_))
    subst e5
    cases r5
    refine wpAny_truthy_bool ?_
    cases k2 with
    | false =>
      obtain ⟨k', e', q'⟩ := q5
      cases e'
      exact ite_ff ⟨H5, I5, q'⟩
    | true =>
      refine ite_tt (test_last (thn (hd.run pins s5 σ H5 _ I5 q5) fun f s6 ⟨z6, H6, I6, r6, q6⟩ => thn (h3 pins s6 σ H6 z4 z6 w f _ I6 r4 r6 q6) fun g s7 ⟨z7, H7, I7, r7, k7, e7, q7⟩ => ?_))
      subst e7
      cases r7
      exact wpAny_truthy_bool ⟨H7, I7, q7⟩
end
theorem chain3_read {K : PySem.W.Frag} {o u w : Cm} {ca cb cc cd : E} {σ : L2.St} {H : Hp} {Q : VK} (h : rdE Γ K xc W (.chain3 o u w ca cb cc cd) σ H Q) : tChain3 (rCm K o) (rCm K u) (rCm K w) (rdE Γ K xc W ca) (rdE Γ K xc W cb) (rdE Γ K xc W cc) (rdE Γ K xc W cd) σ H Q := by
  obtain ⟨κ, M, ρ, st, env, g⟩ := h
  simp only [den] at g
  refine two_parts env (fun i h => by simp [occ, h]) (fun i h => by simp [occ, h]) g fun p q κ₂ H₂ st₂ v w' c2 a2 r1 r2 g2 => ?_
  have env2 := env.aft a2
  have g3 : Goal K xc W σ κ₂ M H₂ false (cmR o p q st₂) fun z H3 => ∃ k, z = .bl k ∧ if k = true then rdE Γ K xc W cc σ H3 (fun t H4 => rCm K u w' t H4 fun z2 H5 => ∃ k2, z2 = .bl k2 ∧ if k2 = true then rdE Γ K xc W cd σ H5 (fun t6 H6 => rCm K w t t6 H6 Q) else Q (.bl false) H5) else Q (.bl false) H3 := by
    refine Goal.bind g2 fun r st₃ κ₃ H₃ z e3 a3 r3 g3 => ?_
    obtain ⟨kb, rfl, rfl, g4⟩ := goal_ifB r3 g3
    refine ⟨kb, rfl, ?_⟩
    cases kb with
    | false =>
      rw [if_neg Bool.false_ne_true]
      exact r_done a3.cells (.bl false) (fun _ _ e => by cases e) (Goal.shift c2 a3 g4)
    | true =>
      rw [if_pos rfl]
      have env3 := env2.aft a3
      refine ⟨κ₃, M, ρ, st₃, env3.sub fun i h => by simp [occ, h], Goal.bind (Goal.shift c2 a3 g4) fun t st₄ κ₄ H₄ zt e4 a4 r4 g5 => ?_⟩
      have env4 := env3.aft a4
      have g6 := Goal.shift a3.cells a4 g5
      have g7 : Goal K xc W σ κ₄ M H₄ false (cmR u q t st₄) fun z2 H5 => ∃ k2, z2 = .bl k2 ∧ if k2 = true then rdE Γ K xc W cd σ H5 (fun t6 H6 => rCm K w zt t6 H6 Q) else Q (.bl false) H5 := by
        refine Goal.bind g6 fun r5 st₅ κ₅ H₅ z5 e5 a5 rr5 g8 => ?_
        obtain ⟨kc, rfl, rfl, g9⟩ := goal_ifB rr5 g8
        refine ⟨kc, rfl, ?_⟩
        cases kc with
        | false =>
          rw [if_neg Bool.false_ne_true]
          exact r_done a5.cells (.bl false) (fun _ _ e => by cases e) (Goal.shift a4.cells a5 g9)
        | true =>
          rw [if_pos rfl]
          refine ⟨κ₅, M, ρ, st₅, (env4.aft a5).sub fun i h => by simp [occ, h], Goal.bind (Goal.shift a4.cells a5 g9) fun t6 st₆ κ₆ H₆ z6 e6 a6 r6 g10 => ?_⟩
          exact goal_cm a6.cells (a6.rp (a5.rp r4)) r6 (Goal.shift a5.cells a6 g10)
      exact goal_cm a4.cells (a4.rp (a3.rp r2)) r4 g7
  exact goal_cm c2 r1 r2 g3
theorem dq_range {K : PySem.W.Frag} {H : Hp} (a : Int) : ∀ L : List Nat, DqAll K H (L.map fun i => V.int (a + (i : Nat))) (L.map fun i => PyData.int (a + (i : Nat)))
  | [] => .nil
  | _ :: L => .cons (.int _) (dq_range a L)
theorem r_tupR {p q pos pos2 : Pos} {l : Expr} (F : Facts X Γ nm xc k) (hh : nm.hot = false) (hg : Gl X "tuple") (hg2 : Gl X "range") (he : PE X l (rdE Γ X.K xc W ce)) (h1 : starEach [l] X.env = [(false, eval l X.env)])
    (h2 : starEach [.Call (.Name "range" q) [l] [] pos2] X.env = [(false, eval (.Call (.Name "range" q) [l] [] pos2) X.env)]) : PE X (.Call (.Name "tuple" p) [.Call (.Name "range" q) [l] [] pos2] [] pos) (rdE Γ X.K xc W (.tupR ce)) :=
  peI (pe_tupRgN (F.calm hh) hg (F.bl _ (by decide +kernel)) (prg_1 hg2 (F.bl _ (by decide +kernel)) he h1) h2) fun σ H Q ⟨κ, M, ρ, st, env, g⟩ => by
    simp only [den] at g
    refine ⟨κ, M, ρ, st, env.sub fun i h => by simpa [occ] using h, Goal.bind g fun p st₁ κ₁ H₁ v e1 a1 r1 g1 => ?_⟩
    have g2 := Goal.shift env.cells a1 g1
    cases p with
    | d x =>
      cases x with
      | int j =>
        obtain ⟨r, e, dn⟩ := Goal.doneO a1.cells g2
        have e2 := Dq.int_inv r1
        subst e2
        simp only [tupRD, Option.ite_none_right_eq_some, Option.some.injEq] at e
        obtain ⟨⟨b1, b2, b3⟩, rfl⟩ := e
        have hz : sizeLine = 2 ^ 24 := rfl
        refine ⟨j, rfl, ⟨by omega, by omega, b1, b2, by rw [Int.sub_zero]; omega⟩, dn.tup (occ_of a1.cells) ?_⟩
        unfold rgV
        rw [Int.sub_zero]
        exact dq_range 0 _
      | _ => exact g2.elim
    | _ => exact g2.elim
theorem r_lstR {p q pos pos2 : Pos} {l : Expr} (F : Facts X Γ nm xc k) (hh : nm.hot = false) (hg : Gl X "list") (hg2 : Gl X "range") (he : PE X l (rdE Γ X.K xc W ce)) (h1 : starEach [l] X.env = [(false, eval l X.env)])
    (h2 : starEach [.Call (.Name "range" q) [l] [] pos2] X.env = [(false, eval (.Call (.Name "range" q) [l] [] pos2) X.env)]) : PE X (.Call (.Name "list" p) [.Call (.Name "range" q) [l] [] pos2] [] pos) (rdE Γ X.K xc W (.lstR ce)) :=
  peI (pe_listRg (F.calm hh) hg (F.bl _ (by decide +kernel)) (prg_1 hg2 (F.bl _ (by decide +kernel)) he h1) h2) fun σ H Q ⟨κ, M, ρ, st, env, g⟩ => by
    simp only [den] at g
    refine ⟨κ, M, ρ, st, env.sub fun i h => by simpa [occ] using h, Goal.bind g fun p st₁ κ₁ H₁ v e1 a1 r1 g1 => ?_⟩
    have g2 := Goal.shift env.cells a1 g1
    cases p with
    | d x =>
      cases x with
      | int j =>
        obtain ⟨r, e, dn⟩ := Goal.doneO a1.cells g2
        have e2 := Dq.int_inv r1
        subst e2
        simp only [lstRD, Option.ite_none_right_eq_some, Option.some.injEq] at e
        obtain ⟨⟨b1, b2, b3⟩, rfl⟩ := e
        have hz : sizeLine = 2 ^ 24 := rfl
        refine ⟨j, rfl, ⟨by omega, by omega, b1, b2, by rw [Int.sub_zero]; omega⟩, fun q n => dn.lst (occ_of a1.cells) n ?_⟩
        unfold rgV
        rw [Int.sub_zero]
        exact dq_range 0 _
      | _ => exact g2.elim
    | _ => exact g2.elim
theorem r_lstR2 {p q pos pos2 : Pos} {l l2 : Expr} {cf : E} (F : Facts X Γ nm xc k) (hh : nm.hot = false) (hg : Gl X "list") (hg2 : Gl X "range") (he : PE X l (rdE Γ X.K xc W ce)) (hf : PE X l2 (rdE Γ X.K xc W cf)) (h1 : starEach [l, l2] X.env = (false, eval l X.env) :: starEach [l2] X.env) (h3 : starEach [l2] X.env = (false, eval l2 X.env) :: starEach [] X.env)
    (h2 : starEach [.Call (.Name "range" q) [l, l2] [] pos2] X.env = [(false, eval (.Call (.Name "range" q) [l, l2] [] pos2) X.env)]) : PE X (.Call (.Name "list" p) [.Call (.Name "range" q) [l, l2] [] pos2] [] pos) (rdE Γ X.K xc W (.lstR2 ce cf)) :=
  peI (pe_listRg (F.calm hh) hg (F.bl _ (by decide +kernel)) (prg_2 hg2 (F.bl _ (by decide +kernel)) he hf h1 h3 (by rw [h3]; rfl)) h2) fun σ H Q ⟨κ, M, ρ, st, env, g⟩ => by
    simp only [den] at g
    refine ⟨κ, M, ρ, st, env.sub fun i h => by simp [occ, h], Goal.bind g fun x st₁ κ₁ H₁ v e1 a1 r1 g1 => ?_⟩
    have env1 := env.aft a1
    refine ⟨κ₁, M, ρ, st₁, env1.sub fun i h => by simp [occ, h], Goal.bind (Goal.shift env.cells a1 g1) fun y st₂ κ₂ H₂ w e2 a2 r2 g2 => ?_⟩
    have g3 := Goal.shift a1.cells a2 g2
    obtain ⟨r, e, dn⟩ := Goal.doneO a2.cells g3
    unfold lstR2D at e
    split at e
    · rename_i i j
      simp only [Option.ite_none_right_eq_some, Option.some.injEq] at e
      obtain ⟨⟨b1, b2, b3, b4, b5⟩, rfl⟩ := e
      have e3 := Dq.int_inv r1
      have e4 := Dq.int_inv r2
      subst e3 e4
      refine ⟨i, j, rfl, rfl, ⟨b1, b2, b3, b4, b5⟩, fun q n => dn.lst (occ_of a2.cells) n ?_⟩
      unfold rgV
      exact dq_range i _
    · cases e
theorem cr_range1 : CallR X (.type "range") (fun vs H Q => ∃ j, vs = [V.int j] ∧ ∀ p, H p = none → Q (.ref p) (L2.upd H p (.rng 0 j))) := by
  intro pins s σ H vs us Q I r h
  obtain ⟨j, rfl, q⟩ := h
  obtain ⟨u, rfl, ru⟩ := vals1 r
  obtain ⟨t, rfl⟩ := ru
  refine call_range_1 ⟨.ref s.heap.objs.size, L2.upd H s.heap.objs.size (.rng 0 j), I.laid (t' := s.toks + 2) (fun b o e => Heap.get?_push_of_some _ e) (Nat.le_refl _) ?_, rfl, q _ (I.hok.fresh (Nat.le_refl _))⟩
  exact ⟨_, _, _, Heap.get?_push_size _ rfl⟩
/-- i not in r -/
theorem op_nin_rng : OpR X (compareOp .NotIn) (fun x y H Q => ∃ i a lo hi, x = V.int i ∧ y = V.ref a ∧ H a = some (.rng lo hi) ∧ Q (.bl (!decide (lo ≤ i ∧ i < hi))) H) := by
  intro pins s σ H x y v u Q I rx ry h
  obtain ⟨i, a, lo, hi, rfl, rfl, ha, q⟩ := h
  obtain ⟨k, rfl⟩ := rx
  obtain rfl : u = Value.ref a := ry
  obtain ⟨t1, t2, t3, ho⟩ := I.hok a _ ha
  show wpAny _ _ (do return Value.bool (!(← contains (Value.ref a) (Value.int i k)))) _ _ s
  refine wpAny_bind (wpAny_contains_slot (T := "range") ⟨_, ho, rfl⟩ F.slot_range_contains (call_meets F.slot_range_contains ⟨_, ho, rfl⟩ F.entry_range_contains (F.args_range_contains_2 _ _) (q_contains a lo hi i t1 t2 t3 k)
    ⟨ho, wpAny_truthy_bool (wpAny_pure ⟨.bl _, H, I, rfl, ?_⟩)⟩))
  rw [place1]
  exact q
def inOp (neg : Bool) : CmpOp := if neg = true then .NotIn else .In
def rInR (neg : Bool) : R2 := fun x y H Q => ∃ i a lo hi, x = V.int i ∧ y = V.ref a ∧ H a = some (.rng lo hi) ∧ Q (.bl (if neg = true then !decide (lo ≤ i ∧ i < hi) else decide (lo ≤ i ∧ i < hi))) H
theorem op_inR {neg : Bool} : OpR X (compareOp (inOp neg)) (rInR neg) := by
  cases neg
  · exact op_in_rng
  · exact op_nin_rng
theorem inR_read {K : PySem.W.Frag} {neg : Bool} {σ : L2.St} {H : Hp} {Q : VK} (h : rdE Γ K xc W (.inR neg ca cb) σ H Q) :
    rdE Γ K xc W ca σ H fun x H1 => tCB (fun vs H Q => ∃ j, vs = [V.int j] ∧ ∀ p, H p = none → Q (.ref p) (L2.upd H p (.rng 0 j))) (tCons (rdE Γ K xc W cb) tNil) σ H1 fun y H2 => rInR neg x y H2 Q := by
  obtain ⟨κ, M, ρ, st, env, g⟩ := h
  simp only [den] at g
  refine two_parts (R := fun v w H2 => ∃ j, [w] = [V.int j] ∧ ∀ p, H2 p = none → rInR neg v (.ref p) (L2.upd H2 p (.rng 0 j)) Q) env (fun i h => by simp [occ, h]) (fun i h => by simp [occ, h]) g fun p q κ₂ H₂ st₂ v w c2 a2 r1 r2 g2 => ?_
  cases p with
  | d x =>
    cases x with
    | int i =>
      cases q with
      | d y =>
        cases y with
        | int j =>
          have e1 := Dq.int_inv r1
          have e2 := Dq.int_inv r2
          subst e1 e2
          exact ⟨j, rfl, fun p np => ⟨i, p, 0, j, rfl, rfl, upd_same, g2 κ₂ _ (.bl _) (Aft.of_same c2 (Same.upd np)) (.bl _) (fun z => by simp [fresh] at z)⟩⟩
        | _ => exact g2.elim
      | _ => exact g2.elim
    | _ => cases q <;> first | exact g2.elim | (rename_i y; cases y <;> exact g2.elim)
  | _ => cases q <;> first | exact g2.elim | (rename_i y; cases y <;> exact g2.elim)
theorem r_inR {neg : Bool} {q pos pos2 : Pos} (F : Facts X Γ nm xc k) (hg : Gl X "range") (ha : PE X a (rdE Γ X.K xc W ca)) (hb : PE X b (rdE Γ X.K xc W cb)) (h1 : starEach [b] X.env = [(false, eval b X.env)]) (hm : behindInMarks (inOp neg) (.Call (.Name "range" q) [b] [] pos2) = false) :
    PE X (.Compare a [inOp neg] [.Call (.Name "range" q) [b] [] pos2] pos) (rdE Γ X.K xc W (.inR neg ca cb)) :=
  peI (pe_cmpR op_inR ha (pe_callTy cr_range1 hg (F.bl _ (by decide +kernel)) (by decide +kernel) (pa_cons hb pa_nil h1) (by decide +kernel) (by decide +kernel) h1 rfl) hm) fun σ H Q h => inR_read h
theorem t_inR {neg : Bool} {q pos pos2 : Pos} (F : Facts X Γ nm xc k) (hg : Gl X "range") (ha : PE X a (rdE Γ X.K xc W ca)) (hb : PE X b (rdE Γ X.K xc W cb)) (h1 : starEach [b] X.env = [(false, eval b X.env)]) (hm : behindInMarks (inOp neg) (.Call (.Name "range" q) [b] [] pos2) = false) :
    PT X (.Compare a [inOp neg] [.Call (.Name "range" q) [b] [] pos2] pos) (rdT Γ X.K xc W (.inR neg ca cb)) :=
  ptI (pt_cmpR op_inR ha (pe_callTy cr_range1 hg (F.bl _ (by decide +kernel)) (by decide +kernel) (pa_cons hb pa_nil h1) (by decide +kernel) (by decide +kernel) h1 rfl) hm) fun σ H Q h => inR_read (Q := fun v H' => ∃ k, v = .bl k ∧ Q k H') h
theorem isEmpty_dq {K : PySem.W.Frag} {H : Hp} {vs : List V} {xs : List D} (h : DqAll K H vs xs) : vs.isEmpty = xs.isEmpty := by
  cases h <;> rfl
theorem r_emp (he : PE X e (rdE Γ X.K xc W ce)) : PE X (.UnaryOp .Not e pos) (rdE Γ X.K xc W (.emp ce)) :=
  peI (L2.pe_notT he) fun σ H Q ⟨κ, M, ρ, st, env, g⟩ => by
    simp only [den] at g
    refine ⟨κ, M, ρ, st, env.sub fun i h => by simpa [occ] using h, Goal.bind g fun p st₁ κ₁ H₁ v e1 a1 r1 g1 => ?_⟩
    have g2 := Goal.shift env.cells a1 g1
    cases p with
    | d x =>
      cases x with
      | list xs =>
        obtain ⟨a, us, rfl, h1, h2⟩ := Dq.list_inv r1
        refine ⟨!us.isEmpty, .inl ⟨us, rd_of h1, rfl⟩, ?_⟩
        rw [Bool.not_not, isEmpty_dq h2]
        exact r_done a1.cells (.bl xs.isEmpty) (fun _ _ e => by cases e) g2
      | _ => exact g2.elim
    | _ => exact g2.elim
/-- a or b, a being a tuple -/
def tOrT (K : PySem.W.Frag) (ta tb : TE) : TE := fun σ H Q => ta σ H fun x H1 => ∃ k, TruV K x H1 k ∧ if k = true then Q x H1 else tb σ H1 Q
theorem pe_orT {ta tb : TE} {a b : Expr} {pos : Pos} (ha : PE X a ta) (hb : PE X b tb) : PE X (.BoolOp .Or [a, b] pos) (tOrT X.K ta tb) := by
  have hb1 := pe_one (op := .Or) (pos := pos) hb
  refine ⟨fun pins s σ H Q I h => ?_⟩
  refine BoolOp_or (thn (ha.run pins s σ H _ I h) fun v s1 ⟨x, H1, I1, r1, k, tr, q1⟩ => ?_)
  refine thn (tru_ok pins s1 σ H1 x v (fun c H2 => H2 = H1 ∧ c = k) I1 r1 ⟨k, tr, rfl, rfl⟩) fun c s2 ⟨H2, I2, e1, e2⟩ => ?_
  subst e1 e2
  cases c with
  | false => exact hb1.run pins s2 σ H2 Q I2 q1
  | true => exact ⟨x, H2, I2, r1, q1⟩
theorem r_orT {b : Expr} (ha : PE X a (rdE Γ X.K xc W ca)) (hb : PE X b (rdE Γ X.K xc W cb)) : PE X (.BoolOp .Or [a, b] pos) (rdE Γ X.K xc W (.orT ca cb)) :=
  peI (pe_orT ha hb) fun σ H Q ⟨κ, M, ρ, st, env, g⟩ => by
    simp only [den] at g
    refine ⟨κ, M, ρ, st, env.sub fun i h => by simp [occ, h], Goal.bind g fun p st₁ κ₁ H₁ v e1 a1 r1 g1 => ?_⟩
    have g2 := Goal.shift env.cells a1 g1
    cases p with
    | d x =>
      cases x with
      | tuple xs =>
        obtain ⟨a, us, rfl, h1, h2⟩ := Dq.tup_inv r1
        refine ⟨!us.isEmpty, .inr (.inl ⟨us, sq_of h1, rfl⟩), ?_⟩
        rw [isEmpty_dq h2]
        cases z : xs.isEmpty with
        | true =>
          simp only [z, if_true] at g2
          exact ⟨κ₁, M, ρ, st₁, (env.aft a1).sub fun i h => by simp [occ, h], Goal.weak g2⟩
        | false =>
          simp only [z] at g2
          exact r_done a1.cells r1 (fun _ _ e => by cases e) g2
      | _ => exact g2.elim
    | _ => exact g2.elim
theorem r_rev {k : Nat} {p1 p2 p3 pos : Pos} (he : PE X e (rdE Γ X.K xc W ce)) : PE X (.Subscript e (.Slice none none (some (.UnaryOp .USub (.Constant (.int 1) k p1) p2)) p3) pos) (rdE Γ X.K xc W (.rev ce)) :=
  peI (pe_rev he) fun σ H Q ⟨κ, M, ρ, st, env, g⟩ => by
    simp only [den] at g
    refine ⟨κ, M, ρ, st, env.sub fun i h => by simpa [occ] using h, Goal.bind g fun p st₁ κ₁ H₁ v e1 a1 r1 g1 => ?_⟩
    have g2 := Goal.shift env.cells a1 g1
    cases p with
    | d x =>
      obtain ⟨r, e, dn⟩ := Goal.doneO a1.cells g2
      cases x <;> simp only [revD, reduceCtorEq, Option.some.injEq] at e
      case list xs =>
        subst e
        obtain ⟨a, us, rfl, h1, h2⟩ := Dq.list_inv r1
        exact .inl ⟨a, us, rfl, rd_of h1, fun p n => dn.lst (occ_of a1.cells) n h2.reverse⟩
      case tuple xs =>
        subst e
        obtain ⟨a, us, rfl, h1, h2⟩ := Dq.tup_inv r1
        exact .inr ⟨a, us, rfl, sq_of h1, dn.tup (occ_of a1.cells) h2.reverse⟩
    | _ => exact g2.elim
end
end Sw

set_option Elab.async false
set_option linter.all false
set_option maxRecDepth 100000
set_option maxHeartbeats 1000000
/-! l.count(x), l.index(x) over data. -/
namespace Sw
open PySem PySem.Spec PyProof.Rows L2 PySem.W PySem.SeqAt PySem.Calls
section
variable {X : Cx}
def rMt (K : PySem.W.Frag) (m : Me) : V → List V → Hp → VK → Prop := fun x xs H Q => ∃ P a b r, Occ P H ∧ Dq K (msk P H) x (.list a) ∧ DqAll K (msk P H) xs [b] ∧ mthD m a b = some r ∧ Done K P H r Q
theorem mt_cnt (u : X.A.units + 64 < cLine) : MtR X "list.count" (rMt X.K .cnt) := by
  intro pins s σ H x xs v us Q I rx rxs ⟨P, ds, b, r, hP, ha, hb, e, g⟩
  simp only [mthD, Option.ite_none_right_eq_some, Option.some.injEq, Bool.and_eq_true] at e
  obtain ⟨⟨hf, hfa⟩, rfl⟩ := e
  obtain ⟨w, rfl, h1⟩ := one_of hb
  obtain ⟨A, ws, rfl, h2, h3⟩ := Dq.list_inv ha
  obtain ⟨its, n, sl, rv, hz, hob⟩ := inv_sq I (rd_of h2)
  cases rx
  cases rxs with
  | cons ry rt =>
    cases rt
    unfold flat at hf
    unfold flatAll at hfa
    simp only [Bool.and_eq_true, decide_eq_true_eq] at hf hfa
    obtain ⟨bs, r1⟩ := reads_of I (h1.mono msk_le) hf.1 ry
    obtain ⟨as, r2⟩ := readsAll_of I (h3.mono msk_le) hfa.1 rv
    exact count_list_data (vs := its.toArray) ⟨_, hob, rfl, n, rfl⟩ (by simpa using r2) r1 hfa.1 hf.1 (by omega) ⟨.int _, H, I.tok _, ⟨_, rfl⟩, g.int⟩
theorem mt_ind (u : X.A.units + 64 < cLine) : MtR X "list.index" (rMt X.K .ind) := by
  intro pins s σ H x xs v us Q I rx rxs ⟨P, ds, b, r, hP, ha, hb, e, g⟩
  simp only [mthD, Option.ite_none_right_eq_some, Bool.and_eq_true, Option.map_eq_some_iff] at e
  obtain ⟨⟨hf, hfa⟩, j, hj, rfl⟩ := e
  obtain ⟨w, rfl, h1⟩ := one_of hb
  obtain ⟨A, ws, rfl, h2, h3⟩ := Dq.list_inv ha
  obtain ⟨its, n, sl, rv, hz, hob⟩ := inv_sq I (rd_of h2)
  cases rx
  cases rxs with
  | cons ry rt =>
    cases rt
    unfold flat at hf
    unfold flatAll at hfa
    simp only [Bool.and_eq_true, decide_eq_true_eq] at hf hfa
    obtain ⟨bs, r1⟩ := reads_of I (h1.mono msk_le) hf.1 ry
    obtain ⟨as, r2⟩ := readsAll_of I (h3.mono msk_le) hfa.1 rv
    have r2' : ReadsAll s.heap its.toArray.toList ds as := by simpa using r2
    obtain ⟨hjl, hit, hno⟩ := hit_at (vs := its.toArray) r2' hfa.1 (d := b) (j := j) hj
    have hl := rv.length
    have hsz := sizeLine_eq
    have hjs : j < its.length := by simpa using hjl
    exact call_meets PySem.F.slot_list_index ⟨_, hob, rfl⟩ PySem.F.entry_list_index (PySem.F.args_list_index_2 _ _)
      (list_indexAt A its.toArray n none sl _ (fun u => PyData.eqv (readOf s.heap u) b) j hjl (by omega) hit hno) ⟨hob, items_plain r2' r1 hfa.1 hf.1 (by omega), ⟨.int (j : Nat), H, I.tok _, ⟨_, rfl⟩, g.int⟩⟩
/-- l.remove(x) over data -/
theorem remove_loopAt (l : Addr) (items : Array Value) (n : Nat) (x : Value) (e : Value → Bool) (j : Nat) (hj : j < items.size) (hit : e items[j] = true) (k : Nat) (hs1 : items.size ≤ sizeLine) :
    ∀ i : Nat, j - i = k → i ≤ j → (∀ m (hm : m < items.size), i ≤ m → m < j → e items[m] = false) → Meets (Builtin.«list.remove.loop» ⟨[.ref l, x, rawInt i], []⟩)
      (fun A R s => s.heap.get? l = some { cls := .type "list", dict := none, data := .seq items n, slots := #[] } ∧ (∀ y, y ∈ items → EqAt A.in1 s y x (e y)) ∧ R (.ok (.ret .none)) { s with heap := s.heap.update l (Obj.mapSeq fun xs => xs.eraseIdxIfInBounds j) }) := by
  induction k with
  | zero =>
    intro i hk hij hno prog w A R s h
    obtain ⟨hp, g, d, tk, os⟩ := s; obtain ⟨hl, he, h⟩ := h
    have hij' : i = j := by omega
    subst hij'
    wp_walk using wpAny_loadPart' hl
    have hi : items[((i : Nat) : Int).toNat]? = some items[i] := by simp [hj]
    rw [hi]
    refine wpAny_bind (he _ (Array.getElem_mem hj) prog w _ _ ?_)
    rw [hit]
    have hz' : (items.eraseIdxIfInBounds i).size ≤ sizeLine + 1 := Nat.le_trans (MeetsSeq.size_erased items _) (Nat.le_succ_of_le hs1)
    wp_walk using (wpAny_updateSeq hl rfl (hz := hs1) (_hz' := hz')), wpAny_loadPart' hl
    simpa using h
  | succ k ih =>
    intro i hk hij hno prog w A R s h
    obtain ⟨hp, g, d, tk, os⟩ := s; obtain ⟨hl, he, h⟩ := h
    have hlt : i < items.size := by omega
    wp_walk using wpAny_loadPart' hl
    have hi : items[((i : Nat) : Int).toNat]? = some items[i] := by simp [hlt]
    have hc : ((i : Int) + 1) = ((i + 1 : Nat) : Int) := by push_cast; rfl
    rw [hi]
    refine wpAny_bind (he _ (Array.getElem_mem hlt) prog w _ _ ?_)
    rw [hno i hlt (Nat.le_refl _) (by omega)]
    wp_walk
    rw [hc]
    exact ⟨plainId_quiet MeetsSeq.plain_remove_loop _, codeAny_builtin MeetsSeq.entry_remove_loop (by
      rw [Around.under_plainId MeetsSeq.plain_remove_loop _]
      exact ih (i + 1) (by omega) (by omega) (fun m hm h1 h2 => hno m hm (by omega) h2) prog w A R _ ⟨hl, he, h⟩)⟩
theorem list_removeAt (l : Addr) (items : Array Value) (n : Nat) (x : Value) (e : Value → Bool) (j : Nat) (hj : j < items.size) (hit : e items[j] = true) (hno : ∀ m (hm : m < items.size), m < j → e items[m] = false) (hs1 : items.size ≤ sizeLine) :
    Meets (Builtin.«list.remove» ⟨[.ref l, x], []⟩)
      (fun A R s => s.heap.get? l = some { cls := .type "list", dict := none, data := .seq items n, slots := #[] } ∧ (∀ y, y ∈ items → EqAt A.in1 s y x (e y)) ∧ R (.ok (.ret .none)) { s with heap := s.heap.update l (Obj.mapSeq fun xs => xs.eraseIdxIfInBounds j) }) := by
  intro prog w A R s h
  obtain ⟨hp, g, d, tk, os⟩ := s; obtain ⟨hl, he, h⟩ := h
  wp_walk using wpAny_loadPart' hl
  exact ⟨plainId_quiet MeetsSeq.plain_remove_loop _, codeAny_builtin MeetsSeq.entry_remove_loop (by
    rw [Around.under_plainId MeetsSeq.plain_remove_loop _]
    exact remove_loopAt l items n x e j hj hit _ hs1 0 rfl (Nat.zero_le _) (fun m hm _ h2 => hno m hm h2) prog w A R _ ⟨hl, he, h⟩)⟩
def rRem (K : PySem.W.Frag) : V → List V → Hp → VK → Prop := fun x xs H Q => ∃ (Z : Hp) (A : Addr) (ws : List V) (w : V) (ds : List D) (b : D) (j : Nat), x = .ref A ∧ xs = [w] ∧ H A = some (.lst ws) ∧ Same Z H ∧ DqAll K Z ws ds ∧ Dq K Z w b ∧ flat b = true ∧ flatAll ds = true ∧ (ds.findIdx? fun z => PyData.eqv z b) = some j ∧ Q .non (L2.upd H A (.lst (ws.eraseIdx j)))
theorem mt_rem (u : X.A.units + 64 < cLine) : MtR X "list.remove" (rRem X.K) := by
  intro pins s σ H x xs v us Q I rx rxs ⟨Z, A, ws, w, ds, b, j, ex, exs, hH, sm, h3, h1, hf, hfa, hj, q⟩
  subst ex exs
  cases rx
  cases rxs with
  | cons ry rt =>
    cases rt
    obtain ⟨z, its, n, r, hl, e⟩ := I.lstM hH
    unfold flat at hf
    unfold flatAll at hfa
    simp only [Bool.and_eq_true, decide_eq_true_eq] at hf hfa
    obtain ⟨bs, r1⟩ := reads_of I (h1.mono sm) hf.1 ry
    obtain ⟨as, r2⟩ := readsAll_of I (h3.mono sm) hfa.1 r
    have r2' : ReadsAll s.heap its.toArray.toList ds as := by simpa using r2
    obtain ⟨hjl, hit, hno⟩ := hit_at (vs := its.toArray) r2' hfa.1 (d := b) (j := j) hj
    have hsz : its.toArray.size ≤ sizeLine := by rw [List.size_toArray]; omega
    refine call_meets PySem.F.slot_list_remove ⟨_, e, rfl⟩ PySem.F.entry_list_remove (PySem.F.args_list_remove_2 _ _)
      (list_removeAt A its.toArray n _ (fun u => PyData.eqv (readOf s.heap u) b) j hjl hit hno hsz) ⟨e, items_plain r2' r1 hfa.1 hf.1 (by omega), ?_⟩
    refine ⟨.non, _, I.lset (its' := its.eraseIdx j) (t' := s.toks) hH e ?_ (r.eraseIdx j) ?_, rfl, q⟩
    · show its.toArray.eraseIdxIfInBounds j = (its.eraseIdx j).toArray
      rw [List.eraseIdxIfInBounds_toArray]
    · have := List.length_eraseIdx_le ws j
      omega
/-- the same of a tuple -/
def rMtT (K : PySem.W.Frag) (m : Me) : V → List V → Hp → VK → Prop := fun x xs H Q => ∃ P a b r, Occ P H ∧ Dq K (msk P H) x (.tuple a) ∧ DqAll K (msk P H) xs [b] ∧ mthD m a b = some r ∧ Done K P H r Q
theorem mt_cntT (u : X.A.units + 64 < cLine) : MtR X "tuple.count" (rMtT X.K .cnt) := by
  intro pn s sl H x xs v us Q I rx rxs ⟨P, ds, b, r, hP, ha, hb, e, g⟩
  simp only [mthD, Option.ite_none_right_eq_some, Option.some.injEq, Bool.and_eq_true] at e
  obtain ⟨⟨hf, hfa⟩, rfl⟩ := e
  obtain ⟨w, rfl, h1⟩ := one_of hb
  obtain ⟨A, ws, rfl, h2, h3⟩ := Dq.tup_inv ha
  obtain ⟨its, rv, pl, hz⟩ := I.tuple (sq_of h2)
  cases rx
  cases rxs with
  | cons ry rt =>
    cases rt
    unfold flat at hf
    unfold flatAll at hfa
    simp only [Bool.and_eq_true, decide_eq_true_eq] at hf hfa
    obtain ⟨bs, r1⟩ := reads_of I (h1.mono msk_le) hf.1 ry
    obtain ⟨as, r2⟩ := readsAll_of I (h3.mono msk_le) hfa.1 rv
    exact count_tuple_data (vs := its.toArray) pl (by simpa using r2) r1 hfa.1 hf.1 (by omega) ⟨.int _, H, I.tok _, ⟨_, rfl⟩, g.int⟩
theorem mt_indT (u : X.A.units + 64 < cLine) : MtR X "tuple.index" (rMtT X.K .ind) := by
  intro pn s sl H x xs v us Q I rx rxs ⟨P, ds, b, r, hP, ha, hb, e, g⟩
  simp only [mthD, Option.ite_none_right_eq_some, Bool.and_eq_true, Option.map_eq_some_iff] at e
  obtain ⟨⟨hf, hfa⟩, j, hj, rfl⟩ := e
  obtain ⟨w, rfl, h1⟩ := one_of hb
  obtain ⟨A, ws, rfl, h2, h3⟩ := Dq.tup_inv ha
  obtain ⟨its, rv, pl, hz⟩ := I.tuple (sq_of h2)
  obtain ⟨⟨cls, dd, dt, sl0⟩, ho, hc, n, hd⟩ := pl
  simp only at hc hd
  subst hc
  subst hd
  cases rx
  cases rxs with
  | cons ry rt =>
    cases rt
    unfold flat at hf
    unfold flatAll at hfa
    simp only [Bool.and_eq_true, decide_eq_true_eq] at hf hfa
    obtain ⟨bs, r1⟩ := reads_of I (h1.mono msk_le) hf.1 ry
    obtain ⟨as, r2⟩ := readsAll_of I (h3.mono msk_le) hfa.1 rv
    have r3 : ReadsAll s.heap its.toArray.toList ds as := by simpa using r2
    obtain ⟨hjl, hit, hno⟩ := hit_at (vs := its.toArray) r3 hfa.1 (d := b) (j := j) hj
    exact call_meets PySem.F.slot_tuple_index ⟨_, ho, rfl⟩ PySem.F.entry_tuple_index (PySem.F.args_tuple_index_2 _ _)
      (TI.tuple_indexAt A its.toArray n dd sl0 _ (fun u => PyData.eqv (readOf s.heap u) b) j hjl hit hno) ⟨ho, items_plain r3 r1 hfa.1 hf.1 (by omega), ⟨.int (j : Nat), H, I.tok _, ⟨_, rfl⟩, g.int⟩⟩
end
def meN : Me → Str
  | .cnt => "count" | .ind => "index"
section
variable {X : Cx} {Γ : Ctx} {nm : Nm} {xc : Nat → Addr} {k : Nat} {W : WX} {ca cb : E} {o a : Expr}
def tMt (K : PySem.W.Frag) (m : Me) (to : TE) (t : TA) : TE := fun σ H Q => to σ H fun x H1 => ((∃ a us, x = .ref a ∧ SqL K H1 a us) ∧ t σ H1 fun xs H2 => rMt K m x xs H2 Q) ∨ ((∃ a us, x = .ref a ∧ SqN H1 a us) ∧ t σ H1 fun xs H2 => rMtT K m x xs H2 Q)
theorem pe_mt {m : Me} {ap cp : Pos} {to : TE} {t : TA} (u : X.A.units + 64 < cLine) (ho : PE X o to) (ha : PA X [a] t) (hbase : attributeBase o (meN m) X.env (eval o X.env) = eval o X.env) (hs : starEach [a] X.env = [(false, eval a X.env)]) (hline : (ap.endLine == cp.line) = true)
    (hfew : ((backTo cp (starEach [a] X.env)).all (fun x => !x.1) && (backToKw cp (keywordEach [] X.env)).all (fun x => x.1.isSome)
      && decide ([a].length + ([] : List Keyword).length + (if ([] : List Keyword).isEmpty then 0 else 1) < 30)) = true) :
    PE X (.Call (.Attribute o (meN m) ap) [a] [] cp) (tMt X.K m to t) := ⟨fun pn s sl H Q I w => by
  refine wpAny_Call_method_late hbase hfew hline rfl (thn (ho.run pn s sl H _ I w) fun v s1 z => ?_)
  obtain ⟨x, H1, I1, r1, q1⟩ := z
  have fin : ∀ {id : String} {r : V → List V → Hp → VK → Prop}, MtR X id r → (t sl H1 fun xs H2 => r x xs H2 Q) → wpAny (model X.prog X.w) X.A (callWith cp (.builtin id) [v] (backTo cp (starEach [a] X.env)) []) (EP X pn sl Q) X.xe s1 := fun hm q => by
    have hA := ha.run cp pn s1 sl H1 _ I1 q
    rw [hs] at hA ⊢
    refine Calls.callWith_builtin rfl (Calls.evalArgs_plain ?_)
    exact thn hA fun us s2 z => by
      obtain ⟨vs, H2, I2, r2, q2⟩ := z
      exact hm pn s2 sl H2 x vs v us Q I2 r1 r2 q2
  rcases q1 with ⟨⟨A, us, rfl, hq⟩, q⟩ | ⟨⟨A, us, rfl, hq⟩, q⟩
  · obtain ⟨h1, h2⟩ := tyV_is (T := "list") I1 r1 (.inl ⟨rfl, _, hq⟩)
    cases m with
    | cnt => exact ⟨"list", _, PySem.F.plainAttrs_list, PySem.F.slot_list_count, PySem.F.type_list_count, h1, h2, fin (mt_cnt u) q⟩
    | ind => exact ⟨"list", _, PySem.F.plainAttrs_list, PySem.F.slot_list_index, PySem.F.type_list_index, h1, h2, fin (mt_ind u) q⟩
  · obtain ⟨ob, e, d⟩ := hq
    obtain ⟨e1, _, its, _, ob2, e2, hc, _⟩ := I1.hok A _ e
    rw [e1] at e2
    cases e2
    cases r1
    have h1 : s1.TypeIs (.ref A) "tuple" := ⟨ob, e1, hc⟩
    have h2 : ∀ b, Value.ref A = .ref b → ∃ o2, s1.heap.get? b = some o2 ∧ o2.dict = none := fun b z => by
      cases z
      exact ⟨ob, e1, d⟩
    cases m with
    | cnt => exact ⟨"tuple", _, PySem.F.plainAttrs_tuple, PySem.F.slot_tuple_count, PySem.F.type_tuple_count, h1, h2, fin (mt_cntT u) q⟩
    | ind => exact ⟨"tuple", _, PySem.F.plainAttrs_tuple, PySem.F.slot_tuple_index, PySem.F.type_tuple_index, h1, h2, fin (mt_indT u) q⟩⟩
theorem r_mth {m : Me} {ap cp : Pos} (F : Facts X Γ nm xc k) (ho : PE X o (rdE Γ X.K xc W ca)) (ha : PE X a (rdE Γ X.K xc W cb)) (hbase : attributeBase o (meN m) X.env (eval o X.env) = eval o X.env) (hs : starEach [a] X.env = [(false, eval a X.env)]) (hline : (ap.endLine == cp.line) = true)
    (hfew : ((backTo cp (starEach [a] X.env)).all (fun x => !x.1) && (backToKw cp (keywordEach [] X.env)).all (fun x => x.1.isSome)
      && decide ([a].length + ([] : List Keyword).length + (if ([] : List Keyword).isEmpty then 0 else 1) < 30)) = true) :
    PE X (.Call (.Attribute o (meN m) ap) [a] [] cp) (rdE Γ X.K xc W (.mth m ca cb)) := by
  refine peI (pe_mt F.un ho (pa_cons ha pa_nil hs) hbase hs hline hfew) fun σ H Q ⟨κ, M, ρ, st, env, g⟩ => ?_
  simp only [den] at g
  refine ⟨κ, M, ρ, st, env.sub fun i h => by simp [occ, h], Goal.bind g fun p st₁ κ₁ H₁ v e1 a1 r1 g1 => ?_⟩
  have env1 := env.aft a1
  have g1' := Goal.shift env.cells a1 g1
  cases p with
  | d x =>
    cases x with
    | list xs =>
      obtain ⟨A, ws, rfl, h2, h3⟩ := Dq.list_inv r1
      refine .inl ⟨⟨A, ws, rfl, rd_of h2⟩, ?_⟩
      refine ⟨κ₁, M, ρ, st₁, env1.sub fun i h => by simp [occ, h], Goal.bind g1' fun q st₂ κ₂ H₂ w e2 a2 r2 g2 => ?_⟩
      have g2' := Goal.shift env1.cells a2 g2
      cases q with
      | d y =>
        obtain ⟨r, e, dn⟩ := Goal.doneO a2.cells g2'
        exact ⟨_, xs, y, r, occ_of a2.cells, a2.rp r1, .cons r2 .nil, e, dn⟩
      | _ => exact g2'.elim
    | tuple xs =>
      obtain ⟨A, ws, rfl, h2, h3⟩ := Dq.tupN_inv r1
      refine .inr ⟨⟨A, ws, rfl, h2.mono msk_le⟩, ?_⟩
      refine ⟨κ₁, M, ρ, st₁, env1.sub fun i h => by simp [occ, h], Goal.bind g1' fun q st₂ κ₂ H₂ w e2 a2 r2 g2 => ?_⟩
      have g2' := Goal.shift env1.cells a2 g2
      cases q with
      | d y =>
        obtain ⟨r, e, dn⟩ := Goal.doneO a2.cells g2'
        exact ⟨_, xs, y, r, occ_of a2.cells, a2.rp r1, .cons r2 .nil, e, dn⟩
      | _ => exact g2'.elim
    | _ => exact g1'.elim
  | _ => exact g1'.elim
theorem dq_strs {K : PySem.W.Frag} {H : Hp} : ∀ ys : List Str, DqAll K H (ys.map V.str) (ys.map PyData.str)
  | [] => .nil
  | y :: ys => .cons (.str y) (dq_strs ys)
theorem strs_inv {K : PySem.W.Frag} {H : Hp} : ∀ {xs : List D} {vs : List V} {ys : List Str}, DqAll K H vs xs → strsOf xs = some ys → vs = ys.map V.str
  | [], vs, ys, h, e => by
    cases h
    cases e
    rfl
  | x :: xs, vs, ys, h, e => by
    cases h with
    | cons h1 h2 =>
      cases x <;> simp only [strsOf, reduceCtorEq, Option.map_eq_some_iff] at e
      obtain ⟨zs, e1, rfl⟩ := e
      rw [Dq.str_inv h1, strs_inv h2 e1]
      rfl
theorem r_spl {ap cp : Pos} (ho : PE X o (rdE Γ X.K xc W ca)) (ha : PE X a (rdE Γ X.K xc W cb)) (hbase : attributeBase o "split" X.env (eval o X.env) = eval o X.env) (hs : starEach [a] X.env = [(false, eval a X.env)]) (hline : (ap.endLine == cp.line) = true) :
    PE X (.Call (.Attribute o "split" ap) [a] [] cp) (rdE Γ X.K xc W (.spl ca cb)) := by
  refine peI (pe_split ho ha hs hbase hline) fun σ H Q ⟨κ, M, ρ, st, env, g⟩ => ?_
  simp only [den] at g
  refine ⟨κ, M, ρ, st, env.sub fun i h => by simp [occ, h], Goal.bind g fun p st₁ κ₁ H₁ v e1 a1 r1 g1 => ?_⟩
  have env1 := env.aft a1
  have g1' := Goal.shift env.cells a1 g1
  split at g1'
  · rename_i x
    have ev := Dq.str_inv r1
    subst ev
    refine ⟨⟨x, rfl⟩, κ₁, M, ρ, st₁, env1.sub fun i h => by simp [occ, h], Goal.bind g1' fun q st₂ κ₂ H₂ w e2 a2 r2 g2 => ?_⟩
    have g2' := Goal.shift env1.cells a2 g2
    obtain ⟨r, e, dn⟩ := Goal.doneO a2.cells g2'
    unfold splitD at e
    split at e
    · rename_i b
      simp only [Option.ite_none_right_eq_some, Option.some.injEq] at e
      obtain ⟨⟨h1, h2⟩, rfl⟩ := e
      have ew := Dq.str_inv r2
      subst ew
      exact ⟨x, b, rfl, rfl, h1, h2, fun p n => dn.lst (occ_of a2.cells) n (dq_strs _)⟩
    · cases e
  · exact g1'.elim
theorem r_jn {ap cp : Pos} (ho : PE X o (rdE Γ X.K xc W ca)) (ha : PE X a (rdE Γ X.K xc W cb)) (hbase : attributeBase o "join" X.env (eval o X.env) = eval o X.env) (hs : starEach [a] X.env = [(false, eval a X.env)]) (hline : (ap.endLine == cp.line) = true) :
    PE X (.Call (.Attribute o "join" ap) [a] [] cp) (rdE Γ X.K xc W (.jn ca cb)) := by
  refine peI (pe_join ho ha hs hbase hline) fun σ H Q ⟨κ, M, ρ, st, env, g⟩ => ?_
  simp only [den] at g
  refine ⟨κ, M, ρ, st, env.sub fun i h => by simp [occ, h], Goal.bind g fun p st₁ κ₁ H₁ v e1 a1 r1 g1 => ?_⟩
  have env1 := env.aft a1
  have g1' := Goal.shift env.cells a1 g1
  split at g1'
  · rename_i x
    have ev := Dq.str_inv r1
    subst ev
    refine ⟨⟨x, rfl⟩, κ₁, M, ρ, st₁, env1.sub fun i h => by simp [occ, h], Goal.bind g1' fun q st₂ κ₂ H₂ w e2 a2 r2 g2 => ?_⟩
    have g2' := Goal.shift env1.cells a2 g2
    obtain ⟨r, e, dn⟩ := Goal.doneO a2.cells g2'
    unfold joinD at e
    split at e
    · rename_i xs
      obtain ⟨ys, e3, e4⟩ := Option.bind_eq_some_iff.mp e
      simp only [Option.ite_none_right_eq_some, Option.some.injEq] at e4
      obtain ⟨h1, rfl⟩ := e4
      obtain ⟨A, vs, rfl, q1, q2⟩ := Dq.list_inv r2
      have ev := strs_inv q2 e3
      subst ev
      exact ⟨x, A, ys, rfl, rfl, .inl (rd_of q1), h1, dn.str⟩
    · cases e
  · exact g1'.elim
end
end Sw

set_option Elab.async false
set_option linter.all false
set_option maxRecDepth 100000
set_option maxHeartbeats 1000000
/-! enumerate(t) of a tuple. -/
namespace PySem
set_option maxHeartbeats 1000000 in
theorem sw_enumerate_new1 {v : Value} {o : Obj} {H : Heap → Prop} (B : Begins v o H) :
    Meets (Builtin.«enumerate.__new__» ⟨[.type "enumerate", v], []⟩) (fun _ R s => H s.heap ∧
      R (.ok (.ret (.ref (s.heap.push o).objs.size))) { s with heap := (s.heap.push o).push { cls := .type "enumerate", data := .fields #[.none, .bool false, .ref s.heap.objs.size, rawInt 0, .none, .none] } }) :=
  .of_wp fun prog w A R s h => by
    obtain ⟨hp, g, d, tk, os⟩ := s; obtain ⟨h1, h⟩ := h
    have hsub := sub_enumerate
    have q1 : ∀ {A' : Around} {E : Value → Shared → Prop} {Q : Value → Shared → Prop}, Q (.ref hp.objs.size) ⟨hp.push o, g, d, tk, os⟩ → wpAny (model prog w) A' (pyIter v) Q E ⟨hp, g, d, tk, os⟩ :=
      fun q => B.iter prog w _ _ ⟨hp, g, d, tk, os⟩ _ h1 q
    wp_walk using q1
    refine wpAny_stack_any fun st => wpAny_pure ?_
    split
    · rename_i c _ _ _ _ _
      cases (c == Value.type "enumerate")
      · wp_walk using q1
        exact ⟨_, rfl, h⟩
      · wp_walk using q1
        exact ⟨_, rfl, h⟩
    · wp_walk using q1
      exact ⟨_, rfl, h⟩
theorem sw_enum_begins {prog : Program} {w : World} {A : Around} {E : Value → Shared → Prop} {s : Shared} {v : Value} {o : Obj} {H : Heap → Prop} {Q : Value → Shared → Prop} (B : Begins v o H) (h1 : H s.heap)
    (h : ∀ h', IsEnum h' (s.heap.objs.size + 1) s.heap.objs.size 0 .none → h'.get? s.heap.objs.size = some o → h'.objs.size = s.heap.objs.size + 2 →
      (∀ b o, s.heap.get? b = some o → h'.get? b = some o) → Q (.ref (s.heap.objs.size + 1)) { s with heap := h' }) :
    wpAny (model prog w) A (call (.type "enumerate") [v]) Q E s := by
  refine callType_new F.called_enumerate (by decide) (F.typeCall_enumerate_1 _) (F.newCall_enumerate_1 _) (fun obj => F.args_object_init_2 obj _) F.entry_enumerate_new
    (sw_enumerate_new1 B) ⟨h1, ?_⟩
  have hz : (s.heap.push o).objs.size = s.heap.objs.size + 1 := Heap.size_push ..
  show _ ∧ _
  rw [hz]
  have he : IsEnum ((s.heap.push o).push { cls := .type "enumerate", data := .fields #[.none, .bool false, .ref s.heap.objs.size, rawInt 0, .none, .none] }) (s.heap.objs.size + 1) s.heap.objs.size 0 .none := by
    have := Heap.get?_push_size (s.heap.push o) (o := { cls := .type "enumerate", data := .fields #[.none, .bool false, .ref s.heap.objs.size, rawInt 0, .none, .none] }) rfl
    rw [hz] at this; exact this
  refine ⟨⟨_, he, rfl⟩, h _ he (Heap.get?_push_of_some _ (Heap.get?_push_size _ B.free)) (by rw [Heap.size_push, hz]) fun b o x => Heap.get?_push_of_some _ (Heap.get?_push_of_some _ x)⟩
theorem sw_enum_end {prog : Program} {w : World} {A : Around} {E : Value → Shared → Prop} {s : Shared} {e it l : Addr} {i : Nat} {items : Array Value} {c : Int} {old : Value} {Q : Option Value → Shared → Prop} (hh : A.handled = none)
    (he : IsEnum s.heap e it c old) (hit : s.heap.IsTupleIter it l i) (hl : s.heap.IsTuple l items) (hx : items[i]? = none)
    (hQ : ∀ h', Heap.ExtBut it s.heap h' → Q none { s with heap := h' }) : wpAny (model prog w) A (pyNext (.ref e)) Q E s := by
  have hT : s.TypeIs (.ref e) "enumerate" := ⟨_, he, rfl⟩
  unfold pyNext
  refine wpAny_bind (wpAny_attempt (wpAny_callSpecial?_slot (name := Str.ofString "__next__") hT F.slot_enumerate_next
    (wpAny_call_entry F.slot_enumerate_next hT F.entry_enumerate_next ?_ (F.args_enumerate_next_1 _))))
  show wpAny _ _ (field (.ref e) 2 >>= _) _ _ _
  refine wpAny_bind (wpAny_field he rfl (x := .ref it) rfl ?_)
  refine wpAny_bind (RZ.nextOf_tuple_end hh hit hl hx fun h' x he' hx' => ?_)
  obtain ⟨o, ho, hc⟩ := hx'
  refine wpAny_bind (wpAny_isInstance (T := "StopIteration") (b := true) ⟨o, ho, hc⟩ isSubtype_stop ?_)
  exact wpAny_pure (hQ _ he')
end PySem
namespace Sw
open PySem PySem.Spec PyProof.Rows L2
/-- the tuple at a, each item in a new pair -/
def IteT (K : PySem.W.Frag) (a : Addr) : It :=
  ⟨fun i H => ∃ (xs : List V) (x : V), SqT K H a xs ∧ xs[i]? = some x, fun i H v H' => ∃ T x, v = .ref T ∧ H T = none ∧ H' = upd H T (.tup [.int (i : Nat), x]) ∧ ∀ xs, SqT K H a xs → xs[i]? = some x, fun i H => ∃ xs : List V, SqT K H a xs ∧ xs.length ≤ i⟩
theorem turn_enumT {P : Program} {w : World} {K : PySem.W.Frag} {elts : List Expr} {kk : Nat} {tpos : Pos} (a e it : Addr) :
    Turn P w K (.Tuple elts kk tpos) (IteT K a) [e, it] e (fun i h => (∃ old, IsEnum h e it ((i : Nat) : Int) old) ∧ h.IsTupleIter it a i ∧ e ≠ it ∧ e ≠ a ∧ a ≠ it) where
  mem := by simp
  obj := fun i h st b hb => by
    obtain ⟨⟨old, he⟩, ⟨o, ho, hc, hd⟩, _⟩ := st
    have e' : b = e ∨ b = it := by simpa using hb
    rcases e' with z | z
    · rw [z]; exact ⟨_, he, fun v q => nomatch q⟩
    · rw [z]; exact ⟨o, ho, fun v q => by rw [hd] at q; cases q⟩
  keep := fun i h h' st k => let ⟨⟨old, he⟩, hi, hne⟩ := st; ⟨⟨old, k e (by simp) _ he⟩, hi.at fun o q => k it (by simp) o q, hne⟩
  item := by
    intro X hP hw hK hc i pins s σ H E I hf st hg
    subst hP hw hK
    obtain ⟨⟨old, he⟩, hit, hne, hea, hai⟩ := st
    obtain ⟨xs, x, hq, hx⟩ := hg
    obtain ⟨its, rv, p, hz⟩ := I.tuple hq
    have p' : s.heap.IsTuple a its.toArray := p
    obtain ⟨u, hu, ru⟩ := rv.get hx
    have hel : e < s.heap.objs.size := Heap.lt_size he
    have hil : it < s.heap.objs.size := by obtain ⟨_, q, _⟩ := hit; exact Heap.lt_size q
    have hlt : i < its.toArray.size := by
      rw [List.size_toArray]
      exact (List.getElem?_eq_some_iff.mp hu).1
    refine wpAny_pyNext_enum_itemD (Draws.tuple (A := X.A.in1) (show X.A.in1.handled = none from I.ok.hd hc) it a hai its.toArray) he ⟨hit, p'⟩ hlt hne (by simp [hne, hea]) fun x' h' tk hPx ho hit' hT hsz hk => ?_
    have hx' : x' = u := by
      have z : its.toArray[i]? = some x' := hPx
      rw [show its.toArray[i]? = some u by simpa using hu] at z
      exact (Option.some.inj z).symm
    subst hx'
    refine ⟨_, rfl, wpAny_letOwnedTupleGo_enum (s := { s with heap := h', toks := tk + 1 }) ho fun h'' he' sb => ?_⟩
    have hT2 : h''.get? s.heap.objs.size = some { cls := .type "tuple", data := .seq #[.int i tk, x'] } := (sb.2 _ (Nat.ne_of_gt hel)).trans hT
    have new : ObjOk X.prog X.w (upd H s.heap.objs.size (.tup [.int (i : Nat), x])) h'' s.heap.objs.size (.tup [.int (i : Nat), x]) :=
      ⟨by show 2 ≤ sizeLine; decide, [.int i tk, x'], .cons ⟨_, rfl⟩ (.cons ru .nil), ⟨_, hT2, rfl, _, rfl⟩⟩
    have I1 : Inv X pins σ (upd H s.heap.objs.size (.tup [.int (i : Nat), x])) { s with heap := h'', toks := tk + 1 } :=
      I.turnedNew (ch := [e, it]) (fun b ob hb q => (sb.2 b (fun z => hb (by simp [z]))).trans (hk b ob (fun z => hb (by simp [z])) (fun z => hb (by simp [z])) q)) hf (Nat.le_refl _) new
    refine ⟨.ref s.heap.objs.size, _, I1, rfl, ⟨_, x, rfl, I.hok.fresh (Nat.le_refl _), rfl, fun ys hy => by rw [I.tuple_inj hy hq]; exact hx⟩, ⟨⟨x', ?_⟩, hit'.1.at fun o q => (sb.2 it (Ne.symm hne)).trans q, hne, hea, hai⟩, fun b hb => ?_⟩
    · have e1 : ((i + 1 : Nat) : Int) = (i : Int) + 1 := by omega
      rw [e1]; exact he'
    · have hb' : b < s.heap.objs.size := by
        have e' : b = e ∨ b = it := by simpa using hb
        rcases e' with z | z
        · rw [z]; exact hel
        · rw [z]; exact hil
      rw [upd_ne (Nat.ne_of_lt hb')]
      exact (hf b hb).1
  done := by
    intro X hP hw hK hc i pins s σ H E I hf st hg
    subst hP hw hK
    obtain ⟨⟨old, he⟩, hit, hne, hea, hai⟩ := st
    obtain ⟨xs, hq, hx⟩ := hg
    obtain ⟨its, rv, p, hz⟩ := I.tuple hq
    have p' : s.heap.IsTuple a its.toArray := p
    obtain ⟨f0, f1, f2, f3, f4, f5⟩ := hf it (by simp)
    have hl := rv.length
    refine sw_enum_end (I.ok.hd hc) he hit p' (by simp; omega) fun h' eb => ⟨rfl, I.turned (t' := s.toks) (fun b o hb q => eb b o hb q) f0 f1 f3 f4 f5⟩
  self := fun A i s Q E st h => let ⟨⟨_, he⟩, _⟩ := st; wpAny_pyIter_enum he h
def iEnumA (K : PySem.W.Frag) (ta : TA) : TI := fun σ H R => ta σ H fun vs H1 => ∃ a xs, vs = [.ref a] ∧ ((SqL K H1 a xs ∧ R (Ite K a) H1) ∨ (SqT K H1 a xs ∧ R (IteT K a) H1))
theorem pi_enumA {X : Cx} {e : Expr} {ta : TA} {p pos tpos : Pos} {elts : List Expr} {kk : Nat} (hg : Gl X "enumerate") (hm : X.mg "enumerate" = none) (ha : PA X [e] ta) (hs : starEach [e] X.env = [(false, eval e X.env)]) :
    PI X (.Tuple elts kk tpos) (.Call (.Name "enumerate" p) [e] [] pos) (iEnumA X.K ta) := by
  refine ⟨fun pins s σ H R I h => ?_⟩
  refine Call_ (ld_blt I hg hm boot_enumerate (PyProof.Rows.callWith_type1 (thn (ha.run pos pins s σ H _ I h) fun us s1 ⟨vs, H1, I1, r1, q1⟩ => ?_) hs rfl))
  obtain ⟨a, xs, ex, q1⟩ := q1
  subst ex
  have fr : ∀ b ∈ [s1.heap.objs.size + 1, s1.heap.objs.size], FpOk X pins H1 b := fun b hb => by
    have e' : b = s1.heap.objs.size + 1 ∨ b = s1.heap.objs.size := by simpa using hb
    have hle : s1.heap.objs.size ≤ b := by
      rcases e' with z | z
      · rw [z]; exact Nat.le_add_right _ _
      · rw [z]; exact Nat.le_refl _
    exact I1.fpOk hle (I1.hok.fresh hle)
  cases r1 with
  | cons r rr =>
    cases rr
    cases r
    rcases q1 with ⟨hq, q⟩ | ⟨hq, q⟩
    · obtain ⟨its, rv, p', hz⟩ := I1.list hq
      refine call_enumerate_list p'.isList fun h' he hit hsz hk => wpAny_pyIter_enum he ?_
      have I2 : Inv X pins σ H1 { s1 with heap := h' } := I1.kept (t' := s1.toks) hk
      exact ⟨s1.heap.objs.size + 1, [s1.heap.objs.size + 1, s1.heap.objs.size], _, _, H1, rfl, I2, turn_enum a (s1.heap.objs.size + 1) s1.heap.objs.size, ⟨⟨.none, he⟩, hit, Nat.succ_ne_self _⟩, fr, q⟩
    · obtain ⟨its, rv, p', hz⟩ := I1.tuple hq
      have pt : s1.heap.IsTuple a its.toArray := p'
      obtain ⟨o, ho, _⟩ := id pt
      have hlt : a < s1.heap.objs.size := Heap.lt_size ho
      refine sw_enum_begins (begins_tuple a its.toArray) pt fun h' he hit hsz hk => wpAny_pyIter_enum he ?_
      have I2 : Inv X pins σ H1 { s1 with heap := h' } := I1.kept (t' := s1.toks) hk
      exact ⟨s1.heap.objs.size + 1, [s1.heap.objs.size + 1, s1.heap.objs.size], _, _, H1, rfl, I2, turn_enumT a (s1.heap.objs.size + 1) s1.heap.objs.size, ⟨⟨.none, he⟩, ⟨_, hit, rfl, rfl⟩, Nat.succ_ne_self _, Nat.ne_of_gt (Nat.lt_succ_of_lt hlt), Nat.ne_of_lt hlt⟩, fr, q⟩
end Sw

set_option Elab.async false
set_option linter.all false
set_option maxRecDepth 100000
set_option maxHeartbeats 1000000
/-! What is walked; targets; comprehensions. -/
namespace Sw
open PySem PySem.Spec PyProof.Rows L2

/-- what is hidden behind the walk's making: as before, or more lists of ours where the items keep none -/
def SetOk (κ : List Addr) (M : Addr → Prop) (H : Hp) (b : Bool) (O : Addr → Prop) : Prop := O = M ∨ (b = true ∧ (∀ a, M a → O a) ∧ ∀ a, O a → M a ∨ (a ∉ κ ∧ ∃ o, H a = some o ∧ ∀ ob us, o ≠ .frz ob (.tup us)))
def GoalI (K : PySem.W.Frag) (xc : Nat → Addr) (W : WX) (σ : L2.St) (κ : List Addr) (M O : Addr → Prop) (H : Hp) (wk : Bool) (r : Res PV) (R : It → Hp → Prop) : Prop :=
  match r with
  | .ok p st' => ∃ x xs, p = .d x ∧ items x = some xs ∧ ∀ κ' H' J, Aft K κ M H κ' H' st' → Goes K (msk (Hid κ' O) H') wk J xs → xs.length ≤ sizeLine → R J H'
  | .exc c fs st' => ∀ κ' H' cls d, Aft K κ M H κ' H' st' → XRel K xc κ' M H' c fs cls d → W cls d σ H'
  | .stuck => False
def rdI (Γ : Ctx) (K : PySem.W.Frag) (xc : Nat → Addr) (W : WX) (wk : Bool) (c : E) : TI := fun σ H R => ∃ κ M O ρ st, EnvE K κ M (occ c) σ H ρ st ∧ (∀ p st', den Γ c ρ st = .ok p st' → SetOk κ M H (keeps (fresh Γ.fresh c) p) O) ∧ GoalI K xc W σ κ M O H wk (den Γ c ρ st) R

section
variable {X : Cx} {Γ : Ctx} {xc : Nat → Addr} {W : WX} {k : Nat} {nm : Nm} {a b c e tg : Expr} {es : List Expr} {pos p : Pos} {x : Str} {ca cb cc ce : E}
/-- lists and tuples are no longer than the line -/
def Szs (K : PySem.W.Frag) (H : Hp) : Prop := (∀ a xs, SqL K H a xs → xs.length ≤ sizeLine) ∧ ∀ a xs, SqT K H a xs → xs.length ≤ sizeLine
theorem pe_sz {t : TE} (h : PE X e t) : PE X e (fun σ H Q => t σ H fun v H' => Szs X.K H' → Q v H') := ⟨fun pins s σ H Q I q => by
  refine thn (h.run pins s σ H _ I q) fun u s1 ⟨v, H1, I1, r1, q1⟩ => ⟨v, H1, I1, r1, q1 ⟨fun a xs h => ?_, fun a xs h => ?_⟩⟩
  · obtain ⟨_, _, _, _, z, _⟩ := inv_sq I1 h
    exact z
  · obtain ⟨_, _, _, z⟩ := I1.tuple h
    exact z⟩
theorem goes_list {K : PySem.W.Frag} {wk : Bool} {S : Hp} {A : Addr} {vs : List V} {xs : List D} (h : SqL K S A vs) (hd : DqAll K S vs xs) : Goes K S wk (Itl K A) xs := fun P Hc oc sm => by
  have h1 : SqL K Hc A vs := SqL.mono msk_le (SqL.mono sm h)
  have h2 := hd.mono sm
  refine ⟨fun i x ex => ?_, vs, h1, by rw [hd.length]; exact Nat.le_refl _⟩
  obtain ⟨v, ev, dv⟩ := h2.get ex
  refine ⟨⟨vs, v, h1, ev⟩, fun w H' y => ?_⟩
  obtain ⟨rfl, y2⟩ := y
  have := y2 vs h1
  rw [ev] at this
  cases this
  exact ⟨Same.refl _, .inl dv⟩
theorem goes_tup {K : PySem.W.Frag} {wk : Bool} {S : Hp} {A : Addr} {vs : List V} {xs : List D} (h : SqT K S A vs) (hd : DqAll K S vs xs) : Goes K S wk (Itt K A) xs := fun P Hc oc sm => by
  have h1 : SqT K Hc A vs := SqT.mono msk_le (SqT.mono sm h)
  have h2 := hd.mono sm
  refine ⟨fun i x ex => ?_, vs, h1, by rw [hd.length]; exact Nat.le_refl _⟩
  obtain ⟨v, ev, dv⟩ := h2.get ex
  refine ⟨⟨vs, v, h1, ev⟩, fun w H' y => ?_⟩
  obtain ⟨rfl, y2⟩ := y
  have := y2 vs h1
  rw [ev] at this
  cases this
  exact ⟨Same.refl _, .inl dv⟩
theorem goes_range {K : PySem.W.Frag} {wk : Bool} {S : Hp} {lo : Int} {n : Nat} : Goes K S wk (Itr lo n) (rangeL lo n) := fun P Hc oc sm => by
  refine ⟨fun i x ex => ?_, by simp [rangeL, Itr]⟩
  obtain ⟨hi, e⟩ := List.getElem?_eq_some_iff.mp ex
  have hn : i < n := by simpa [rangeL] using hi
  refine ⟨hn, fun w H' y => ?_⟩
  obtain ⟨rfl, rfl⟩ := y
  refine ⟨Same.refl _, ?_⟩
  have : x = .int (lo + (i : Nat)) := by
    rw [← e]
    simp [rangeL]
  rw [this]
  exact .inl (.int _)
/-- calm data stay visible where more lists of ours are hidden -/
theorem calm_tups {κ κ' : List Addr} {M O : Addr → Prop} {H H' : Hp} {st' : Store} {K : PySem.W.Frag} (a : Aft K κ M H κ' H' st') (h : ∀ b, O b → M b ∨ (b ∉ κ ∧ ∃ o, H b = some o ∧ ∀ ob us, o ≠ .frz ob (.tup us))) (A : Addr) (o : Obj) (us : List V) (q : msk (Hid κ' M) H' A = some (.frz o (.tup us))) : msk (Hid κ' O) H' A = some (.frz o (.tup us)) := by
  obtain ⟨n, e⟩ := msk_some.mp q
  refine msk_some.mpr ⟨fun w => ?_, e⟩
  rcases w with w | w
  · exact n (.inl w)
  · rcases h A w with w | ⟨w1, ob, w2, no⟩
    · exact n (.inr w)
    · have := (a.keep A _ w2 w1).1
      rw [e] at this
      cases this
      exact no o us rfl
/-- a dict's keys, or its values -/
def ItG (a : Addr) (ep : Nat) (ms : List (Int × V × V)) (f : Int × V × V → V) : It :=
  ⟨fun i H => i < ms.length ∧ H a = some (dE a ep ms), fun i H x H' => H' = H ∧ ∃ m, ms[i]? = some m ∧ x = f m, fun i H => ms.length ≤ i ∧ H a = some (dE a ep ms)⟩
theorem turn_keyG {P : Program} {w : World} {K : PySem.W.Frag} {tg : Expr} {a : Addr} {ep : Nat} {ms : List (Int × V × V)} (it : Addr) : Turn P w K tg (ItG a ep ms (·.2.1)) [it] it (fun i h => h.IsKeyIter it a i ms.length ep) where
  mem := by simp
  obj := fun i h st b hb => by
    have e : b = it := by simpa using hb
    subst e
    obtain ⟨oi, e, c, dd⟩ := st
    exact ⟨oi, e, fun v z => by rw [dd] at z; cases z⟩
  keep := fun i h h' st k => st.at fun oi e => k it (by simp) oi e
  item := by
    intro X hP hw hK hc i pins s σ H E I hf st hg
    subst hP hw hK
    obtain ⟨hi, hd⟩ := hg
    obtain ⟨f0, f1, f2, f3, f4, f5⟩ := hf it (by simp)
    obtain ⟨z, o, es, r1, r2, r3, r4⟩ := raw_of I hd
    have sz : ms.length = es.size := by rw [← Array.length_toList]; exact Paired.length r4
    rw [sz] at st
    refine wpAny_pyNext_keys_item_raw st ⟨o, r1, r2, r3⟩ (by omega) fun h' st' sb => ?_
    have I1 : Inv X pins σ H { s with heap := h' } := I.turned (t' := s.toks) (fun b ob hb e => (sb.2 b hb).trans e) f0 f1 f3 f4 f5
    obtain ⟨oi, e, c, dd⟩ := id st'
    have rk : RelV ms[i].2.1 es[i].key := by
      obtain ⟨u, hu, ru⟩ := (ent_vals r4).1.get (i := i) (x := ms[i].2.1) (by rw [List.getElem?_map, List.getElem?_eq_getElem hi]; rfl)
      rw [List.getElem?_map, Array.getElem?_toList, Array.getElem?_eq_getElem (by omega)] at hu
      cases hu
      exact ru
    refine ⟨es[i].key, rfl, go_of (s := { s with heap := h' }) e c dd (by decide) ⟨ms[i].2.1, H, I1, rk, ⟨rfl, ms[i], List.getElem?_eq_getElem hi, rfl⟩, ?_, fun b hb => (hf b hb).1⟩⟩
    show h'.IsKeyIter it a (i + 1) ms.length ep
    rw [sz]
    exact st'
  done := by
    intro X hP hw hK hc i pins s σ H E I hf st hg
    subst hP hw hK
    obtain ⟨hi, hd⟩ := hg
    obtain ⟨f0, f1, f2, f3, f4, f5⟩ := hf it (by simp)
    obtain ⟨z, o, es, r1, r2, r3, r4⟩ := raw_of I hd
    have sz : ms.length = es.size := by rw [← Array.length_toList]; exact Paired.length r4
    rw [sz] at st
    exact wpAny_pyNext_keys_end_raw (I.ok.hd hc) st ⟨o, r1, r2, r3⟩ (by omega) fun h' eb => ⟨rfl, I.turned (t' := s.toks) (fun b ob hb e => eb b ob hb e) f0 f1 f3 f4 f5⟩
  self := fun A i s Q E st h => wpAny_pyIter_keyiter st h
theorem turn_valG {P : Program} {w : World} {K : PySem.W.Frag} {tg : Expr} {a : Addr} {ep : Nat} {ms : List (Int × V × V)} (it : Addr) : Turn P w K tg (ItG a ep ms (·.2.2)) [it] it (fun i h => h.IsValIter it a i ms.length ep) where
  mem := by simp
  obj := fun i h st b hb => by
    have e : b = it := by simpa using hb
    subst e
    obtain ⟨oi, e, c, dd⟩ := st
    exact ⟨oi, e, fun v z => by rw [dd] at z; cases z⟩
  keep := fun i h h' st k => st.at fun oi e => k it (by simp) oi e
  item := by
    intro X hP hw hK hc i pins s σ H E I hf st hg
    subst hP hw hK
    obtain ⟨hi, hd⟩ := hg
    obtain ⟨f0, f1, f2, f3, f4, f5⟩ := hf it (by simp)
    obtain ⟨z, o, es, r1, r2, r3, r4⟩ := raw_of I hd
    have sz : ms.length = es.size := by rw [← Array.length_toList]; exact Paired.length r4
    rw [sz] at st
    refine wpAny_pyNext_values_item_raw st ⟨o, r1, r2, r3⟩ (by omega) fun h' st' sb => ?_
    have I1 : Inv X pins σ H { s with heap := h' } := I.turned (t' := s.toks) (fun b ob hb e => (sb.2 b hb).trans e) f0 f1 f3 f4 f5
    obtain ⟨oi, e, c, dd⟩ := id st'
    have rk : RelV ms[i].2.2 es[i].val := by
      obtain ⟨u, hu, ru⟩ := (ent_vals r4).2.1.get (i := i) (x := ms[i].2.2) (by rw [List.getElem?_map, List.getElem?_eq_getElem hi]; rfl)
      rw [List.getElem?_map, Array.getElem?_toList, Array.getElem?_eq_getElem (by omega)] at hu
      cases hu
      exact ru
    refine ⟨es[i].val, rfl, go_of (s := { s with heap := h' }) e c dd (by decide) ⟨ms[i].2.2, H, I1, rk, ⟨rfl, ms[i], List.getElem?_eq_getElem hi, rfl⟩, ?_, fun b hb => (hf b hb).1⟩⟩
    show h'.IsValIter it a (i + 1) ms.length ep
    rw [sz]
    exact st'
  done := by
    intro X hP hw hK hc i pins s σ H E I hf st hg
    subst hP hw hK
    obtain ⟨hi, hd⟩ := hg
    obtain ⟨f0, f1, f2, f3, f4, f5⟩ := hf it (by simp)
    obtain ⟨z, o, es, r1, r2, r3, r4⟩ := raw_of I hd
    have sz : ms.length = es.size := by rw [← Array.length_toList]; exact Paired.length r4
    rw [sz] at st
    exact wpAny_pyNext_values_end_raw (I.ok.hd hc) st ⟨o, r1, r2, r3⟩ (by omega) fun h' eb => ⟨rfl, I.turned (t' := s.toks) (fun b ob hb e => eb b ob hb e) f0 f1 f3 f4 f5⟩
  self := fun A i s Q E st h => wpAny_pyIter_valiter st h
theorem pi_keyG {td : TE} (he : PE X e td) : PI X tg e (fun σ H R => td σ H fun x H1 => ∃ d ep ms, x = .ref d ∧ H1 d = some (dE d ep ms) ∧ R (ItG d ep ms (·.2.1)) H1) := by
  refine ⟨fun pins s σ H R I h => ?_⟩
  refine thn (he.run pins s σ H _ I h) fun u s1 ⟨x, H1, I1, rx, d, ep, ms, ex, hd, q⟩ => ?_
  subst ex
  obtain rfl : u = Value.ref d := rx
  obtain ⟨z, o, es, r1, r2, r3, r4⟩ := raw_of I1 hd
  have sz : ms.length = es.size := by rw [← Array.length_toList]; exact Paired.length r4
  refine wpAny_pyIter_dict_raw z ⟨o, r1, r2, r3⟩ (pi_one (tk := s1.toks) I1 _ (turn_keyG _) ⟨_, Heap.get?_push_size _ rfl, rfl, ?_⟩ q)
  rw [sz] <;> rfl
theorem pi_valG {td : TE} {apos cpos : Pos} (he : PE X e td) (hbase : attributeBase e "values" X.env (eval e X.env) = eval e X.env) (hline : (apos.endLine == cpos.line) = true) : PI X tg (.Call (.Attribute e "values" apos) [] [] cpos) (fun σ H R => td σ H fun x H1 => ∃ d ep ms, x = .ref d ∧ H1 d = some (dE d ep ms) ∧ R (ItG d ep ms (·.2.2)) H1) := by
  refine ⟨fun pins s σ H R I h => ?_⟩
  refine wpAny_Call_method (T := "dict") (id := "dict.values") hbase rfl hline F.plainAttrs_dict F.slot_dict_values F.type_dict_values (thn (he.run pins s σ H _ I h) fun u s1 ⟨x, H1, I1, rx, d, ep, ms, ex, hd, q⟩ => ?_)
  subst ex
  obtain rfl : u = Value.ref d := rx
  obtain ⟨z, o, es, r1, r2, r3, r4⟩ := raw_of I1 hd
  have sz : ms.length = es.size := by rw [← Array.length_toList]; exact Paired.length r4
  have ht : s1.TypeIs (.ref d) "dict" := ⟨o, r1, r2.1⟩
  refine ⟨ht, fun b z => by cases z; exact ⟨o, r1, r2.2.1⟩, ?_⟩
  have I2 : Inv X pins σ H1 { s1 with heap := s1.heap.push { cls := .type "dict_values", data := .fields #[.ref d] } } := I1.kept (t' := s1.toks) fun b ob q => Heap.get?_push_of_some _ q
  have fin : wpAny (model X.prog X.w) X.A (pyIter (.ref s1.heap.objs.size)) (PIE X pins σ tg R) X.xe { s1 with heap := s1.heap.push { cls := .type "dict_values", data := .fields #[.ref d] } } := by
    refine wpAny_pyIter_values_raw (d := d) (es := es) (ep := ep) ⟨_, Heap.get?_push_size _ rfl, rfl, rfl⟩ ⟨o, Heap.get?_push_of_some _ r1, r2, r3⟩ (pi_one (tk := s1.toks) I2 _ (turn_valG _) ⟨_, Heap.get?_push_size _ rfl, rfl, ?_⟩ q)
    rw [sz] <;> rfl
  show wpAny _ _ (callWith cpos (.builtin "dict.values") [.ref d] [] []) _ X.xe s1
  exact method_meetsIn F.slot_dict_values F.entry_dict_values rfl (PySem.evalArgs_none ⟨rfl, ht, F.args_dict_values_1 _, _, meets_dict_values_raw d z, ⟨⟨es, ep, ⟨o, r1, r2, r3⟩⟩, fin⟩⟩)
theorem goes_keyG {K : PySem.W.Frag} {wk : Bool} {S : Hp} {A : Addr} {ep : Nat} {ms : List (Int × V × V)} {f : Int × V × V → V} {xs : List D} (h : S A = some (dE A ep ms)) (hd : DqAll K S (ms.map f) xs) : Goes K S wk (ItG A ep ms f) xs := fun P Hc oc sm => by
  have h1 : Hc A = some (dE A ep ms) := (msk_some.mp (sm _ _ h)).2
  have h2 := hd.mono sm
  have hl : ms.length = xs.length := by have := hd.length; simpa using this
  refine ⟨fun i x ex => ?_, by show ms.length ≤ xs.length; omega, h1⟩
  have hi : i < xs.length := (List.getElem?_eq_some_iff.mp ex).1
  refine ⟨⟨by omega, h1⟩, fun w H' y => ?_⟩
  obtain ⟨rfl, m, em, rfl⟩ := y
  obtain ⟨v, ev, dv⟩ := h2.get ex
  rw [List.getElem?_map, em] at ev
  cases ev
  exact ⟨Same.refl _, .inl dv⟩
theorem pi_seq {wk : Bool} (ha : PE X a (rdE Γ X.K xc W ca)) : PI X tg a (rdI Γ X.K xc W wk ca) := by
  have hz := pe_sz ha
  refine ⟨fun pins s σ H R I h => ?_⟩
  obtain ⟨κ, M, O, ρ, st, env, so, g⟩ := h
  cases hd : den Γ ca ρ st with
  | stuck => rw [hd] at g; exact g.elim
  | exc c fs st' =>
    rw [hd] at g
    refine (pi_list (tg := tg) ha).run pins s σ H R I ⟨κ, M, ρ, st, env, ?_⟩
    rw [hd]
    exact g
  | ok p st' =>
    rw [hd] at g
    obtain ⟨x, xs, rfl, hi, g⟩ := g
    have so' := so _ _ hd
    cases x with
    | list ys =>
      cases hi
      refine (pi_list (tg := tg) hz).run pins s σ H R I ⟨κ, M, ρ, st, env, ?_⟩
      rw [hd]
      intro κ' H' v af rp nw sz
      obtain ⟨A, vs, rfl, h1, h2⟩ := Dq.list_inv rp
      have hlen : xs.length ≤ sizeLine := by rw [← h2.length]; exact sz.1 A vs (rd_of h1)
      refine ⟨A, rfl, ⟨vs, rd_of h1⟩, g κ' H' _ af ?_ hlen⟩
      rcases so' with rfl | ⟨kb, s1, s2⟩
      · exact goes_list h1 h2
      · simp only [keeps, Bool.and_eq_true] at kb
        obtain ⟨B, ws, e, n1, n2, n3, n4⟩ := nw kb.1
        cases e
        refine goes_list (vs := ws) (SqL.of (msk_some.mpr ⟨fun z => ?_, n2⟩)) (DqAll.calm (fun A' o us q => calm_tups af s2 A' o us ((msk_mono fun b o n e => ⟨fun z => n (.inl z), e⟩ : Same _ _) _ _ q)) n4 kb.2)
        rcases z with z | z
        · exact n3 z
        · rcases s2 A z with z | ⟨z1, us, z2, _⟩
          · exact env.cells.free n1 (.inr z)
          · rw [n1] at z2
            cases z2
    | tuple ys =>
      cases hi
      refine (pi_tup (tg := tg) hz).run pins s σ H R I ⟨κ, M, ρ, st, env, ?_⟩
      rw [hd]
      intro κ' H' v af rp nw sz
      obtain ⟨A, vs, rfl, hN, h2⟩ := Dq.tupN_inv rp
      have h1 : SqT X.K (msk (Hid κ' M) H') A vs := hN.t
      have hlen : xs.length ≤ sizeLine := by rw [← h2.length]; exact sz.2 A vs (sq_of h1)
      refine ⟨A, rfl, ⟨vs, sq_of h1⟩, g κ' H' _ af ?_ hlen⟩
      rcases so' with rfl | ⟨kb, s1, s2⟩
      · exact goes_tup h1 h2
      · simp only [keeps, calm] at kb
        obtain ⟨o, q, _⟩ := hN
        exact goes_tup (.inl (.inr ⟨o, calm_tups af s2 A o vs q⟩)) (DqAll.calm (fun A' o us q => calm_tups af s2 A' o us q) h2 kb)
    | dict ks =>
      simp only [items, Option.ite_none_right_eq_some, Option.some.injEq, Bool.and_eq_true, decide_eq_true_eq] at hi
      obtain ⟨⟨c, few⟩, rfl⟩ := hi
      refine (pi_keyG (tg := tg) ha).run pins s σ H R I ⟨κ, M, ρ, st, env, ?_⟩
      rw [hd]
      intro κ' H' v af rp nw
      obtain ⟨A, ep, ms, rfl, h1, h2, h3, h4, h5⟩ := Dq.dict_inv rp c
      rcases so' with rfl | ⟨kb, s1, s2⟩
      · exact ⟨A, ep, ms, rfl, msk_le _ _ h1, g κ' H' _ af (goes_keyG h1 h2) (by rw [List.length_map, sizeLine_eq]; omega)⟩
      · simp [keeps, calm] at kb
    | _ => simp [items] at hi
theorem pi_vals {wk : Bool} {apos cpos : Pos} (ha : PE X a (rdE Γ X.K xc W ca)) (hbase : attributeBase a "values" X.env (eval a X.env) = eval a X.env) (hline : (apos.endLine == cpos.line) = true) : PI X tg (.Call (.Attribute a "values" apos) [] [] cpos) (rdI Γ X.K xc W wk (.vals ca)) := by
  refine ⟨fun pins s σ H R I h => ?_⟩
  obtain ⟨κ, M, O, ρ, st, env, so, g⟩ := h
  refine (pi_valG (tg := tg) ha hbase hline).run pins s σ H R I ⟨κ, M, ρ, st, env.sub fun i h => by simpa [occ] using h, ?_⟩
  simp only [den] at g so
  cases hd : den Γ ca ρ st with
  | stuck => rw [hd] at g; exact g.elim
  | exc c fs st' => rw [hd] at g; exact g
  | ok q st' =>
    rw [hd] at g so
    intro κ' H' v af rp _
    cases q with
    | d x =>
      cases x with
      | dict ks =>
        simp only [Res.bind, valsR] at g so
        by_cases c : (clsAll ks && decide (ks.length < 1000000)) = true
        · rw [if_pos c] at g so
          simp only [Bool.and_eq_true, decide_eq_true_eq] at c
          obtain ⟨x, ys, e1, e2, g⟩ := g
          cases e1
          cases e2
          obtain ⟨A, ep, ms, rfl, h1, h2, h3, h4, h5⟩ := Dq.dict_inv rp c.1
          rcases so _ _ rfl with rfl | ⟨kb, _⟩
          · exact ⟨A, ep, ms, rfl, msk_le _ _ h1, g κ' H' _ af (goes_keyG h1 h3) (by rw [List.length_map, sizeLine_eq]; omega)⟩
          · simp [keeps, fresh] at kb
        · rw [if_neg c] at g
          exact g.elim
      | _ => exact g.elim
    | _ => exact g.elim
theorem pi_rng1 {wk : Bool} (F : Facts X Γ nm xc k) (hg : Gl X "range") (ha : PE X a (rdE Γ X.K xc W ca)) (hs : starEach [a] X.env = [(false, eval a X.env)]) : PI X tg (.Call (.Name "range" p) [a] [] pos) (rdI Γ X.K xc W wk (.rng1 ca)) := by
  refine ⟨fun pins s σ H R I h => ?_⟩
  obtain ⟨κ, M, O, ρ, st, env, so, g⟩ := h
  refine (pi_range1 hg (F.bl _ (by decide +kernel)) (pa_cons ha pa_nil hs) hs).run pins s σ H R I ⟨κ, M, ρ, st, env.sub fun i h => by simpa [occ] using h, ?_⟩
  simp only [den] at g
  cases hd : den Γ ca ρ st with
  | stuck => rw [hd] at g; exact g.elim
  | exc c fs st' => rw [hd] at g; exact g
  | ok p st' =>
    rw [hd] at g
    intro κ' H' v af rp _
    simp only [Res.bind] at g
    cases p with
    | d x =>
      cases x with
      | int j =>
        have e := Dq.int_inv rp
        subst e
        simp only [rngR] at g
        split at g
        · rename_i hb
          obtain ⟨x, xs, e1, e2, g⟩ := g
          cases e1
          cases e2
          refine ⟨j, rfl, hb.2.2.1, hb.2.2.2.1, ?_⟩
          have e0 : (j - 0).toNat = j.toNat := by rw [Int.sub_zero]
          have := g κ' H' (Itr 0 j.toNat) af (by rw [e0]; exact goes_range) (by simpa [rangeL] using hb.2.2.2.2)
          exact this
        · exact g.elim
      | _ => exact g.elim
    | _ => exact g.elim
theorem pi_rng2 {wk : Bool} (F : Facts X Γ nm xc k) (hg : Gl X "range") (ha : PE X a (rdE Γ X.K xc W ca)) (hb : PE X b (rdE Γ X.K xc W cb)) (hs : starEach [a, b] X.env = [(false, eval a X.env), (false, eval b X.env)]) (hs2 : starEach [b] X.env = [(false, eval b X.env)]) : PI X tg (.Call (.Name "range" p) [a, b] [] pos) (rdI Γ X.K xc W wk (.rng2 ca cb)) := by
  refine ⟨fun pins s σ H R I h => ?_⟩
  obtain ⟨κ, M, O, ρ, st, env, so, g⟩ := h
  refine (pi_range2 hg (F.bl _ (by decide +kernel)) (pa_cons ha (pa_cons hb pa_nil hs2) (by rw [hs, hs2])) hs hs2).run pins s σ H R I ⟨κ, M, ρ, st, env.sub fun i h => by simp [occ, h], ?_⟩
  simp only [den] at g
  cases hd : den Γ ca ρ st with
  | stuck => rw [hd] at g; exact g.elim
  | exc c fs st' => rw [hd] at g; exact g
  | ok p st₁ =>
    rw [hd] at g
    intro κ₁ H₁ v a1 r1 _
    simp only [Res.bind] at g
    have env1 := env.aft a1
    refine ⟨κ₁, M, ρ, st₁, env1.sub fun i h => by simp [occ, h], ?_⟩
    cases hd2 : den Γ cb ρ st₁ with
    | stuck => rw [hd2] at g; exact g.elim
    | exc c fs st' =>
      rw [hd2] at g
      exact fun κ' H' cls d a2 x => g κ' H' cls d (a1.trans a2) x
    | ok q st₂ =>
      rw [hd2] at g
      intro κ₂ H₂ w a2 r2 _
      cases p with
      | d x =>
        cases x with
        | int i =>
          cases q with
          | d y =>
            cases y with
            | int j =>
              have e := Dq.int_inv r1
              subst e
              have e := Dq.int_inv r2
              subst e
              simp only [rngR] at g
              split at g
              · rename_i hb
                obtain ⟨x, xs, e1, e2, g⟩ := g
                cases e1
                cases e2
                exact ⟨i, j, rfl, ⟨hb.1, hb.2.1, hb.2.2.1, hb.2.2.2.1⟩, g κ₂ H₂ (Itr i (j - i).toNat) (a1.trans a2) goes_range (by simpa [rangeL] using hb.2.2.2.2)⟩
              · exact g.elim
            | _ => exact g.elim
          | _ => exact g.elim
        | _ => cases q <;> exact g.elim
      | _ => cases q <;> exact g.elim
theorem enumL_len : ∀ {xs : List D} {k : Nat}, (enumL k xs).length = xs.length
  | [], _ => rfl
  | x :: xs, k => by rw [enumL, List.length_cons, List.length_cons, enumL_len]
theorem enumL_at : ∀ {xs : List D} {k i : Nat} {x : D}, (enumL k xs)[i]? = some x → ∃ y, xs[i]? = some y ∧ x = .tuple [.int ((k + i : Nat) : Int), y]
  | [], _, _, _, h => by simp [enumL] at h
  | y :: xs, k, 0, x, h => by
    simp only [enumL, List.getElem?_cons_zero, Option.some.injEq] at h
    exact ⟨y, rfl, h.symm⟩
  | y :: xs, k, i + 1, x, h => by
    simp only [enumL, List.getElem?_cons_succ] at h
    obtain ⟨z, h1, h2⟩ := enumL_at h
    exact ⟨z, by simpa using h1, by rw [h2, show k + 1 + i = k + (i + 1) by omega]⟩
theorem goes_enum {K : PySem.W.Frag} {S : Hp} {A : Addr} {vs : List V} {xs : List D} (h : SqL K S A vs) (hd : DqAll K S vs xs) : Goes K S true (Ite K A) (enumL 0 xs) := fun P Hc oc sm => by
  have h1 : SqL K Hc A vs := SqL.mono msk_le (SqL.mono sm h)
  have h2 := hd.mono sm
  refine ⟨fun i x ex => ?_, vs, h1, by rw [enumL_len, hd.length]; exact Nat.le_refl _⟩
  obtain ⟨y, ey, rfl⟩ := enumL_at ex
  obtain ⟨v, ev, dv⟩ := h2.get ey
  refine ⟨⟨vs, v, h1, ev⟩, fun w H' z => ?_⟩
  obtain ⟨T, x', rfl, nT, rfl, z2⟩ := z
  have := z2 vs h1
  rw [ev] at this
  cases this
  rw [Nat.zero_add]
  exact ⟨Same.upd nT, .inr ⟨rfl, _, _, _, rfl, rfl, .inl (.inl (msk_some.mpr ⟨oc.free nT, upd_same⟩)), (.cons (.int _) (.cons (dv.mono (same_msk2 (Same.upd nT))) .nil))⟩⟩
theorem goes_enumT {K : PySem.W.Frag} {S : Hp} {A : Addr} {vs : List V} {xs : List D} (h : SqT K S A vs) (hd : DqAll K S vs xs) : Goes K S true (IteT K A) (enumL 0 xs) := fun P Hc oc sm => by
  have h1 : SqT K Hc A vs := SqT.mono msk_le (SqT.mono sm h)
  have h2 := hd.mono sm
  refine ⟨fun i x ex => ?_, vs, h1, by rw [enumL_len, hd.length]; exact Nat.le_refl _⟩
  obtain ⟨y, ey, rfl⟩ := enumL_at ex
  obtain ⟨v, ev, dv⟩ := h2.get ey
  refine ⟨⟨vs, v, h1, ev⟩, fun w H' z => ?_⟩
  obtain ⟨T, x', rfl, nT, rfl, z2⟩ := z
  have := z2 vs h1
  rw [ev] at this
  cases this
  rw [Nat.zero_add]
  exact ⟨Same.upd nT, .inr ⟨rfl, _, _, _, rfl, rfl, .inl (.inl (msk_some.mpr ⟨oc.free nT, upd_same⟩)), (.cons (.int _) (.cons (dv.mono (same_msk2 (Same.upd nT))) .nil))⟩⟩
theorem goes_zip {K : PySem.W.Frag} {S : Hp} {A B : Addr} {vs ws : List V} {xs ys : List D} (h : SqL K S A vs) (hd : DqAll K S vs xs) (g : SqL K S B ws) (ge : DqAll K S ws ys) : Goes K S true (Itz K A B) (zipL xs ys) := fun P Hc oc sm => by
  have h1 : SqL K Hc A vs := SqL.mono msk_le (SqL.mono sm h)
  have g1 : SqL K Hc B ws := SqL.mono msk_le (SqL.mono sm g)
  have h2 := hd.mono sm
  have g2 := ge.mono sm
  refine ⟨fun i x ex => ?_, vs, ws, h1, g1, ?_⟩
  · unfold zipL at ex
    rw [List.getElem?_zipWith] at ex
    cases ea : xs[i]? with
    | none => rw [ea] at ex; cases ex
    | some a =>
      cases eb : ys[i]? with
      | none => rw [ea, eb] at ex; cases ex
      | some b =>
        rw [ea, eb] at ex
        cases ex
        obtain ⟨v, ev, dv⟩ := h2.get ea
        obtain ⟨u, eu, du⟩ := g2.get eb
        refine ⟨⟨vs, ws, v, u, h1, g1, ev, eu⟩, fun w H' z => ?_⟩
        obtain ⟨T, x', y', rfl, nT, rfl, z2, z3⟩ := z
        have e1 := z2 vs h1
        rw [ev] at e1
        cases e1
        have e2 := z3 ws g1
        rw [eu] at e2
        cases e2
        exact ⟨Same.upd nT, .inr ⟨rfl, _, _, _, rfl, rfl, .inl (.inl (msk_some.mpr ⟨oc.free nT, upd_same⟩)), (.cons (dv.mono (same_msk2 (Same.upd nT))) (.cons (du.mono (same_msk2 (Same.upd nT))) .nil))⟩⟩
  · unfold zipL
    rw [List.length_zipWith, hd.length, ge.length]
    omega
theorem goes_zipT {K : PySem.W.Frag} {S : Hp} {A B : Addr} {vs ws : List V} {xs ys : List D} (h : SqT K S A vs) (hd : DqAll K S vs xs) (g : SqT K S B ws) (ge : DqAll K S ws ys) : Goes K S true (RZ.ItzT K A B) (zipL xs ys) := fun P Hc oc sm => by
  have h1 : SqT K Hc A vs := SqT.mono msk_le (SqT.mono sm h)
  have g1 : SqT K Hc B ws := SqT.mono msk_le (SqT.mono sm g)
  have h2 := hd.mono sm
  have g2 := ge.mono sm
  refine ⟨fun i x ex => ?_, vs, ws, h1, g1, ?_⟩
  · unfold zipL at ex
    rw [List.getElem?_zipWith] at ex
    cases ea : xs[i]? with
    | none => rw [ea] at ex; cases ex
    | some a =>
      cases eb : ys[i]? with
      | none => rw [ea, eb] at ex; cases ex
      | some b =>
        rw [ea, eb] at ex
        cases ex
        obtain ⟨v, ev, dv⟩ := h2.get ea
        obtain ⟨u, eu, du⟩ := g2.get eb
        refine ⟨⟨vs, ws, v, u, h1, g1, ev, eu⟩, fun w H' z => ?_⟩
        obtain ⟨T, x', y', rfl, nT, rfl, z2, z3⟩ := z
        have e1 := z2 vs h1
        rw [ev] at e1
        cases e1
        have e2 := z3 ws g1
        rw [eu] at e2
        cases e2
        exact ⟨Same.upd nT, .inr ⟨rfl, _, _, _, rfl, rfl, .inl (.inl (msk_some.mpr ⟨oc.free nT, upd_same⟩)), (.cons (dv.mono (same_msk2 (Same.upd nT))) (.cons (du.mono (same_msk2 (Same.upd nT))) .nil))⟩⟩
  · unfold zipL
    rw [List.length_zipWith, hd.length, ge.length]
    omega
theorem pi_enm {elts : List Expr} {kk : Nat} {tpos : Pos} (F : Facts X Γ nm xc k) (hg : Gl X "enumerate") (ha : PE X a (rdE Γ X.K xc W ca)) (hs : starEach [a] X.env = [(false, eval a X.env)]) : PI X (.Tuple elts kk tpos) (.Call (.Name "enumerate" p) [a] [] pos) (rdI Γ X.K xc W true (.enm ca)) := by
  refine ⟨fun pins s σ H R I h => ?_⟩
  obtain ⟨κ, M, O, ρ, st, env, so, g⟩ := h
  refine (pi_enumA hg (F.bl _ (by decide +kernel)) (pa_cons (pe_sz ha) pa_nil hs) hs).run pins s σ H R I ⟨κ, M, ρ, st, env.sub fun i h => by simpa [occ] using h, ?_⟩
  simp only [den] at g so
  cases hd : den Γ ca ρ st with
  | stuck => rw [hd] at g; exact g.elim
  | exc c fs st' => rw [hd] at g; exact g
  | ok q st' =>
    rw [hd] at g so
    intro κ' H' v af rp _ sz
    cases q with
    | d x =>
      cases x with
      | list xs =>
        obtain ⟨x, ys, e1, e2, g⟩ := g
        cases e1
        cases e2
        obtain ⟨A, vs, rfl, h1, h2⟩ := Dq.list_inv rp
        rcases so _ _ rfl with rfl | ⟨kb, _⟩
        · exact ⟨A, vs, rfl, .inl ⟨rd_of h1, g κ' H' _ af (goes_enum h1 h2) (by rw [enumL_len, ← h2.length]; exact sz.1 A vs (rd_of h1))⟩⟩
        · simp [keeps, fresh] at kb
      | tuple xs =>
        obtain ⟨x, ys, e1, e2, g⟩ := g
        cases e1
        cases e2
        obtain ⟨A, vs, rfl, h1, h2⟩ := Dq.tup_inv rp
        rcases so _ _ rfl with rfl | ⟨kb, _⟩
        · exact ⟨A, vs, rfl, .inr ⟨sq_of h1, g κ' H' _ af (goes_enumT h1 h2) (by rw [enumL_len, ← h2.length]; exact sz.2 A vs (sq_of h1))⟩⟩
        · simp [keeps, fresh] at kb
      | _ => exact g.elim
    | _ => exact g.elim
theorem pi_zp {elts : List Expr} {kk : Nat} {tpos : Pos} (F : Facts X Γ nm xc k) (hg : Gl X "zip") (ha : PE X a (rdE Γ X.K xc W ca)) (hb : PE X b (rdE Γ X.K xc W cb)) (hs : starEach [a, b] X.env = (false, eval a X.env) :: starEach [b] X.env) (hs2 : starEach [b] X.env = [(false, eval b X.env)])
    (hpl : (backTo pos (starEach [b] X.env)).any (·.1) = false) : PI X (.Tuple elts kk tpos) (.Call (.Name "zip" p) [a, b] [] pos) (rdI Γ X.K xc W true (.zp ca cb)) := by
  refine ⟨fun pins s σ H R I h => ?_⟩
  obtain ⟨κ, M, O, ρ, st, env, so, g⟩ := h
  refine (RZ.pi_zipA hg (F.bl _ (by decide +kernel)) (pa_cons (pe_sz ha) (pa_cons (pe_sz hb) pa_nil hs2) hs) hs hpl).run pins s σ H R I ⟨κ, M, ρ, st, env.sub fun i h => by simp [occ, h], ?_⟩
  simp only [den] at g so
  cases hd : den Γ ca ρ st with
  | stuck => rw [hd] at g; exact g.elim
  | exc c fs st' => rw [hd] at g; exact g
  | ok q st₁ =>
    rw [hd] at g so
    intro κ₁ H₁ v a1 r1 _ sz1
    simp only [Res.bind] at g so
    have env1 := env.aft a1
    refine ⟨κ₁, M, ρ, st₁, env1.sub fun i h => by simp [occ, h], ?_⟩
    cases hd2 : den Γ cb ρ st₁ with
    | stuck => rw [hd2] at g; exact g.elim
    | exc c fs st' =>
      rw [hd2] at g
      exact fun κ' H' cls d a2 x => g κ' H' cls d (a1.trans a2) x
    | ok q2 st₂ =>
      rw [hd2] at g so
      intro κ₂ H₂ w a2 r2 _ sz2
      cases q with
      | d x =>
        cases x with
        | list xs =>
          cases q2 with
          | d y =>
            cases y with
            | list ys =>
              obtain ⟨x, zs, e1, e2, g⟩ := g
              cases e1
              cases e2
              obtain ⟨A, vs, rfl, h1, h2⟩ := Dq.list_inv (a2.rp r1)
              obtain ⟨B, ws, rfl, h3, h4⟩ := Dq.list_inv r2
              rcases so _ _ rfl with rfl | ⟨kb, _⟩
              · refine ⟨A, B, vs, ws, rfl, .inl ⟨rd_of h1, rd_of h3, g κ₂ H₂ _ (a1.trans a2) (goes_zip h1 h2 h3 h4) ?_⟩⟩
                unfold zipL
                rw [List.length_zipWith, ← h2.length]
                exact Nat.le_trans (Nat.min_le_left _ _) (sz2.1 A vs (rd_of h1))
              · simp [keeps, fresh] at kb
            | _ => exact g.elim
          | _ => exact g.elim
        | tuple xs =>
          cases q2 with
          | d y =>
            cases y with
            | tuple ys =>
              obtain ⟨x, zs, e1, e2, g⟩ := g
              cases e1
              cases e2
              obtain ⟨A, vs, rfl, h1, h2⟩ := Dq.tup_inv (a2.rp r1)
              obtain ⟨B, ws, rfl, h3, h4⟩ := Dq.tup_inv r2
              rcases so _ _ rfl with rfl | ⟨kb, _⟩
              · refine ⟨A, B, vs, ws, rfl, .inr ⟨sq_of h1, sq_of h3, g κ₂ H₂ _ (a1.trans a2) (goes_zipT h1 h2 h3 h4) ?_⟩⟩
                unfold zipL
                rw [List.length_zipWith, ← h2.length]
                exact Nat.le_trans (Nat.min_le_left _ _) (sz2.2 A vs (sq_of h1))
              · simp [keeps, fresh] at kb
            | _ => exact g.elim
          | _ => exact g.elim
        | _ => cases q2 <;> first | exact g.elim | (rename_i y; cases y <;> exact g.elim)
      | _ => cases q2 <;> exact g.elim
end
end Sw

set_option Elab.async false
set_option linter.all false
set_option maxRecDepth 100000
set_option maxHeartbeats 1000000
/-! Targets; comprehensions. -/
namespace Sw
open PySem PySem.Spec PyProof.Rows L2

def tgs : Tg → List Nat
  | .nm i => [i]
  | .tp is => is
def gsOf : List Nat → TGs
  | [] => gNil
  | i :: r => gCons (gName i) (gsOf r)
def rdG (K : PySem.W.Frag) : Tg → TG
  | .nm i => gName i
  | .tp is => gTup K is.length (gsOf is)
/-- a target has taken a value -/
structure Took (K : PySem.W.Frag) (Hv : Hp) (l : List Nat) (σ σ' : L2.St) (ρ ρ' : Env) : Prop where
  ls : σ'.length = σ.length
  lr : ρ'.length = ρ.length
  off : ∀ i, i ∉ l → σ'[i]? = σ[i]? ∧ ρ'[i]? = ρ[i]?
  on : ∀ i, i ∈ l → ∃ y u, ρ'[i]? = some (.sh (.d y)) ∧ σ'[i]? = some (some u) ∧ Dq K Hv u y
section
variable {K : PySem.W.Frag} {Hv H : Hp} {σ : L2.St} {ρ : Env}
theorem took_one {i : Nat} {v : V} {x : D} (h : Dq K Hv v x) (hi : i < σ.length) (hr : ρ.length = σ.length) : Took K Hv [i] σ (σ.set i (some v)) ρ (ρ.set i (.sh (.d x))) where
  ls := by simp
  lr := by simp
  off := fun j hj => by
    have : i ≠ j := fun e => hj (by simp [e])
    rw [List.getElem?_set_ne this, List.getElem?_set_ne this]
    exact ⟨rfl, rfl⟩
  on := fun j hj => by
    have e : j = i := by simpa using hj
    subst e
    exact ⟨x, v, List.getElem?_set_self (by omega), List.getElem?_set_self hi, h⟩
theorem took_many : ∀ (is : List Nat) (us : List V) (xs : List D) (σ : L2.St) (ρ : Env) (Q : L2.St → Hp → Prop), DqAll K Hv us xs → xs.length = is.length → (∀ i ∈ is, i < σ.length) → ρ.length = σ.length →
    (∀ σ', Took K Hv is σ σ' ρ ((is.zip xs).foldl (fun r p => r.set p.1 (.sh (.d p.2))) ρ) → Q σ' H) → gsOf is us σ H Q
  | [], us, xs, σ, ρ, Q, h, e, _, _, q => by
    cases xs with
    | nil =>
      cases h
      exact ⟨rfl, q σ ⟨rfl, rfl, fun _ _ => ⟨rfl, rfl⟩, fun _ z => by cases z⟩⟩
    | cons _ _ => simp at e
  | i :: is, us, xs, σ, ρ, Q, h, e, hl, hr, q => by
    cases h with
    | nil => simp at e
    | @cons v vs x ds h1 h2 =>
      refine ⟨v, vs, rfl, ?_⟩
      have hi : i < σ.length := hl i (by simp)
      have t1 : Took K Hv [i] σ (σ.set i (some v)) ρ (ρ.set i (.sh (.d x))) := took_one h1 hi hr
      refine took_many is vs ds _ (ρ.set i (.sh (.d x))) Q h2 (by simpa using e) (fun j hj => by rw [t1.ls]; exact hl j (by simp [hj])) (by rw [t1.lr, t1.ls]; exact hr) fun σ' t2 => q σ' ?_
      refine ⟨t2.ls.trans t1.ls, t2.lr.trans t1.lr, fun j hj => ?_, fun j hj => ?_⟩
      · simp only [List.mem_cons, not_or] at hj
        have a := t2.off j hj.2
        have b := t1.off j (by simp [hj.1])
        exact ⟨a.1.trans b.1, a.2.trans b.2⟩
      · by_cases z : j ∈ is
        · exact t2.on j z
        · have e2 : j = i := by
            simp only [List.mem_cons] at hj
            exact hj.resolve_right z
          obtain ⟨y, u, a1, a2, a3⟩ := t1.on j (by simp [e2])
          have b := t2.off j z
          exact ⟨y, u, b.2.trans a1, b.1.trans a2, a3⟩
theorem take_tg {wk : Bool} {t : Tg} {v : V} {x : D} {ρ' : Env} {Q : L2.St → Hp → Prop} (sm : Same Hv H) (hw : wk = true → ∃ is, t = .tp is) (h : DqI K wk Hv v x) (hs : setTg ρ t x = some ρ') (hl : ∀ i ∈ tgs t, i < σ.length) (hr : ρ.length = σ.length)
    (q : ∀ σ', Took K Hv (tgs t) σ σ' ρ ρ' → Q σ' H) : rdG K t v σ H Q := by
  cases t with
  | nm i =>
    cases hs
    have h' : Dq K Hv v x := h.resolve_right fun z => by
      obtain ⟨is, e⟩ := hw z.1
      cases e
    exact q _ (took_one h' (hl i (by simp [tgs])) hr)
  | tp is =>
    simp only [setTg] at hs
    split at hs
    · rename_i xs
      split at hs
      · rename_i he
        cases hs
        obtain ⟨A, us, rfl, h1, h2⟩ : ∃ A us, v = .ref A ∧ SqT K Hv A us ∧ DqAll K Hv us xs := by
          rcases h with h | ⟨_, A, us, ds, e1, e2, h1, h2⟩
          · exact h.tup_inv
          · cases e2
            exact ⟨A, us, e1, h1, h2⟩
        exact ⟨A, us, rfl, SqT.mono sm h1, by rw [h2.length]; exact he, took_many is us xs σ ρ Q h2 he hl hr q⟩
      · cases hs
    · cases hs
end
section
variable {X : Cx} {Γ : Ctx} {xc : Nat → Addr} {W : WX} {k : Nat} {nm : Nm}
theorem pg_len {tg : Expr} {t : TG} (h : PG X tg t) : PG X tg (fun v σ H Q => σ.length = X.N.length → t v σ H Q) := ⟨fun pins s σ H v u Q I r q => h.run pins s σ H v u Q I r (q I.len)⟩
def rdC (Γ : Ctx) (K : PySem.W.Frag) (xc : Nat → Addr) (W : WX) (c : E) : TT := fun σ H Q => ∃ κ M ρ st, EnvE K κ M (occ c) σ H ρ st ∧ GoalA K xc W σ κ M H (denC Γ c ρ st) fun k κ' H' _ => Q k H'
theorem ptsI {ifs : List Expr} {t t' : TT} (h : PTs X ifs t) (i : ∀ σ H Q, t' σ H Q → t σ H Q) : PTs X ifs t' := ⟨fun pins s σ H Q I q => h.run pins s σ H Q I (i σ H Q q)⟩
theorem c_nil : PTs X [] (rdC Γ X.K xc W .nil) := ptsI pts_nil fun σ H Q ⟨κ, M, ρ, st, env, g⟩ => by
  simp only [denC] at g
  exact g κ H (Aft.refl env.cells)
theorem c_one {c : Expr} {cc : E} (h : PT X c (rdT Γ X.K xc W cc)) : PTs X [c] (rdC Γ X.K xc W (.one cc)) := ptsI (pts_one h) fun σ H Q ⟨κ, M, ρ, st, env, g⟩ => by
  simp only [denC] at g
  refine ⟨κ, M, ρ, st, env.sub fun i h => by simpa [occ] using h, ?_⟩
  cases hd : den Γ cc ρ st with
  | stuck => rw [hd] at g; exact g.elim
  | exc c fs st' => rw [hd] at g; exact g
  | ok p st₁ =>
    rw [hd] at g
    intro κ₁ H₁ v a1 r1 _
    cases p with
    | d x =>
      cases x with
      | bool b =>
        have e := Dq.bool_inv r1
        subst e
        exact ⟨b, rfl, g κ₁ H₁ a1⟩
      | _ => exact g.elim
    | _ => exact g.elim
abbrev W0 : WX := fun _ _ _ _ => False
theorem wipe_off {σ : L2.St} : ∀ {vs : List Nat} {i : Nat}, i ∉ vs → (wipe σ vs)[i]? = σ[i]?
  | [], _, _ => rfl
  | v :: vs, i, h => by
    simp only [List.mem_cons, not_or] at h
    show ((wipe σ vs).set v none)[i]? = σ[i]?
    rw [List.getElem?_set_ne (fun e => h.1 e.symm)]
    exact wipe_off h.2
theorem wipe_on {σ : L2.St} : ∀ {vs : List Nat} {i : Nat}, i ∈ vs → (wipe σ vs)[i]? = if i < σ.length then some none else none
  | v :: vs, i, h => by
    show ((wipe σ vs).set v none)[i]? = _
    by_cases e : v = i
    · subst e
      rw [List.getElem?_set]
      simp [wipe_length]
    · rw [List.getElem?_set_ne e]
      exact wipe_on (by simpa [Ne.symm e] using h)
/-- the own slots forgotten: whatever they held -/
theorem wipe_eq {σ σ' : L2.St} {vs : List Nat} (hl : σ'.length = σ.length) (h : ∀ i, i ∉ vs → σ'[i]? = σ[i]?) : wipe σ' vs = wipe σ vs := by
  refine List.ext_getElem? fun i => ?_
  by_cases hi : i ∈ vs
  · rw [wipe_on hi, wipe_on hi, hl]
  · rw [wipe_off hi, wipe_off hi]
    exact h i hi
theorem wipe_wipe {σ : L2.St} {vs : List Nat} : wipe (wipe σ vs) vs = wipe σ vs := wipe_eq (wipe_length σ vs) fun i h => wipe_off h

theorem comp_read {K : PySem.W.Frag} {wk : Bool} {elt it cnd : E} {t : Tg} {vs : List Nat} {n : Nat} {σ : L2.St} {H : Hp} {Q : VK} (hvs : ∀ i, i ∈ vs ↔ i ∈ tgs t) (hn : ∀ i ∈ tgs t, i < n) (hw : wk = true → ∃ is, t = .tp is)
    (h : rdE Γ K xc W (.comp elt t it cnd) σ H Q) : tLc (rdI Γ K xc W wk it) (fun v σ H Q => σ.length = n → rdG K t v σ H Q) (rdC Γ K xc W0 cnd) (rdE Γ K xc W0 elt) vs σ H Q := by
  obtain ⟨κ, M, ρ, st, env, g⟩ := h
  simp only [den] at g
  refine ⟨κ, M, M, ρ, st, env.sub fun i h => by simp [occ, h], fun _ _ _ => .inl rfl, ?_⟩
  cases hd : den Γ it ρ st with
  | stuck => rw [hd] at g; exact g.elim
  | exc c fs st' => rw [hd] at g; exact g
  | ok p st₁ =>
    rw [hd] at g
    cases p with
    | cell c => exact g.elim
    | exn c fs => exact g.elim
    | two w xs => exact g.elim
    | d x =>
    replace g : Goal K xc W σ κ M H true (match items x with
        | some xs => (compL (elF t (denC Γ cnd) (den Γ elt) ρ) xs st₁).nox.bind fun ys st => .ok (.d (.list ys)) st
        | none => .stuck) Q := g
    cases hi : items x with
    | none => rw [hi] at g; exact g.elim
    | some xs =>
    rw [hi] at g
    simp only at g
    refine ⟨x, xs, rfl, hi, fun κ₁ H₁ J a1 goes hlen => ?_⟩
    generalize hf : elF t (denC Γ cnd) (den Γ elt) ρ = f at g
    intro D nD
    obtain ⟨ys, stF, hc⟩ : ∃ ys stF, compL f xs st₁ = .ok ys stF := by
      cases hc : compL f xs st₁ with
      | ok ys stF => exact ⟨ys, stF, rfl⟩
      | exc c fs st' => rw [hc] at g; exact g.elim
      | stuck => rw [hc] at g; exact g.elim
    rw [hc] at g
    replace g : Goal K xc W σ κ M H true (.ok (.d (.list ys)) stF) Q := g
    have nM : ¬ M D := fun z => a1.cells.free nD (.inr z)
    have nDH : H D = none := by
      cases e : H D with
      | none => rfl
      | some o =>
        by_cases z : D ∈ κ
        · obtain ⟨us, e2⟩ := a1.cells.has (a1.pre.subset z)
          rw [nD] at e2; cases e2
        · have := (a1.keep D o e z).1
          rw [nD] at this; cases this
    have env1 := env.aft a1
    let MD : Addr → Prop := fun b => M b ∨ b = D
    refine ⟨fun i m Hc => m = xs.length - i ∧ i ≤ xs.length ∧ ∃ κc stc acc accD rest, Cells K κc MD Hc stc ∧ κ₁ <+: κc ∧ (∀ b o, H₁ b = some o → b ∉ κ₁ → Hc b = some o ∧ b ∉ κc) ∧ Hc D = some (.lst acc) ∧
      DqAll K (msk (Hid κc MD) Hc) acc accD ∧ accD.length ≤ i ∧ compL f (xs.drop i) stc = .ok rest stF ∧ ys = accD ++ rest, ⟨xs.length, ?_⟩, fun i m Hc w => ?_⟩
    · have sm : Same (msk (Hid κ₁ M) H₁) (msk (Hid κ₁ MD) (L2.upd H₁ D (.lst []))) := msk_mono fun b o q e => by
        have nb : b ≠ D := ne_of_none e nD
        exact ⟨fun z => z.elim (fun z => q (.inl z)) fun z => z.elim (fun z => q (.inr z)) nb, by rw [upd_ne nb]; exact e⟩
      refine ⟨by simp, Nat.zero_le _, κ₁, st₁, [], [], ys, ⟨a1.cells.len, a1.cells.nd, fun k y e => ?_, fun b hb => ?_, fun b hb => ?_⟩, List.prefix_refl _, fun b o e nb => ⟨Same.upd nD b o e, nb⟩, upd_same, .nil, Nat.le_refl _, hc, rfl⟩
      · obtain ⟨A, ds, us, h1, h2, h3, h4, hcm⟩ := a1.cells.at_ k y e
        exact ⟨A, ds, us, h1, h2, Same.upd nD _ _ h3, h4.mono sm, hcm⟩
      · rcases hb with hb | rfl
        · obtain ⟨o, e⟩ := a1.cells.own b hb
          exact ⟨o, Same.upd nD _ _ e⟩
        · exact ⟨_, upd_same⟩
      · rintro (z | rfl)
        · exact a1.cells.off b hb z
        · obtain ⟨us, e⟩ := a1.cells.has hb
          rw [nD] at e; cases e
    · obtain ⟨rfl, hi2, κc, stc, acc, accD, rest, cc, pre, keep, hD, dacc, la, hr, hy⟩ := w
      have keep0 : ∀ b o, H b = some o → b ∉ κ → Hc b = some o ∧ b ∉ κc := fun b o e nb => have q := a1.keep b o e nb; keep b o q.1 q.2
      have smS : Same (msk (Hid κ₁ M) H₁) (msk (Hid κc MD) Hc) := msk_mono fun b o q e => by
        have q1 := keep b o e fun z => q (.inl z)
        have nb : b ≠ D := ne_of_none e nD
        exact ⟨fun z => z.elim q1.2 fun z => z.elim (fun z => q (.inr z)) nb, q1.1⟩
      have gs := goes (Hid κc MD) Hc (occ_of cc) smS
      by_cases hlt : i < xs.length
      · have ex : xs[i]? = some xs[i] := List.getElem?_eq_getElem hlt
        obtain ⟨hgo, hyl⟩ := gs.1 i _ ex
        refine .inr ⟨hgo, fun H' => (∃ κc stc acc accD rest, Cells K κc MD H' stc ∧ κ₁ <+: κc ∧ (∀ b o, H₁ b = some o → b ∉ κ₁ → H' b = some o ∧ b ∉ κc) ∧ H' D = some (.lst acc) ∧
          DqAll K (msk (Hid κc MD) H') acc accD ∧ accD.length ≤ i + 1 ∧ compL f (xs.drop (i + 1)) stc = .ok rest stF ∧ ys = accD ++ rest), fun H' w => ⟨xs.length - (i + 1), by omega, rfl, hlt, w⟩, fun v H' y hln => ?_⟩
        obtain ⟨sm1, dv⟩ := hyl v H' y
        rw [List.drop_eq_getElem_cons hlt] at hr
        -- the turn's own outcome
        have hr' : (f xs[i] stc).bind (fun o st1 => (compL f (xs.drop (i + 1)) st1).bind fun r st2 => .ok (o.toList ++ r) st2) = .ok rest stF := hr
        obtain ⟨o, st2, e1⟩ : ∃ o st2, f xs[i] stc = .ok o st2 := by
          cases e : f xs[i] stc with
          | ok o st2 => exact ⟨o, st2, rfl⟩
          | exc _ _ _ => rw [e] at hr'; cases hr'
          | stuck => rw [e] at hr'; cases hr'
        rw [e1] at hr'
        obtain ⟨rest2, st3, e2⟩ : ∃ rest2 st3, compL f (xs.drop (i + 1)) st2 = .ok rest2 st3 := by
          cases e : compL f (xs.drop (i + 1)) st2 with
          | ok o st3 => exact ⟨o, st3, rfl⟩
          | exc _ _ _ => simp only [Res.bind, e] at hr'; cases hr'
          | stuck => simp only [Res.bind, e] at hr'; cases hr'
        simp only [Res.bind, e2] at hr'
        injection hr' with er1 er2
        subst er2
        rw [← hf] at e1
        unfold elF at e1
        cases hs : setTg ρ t xs[i] with
        | none => rw [hs] at e1; cases e1
        | some ρ' =>
        rw [hs] at e1
        simp only at e1
        have cc1 := cc.same sm1
        have lsw : ρ.length = (wipe σ vs).length := by rw [wipe_length]; exact env.ls
        refine take_tg (Hv := msk (Hid κc MD) H') msk_le hw dv hs (fun j hj => by rw [hln]; exact hn j hj) lsw fun σ2 tk => ?_
        refine ⟨by rw [wipe_eq tk.ls fun j hj => (tk.off j fun z => hj ((hvs j).mpr z)).1, wipe_wipe], ?_⟩
        -- what the turn's code sees
        have smE : Same (msk (Hid κ M) H) (msk (Hid κc MD) H') := msk_mono fun b ob q e => by
          have q1 := keep0 b ob e fun z => q (.inl z)
          have nb : b ≠ D := ne_of_none e nDH
          exact ⟨fun z => z.elim q1.2 fun z => z.elim (fun z => q (.inr z)) nb, sm1 _ _ q1.1⟩
        have envT : EnvE K κc MD (occ elt ++ occ cnd) σ2 H' ρ' stc := ⟨cc1, by rw [tk.lr, tk.ls]; exact lsw, fun j hj pv e => by
          by_cases z : j ∈ tgs t
          · obtain ⟨yv, u, b1, b2, b3⟩ := tk.on j z
            unfold look at e
            rw [b1] at e
            cases e
            exact ⟨u, b2, b3⟩
          · have q := tk.off j z
            unfold look at e
            rw [q.2] at e
            have z' : j ∉ vs := fun w => z ((hvs j).mp w)
            obtain ⟨u, b1, b2⟩ := env.slots j (by simp only [List.mem_append] at hj; simp only [occ, List.mem_append]; exact hj.elim (fun z => .inl (.inl z)) .inr) pv e
            exact ⟨u, by rw [q.1, wipe_off z']; exact b1, b2.mono (a1.pre.trans pre) smE⟩⟩
        refine ⟨κc, MD, ρ', stc, envT.sub fun j h => by simp [h], ?_⟩
        cases hk : denC Γ cnd ρ' stc with
        | stuck => rw [hk] at e1; cases e1
        | exc _ _ _ => rw [hk] at e1; cases e1
        | ok kb st4 =>
        rw [hk] at e1
        simp only [Res.bind] at e1
        intro κ4 H4 a4
        have keepD : ∀ {κ5 : List Addr} {H5 : Hp} {st5 : Store}, Aft K κc MD H' κ5 H5 st5 → H5 D = some (.lst acc) := fun a5 => (a5.keep D _ (sm1 _ _ hD) fun z => cc.off D z (.inr rfl)).1
        cases kb with
        | false =>
          refine iteF ?_
          simp only [Bool.false_eq_true, if_false] at e1
          injection e1 with e3 e4
          subst e3 e4
          refine ⟨κ4, _, acc, accD, rest2, a4.cells, pre.trans a4.pre, fun b ob e nb => ?_, keepD a4, (dacc.mono (same_msk2 sm1)).mono a4.same, by omega, e2, by rw [hy, ← er1]; rfl⟩
          have q := keep b ob e nb
          exact a4.keep b ob (sm1 _ _ q.1) q.2
        | true =>
          refine iteT ?_
          simp only [if_true] at e1
          refine ⟨κ4, MD, ρ', st4, (envT.aft a4).sub fun j h => by simp [h], ?_⟩
          cases he : den Γ elt ρ' st4 with
          | stuck => rw [he] at e1; cases e1
          | exc _ _ _ => rw [he] at e1; cases e1
          | ok q st5 =>
          rw [he] at e1
          cases q with
          | cell c => cases e1
          | exn c fs => cases e1
          | two w xs => cases e1
          | d yd =>
          simp only [asD, Option.map_some, ofO] at e1
          injection e1 with e3 e4
          subst e3 e4
          intro κ5 H5 yv a5 r5 _
          have hD5 := (a5.keep D _ (keepD a4) fun z => a4.cells.off D z (.inr rfl)).1
          have sm5 : Same (msk (Hid κ5 MD) H5) (msk (Hid κ5 MD) (L2.upd H5 D (.lst (acc ++ [yv])))) := msk_mono fun b ob q e => by
            have nb : b ≠ D := fun z => q (.inr (.inr z))
            exact ⟨q, by rw [upd_ne nb]; exact e⟩
          have hla : acc.length = accD.length := dacc.length
          refine ⟨acc, hD5, by omega, κ5, _, acc ++ [yv], accD ++ [yd], rest2, ⟨a5.cells.len, a5.cells.nd, fun k z e => ?_, fun b hb => ?_, a5.cells.off⟩, (pre.trans a4.pre).trans a5.pre, fun b ob e nb => ?_, upd_same,
            ((((dacc.mono (same_msk2 sm1)).mono a4.same).mono a5.same).append (.cons r5 .nil)).mono sm5, by simp; omega, e2, by rw [hy, ← er1]; simp⟩
          · obtain ⟨A, ds, us, h1, h2, h3, h4, hcm⟩ := a5.cells.at_ k z e
            have nA : A ≠ D := fun z => a5.cells.off A (List.mem_of_getElem? h1) (.inr z)
            exact ⟨A, ds, us, h1, h2, by rw [upd_ne nA]; exact h3, h4.mono sm5, hcm⟩
          · by_cases z : b = D
            · rw [z]; exact ⟨_, upd_same⟩
            · obtain ⟨ob, e⟩ := a5.cells.own b hb
              exact ⟨ob, by rw [upd_ne z]; exact e⟩
          · have nb2 : b ≠ D := ne_of_none e nD
            have q := keep b ob e nb
            have q4 := a4.keep b ob (sm1 _ _ q.1) q.2
            have q5 := a5.keep b ob q4.1 q4.2
            exact ⟨by rw [upd_ne nb2]; exact q5.1, q5.2⟩
      · have ei : i = xs.length := by omega
        subst ei
        refine .inl ⟨gs.2, ?_⟩
        rw [List.drop_length] at hr
        injection hr with er1 er2
        subst er1 er2
        rw [List.append_nil] at hy
        subst hy
        have smM : Same (msk (Hid κc MD) Hc) (msk (Hid κc M) Hc) := msk_mono fun b ob q e => ⟨fun z => q (z.imp id .inl), e⟩
        have nDc : D ∉ κc := fun z => cc.off D z (.inr rfl)
        refine g κc Hc (.ref D) ⟨a1.pre.trans pre, fun b ob e nb => keep0 b ob e nb, ⟨cc.len, cc.nd, fun k y e => ?_, fun b hb => cc.own b (.inl hb), fun b hb z => cc.off b hb (.inl z)⟩⟩ ?_ fun _ => ?_
        · obtain ⟨A, ds, us, h1, h2, h3, h4, hcm⟩ := cc.at_ k y e
          exact ⟨A, ds, us, h1, h2, h3, h4.mono smM, hcm⟩
        · exact Dq.lst (SqL.of (msk_some.mpr ⟨fun z => z.elim nDc nM, hD⟩)) (dacc.mono smM)
        · exact ⟨D, acc, rfl, nDH, hD, nDc, dacc.mono (msk_mono fun b ob q e => ⟨fun z => q (z.elim (fun z => z.elim .inl fun z => .inr (.inl z)) fun z => .inr (.inr z)), e⟩)⟩
end
end Sw

set_option Elab.async false
set_option linter.all false
set_option maxRecDepth 100000
set_option maxHeartbeats 1000000
/-! How the slots of a running def lie in the heap. -/
namespace Sw
open PySem PySem.Spec PyProof.Rows L2

theorem nodup_ixA {l : List Addr} (h : l.Nodup) {i j : Nat} {a : Addr} (x : l[i]? = some a) (y : l[j]? = some a) : i = j := by
  obtain ⟨h1, e1⟩ := List.getElem?_eq_some_iff.mp x
  obtain ⟨h2, e2⟩ := List.getElem?_eq_some_iff.mp y
  exact (List.getElem_inj h).mp (e1.trans e2.symm)
/-- the lists that slots own -/
def Own (ρ : Env) (σ : L2.St) : Addr → Prop := fun a => ∃ (i : Nat) (xs : OC), ρ[i]? = some (.own xs) ∧ σ[i]? = some (some (.ref a))
def Hid2 (M : Addr → Prop) (ρ : Env) (σ : L2.St) : Addr → Prop := fun a => M a ∨ Own ρ σ a
/-- M: hidden from this def; H0: the heap at its entry -/
structure Rel (K : PySem.W.Frag) (κ : List Addr) (M : Addr → Prop) (H0 : Hp) (σ : L2.St) (H : Hp) (ρ : Env) (st : Store) : Prop where
  cells : Cells K κ (Hid2 M ρ σ) H st
  ls : ρ.length = σ.length
  sh : ∀ (i : Nat) (p : PV), ρ[i]? = some (.sh p) → ∃ v, σ[i]? = some (some v) ∧ Rp K κ (msk (Hid κ (Hid2 M ρ σ)) H) v p
  ow : ∀ (i : Nat) (xs : OC), ρ[i]? = some (.own xs) → ∃ a o, σ[i]? = some (some (.ref a)) ∧ H a = some o ∧ OcR K (msk (Hid κ (Hid2 M ρ σ)) H) a o xs ∧ ¬ M a ∧ H0 a = none
  inj : ∀ (i j : Nat) (xs ys : OC) (a : Addr), ρ[i]? = some (.own xs) → ρ[j]? = some (.own ys) → σ[i]? = some (some (.ref a)) → σ[j]? = some (some (.ref a)) → i = j
  old : ∀ a o, H0 a = some o → ∃ o', H a = some o'
structure AftS (κ : List Addr) (σ : L2.St) (H : Hp) (ρ : Env) (κ' : List Addr) (σ' : L2.St) (H' : Hp) (ρ' : Env) : Prop where
  pre : κ <+: κ'
  keep : ∀ a o, H a = some o → a ∉ κ → ¬ Own ρ σ a → H' a = some o ∧ a ∉ κ' ∧ ¬ Own ρ' σ' a
  pin : ∀ j : Nat, ρ'[j]? = some .pin → ρ[j]? = some .pin ∧ σ'[j]? = σ[j]?
structure AftR (K : PySem.W.Frag) (κ : List Addr) (M : Addr → Prop) (σ : L2.St) (H : Hp) (ρ : Env) (κ' : List Addr) (H' : Hp) (st' : Store) : Prop where
  pre : κ <+: κ'
  keep : ∀ a o, H a = some o → a ∉ κ → ¬ Own ρ σ a → H' a = some o ∧ a ∉ κ'
  cells : Cells K κ' M H' st'
section
variable {K : PySem.W.Frag} {κ κ' κ₁ : List Addr} {M : Addr → Prop} {H0 H H' H₁ : Hp} {σ σ' σ₁ : L2.St} {ρ ρ' ρ₁ : Env} {st st' : Store}
theorem AftS.refl : AftS κ σ H ρ κ σ H ρ := ⟨List.prefix_refl _, fun _ _ e n w => ⟨e, n, w⟩, fun _ e => ⟨e, rfl⟩⟩
theorem AftS.trans (a : AftS κ σ H ρ κ₁ σ₁ H₁ ρ₁) (b : AftS κ₁ σ₁ H₁ ρ₁ κ' σ' H' ρ') : AftS κ σ H ρ κ' σ' H' ρ' :=
  ⟨a.pre.trans b.pre, fun c o e n w => have q := a.keep c o e n w; b.keep c o q.1 q.2.1 q.2.2, fun j e => ⟨(a.pin j (b.pin j e).1).1, (b.pin j e).2.trans (a.pin j (b.pin j e).1).2⟩⟩
theorem AftS.ret (a : AftS κ σ H ρ κ₁ σ₁ H₁ ρ₁) (b : AftR K κ₁ M σ₁ H₁ ρ₁ κ' H' st') : AftR K κ M σ H ρ κ' H' st' :=
  ⟨a.pre.trans b.pre, fun c o e n w => have q := a.keep c o e n w; b.keep c o q.1 q.2.1 q.2.2, b.cells⟩
/-- the cells, where other lists are hidden -/
theorem Cells.remask {M1 M2 : Addr → Prop} (c : Cells K κ M1 H st) (h : ∀ a, M2 a → M1 a ∨ ∃ o, H a = some o ∧ ∀ ob us, o ≠ .frz ob (.tup us)) (off : ∀ a ∈ κ, ¬ M2 a) : Cells K κ M2 H st where
  len := c.len
  nd := c.nd
  at_ := fun k x e => by
    obtain ⟨a, ds, vs, h1, h2, h3, h4, h5⟩ := c.at_ k x e
    refine ⟨a, ds, vs, h1, h2, h3, DqAll.calm (fun A o us q => ?_) h4 h5, h5⟩
    obtain ⟨n, e⟩ := msk_some.mp q
    refine msk_some.mpr ⟨fun w => ?_, e⟩
    rcases w with w | w
    · exact n (.inl w)
    · rcases h A w with w | ⟨ob, w2, no⟩
      · exact n (.inr w)
      · rw [e] at w2
        cases w2
        exact no o us rfl
  own := fun a m => by
    rcases h a m with m | ⟨vs, e⟩
    · exact c.own a m
    · exact ⟨_, e.1⟩
  off := off
theorem Cells.less {M1 M2 : Addr → Prop} (c : Cells K κ M1 H st) (h : ∀ a, M2 a → M1 a) : Cells K κ M2 H st := c.remask (fun a m => .inl (h a m)) fun a hb m => c.off a hb (h a m)
/-- what an expression of the def doesn't see -/
def HidE (M : Addr → Prop) (ρ : Env) (σ : L2.St) (vis : List Nat) : Addr → Prop := fun a => M a ∨ ∃ (i : Nat) (xs : OC), i ∉ vis ∧ ρ[i]? = some (.own xs) ∧ σ[i]? = some (some (.ref a))
theorem HidE.le {vis : List Nat} (a : Addr) (h : HidE M ρ σ vis a) : Hid2 M ρ σ a := h.imp id fun ⟨i, xs, _, h1, h2⟩ => ⟨i, xs, h1, h2⟩
theorem Rel.envE (r : Rel K κ M H0 σ H ρ st) (vis : List Nat) : EnvE K κ (HidE M ρ σ vis) vis σ H ρ st where
  cells := r.cells.less HidE.le
  ls := r.ls
  slots := fun i hi p e => by
    have sm : Same (msk (Hid κ (Hid2 M ρ σ)) H) (msk (Hid κ (HidE M ρ σ vis)) H) := msk_mono fun b o n e => ⟨fun z => n (z.imp id (HidE.le b)), e⟩
    unfold look at e
    split at e
    · rename_i q hq
      cases e
      obtain ⟨v, h1, h2⟩ := r.sh i _ hq
      exact ⟨v, h1, h2.mono (List.prefix_refl _) sm⟩
    · rename_i xs hq
      cases e
      obtain ⟨a, vs, h1, h2, h3, h4, h5⟩ := r.ow i _ hq
      refine ⟨.ref a, h1, (h3.mono sm).dq (msk_some.mpr ⟨fun z => ?_, h2⟩)⟩
      rcases z with z | z | ⟨j, ys, hj, e1, e2⟩
      · exact r.cells.off a z (.inr ⟨i, xs, hq, h1⟩)
      · exact h4 z
      · exact hj (r.inj i j xs ys a hq e1 h1 e2 ▸ hi)
    · cases e
/-- behind an expression -/
theorem Rel.aft {vis : List Nat} (r : Rel K κ M H0 σ H ρ st) (a : Aft K κ (HidE M ρ σ vis) H κ' H' st') : Rel K κ' M H0 σ H' ρ st' := by
  have own : ∀ b, Own ρ σ b → ∃ o, H b = some o ∧ (∀ ob us, o ≠ .frz ob (.tup us)) ∧ b ∉ κ := fun b ⟨i, xs, e1, e2⟩ => by
    obtain ⟨c, vs, h1, h2, h3, _⟩ := r.ow i xs e1
    rw [e2] at h1
    cases h1
    exact ⟨vs, h2, h3.noTup, fun z => r.cells.off b z (.inr ⟨i, xs, e1, e2⟩)⟩
  have sm : Same (msk (Hid κ (Hid2 M ρ σ)) H) (msk (Hid κ' (Hid2 M ρ σ)) H') := msk_mono fun b o n e => by
    have q := a.keep b o e fun z => n (.inl z)
    exact ⟨fun z => z.elim q.2 fun z => n (.inr z), q.1⟩
  refine ⟨a.cells.remask (fun b h => ?_) (fun b hb h => ?_), r.ls, fun i p e => ?_, fun i xs e => ?_, r.inj, fun b o e => ?_⟩
  · rcases h with h | h
    · exact .inl (.inl h)
    · obtain ⟨vs, h1, no, h2⟩ := own b h
      exact .inr ⟨vs, (a.keep b _ h1 h2).1, no⟩
  · rcases h with h | h
    · exact a.cells.off b hb (.inl h)
    · obtain ⟨vs, h1, _, h2⟩ := own b h
      exact (a.keep b _ h1 h2).2 hb
  · obtain ⟨v, h1, h2⟩ := r.sh i p e
    exact ⟨v, h1, h2.mono a.pre sm⟩
  · obtain ⟨c, vs, h1, h2, h3, h4, h5⟩ := r.ow i xs e
    exact ⟨c, vs, h1, (a.keep c _ h2 fun z => r.cells.off c z (.inr ⟨i, xs, e, h1⟩)).1, h3.mono sm, h4, h5⟩
  · obtain ⟨o', e'⟩ := r.old b o e
    by_cases z : b ∈ κ
    · obtain ⟨vs, e2⟩ := a.cells.has (a.pre.subset z)
      exact ⟨_, e2⟩
    · exact ⟨o', (a.keep b o' e' z).1⟩
theorem Rel.aftS {vis : List Nat} (r : Rel K κ M H0 σ H ρ st) (a : Aft K κ (HidE M ρ σ vis) H κ' H' st') : AftS κ σ H ρ κ' σ H' ρ := ⟨a.pre, fun b o e n w => have q := a.keep b o e n; ⟨q.1, q.2, w⟩, fun _ e => ⟨e, rfl⟩⟩
theorem Rel.aftR {vis : List Nat} (r : Rel K κ M H0 σ H ρ st) (a : Aft K κ (HidE M ρ σ vis) H κ' H' st') : AftR K κ M σ H ρ κ' H' st' := ⟨a.pre, fun b o e n _ => a.keep b o e n, a.cells.less fun _ h => .inl h⟩
theorem pin_set {i j : Nat} {s : Slot} (hs : s ≠ .pin) (e : (ρ.set i s)[j]? = some .pin) : i ≠ j ∧ ρ[j]? = some .pin := by
  by_cases z : i = j
  · subst z
    rw [List.getElem?_set] at e
    simp only [if_true] at e
    split at e
    · exact absurd (Option.some.inj e) hs
    · cases e
  · rw [List.getElem?_set_ne z] at e
    exact ⟨z, e⟩
theorem pin_demote : ∀ {is : List Nat} {ρ : Env} {j : Nat}, (Sw.demote ρ is)[j]? = some .pin → ρ[j]? = some .pin
  | [], ρ, j, e => e
  | i :: is, ρ, j, e => by
    unfold Sw.demote at e
    split at e
    · exact (pin_set (fun z => by cases z) (pin_demote e)).2
    · exact pin_demote e
theorem pin_drop : ∀ {is : List Nat} {ρ : Env} {j : Nat}, (dropE ρ is)[j]? = some .pin → ρ[j]? = some .pin
  | [], ρ, j, e => e
  | i :: is, ρ, j, e => (pin_set (s := .no) (fun z => by cases z) (pin_drop (is := is) (ρ := ρ.set i .no) e)).2
/-- a slot takes a value -/
theorem own_set {i : Nat} {s : Slot} {v : Option V} (hs : ∀ xs, s ≠ .own xs) (b : Addr) (h : Own (ρ.set i s) (σ.set i v) b) : ∃ j xs, j ≠ i ∧ ρ[j]? = some (.own xs) ∧ σ[j]? = some (some (.ref b)) := by
  obtain ⟨j, xs, e1, e2⟩ := h
  by_cases z : i = j
  · subst z
    rw [List.getElem?_set] at e1
    simp only [if_true] at e1
    split at e1
    · exact absurd (Option.some.inj e1) (hs xs)
    · cases e1
  · rw [List.getElem?_set_ne z] at e1 e2
    exact ⟨j, xs, Ne.symm z, e1, e2⟩
theorem Rel.setSh {i : Nat} {v : V} {p : PV} (r : Rel K κ M H0 σ H ρ st) (hi : i < σ.length) (h : Rp K κ (msk (Hid κ (Hid2 M ρ σ)) H) v p) : Rel K κ M H0 (σ.set i (some v)) H (ρ.set i (.sh p)) st := by
  have ns : ∀ xs, Slot.sh p ≠ .own xs := fun _ z => by cases z
  have le : ∀ b, Hid2 M (ρ.set i (.sh p)) (σ.set i (some v)) b → Hid2 M ρ σ b := fun b z => z.imp id fun z => by
    obtain ⟨j, xs, _, e1, e2⟩ := own_set ns b z
    exact ⟨j, xs, e1, e2⟩
  have sm : Same (msk (Hid κ (Hid2 M ρ σ)) H) (msk (Hid κ (Hid2 M (ρ.set i (.sh p)) (σ.set i (some v)))) H) := msk_mono fun b o n e => ⟨fun z => n (z.imp id (le b)), e⟩
  refine ⟨r.cells.less le, by simp [r.ls], fun j q e => ?_, fun j xs e => ?_, fun j k xs ys a e1 e2 e3 e4 => ?_, r.old⟩
  · by_cases z : i = j
    · subst z
      rw [List.getElem?_set_self (by rw [r.ls]; exact hi)] at e
      cases e
      exact ⟨v, List.getElem?_set_self hi, h.mono (List.prefix_refl _) sm⟩
    · rw [List.getElem?_set_ne z] at e
      obtain ⟨w, h1, h2⟩ := r.sh j q e
      exact ⟨w, by rw [List.getElem?_set_ne z]; exact h1, h2.mono (List.prefix_refl _) sm⟩
  · by_cases z : i = j
    · subst z
      rw [List.getElem?_set_self (by rw [r.ls]; exact hi)] at e
      cases e
    · rw [List.getElem?_set_ne z] at e
      obtain ⟨c, vs, h1, h2, h3, h4, h5⟩ := r.ow j xs e
      exact ⟨c, vs, by rw [List.getElem?_set_ne z]; exact h1, h2, h3.mono sm, h4, h5⟩
  · have nz : ∀ {j : Nat} {xs : OC}, (ρ.set i (.sh p))[j]? = some (.own xs) → i ≠ j := fun {j xs} e z => by
      subst z
      rw [List.getElem?_set_self (by rw [r.ls]; exact hi)] at e
      cases e
    have z1 := nz e1
    have z2 := nz e2
    rw [List.getElem?_set_ne z1] at e1 e3
    rw [List.getElem?_set_ne z2] at e2 e4
    exact r.inj j k xs ys a e1 e2 e3 e4
theorem AftS.setSh {i : Nat} {v : Option V} {p : PV} : AftS κ σ H ρ κ (σ.set i v) H (ρ.set i (.sh p)) := ⟨List.prefix_refl _, fun b o e n w => ⟨e, n, fun z => w (by
  obtain ⟨j, xs, _, e1, e2⟩ := own_set (fun _ z => by cases z) b z
  exact ⟨j, xs, e1, e2⟩)⟩, fun j e => have q := pin_set (fun z => by cases z) e; ⟨q.2, List.getElem?_set_ne q.1⟩⟩
/-- a slot gives its list away -/
theorem Rel.share1 {i : Nat} {xs : OC} (r : Rel K κ M H0 σ H ρ st) (h : ρ[i]? = some (.own xs)) : Rel K κ M H0 σ H (ρ.set i (.sh (.d (ocD xs)))) st ∧ ∀ b, Own (ρ.set i (.sh (.d (ocD xs)))) σ b → ∃ j ys, j ≠ i ∧ ρ[j]? = some (.own ys) ∧ σ[j]? = some (some (.ref b)) := by
  obtain ⟨a, vs, h1, h2, h3, h4, h5⟩ := r.ow i xs h
  have hi : i < σ.length := (List.getElem?_eq_some_iff.mp h1).1
  have es : σ.set i (some (.ref a)) = σ := by
    refine List.ext_getElem? fun j => ?_
    by_cases z : i = j
    · subst z
      rw [List.getElem?_set_self hi, h1]
    · rw [List.getElem?_set_ne z]
  have ns : ∀ ys, Slot.sh (.d (ocD xs)) ≠ .own ys := fun _ z => by cases z
  have ow : ∀ b, Own (ρ.set i (.sh (.d (ocD xs)))) σ b → ∃ j ys, j ≠ i ∧ ρ[j]? = some (.own ys) ∧ σ[j]? = some (some (.ref b)) := fun b z => by
    have z' : Own (ρ.set i (.sh (.d (ocD xs)))) (σ.set i (some (.ref a))) b := by rw [es]; exact z
    exact own_set ns b z'
  have le : ∀ b, Hid2 M (ρ.set i (.sh (.d (ocD xs)))) σ b → Hid2 M ρ σ b := fun b z => z.imp id fun z => by
    obtain ⟨j, ys, _, e1, e2⟩ := ow b z
    exact ⟨j, ys, e1, e2⟩
  have sm : Same (msk (Hid κ (Hid2 M ρ σ)) H) (msk (Hid κ (Hid2 M (ρ.set i (.sh (.d (ocD xs)))) σ)) H) := msk_mono fun b o n e => ⟨fun z => n (z.imp id (le b)), e⟩
  have na : ¬ Hid κ (Hid2 M (ρ.set i (.sh (.d (ocD xs)))) σ) a := fun z => by
    rcases z with z | z | z
    · exact r.cells.off a z (.inr ⟨i, xs, h, h1⟩)
    · exact h4 z
    · obtain ⟨j, ys, nj, e1, e2⟩ := ow a z
      exact nj (r.inj j i ys xs a e1 h e2 h1)
  refine ⟨⟨r.cells.less le, by simp [r.ls], fun j q e => ?_, fun j ys e => ?_, fun j k ys zs c e1 e2 e3 e4 => ?_, r.old⟩, ow⟩
  · by_cases z : i = j
    · subst z
      rw [List.getElem?_set_self (by rw [r.ls]; exact hi)] at e
      cases e
      exact ⟨.ref a, h1, (h3.mono sm).dq (msk_some.mpr ⟨na, h2⟩)⟩
    · rw [List.getElem?_set_ne z] at e
      obtain ⟨w, h1, h2⟩ := r.sh j q e
      exact ⟨w, h1, h2.mono (List.prefix_refl _) sm⟩
  · by_cases z : i = j
    · subst z
      rw [List.getElem?_set_self (by rw [r.ls]; exact hi)] at e
      cases e
    · rw [List.getElem?_set_ne z] at e
      obtain ⟨c, vs, h1, h2, h3, h4, h5⟩ := r.ow j ys e
      exact ⟨c, vs, h1, h2, h3.mono sm, h4, h5⟩
  · have nz : ∀ {j : Nat} {ys : OC}, (ρ.set i (.sh (.d (ocD xs))))[j]? = some (.own ys) → i ≠ j := fun {j ys} e z => by
      subst z
      rw [List.getElem?_set_self (by rw [r.ls]; exact hi)] at e
      cases e
    rw [List.getElem?_set_ne (nz e1)] at e1
    rw [List.getElem?_set_ne (nz e2)] at e2
    exact r.inj j k ys zs c e1 e2 e3 e4
theorem Rel.demote : ∀ (is : List Nat) {ρ : Env}, Rel K κ M H0 σ H ρ st → Rel K κ M H0 σ H (Sw.demote ρ is) st ∧ ∀ b, Own (Sw.demote ρ is) σ b → ∃ j ys, j ∉ is ∧ ρ[j]? = some (.own ys) ∧ σ[j]? = some (some (.ref b))
  | [], ρ, r => ⟨r, fun b ⟨j, ys, e1, e2⟩ => ⟨j, ys, by simp, e1, e2⟩⟩
  | i :: is, ρ, r => by
    unfold Sw.demote
    split
    · rename_i xs h
      obtain ⟨r1, o1⟩ := r.share1 h
      obtain ⟨r2, o2⟩ := Rel.demote is r1
      refine ⟨r2, fun b z => ?_⟩
      obtain ⟨j, ys, nj, e1, e2⟩ := o2 b z
      obtain ⟨k, zs, nk, e3, e4⟩ := o1 b ⟨j, ys, e1, e2⟩
      have nij : i ≠ j := fun w => by
        subst w
        have hi : i < ρ.length := (List.getElem?_eq_some_iff.mp h).1
        rw [List.getElem?_set_self hi] at e1
        cases e1
      rw [List.getElem?_set_ne nij] at e1
      exact ⟨j, ys, by simp only [List.mem_cons, not_or]; exact ⟨Ne.symm nij, nj⟩, e1, e2⟩
    · rename_i h
      obtain ⟨r2, o2⟩ := Rel.demote is r
      refine ⟨r2, fun b z => ?_⟩
      obtain ⟨j, ys, nj, e1, e2⟩ := o2 b z
      refine ⟨j, ys, ?_, e1, e2⟩
      simp only [List.mem_cons, not_or]
      exact ⟨fun w => h ys (by rw [← w]; exact e1), nj⟩
theorem AftS.demote {is : List Nat} (r : Rel K κ M H0 σ H ρ st) : AftS κ σ H ρ κ σ H (Sw.demote ρ is) := ⟨List.prefix_refl _, fun b o e n w => ⟨e, n, fun z => w (by
  obtain ⟨j, ys, _, e1, e2⟩ := (r.demote is).2 b z
  exact ⟨j, ys, e1, e2⟩)⟩, fun j e => ⟨pin_demote e, rfl⟩⟩
theorem Rel.settle {b : Bool} {is : List Nat} (r : Rel K κ M H0 σ H ρ st) : Rel K κ M H0 σ H (Sw.settle ρ b is) st := by
  unfold Sw.settle
  cases b with
  | true => exact r
  | false => exact (r.demote is).1
/-- a slot is forgotten -/
theorem Rel.drop1 {i : Nat} (r : Rel K κ M H0 σ H ρ st) : Rel K κ M H0 σ H (ρ.set i .no) st ∧ ∀ b, Own (ρ.set i .no) σ b → Own ρ σ b := by
  have at_ : ∀ (j : Nat) (s : Slot), s ≠ .no → (ρ.set i .no)[j]? = some s → ρ[j]? = some s := fun j s hs e => by
    by_cases z : i = j
    · subst z
      rw [List.getElem?_set] at e
      simp only [if_true] at e
      split at e
      · exact absurd (Option.some.inj e).symm hs
      · cases e
    · rwa [List.getElem?_set_ne z] at e
  have ow : ∀ b, Own (ρ.set i .no) σ b → Own ρ σ b := fun b ⟨j, xs, e1, e2⟩ => ⟨j, xs, at_ j _ (fun z => by cases z) e1, e2⟩
  have le : ∀ b, Hid2 M (ρ.set i .no) σ b → Hid2 M ρ σ b := fun b z => z.imp id (ow b)
  have sm : Same (msk (Hid κ (Hid2 M ρ σ)) H) (msk (Hid κ (Hid2 M (ρ.set i .no) σ)) H) := msk_mono fun b o n e => ⟨fun z => n (z.imp id (le b)), e⟩
  refine ⟨⟨r.cells.less le, by simp [r.ls], fun j q e => ?_, fun j ys e => ?_, fun j k ys zs c e1 e2 e3 e4 => ?_, r.old⟩, ow⟩
  · obtain ⟨w, h1, h2⟩ := r.sh j q (at_ j _ (fun z => by cases z) e)
    exact ⟨w, h1, h2.mono (List.prefix_refl _) sm⟩
  · obtain ⟨c, vs, h1, h2, h3, h4, h5⟩ := r.ow j ys (at_ j _ (fun z => by cases z) e)
    exact ⟨c, vs, h1, h2, h3.mono sm, h4, h5⟩
  · exact r.inj j k ys zs c (at_ j _ (fun z => by cases z) e1) (at_ k _ (fun z => by cases z) e2) e3 e4
theorem Rel.drop : ∀ (is : List Nat) {ρ : Env}, Rel K κ M H0 σ H ρ st → Rel K κ M H0 σ H (dropE ρ is) st ∧ ∀ b, Own (dropE ρ is) σ b → Own ρ σ b
  | [], ρ, r => ⟨r, fun _ z => z⟩
  | i :: is, ρ, r => by
    have q := r.drop1 (i := i)
    have q2 := Rel.drop is q.1
    exact ⟨q2.1, fun b z => q.2 b (q2.2 b z)⟩
theorem AftS.drop {is : List Nat} (r : Rel K κ M H0 σ H ρ st) : AftS κ σ H ρ κ σ H (dropE ρ is) := ⟨List.prefix_refl _, fun b o e n w => ⟨e, n, fun z => w ((r.drop is).2 b z)⟩, fun j e => ⟨pin_drop e, rfl⟩⟩
theorem AftS.settle {b : Bool} {is : List Nat} (r : Rel K κ M H0 σ H ρ st) : AftS κ σ H ρ κ σ H (Sw.settle ρ b is) := by
  unfold Sw.settle
  cases b with
  | true => exact .refl
  | false => exact AftS.demote r
/-- what a kept value leans on is not owned any more -/
theorem Rel.settled {f : Bool} {is : List Nat} {v : V} {p : PV} (r : Rel K κ M H0 σ H ρ st) (h : Rp K κ (msk (Hid κ (HidE M ρ σ is)) H) v p) (nl : f = false ∨ ∀ xs, p ≠ .d (.list xs)) :
    Rp K κ (msk (Hid κ (Hid2 M (Sw.settle ρ (keeps f p) is) σ)) H) v p := by
  by_cases hk : keeps f p = true
  · rw [hk]
    show Rp K κ (msk (Hid κ (Hid2 M ρ σ)) H) v p
    cases p with
    | cell k => exact h
    | exn a d c fs => simp [keeps] at hk
    | two w xs => simp [keeps] at hk
    | d x =>
      have hc : calm x = true := by
        cases x with
        | list xs =>
          rcases nl with nl | nl
          · subst nl
            simp [keeps] at hk
          · exact absurd rfl (nl xs)
        | _ => simpa [keeps] using hk
      refine Dq.calm (fun A o us q => ?_) h hc
      obtain ⟨n, e⟩ := msk_some.mp q
      refine msk_some.mpr ⟨fun w => ?_, e⟩
      rcases w with w | w | ⟨j, ys, e1, e2⟩
      · exact n (.inl w)
      · exact n (.inr (.inl w))
      · obtain ⟨c, vs, h1, h2, h3, _⟩ := r.ow j ys e1
        rw [e2] at h1
        cases h1
        rw [e] at h2
        cases h2
        exact h3.noTup o us rfl
  · have hk' : keeps f p = false := by simpa using hk
    rw [hk']
    refine h.mono (List.prefix_refl _) (msk_mono fun b o n e => ⟨fun z => n (z.imp id fun z => ?_), e⟩)
    rcases z with z | z
    · exact .inl z
    · obtain ⟨j, ys, nj, e1, e2⟩ := (r.demote is).2 b z
      exact .inr ⟨j, ys, nj, e1, e2⟩
/-- a new list is taken by a slot -/
theorem Rel.setOw {i : Nat} {a : Addr} {vs : HO} {xs : OC} {ρ2 : Env} {Hb : Hp} {κb : List Addr} {stb : Store} (rb : Rel K κb M H0 σ Hb ρ2 stb) (pre : κb <+: κ) (keep : ∀ b o, Hb b = some o → b ∉ κb → H b = some o ∧ b ∉ κ) (r : Rel K κ M H0 σ H ρ2 st)
    (na : Hb a = none) (ha : H a = some vs) (nk : a ∉ κ) (hd : OcR K (msk (fun b => Hid κ (Hid2 M ρ2 σ) b ∨ b = a) H) a vs xs) (hi : i < σ.length) : Rel K κ M H0 (σ.set i (some (.ref a))) H (ρ2.set i (.own xs)) st := by
  have nM : ¬ M a := fun z => rb.cells.free na (.inr (.inl z))
  have nO : ¬ Own ρ2 σ a := fun z => by
    obtain ⟨j, ys, e1, e2⟩ := z
    obtain ⟨c, ws, h1, h2, _⟩ := rb.ow j ys e1
    rw [e2] at h1
    cases h1
    rw [na] at h2
    cases h2
  have smb : Same (msk (Hid κb (Hid2 M ρ2 σ)) Hb) (msk (Hid κ (fun b => Hid2 M ρ2 σ b ∨ b = a)) H) := msk_mono fun b o n e => by
    have q := keep b o e fun z => n (.inl z)
    have nb : b ≠ a := ne_of_none e na
    exact ⟨fun z => z.elim q.2 fun z => z.elim (fun z => n (.inr z)) nb, q.1⟩
  have sub : ∀ (j : Nat) (p : PV), ρ2[j]? = some (.sh p) → ∃ v, σ[j]? = some (some v) ∧ Rp K κ (msk (Hid κ (fun b => Hid2 M ρ2 σ b ∨ b = a)) H) v p := fun j p e => by
    obtain ⟨v, h1, h2⟩ := rb.sh j p e
    exact ⟨v, h1, h2.mono pre smb⟩
  have subw : ∀ (j : Nat) (ys : OC), ρ2[j]? = some (.own ys) → ∃ c ws, σ[j]? = some (some (.ref c)) ∧ H c = some ws ∧ OcR K (msk (Hid κ (fun b => Hid2 M ρ2 σ b ∨ b = a)) H) c ws ys := fun j ys e => by
    obtain ⟨c, ws, h1, h2, h3, _⟩ := rb.ow j ys e
    exact ⟨c, ws, h1, (keep c _ h2 fun z => rb.cells.off c z (.inr ⟨j, ys, e, h1⟩)).1, h3.mono smb⟩
  have own : ∀ b, Own (ρ2.set i (.own xs)) (σ.set i (some (.ref a))) b → Own ρ2 σ b ∨ b = a := fun b ⟨j, ys, e1, e2⟩ => by
    by_cases z : i = j
    · subst z
      rw [List.getElem?_set_self hi] at e2
      cases e2
      exact .inr rfl
    · rw [List.getElem?_set_ne z] at e1 e2
      exact .inl ⟨j, ys, e1, e2⟩
  have le2 : ∀ b, Hid2 M (ρ2.set i (.own xs)) (σ.set i (some (.ref a))) b → Hid2 M ρ2 σ b ∨ b = a := fun b z => z.elim (fun z => .inl (.inl z)) fun z => (own b z).imp .inr id
  have sm : Same (msk (Hid κ (fun b => Hid2 M ρ2 σ b ∨ b = a)) H) (msk (Hid κ (Hid2 M (ρ2.set i (.own xs)) (σ.set i (some (.ref a))))) H) := msk_mono fun b o n e => ⟨fun z => n (z.imp id (le2 b)), e⟩
  have sm2 : Same (msk (fun b => Hid κ (Hid2 M ρ2 σ) b ∨ b = a) H) (msk (Hid κ (fun b => Hid2 M ρ2 σ b ∨ b = a)) H) := msk_mono fun b o n e => ⟨fun z => n (z.elim (fun z => .inl (.inl z)) fun z => z.elim (fun z => .inl (.inr z)) .inr), e⟩
  have nH0 : H0 a = none := by
    cases e : H0 a with
    | none => rfl
    | some o =>
      obtain ⟨o', e'⟩ := rb.old a o e
      rw [na] at e'
      cases e'
  refine ⟨r.cells.remask (fun b h => ?_) (fun b hb h => ?_), by simp [r.ls], fun j q e => ?_, fun j ys e => ?_, fun j k ys zs c e1 e2 e3 e4 => ?_, r.old⟩
  · rcases le2 b h with h | rfl
    · exact .inl h
    · exact .inr ⟨vs, ha, hd.noTup⟩
  · rcases le2 b h with h | rfl
    · exact r.cells.off b hb h
    · exact nk hb
  · by_cases z : i = j
    · subst z
      rw [List.getElem?_set_self (by rw [r.ls]; exact hi)] at e
      cases e
    · rw [List.getElem?_set_ne z] at e
      obtain ⟨w, h1, h2⟩ := sub j q e
      exact ⟨w, by rw [List.getElem?_set_ne z]; exact h1, h2.mono (List.prefix_refl _) sm⟩
  · by_cases z : i = j
    · subst z
      rw [List.getElem?_set_self (by rw [r.ls]; exact hi)] at e
      cases e
      exact ⟨a, vs, List.getElem?_set_self hi, ha, (hd.mono sm2).mono sm, nM, nH0⟩
    · rw [List.getElem?_set_ne z] at e
      obtain ⟨c, ws, h1, h2, h3⟩ := subw j ys e
      obtain ⟨c', _, h1', _, _, h4, h5⟩ := r.ow j ys e
      rw [h1] at h1'
      cases h1'
      exact ⟨c, ws, by rw [List.getElem?_set_ne z]; exact h1, h2, h3.mono sm, h4, h5⟩
  · by_cases z : i = j
    · by_cases z' : i = k
      · exact z.symm.trans z'
      · subst z
        rw [List.getElem?_set_self hi] at e3
        cases e3
        rw [List.getElem?_set_ne z'] at e2 e4
        exact absurd ⟨k, zs, e2, e4⟩ nO
    · by_cases z' : i = k
      · subst z'
        rw [List.getElem?_set_self hi] at e4
        cases e4
        rw [List.getElem?_set_ne z] at e1 e3
        exact absurd ⟨j, ys, e1, e3⟩ nO
      · rw [List.getElem?_set_ne z] at e1 e3
        rw [List.getElem?_set_ne z'] at e2 e4
        exact r.inj j k ys zs c e1 e2 e3 e4
/-- a target has taken a value -/
theorem Rel.took {l : List Nat} (r : Rel K κ M H0 σ H ρ st) (t : Took K (msk (Hid κ (Hid2 M ρ σ)) H) l σ σ' ρ ρ') : Rel K κ M H0 σ' H ρ' st ∧ AftS κ σ H ρ κ σ' H ρ' := by
  have own : ∀ {j : Nat} {xs : OC}, ρ'[j]? = some (.own xs) → j ∉ l := fun {j xs} e z => by
    obtain ⟨y, u, e1, _⟩ := t.on j z
    rw [e] at e1
    cases e1
  have le : ∀ b, Own ρ' σ' b → Own ρ σ b := fun b ⟨j, xs, e1, e2⟩ => by
    have q := t.off j (own e1)
    exact ⟨j, xs, q.2 ▸ e1, q.1 ▸ e2⟩
  have le2 : ∀ b, Hid2 M ρ' σ' b → Hid2 M ρ σ b := fun b z => z.imp id (le b)
  have sm : Same (msk (Hid κ (Hid2 M ρ σ)) H) (msk (Hid κ (Hid2 M ρ' σ')) H) := msk_mono fun b o n e => ⟨fun z => n (z.imp id (le2 b)), e⟩
  refine ⟨⟨r.cells.less le2, by rw [t.lr, t.ls]; exact r.ls, fun j p e => ?_, fun j xs e => ?_, fun j k xs ys a e1 e2 e3 e4 => ?_, r.old⟩, List.prefix_refl _, fun b o e n w => ⟨e, n, fun z => w (le b z)⟩, fun j e => ?_⟩
  · by_cases z : j ∈ l
    · obtain ⟨y, u, e1, e2, e3⟩ := t.on j z
      rw [e] at e1
      cases e1
      exact ⟨u, e2, e3.mono sm⟩
    · have q := t.off j z
      obtain ⟨v, h1, h2⟩ := r.sh j p (q.2 ▸ e)
      exact ⟨v, by rw [q.1]; exact h1, h2.mono (List.prefix_refl _) sm⟩
  · have q := t.off j (own e)
    obtain ⟨c, vs, h1, h2, h3, h4, h5⟩ := r.ow j xs (q.2 ▸ e)
    exact ⟨c, vs, by rw [q.1]; exact h1, h2, h3.mono sm, h4, h5⟩
  · have q1 := t.off j (own e1)
    have q2 := t.off k (own e2)
    exact r.inj j k xs ys a (q1.2 ▸ e1) (q2.2 ▸ e2) (q1.1 ▸ e3) (q2.1 ▸ e4)
  · have nj : j ∉ l := fun z => by
      obtain ⟨y, u, e1, _⟩ := t.on j z
      rw [e] at e1
      cases e1
    have q := t.off j nj
    exact ⟨q.2 ▸ e, q.1⟩
/-- what is not owned stays where an owned list is changed -/
theorem Rel.upd_mask {i : Nat} {a : Addr} {xs ys : OC} {u : HO} (r : Rel K κ M H0 σ H ρ st) (hi : ρ[i]? = some (.own xs)) (ha : σ[i]? = some (some (.ref a))) :
    Same (msk (Hid κ (Hid2 M ρ σ)) H) (msk (Hid κ (Hid2 M (ρ.set i (.own ys)) σ)) (L2.upd H a u)) := msk_mono fun b o n e => by
  have nb : b ≠ a := fun z => n (.inr (.inr (z ▸ ⟨i, xs, hi, ha⟩)))
  refine ⟨fun z => n (z.imp id fun z => z.imp id ?_), by rw [upd_ne nb]; exact e⟩
  rintro ⟨j, zs, e1, e2⟩
  by_cases z : i = j
  · subst z
    exact ⟨i, xs, hi, e2⟩
  · rw [List.getElem?_set_ne z] at e1
    exact ⟨j, zs, e1, e2⟩
/-- an owned list is changed -/
theorem Rel.updO {i : Nat} {a : Addr} {xs ys : OC} {ws : HO} (r : Rel K κ M H0 σ H ρ st) (hi : ρ[i]? = some (.own xs)) (ha : σ[i]? = some (some (.ref a))) (hd : OcR K (msk (Hid κ (Hid2 M ρ σ)) H) a ws ys) :
    Rel K κ M H0 σ (L2.upd H a ws) (ρ.set i (.own ys)) st ∧ AftS κ σ H ρ κ σ (L2.upd H a ws) (ρ.set i (.own ys)) := by
  have hil : i < ρ.length := (List.getElem?_eq_some_iff.mp hi).1
  have oa : Own ρ σ a := ⟨i, xs, hi, ha⟩
  have own : ∀ b, Own (ρ.set i (.own ys)) σ b ↔ Own ρ σ b := fun b => by
    constructor
    · rintro ⟨j, zs, e1, e2⟩
      by_cases z : i = j
      · subst z
        exact ⟨i, xs, hi, e2⟩
      · rw [List.getElem?_set_ne z] at e1
        exact ⟨j, zs, e1, e2⟩
    · rintro ⟨j, zs, e1, e2⟩
      by_cases z : i = j
      · subst z
        exact ⟨i, ys, List.getElem?_set_self hil, e2⟩
      · exact ⟨j, zs, by rw [List.getElem?_set_ne z]; exact e1, e2⟩
  have ow2 : ∀ b, Hid2 M (ρ.set i (.own ys)) σ b ↔ Hid2 M ρ σ b := fun b => or_congr Iff.rfl (own b)
  have sm : Same (msk (Hid κ (Hid2 M ρ σ)) H) (msk (Hid κ (Hid2 M (ρ.set i (.own ys)) σ)) (L2.upd H a ws)) := msk_mono fun b o n e => by
    have nb : b ≠ a := fun z => n (.inr (.inr (z ▸ oa)))
    exact ⟨fun z => n (z.imp id (ow2 b).mp), by rw [upd_ne nb]; exact e⟩
  have nka : a ∉ κ := fun z => r.cells.off a z (.inr oa)
  refine ⟨⟨⟨r.cells.len, r.cells.nd, fun k x e => ?_, fun b hb => ?_, fun b hb hm => r.cells.off b hb ((ow2 b).mp hm)⟩, by simp [r.ls], fun j p e => ?_, fun j zs e => ?_, fun j k zs us c e1 e2 e3 e4 => ?_, fun b o e => ?_⟩, List.prefix_refl _, fun b o e n w => ?_, fun j e => ⟨(pin_set (fun z => by cases z) e).2, rfl⟩⟩
  · obtain ⟨A, ds, vs, h1, h2, h3, h4, h5⟩ := r.cells.at_ k x e
    have nA : A ≠ a := fun z => nka (z ▸ List.mem_of_getElem? h1)
    exact ⟨A, ds, vs, h1, h2, by rw [upd_ne nA]; exact h3, h4.mono sm, h5⟩
  · by_cases z : b = a
    · rw [z]; exact ⟨_, upd_same⟩
    · obtain ⟨o, e⟩ := r.cells.own b ((ow2 b).mp hb)
      exact ⟨o, by rw [upd_ne z]; exact e⟩
  · by_cases z : i = j
    · subst z
      rw [List.getElem?_set_self hil] at e
      cases e
    · rw [List.getElem?_set_ne z] at e
      obtain ⟨v, h1, h2⟩ := r.sh j p e
      exact ⟨v, h1, h2.mono (List.prefix_refl _) sm⟩
  · by_cases z : i = j
    · subst z
      rw [List.getElem?_set_self hil] at e
      cases e
      obtain ⟨c, vs, h1, _, _, h4, h5⟩ := r.ow i xs hi
      rw [ha] at h1
      cases h1
      exact ⟨a, ws, ha, upd_same, hd.mono sm, h4, h5⟩
    · rw [List.getElem?_set_ne z] at e
      obtain ⟨c, vs, h1, h2, h3, h4, h5⟩ := r.ow j zs e
      have nc : c ≠ a := fun w => z (r.inj i j xs zs a hi e ha (w ▸ h1))
      exact ⟨c, vs, h1, by rw [upd_ne nc]; exact h2, h3.mono sm, h4, h5⟩
  · have back : ∀ {j : Nat} {zs : OC}, (ρ.set i (.own ys))[j]? = some (.own zs) → ∃ zs', ρ[j]? = some (.own zs') := fun {j zs} e => by
      by_cases z : i = j
      · subst z; exact ⟨xs, hi⟩
      · rw [List.getElem?_set_ne z] at e; exact ⟨zs, e⟩
    obtain ⟨z1, e1⟩ := back e1
    obtain ⟨z2, e2⟩ := back e2
    exact r.inj j k z1 z2 c e1 e2 e3 e4
  · by_cases z : b = a
    · rw [z]; exact ⟨_, upd_same⟩
    · obtain ⟨o', e'⟩ := r.old b o e
      exact ⟨o', by rw [upd_ne z]; exact e'⟩
  · have nb : b ≠ a := fun z => w (z ▸ oa)
    exact ⟨by rw [upd_ne nb]; exact e, n, fun z => w ((own b).mp z)⟩
theorem Rel.upd {i : Nat} {a : Addr} {xs ys : List D} {ws : List V} (r : Rel K κ M H0 σ H ρ st) (hi : ρ[i]? = some (.own (.l xs))) (ha : σ[i]? = some (some (.ref a))) (hd : DqAll K (msk (Hid κ (Hid2 M ρ σ)) H) ws ys) :
    Rel K κ M H0 σ (L2.upd H a (.lst ws)) (ρ.set i (.own (.l ys))) st ∧ AftS κ σ H ρ κ σ (L2.upd H a (.lst ws)) (ρ.set i (.own (.l ys))) := r.updO (ys := .l ys) hi ha ⟨ws, rfl, hd⟩
theorem Rel.owL (r : Rel K κ M H0 σ H ρ st) (i : Nat) (xs : List D) (e : ρ[i]? = some (.own (.l xs))) : ∃ a vs, σ[i]? = some (some (.ref a)) ∧ H a = some (.lst vs) ∧ DqAll K (msk (Hid κ (Hid2 M ρ σ)) H) vs xs ∧ ¬ M a ∧ H0 a = none := by
  obtain ⟨a, o, h1, h2, ⟨vs, rfl, h3⟩, h4, h5⟩ := r.ow i _ e
  exact ⟨a, vs, h1, h2, h3, h4, h5⟩
/-- a cell's list is changed -/
theorem Rel.updCell {c : Nat} {a : Addr} {ys : List D} {ws : List V} (r : Rel K κ M H0 σ H ρ st) (hc : κ[c]? = some a) (hl : c < st.length) (hd : DqAll K (msk (Hid κ (Hid2 M ρ σ)) H) ws ys) (hcm : calmAll ys = true) :
    Rel K κ M H0 σ (L2.upd H a (.lst ws)) ρ (st.set c (.list ys)) ∧ AftS κ σ H ρ κ σ (L2.upd H a (.lst ws)) ρ := by
  have hk : a ∈ κ := List.mem_of_getElem? hc
  have sm : Same (msk (Hid κ (Hid2 M ρ σ)) H) (msk (Hid κ (Hid2 M ρ σ)) (L2.upd H a (.lst ws))) := msk_mono fun b o n e => by
    have nb : b ≠ a := fun z => n (.inl (z ▸ hk))
    exact ⟨n, by rw [upd_ne nb]; exact e⟩
  refine ⟨⟨⟨by simp [r.cells.len], r.cells.nd, fun k x e => ?_, fun b hb => ?_, r.cells.off⟩, r.ls, fun j p e => ?_, fun j zs e => ?_, r.inj, fun b o e => ?_⟩, List.prefix_refl _, fun b o e n w => ?_, fun j e => ⟨e, rfl⟩⟩
  · by_cases z : c = k
    · subst z
      rw [List.getElem?_set_self hl] at e
      cases e
      exact ⟨a, ys, ws, hc, rfl, upd_same, hd.mono sm, hcm⟩
    · rw [List.getElem?_set_ne z] at e
      obtain ⟨A, ds, vs, h1, h2, h3, h4, h5⟩ := r.cells.at_ k x e
      have nA : A ≠ a := fun w => by
        subst w
        exact z (nodup_ixA r.cells.nd hc h1)
      exact ⟨A, ds, vs, h1, h2, by rw [upd_ne nA]; exact h3, h4.mono sm, h5⟩
  · by_cases z : b = a
    · rw [z]; exact ⟨_, upd_same⟩
    · obtain ⟨o, e⟩ := r.cells.own b hb
      exact ⟨o, by rw [upd_ne z]; exact e⟩
  · obtain ⟨v, h1, h2⟩ := r.sh j p e
    exact ⟨v, h1, h2.mono (List.prefix_refl _) sm⟩
  · obtain ⟨A, vs, h1, h2, h3, h4, h5⟩ := r.ow j zs e
    have nA : A ≠ a := fun w => r.cells.off A (w ▸ hk) (.inr ⟨j, zs, e, h1⟩)
    exact ⟨A, vs, h1, by rw [upd_ne nA]; exact h2, h3.mono sm, h4, h5⟩
  · by_cases z : b = a
    · rw [z]; exact ⟨_, upd_same⟩
    · obtain ⟨o', e'⟩ := r.old b o e
      exact ⟨o', by rw [upd_ne z]; exact e'⟩
  · have nb : b ≠ a := fun z => n (z ▸ hk)
    exact ⟨by rw [upd_ne nb]; exact e, n, w⟩
end
end Sw

set_option Elab.async false
set_option linter.all false
set_option maxRecDepth 100000
set_option maxHeartbeats 1000000
/-! The rules for statements. -/
namespace Sw
open PySem PySem.Spec PyProof.Rows L2

def GoalS (K : PySem.W.Frag) (xc : Nat → Addr) (W : WX) (H0 : Hp) (κ : List Addr) (M : Addr → Prop) (σ : L2.St) (H : Hp) (ρ : Env) (r : Res Out) (D : Ends) : Prop :=
  match r with
  | .ok (.next ρ') st' => ∀ κ' σ' H', AftS κ σ H ρ κ' σ' H' ρ' → Rel K κ' M H0 σ' H' ρ' st' → D.nx σ' H'
  | .ok (.ret p n) st' => ∀ κ' H' v, AftR K κ M σ H ρ κ' H' st' → Rp K κ' (msk (Hid κ' M) H') v p → (n = true → NewP K κ' M H0 H' v p) → D.rt v H'
  | .exc c fs st' => ∀ κ' σ' H' cls d, AftR K κ M σ H ρ κ' H' st' → XRel K xc κ' M H' c fs cls d → W cls d σ' H'
  | .stuck => False
def rdS (Γ : Ctx) (K : PySem.W.Frag) (xc : Nat → Addr) (W : WX) (H0 : Hp) (s : S) : TS := fun D σ H => ∃ κ M ρ st, Rel K κ M H0 σ H ρ st ∧ GoalS K xc W H0 κ M σ H ρ (run Γ s ρ st) D
section
variable {K : PySem.W.Frag} {xc : Nat → Addr} {W : WX} {Γ : Ctx} {κ κ' κ₁ : List Addr} {M : Addr → Prop} {H0 H H' H₁ : Hp} {σ σ' σ₁ : L2.St} {ρ ρ' ρ₁ : Env} {st st' : Store} {D : Ends}
theorem XRel.mono {c : Nat} {fs : List (Str × Sw.D)} {cls : Value} {d : Option Addr} {M1 M2 : Addr → Prop} (h : XRel K xc κ M1 H c fs cls d) (le : ∀ a, M2 a → M1 a) : XRel K xc κ M2 H c fs cls d :=
  ⟨h.1, h.2.1, h.2.2.mono (msk_mono fun b o n e => ⟨fun z => n (z.imp id (le b)), e⟩)⟩
theorem GoalS.shift {r : Res Out} (a : AftS κ σ H ρ κ₁ σ₁ H₁ ρ₁) (g : GoalS K xc W H0 κ M σ H ρ r D) : GoalS K xc W H0 κ₁ M σ₁ H₁ ρ₁ r D := by
  match r, g with
  | .ok (.next ρ') st', g => exact fun κ' σ' H' b rl => g κ' σ' H' (a.trans b) rl
  | .ok (.ret p n) st', g => exact fun κ' H' v b rp nw => g κ' H' v (a.ret b) rp nw
  | .exc c fs st', g => exact fun κ' σ' H' cls d b x => g κ' σ' H' cls d (a.ret b) x
  | .stuck, g => exact g
theorem NewL.entry {v : V} {xs : List Sw.D} {M1 : Addr → Prop} (old : ∀ a o, H0 a = some o → ∃ o', H a = some o') (le : ∀ a, M a → M1 a) (h : NewL K κ' M1 H H' v xs) : NewL K κ' M H0 H' v xs := by
  obtain ⟨a, vs, h1, h2, h3, h4, h5⟩ := h
  refine ⟨a, vs, h1, ?_, h3, h4, h5.mono (msk_mono fun b o n e => ⟨fun z => n (z.imp (fun z => z.imp id (le b)) id), e⟩)⟩
  cases e : H0 a with
  | none => rfl
  | some o =>
    obtain ⟨o', e'⟩ := old a o e
    rw [h2] at e'
    cases e'
theorem NewP.entry {v : V} {p : PV} {M1 : Addr → Prop} (old : ∀ a o, H0 a = some o → ∃ o', H a = some o') (le : ∀ a, M a → M1 a) (h : NewP K κ' M1 H H' v p) : NewP K κ' M H0 H' v p := by
  match p, h with
  | .d (.list xs), h => exact NewL.entry old le h
  | .two w xs, ⟨t, l, e, s, h⟩ => exact ⟨t, l, e, s, NewL.entry old le h⟩
  | .d .none, _ | .d (.bool _), _ | .d (.int _), _ | .d (.str _), _ | .d (.tuple _), _ | .d (.dict _), _ | .cell _, _ | .exn _ _ _ _, _ => trivial
/-- an expression ahead of the rest of a statement -/
theorem GoalS.expr {e : E} {f : PV → Store → Res Out} {Q : VK} (r : Rel K κ M H0 σ H ρ st) (g : GoalS K xc W H0 κ M σ H ρ ((den Γ e ρ st).bind f) D)
    (h : ∀ p st' κ' H' v, den Γ e ρ st = .ok p st' → Aft K κ (HidE M ρ σ (occ e)) H κ' H' st' → Rp K κ' (msk (Hid κ' (HidE M ρ σ (occ e))) H') v p → (fresh Γ.fresh e = true → NewP K κ' (HidE M ρ σ (occ e)) H H' v p) →
      GoalS K xc W H0 κ M σ H ρ (f p st') D → Q v H') : rdE Γ K xc W e σ H Q := by
  refine ⟨κ, HidE M ρ σ (occ e), ρ, st, r.envE _, ?_⟩
  cases hd : den Γ e ρ st with
  | stuck => rw [hd] at g; exact g.elim
  | exc c fs st' =>
    rw [hd] at g
    exact fun κ' H' cls d a x => g κ' σ H' cls d (r.aftR a) (x.mono fun _ z => .inl z)
  | ok p st' =>
    rw [hd] at g
    exact fun κ' H' v a rp nw => h p st' κ' H' v hd a rp nw g
/-- a test ahead of it -/
theorem GoalS.test {e : E} {f : Bool → Store → Res Out} {Q : Bool → Hp → Prop} (r : Rel K κ M H0 σ H ρ st) (g : GoalS K xc W H0 κ M σ H ρ ((den Γ e ρ st).bind fun p st => match p with
      | .d (.bool k) => f k st
      | _ => .stuck) D)
    (h : ∀ k st' κ' H', AftS κ σ H ρ κ' σ H' ρ → Rel K κ' M H0 σ H' ρ st' → GoalS K xc W H0 κ' M σ H' ρ (f k st') D → Q k H') : rdT Γ K xc W e σ H Q := by
  refine ⟨κ, HidE M ρ σ (occ e), ρ, st, r.envE _, ?_⟩
  cases hd : den Γ e ρ st with
  | stuck => rw [hd] at g; exact g.elim
  | exc c fs st' =>
    rw [hd] at g
    exact fun κ' H' cls d a x => g κ' σ H' cls d (r.aftR a) (x.mono fun _ z => .inl z)
  | ok p st' =>
    rw [hd] at g
    intro κ' H' v a rp _
    cases p with
    | d x =>
      cases x with
      | bool k =>
        have ev := Dq.bool_inv rp
        subst ev
        exact ⟨k, rfl, h k st' κ' H' (r.aftS a) (r.aft a) (GoalS.shift (r.aftS a) g)⟩
      | _ => exact g.elim
    | _ => exact g.elim
end
section
variable {X : Cx} {Γ : Ctx} {xc : Nat → Addr} {W : WX} {H0 : Hp} {k : Nat} {nm : Nm} {e c : Expr} {stm : Stmt} {stms ss : List Stmt} {pos p : Pos} {ce cc : E} {sa sb : S}
theorem psI {t t' : TS} (h : PS X stm t) (i : ∀ D σ H, σ.length = X.N.length → t' D σ H → t D σ H) : PS X stm t' := ⟨fun pins s σ H D I q => h.run pins s σ H D I (i D σ H I.len q)⟩
theorem pssI {t t' : TS} (h : PSs X stms t) (i : ∀ D σ H, σ.length = X.N.length → t' D σ H → t D σ H) : PSs X stms t' := ⟨fun pins s σ H D I q => h.run pins s σ H D I (i D σ H I.len q)⟩
theorem b_nil : PSs X [] (rdS Γ X.K xc W H0 .skip) := pssI pss_nil fun D σ H _ ⟨κ, M, ρ, st, r, g⟩ => g κ σ H AftS.refl r
theorem b_cons (h1 : PS X stm (rdS Γ X.K xc W H0 sa)) (h2 : PSs X stms (rdS Γ X.K xc W H0 sb)) : PSs X (stm :: stms) (rdS Γ X.K xc W H0 (.seq sa sb)) := pssI (pss_cons h1 h2) fun D σ H _ ⟨κ, M, ρ, st, r, g⟩ => by
  refine ⟨κ, M, ρ, st, r, ?_⟩
  simp only [run] at g
  match hr : run Γ sa ρ st, g with
  | .ok (.next ρ') st', g => exact fun κ' σ' H' a r' => ⟨κ', M, ρ', st', r', GoalS.shift a g⟩
  | .ok (.ret q n) st', g => exact g
  | .exc c fs st', g => exact g
  | .stuck, g => exact g
theorem s_set {i : Nat} {own : Bool} (h : PS X stm (tAsg (rdE Γ X.K xc W ce) (gName i))) (hi : i < X.N.length) (ho : own = true → fresh Γ.fresh ce = true) : PS X stm (rdS Γ X.K xc W H0 (.set i own ce)) := psI h fun D σ H hl ⟨κ, M, ρ, st, r, g⟩ => by
  simp only [run] at g
  refine GoalS.expr r g fun p st' κ' H' v ed a rp nw g' => ?_
  have hi' : i < σ.length := by rw [hl]; exact hi
  have ra := r.aft a
  cases own with
  | false =>
    simp only [Bool.false_eq_true, if_false] at g'
    cases hf : fresh Γ.fresh ce with
    | false =>
      rw [hf] at g'
      have rv := Rel.settled (f := false) ra rp (.inl rfl)
      exact g' κ' _ H' ((r.aftS a).trans ((AftS.settle ra).trans .setSh)) (ra.settle.setSh hi' rv)
    | true =>
      rw [hf] at g'
      by_cases hlst : ∃ xs, p = .d (.list xs)
      · obtain ⟨xs, rfl⟩ := hlst
        obtain ⟨A, vs, rfl, n1, n2, n3, n4⟩ := nw hf
        have rs : Rel X.K κ' M H0 σ H' (settle ρ (keeps true (.d (.list xs))) (occ ce)) st' := ra.settle
        refine g' κ' _ H' ((r.aftS a).trans ((AftS.settle ra).trans .setSh)) (rs.setSh hi' ?_)
        -- the list is new, its items lean on nothing owned
        have nA : ¬ Hid κ' (Hid2 M (settle ρ (keeps true (.d (.list xs))) (occ ce)) σ) A := fun z => by
          rcases z with z | z | ⟨j, ys, e1, e2⟩
          · exact n3 z
          · exact r.cells.free n1 (.inr (.inl z))
          · obtain ⟨c, ws, h1, h2, _⟩ := (r.settle (b := keeps true (.d (.list xs))) (is := occ ce)).ow j ys e1
            rw [e2] at h1
            cases h1
            rw [n1] at h2
            cases h2
        refine Dq.lst (SqL.of (msk_some.mpr ⟨nA, n2⟩)) ?_
        by_cases hk : keeps true (.d (.list xs)) = true
        · rw [hk]
          refine DqAll.calm (fun B o us q => ?_) n4 (by simpa [keeps] using hk)
          obtain ⟨n, e⟩ := msk_some.mp q
          refine msk_some.mpr ⟨fun w => ?_, e⟩
          rcases w with w | w | ⟨j, ys, e1, e2⟩
          · exact n (.inl (.inl w))
          · exact n (.inl (.inr (.inl w)))
          · obtain ⟨c, vs, h1, h2, h3, _⟩ := ra.ow j ys e1
            rw [e2] at h1
            cases h1
            rw [e] at h2
            cases h2
            exact h3.noTup o us rfl
        · have hk' : keeps true (.d (.list xs)) = false := by simpa using hk
          rw [hk']
          refine n4.mono (msk_mono fun b o n e => ⟨fun z => n (.inl (z.imp id fun z => ?_)), e⟩)
          rcases z with z | z
          · exact .inl z
          · obtain ⟨j, ys, nj, e1, e2⟩ := (ra.demote (occ ce)).2 b z
            exact .inr ⟨j, ys, nj, e1, e2⟩
      · have rv := Rel.settled (f := true) ra rp (.inr fun xs e => hlst ⟨xs, e⟩)
        exact g' κ' _ H' ((r.aftS a).trans ((AftS.settle ra).trans .setSh)) (ra.settle.setSh hi' rv)
  | true =>
    have hf := ho rfl
    simp only [if_true] at g'
    rw [hf] at g'
    cases p with
    | d x =>
      cases x with
      | list xs =>
        obtain ⟨A, vs, rfl, n1, n2, n3, n4⟩ := nw hf
        have rs : Rel X.K κ' M H0 σ H' (settle ρ (keeps true (.d (.list xs))) (occ ce)) st' := ra.settle
        have rb : Rel X.K κ M H0 σ H (settle ρ (keeps true (.d (.list xs))) (occ ce)) st := r.settle
        refine g' κ' _ H' ?_ (rb.setOw a.pre (fun b o e n => a.keep b o e n) rs n1 n2 n3 ⟨vs, rfl, ?_⟩ hi')
        · refine ⟨a.pre, fun b o e n w => ?_, fun j e => have q := pin_set (fun z => by cases z) e; ⟨((AftS.settle r (b := keeps true (.d (.list xs))) (is := occ ce)).pin j q.2).1, List.getElem?_set_ne q.1⟩⟩
          have q := a.keep b o e n
          refine ⟨q.1, q.2, fun ⟨j, ys, e1, e2⟩ => ?_⟩
          by_cases z : i = j
          · subst z
            rw [List.getElem?_set_self hi'] at e2
            cases e2
            rw [n1] at e
            cases e
          · rw [List.getElem?_set_ne z] at e1 e2
            exact ((AftS.settle r (b := keeps true (.d (.list xs))) (is := occ ce)).keep b o e n w).2.2 ⟨j, ys, e1, e2⟩
        · by_cases hk : keeps true (.d (.list xs)) = true
          · rw [hk]
            refine DqAll.calm (fun B o us q => ?_) n4 (by simpa [keeps] using hk)
            obtain ⟨n, e⟩ := msk_some.mp q
            refine msk_some.mpr ⟨fun w => ?_, e⟩
            rcases w with (w | w | ⟨j, ys, e1, e2⟩) | w
            · exact n (.inl (.inl w))
            · exact n (.inl (.inr (.inl w)))
            · obtain ⟨c, vs, h1, h2, h3, _⟩ := ra.ow j ys e1
              rw [e2] at h1
              cases h1
              rw [e] at h2
              cases h2
              exact h3.noTup o us rfl
            · exact n (.inr w)
          · have hk' : keeps true (.d (.list xs)) = false := by simpa using hk
            rw [hk']
            refine n4.mono (msk_mono fun b o n e => ⟨fun z => n (z.imp (fun z => z.imp id fun z => ?_) id), e⟩)
            rcases z with z | z
            · exact .inl z
            · obtain ⟨j, ys, nj, e1, e2⟩ := (ra.demote (occ ce)).2 b z
              exact .inr ⟨j, ys, nj, e1, e2⟩
      | _ => exact g'.elim
    | _ => exact g'.elim
theorem s_exp (he : PE X e (rdE Γ X.K xc W ce)) (hs : swapsWith e none pos.line X.env = pure false) : PS X (.Expr e pos) (rdS Γ X.K xc W H0 (.exp ce)) := psI (ps_expr he hs) fun D σ H hl ⟨κ, M, ρ, st, r, g⟩ => by
  simp only [run] at g
  exact GoalS.expr r g fun p st' κ' H' v ed a rp nw g' => g' κ' σ H' (r.aftS a) (r.aft a)
theorem s_ret (he : PE X e (rdE Γ X.K xc W ce)) : PS X (.Return (some e) pos) (rdS Γ X.K xc W H0 (.ret ce)) := psI (ps_ret he) fun D σ H hl ⟨κ, M, ρ, st, r, g⟩ => by
  simp only [run] at g
  refine GoalS.expr r g fun p st' κ' H' v ed a rp nw g' => ?_
  refine g' κ' H' v (r.aftR a) (rp.mono (List.prefix_refl _) (msk_mono fun b o n e => ⟨fun z => n (z.imp id .inl), e⟩)) fun hn => ?_
  exact NewP.entry r.old (fun _ z => .inl z) (nw hn)
theorem s_retV {i : Nat} {x : Str} (hN : X.N[i]? = some x) (hv : Vis X.env.scope x) (hd : (x == ("__debug__" : Str)) = false) (hcd : (x == ("__classdict__" : Str)) = false) : PS X (.Return (some (.Name x p)) pos) (rdS Γ X.K xc W H0 (.retV i)) := psI (ps_ret (pe_var hN hv hd hcd)) fun D σ H hl ⟨κ, M, ρ, st, r, g⟩ => by
  simp only [run] at g
  match hi : ρ[i]?, g with
  | some (.sh q), g =>
    obtain ⟨v, h1, h2⟩ := r.sh i q hi
    exact ⟨v, h1, g κ H v ⟨List.prefix_refl _, fun b o e n _ => ⟨e, n⟩, r.cells.less fun _ z => .inl z⟩ (h2.mono (List.prefix_refl _) (msk_mono fun b o n e => ⟨fun z => n (z.imp id .inl), e⟩)) fun z => by cases z⟩
  | some (.own (.l xs)), g =>
    obtain ⟨A, vs, h1, h2, h3, h4, h5⟩ := r.owL i xs hi
    have nk : A ∉ κ := fun z => r.cells.off A z (.inr ⟨i, _, hi, h1⟩)
    refine ⟨.ref A, h1, g κ H (.ref A) ⟨List.prefix_refl _, fun b o e n _ => ⟨e, n⟩, r.cells.less fun _ z => .inl z⟩ (Dq.lst (SqL.of (msk_some.mpr ⟨fun z => z.elim nk h4, h2⟩)) (h3.mono (msk_mono fun b o n e => ⟨fun z => n (z.imp id .inl), e⟩))) fun _ => ?_⟩
    exact ⟨A, vs, rfl, h5, h2, nk, h3.mono (msk_mono fun b o n e => ⟨fun z => n (z.elim (fun z => z.imp id .inl) fun z => .inr (.inr ⟨i, _, hi, z ▸ h1⟩)), e⟩)⟩
  | some (.own (.d ks)), g =>
    obtain ⟨A, o, h1, h2, h3, h4, h5⟩ := r.ow i _ hi
    have nk : A ∉ κ := fun z => r.cells.off A z (.inr ⟨i, _, hi, h1⟩)
    exact ⟨.ref A, h1, g κ H (.ref A) ⟨List.prefix_refl _, fun b o e n _ => ⟨e, n⟩, r.cells.less fun _ z => .inl z⟩ ((h3.mono (msk_mono fun b o n e => ⟨fun z => n (z.imp id .inl), e⟩)).dq (msk_some.mpr ⟨fun z => z.elim nk h4, h2⟩)) fun z => by cases z⟩
  | some .no, g => exact g.elim
  | some .pin, g => exact g.elim
  | none, g => exact g.elim
theorem s_ite (hc : PT X c (rdT Γ X.K xc W cc)) (ha : PSs X stms (rdS Γ X.K xc W H0 sa)) (hb : PSs X ss (rdS Γ X.K xc W H0 sb)) : PS X (.If c stms ss pos) (rdS Γ X.K xc W H0 (.ite cc sa sb)) := psI (ps_if hc ha hb) fun D σ H hl ⟨κ, M, ρ, st, r, g⟩ => by
  simp only [run] at g
  refine GoalS.test (f := fun k st => if k = true then run Γ sa ρ st else run Γ sb ρ st) r g fun kb st' κ' H' a r' g' => ?_
  cases kb with
  | true =>
    refine iteT ⟨κ', M, ρ, st', r', ?_⟩
    simpa using g'
  | false =>
    refine iteF ⟨κ', M, ρ, st', r', ?_⟩
    simpa using g'
end
end Sw

set_option Elab.async false
set_option linter.all false
set_option maxRecDepth 100000
set_option maxHeartbeats 1000000
namespace Sw
open PySem PySem.Spec PyProof.Rows L2
section
variable {K : PySem.W.Frag} {κ κ' : List Addr} {M M' : Addr → Prop} {H H' : Hp} {σ : L2.St} {ρ : Env} {st st' : Store}
/-- under any mask -/
theorem Aft.sameM (a : Aft K κ M H κ' H' st') : Same (msk (Hid κ M') H) (msk (Hid κ' M') H') := msk_mono fun b o n e => by
  have q := a.keep b o e fun z => n (.inl z)
  exact ⟨fun z => z.elim q.2 fun z => n (.inr z), q.1⟩
theorem own_settle {H0 : Hp} {b : Bool} {is : List Nat} (r : Rel K κ M H0 σ H ρ st) (c : Addr) (h : Own (settle ρ b is) σ c) : Own ρ σ c := by
  cases b with
  | true => exact h
  | false =>
    obtain ⟨j, ys, _, e1, e2⟩ := (r.demote is).2 c h
    exact ⟨j, ys, e1, e2⟩
theorem demote_stay : ∀ {is : List Nat} {ρ : Env} {j : Nat} {ys : OC}, j ∉ is → ρ[j]? = some (.own ys) → (demote ρ is)[j]? = some (.own ys)
  | [], ρ, j, ys, _, e => e
  | i :: is, ρ, j, ys, n, e => by
    simp only [List.mem_cons, not_or] at n
    unfold demote
    split
    · exact demote_stay n.2 (by rw [List.getElem?_set_ne (Ne.symm n.1)]; exact e)
    · exact demote_stay n.2 e
/-- the heap grew -/
theorem Rel.grown {H0 : Hp} (r : Rel K κ M H0 σ H ρ st) (e : Same H H') : Rel K κ M H0 σ H' ρ st := by
  have sm : Same (msk (Hid κ (Hid2 M ρ σ)) H) (msk (Hid κ (Hid2 M ρ σ)) H') := same_msk2 e
  refine ⟨r.cells.same e, r.ls, fun i p q => ?_, fun i xs q => ?_, r.inj, fun a o q => ?_⟩
  · obtain ⟨v, h1, h2⟩ := r.sh i p q
    exact ⟨v, h1, h2.mono (List.prefix_refl _) sm⟩
  · obtain ⟨a, vs, h1, h2, h3, h4, h5⟩ := r.ow i xs q
    exact ⟨a, vs, h1, e _ _ h2, h3.mono sm, h4, h5⟩
  · obtain ⟨o', q'⟩ := r.old a o q
    exact ⟨o', e _ _ q'⟩
theorem demote_back : ∀ {is : List Nat} {ρ : Env} {j : Nat} {ys : OC}, (demote ρ is)[j]? = some (.own ys) → ∃ zs, ρ[j]? = some (.own zs)
  | [], ρ, j, ys, e => ⟨ys, e⟩
  | i :: is, ρ, j, ys, e => by
    unfold demote at e
    split at e
    · rename_i xs h
      obtain ⟨zs, e1⟩ := demote_back e
      by_cases z : i = j
      · subst z
        exact ⟨xs, h⟩
      · rw [List.getElem?_set_ne z] at e1
        exact ⟨zs, e1⟩
    · exact demote_back e
theorem settle_len (ρ : Env) (b : Bool) (is : List Nat) : (settle ρ b is).length = ρ.length := by
  cases b with
  | true => rfl
  | false =>
    show (demote ρ is).length = ρ.length
    induction is generalizing ρ with
    | nil => rfl
    | cons i is ih =>
      unfold demote
      split
      · rw [ih]; simp
      · exact ih ρ
end
theorem setTg_len {ρ ρ' : Env} {t : Tg} {x : D} (h : setTg ρ t x = some ρ') : ρ'.length = ρ.length := by
  cases t with
  | nm i => cases h; simp
  | tp is =>
    simp only [setTg] at h
    split at h
    · split at h
      · cases h
        rename_i xs _
        generalize is.zip xs = l
        induction l generalizing ρ with
        | nil => rfl
        | cons p l ih =>
          rw [List.foldl_cons, ih]
          simp
      · cases h
    · cases h
theorem calmAll_set : ∀ {xs : List D} {j : Nat} {y : D}, calmAll xs = true → calm y = true → calmAll (xs.set j y) = true
  | [], _, _, _, _ => rfl
  | x :: xs, 0, y, h, hy => by
    simp only [calmAll, Bool.and_eq_true] at h
    simp only [List.set_cons_zero, calmAll, Bool.and_eq_true]
    exact ⟨hy, h.2⟩
  | x :: xs, j + 1, y, h, hy => by
    simp only [calmAll, Bool.and_eq_true] at h
    simp only [List.set_cons_succ, calmAll, Bool.and_eq_true]
    exact ⟨h.1, calmAll_set h.2 hy⟩
theorem bind_ok {α β : Type} {r : Res α} {f : α → Store → Res β} {b : β} {st' : Store} (h : r.bind f = .ok b st') : ∃ a st1, r = .ok a st1 ∧ f a st1 = .ok b st' := by
  cases r with
  | ok a st1 => exact ⟨a, st1, rfl, h⟩
  | exc c fs st1 => cases h
  | stuck => cases h
theorem forL_len {f : D → Env → Store → Res Out} (hf : ∀ x ρ st ρ' st', f x ρ st = .ok (.next ρ') st' → ρ'.length = ρ.length) : ∀ (xs : List D) (ρ : Env) (st : Store) (ρ' : Env) (st' : Store), forL f xs ρ st = .ok (.next ρ') st' → ρ'.length = ρ.length
  | [], ρ, st, ρ', st', h => by cases h; rfl
  | x :: xs, ρ, st, ρ', st', h => by
    unfold forL at h
    obtain ⟨o, st1, h1, h2⟩ := bind_ok h
    cases o with
    | next ρ1 => exact (forL_len hf xs ρ1 st1 ρ' st' h2).trans (hf _ _ _ _ _ h1)
    | ret p n => cases h2
theorem dropE_len : ∀ (is : List Nat) (ρ : Env), (dropE ρ is).length = ρ.length
  | [], _ => rfl
  | i :: is, ρ => (dropE_len is (ρ.set i .no)).trans (by simp)
theorem whileL_len {c : Env → Store → Res PV} {b : Env → Store → Res Out} (hb : ∀ (ρ : Env) (st : Store) (ρ' : Env) (st' : Store), b ρ st = .ok (.next ρ') st' → ρ'.length = ρ.length) : ∀ (n : Nat) (ρ : Env) (st : Store) (ρ' : Env) (st' : Store), whileL c b n ρ st = .ok (.next ρ') st' → ρ'.length = ρ.length
  | 0, _, _, _, _, h => by cases h
  | n + 1, ρ, st, ρ', st', h => by
    simp only [whileL] at h
    obtain ⟨p, st1, h1, h2⟩ := bind_ok h
    split at h2
    · split at h2
      · obtain ⟨o, st2, h3, h4⟩ := bind_ok h2
        cases o with
        | next ρ1 => exact (whileL_len hb n _ _ _ _ h4).trans (hb _ _ _ _ h3)
        | ret p n => cases h4
      · cases h2
        rfl
    · cases h2
theorem run_same {Γ : Ctx} : ∀ (s : S) (ρ : Env) (st : Store) (ρ' : Env) (st' : Store), run Γ s ρ st = .ok (.next ρ') st' → ρ'.length = ρ.length := by
  intro s
  induction s with
  | dead => intro ρ st ρ' st' h; cases h
  | skip => intro ρ st ρ' st' h; cases h; rfl
  | seq a b iha ihb =>
    intro ρ st ρ' st' h
    simp only [run] at h
    obtain ⟨o, st1, h1, h2⟩ := bind_ok h
    cases o with
    | next ρ1 => exact (ihb _ _ _ _ h2).trans (iha _ _ _ _ h1)
    | ret p n => cases h2
  | set i own e =>
    intro ρ st ρ' st' h
    simp only [run] at h
    obtain ⟨p, st1, h1, h2⟩ := bind_ok h
    split at h2
    · split at h2
      · cases h2
        rw [List.length_set, settle_len]
      · cases h2
    · cases h2
      rw [List.length_set, settle_len]
  | setT is e =>
    intro ρ st ρ' st' h
    simp only [run] at h
    obtain ⟨p, st1, h1, h2⟩ := bind_ok h
    split at h2
    · split at h2
      · cases h2
        rename_i hs
        rw [setTg_len hs, settle_len]
      · cases h2
    · split at h2
      · split at h2
        · cases h2
          rw [List.length_set, List.length_set, settle_len]
        · cases h2
      · cases h2
    · cases h2
  | par i j a b =>
    intro ρ st ρ' st' h
    simp only [run] at h
    obtain ⟨p, st1, h1, h2⟩ := bind_ok h
    obtain ⟨q, st2, h3, h4⟩ := bind_ok h2
    cases h4
    rw [List.length_set, List.length_set, settle_len, settle_len]
  | par3 i j l a b c =>
    intro ρ st ρ' st' h
    simp only [run] at h
    obtain ⟨p, st1, h1, h2⟩ := bind_ok h
    obtain ⟨q, st2, h3, h4⟩ := bind_ok h2
    obtain ⟨r, st3, h5, h6⟩ := bind_ok h4
    cases h6
    rw [List.length_set, List.length_set, List.length_set]
    exact settle_len ρ false _
  | ite c a b iha ihb =>
    intro ρ st ρ' st' h
    simp only [run] at h
    obtain ⟨p, st1, h1, h2⟩ := bind_ok h
    split at h2
    · split at h2
      · exact iha _ _ _ _ h2
      · exact ihb _ _ _ _ h2
    · cases h2
  | «for» t it b ihb =>
    intro ρ st ρ' st' h
    simp only [run] at h
    obtain ⟨p, st1, h1, h2⟩ := bind_ok h
    split at h2
    · split at h2
      · refine (forL_len (fun x ρ st ρ' st' h => ?_) _ _ _ _ _ h2).trans (settle_len _ _ _)
        split at h
        · rename_i hs
          exact (ihb _ _ _ _ h).trans (setTg_len hs)
        · cases h
      · cases h2
    · cases h2
  | drop is b ihb =>
    intro ρ st ρ' st' h
    simp only [run] at h
    obtain ⟨o, st1, h1, h2⟩ := bind_ok h
    cases o with
    | next ρ1 =>
      cases h2
      exact (dropE_len _ _).trans (ihb _ _ _ _ h1)
    | ret p n => cases h2
  | ret e =>
    intro ρ st ρ' st' h
    simp only [run] at h
    obtain ⟨p, st1, h1, h2⟩ := bind_ok h
    cases h2
  | retV i =>
    intro ρ st ρ' st' h
    simp only [run] at h
    split at h <;> cases h
  | exp e =>
    intro ρ st ρ' st' h
    simp only [run] at h
    obtain ⟨p, st1, h1, h2⟩ := bind_ok h
    cases h2
    rfl
  | rem i e =>
    intro ρ st ρ' st' h
    simp only [run] at h
    split at h
    · obtain ⟨p, st1, h1, h2⟩ := bind_ok h
      split at h2
      · split at h2
        · split at h2
          · split at h2
            · cases h2
              rw [List.length_set, settle_len]
            · cases h2
          · cases h2
        · cases h2
      · cases h2
    · cases h
  | setI2 i c d a b =>
    intro ρ st ρ' st' h
    simp only [run] at h
    split at h
    · obtain ⟨q, st1, h1, h2⟩ := bind_ok h
      obtain ⟨p, st2, h3, h4⟩ := bind_ok h2
      obtain ⟨x, st3, h5, h6⟩ := bind_ok h4
      split at h6
      · split at h6
        · obtain ⟨y, st4, h7, h8⟩ := bind_ok h6
          split at h8
          · split at h8
            · cases h8
              rw [List.length_set, List.length_set]
            · cases h8
          · cases h8
        · cases h6
      · cases h6
    · cases h
  | ins i ix e =>
    intro ρ st ρ' st' h
    simp only [run] at h
    split at h
    · obtain ⟨q, st1, h1, h2⟩ := bind_ok h
      obtain ⟨p, st2, h3, h4⟩ := bind_ok h2
      split at h4
      · split at h4
        · split at h4
          · cases h4
            rw [List.length_set, settle_len]
          · cases h4
        · cases h4
      · cases h4
    · cases h
  | app i e =>
    intro ρ st ρ' st' h
    simp only [run] at h
    split at h
    · obtain ⟨p, st1, h1, h2⟩ := bind_ok h
      split at h2
      · split at h2
        · split at h2
          · cases h2
            rw [List.length_set, settle_len]
          · cases h2
        · cases h2
      · cases h2
    · cases h
  | setI i ix e =>
    intro ρ st ρ' st' h
    simp only [run] at h
    split at h
    · obtain ⟨p, st1, h1, h2⟩ := bind_ok h
      obtain ⟨q, st2, h3, h4⟩ := bind_ok h2
      split at h4
      · split at h4
        · split at h4
          · cases h4
            rw [List.length_set, settle_len]
          · cases h4
        · cases h4
      · cases h4
    · obtain ⟨p, st1, h1, h2⟩ := bind_ok h
      obtain ⟨q, st2, h3, h4⟩ := bind_ok h2
      split at h4
      · split at h4
        · split at h4
          · cases h4
            rw [List.length_set, settle_len]
          · cases h4
        · cases h4
      · cases h4
    · obtain ⟨p, st1, h1, h2⟩ := bind_ok h
      obtain ⟨q, st2, h3, h4⟩ := bind_ok h2
      split at h4
      · split at h4
        · split at h4
          · split at h4
            · cases h4
              rfl
            · cases h4
          · cases h4
        · cases h4
      · cases h4
    · cases h
  | extV i j =>
    intro ρ st ρ' st' h
    simp only [run] at h
    split at h
    · split at h
      · cases h
        exact List.length_set
      · cases h
    · cases h
  | dNew i =>
    intro ρ st ρ' st' h
    simp only [run] at h
    cases h
    exact List.length_set
  | dCpy i e =>
    intro ρ st ρ' st' h
    simp only [run] at h
    obtain ⟨p, st1, h1, h2⟩ := bind_ok h
    split at h2
    · split at h2
      · cases h2
        exact List.length_set
      · cases h2
    · cases h2
  | whl n c b ihb =>
    intro ρ st ρ' st' h
    simp only [run] at h
    exact whileL_len ihb n _ _ _ _ h
  | popA i j ix =>
    intro ρ st ρ' st' h
    simp only [run] at h
    split at h
    · split at h
      · cases h
      obtain ⟨p, st1, h1, h2⟩ := bind_ok h
      split at h2
      · split at h2
        · split at h2
          · cases h2
            rw [List.length_set, List.length_set]
          · cases h2
        · cases h2
      · cases h2
    · cases h
  | popS i j ix =>
    intro ρ st ρ' st' h
    simp only [run] at h
    split at h
    · split at h
      · cases h
      obtain ⟨p, st1, h1, h2⟩ := bind_ok h
      split at h2
      · split at h2
        · cases h2
          rw [List.length_set, List.length_set]
        · cases h2
      · cases h2
    · cases h
  | ext i e =>
    intro ρ st ρ' st' h
    simp only [run] at h
    split at h
    · split at h
      · obtain ⟨p, st1, h1, h2⟩ := bind_ok h
        split at h2
        · split at h2
          · cases h2
            rw [List.length_set]
          · cases h2
        · cases h2
      · cases h
    · cases h
  | forO t j b ihb =>
    intro ρ st ρ' st' h
    simp only [run] at h
    split at h
    · obtain ⟨o, st1, h1, h2⟩ := bind_ok h
      cases o with
      | ret p n => cases h2
      | next ρ1 =>
        simp only [unpin] at h2
        split at h2
        · cases h2
          rw [List.length_set]
          refine (forL_len (fun x ρ st ρ' st' h => ?_) _ _ _ _ _ h1).trans (by simp)
          split at h
          · rename_i hs
            exact (ihb _ _ _ _ h).trans (setTg_len hs)
          · cases h
        · cases h2
    · cases h
  | raiseS c =>
    intro ρ st ρ' st' h
    simp only [run] at h
    split at h <;> cases h
  | raiseA c es =>
    intro ρ st ρ' st' h
    simp only [run] at h
    obtain ⟨o, st1, h1, h2⟩ := bind_ok h
    unfold raiseR at h2
    split at h2
    · split at h2 <;> cases h2
    · cases h2
  | tryR b i hd ihb ihh =>
    intro ρ st ρ' st' h
    simp only [run] at h
    split at h
    · unfold anyX at h
      split at h <;> cases h
    · cases h
      exact ihb _ _ _ _ (by assumption)
    · cases h
theorem run_len {Γ : Ctx} {s : S} {ρ ρ' : Env} {st st' : Store} {n : Nat} (h : run Γ s ρ st = .ok (.next ρ') st') (e : ρ.length = n) : ρ'.length = n := (run_same s ρ st ρ' st' h).trans e
section
variable {X : Cx} {Γ : Ctx} {xc : Nat → Addr} {W : WX} {H0 : Hp} {k : Nat} {nm : Nm} {e c tg : Expr} {stm : Stmt} {stms ss : List Stmt} {pos p : Pos} {ce cc ci ca cb : E} {sa sb : S}
theorem s_setT {is : List Nat} (h : PS X stm (tAsg (rdE Γ X.K xc W ce) (fun v σ H Q => σ.length = X.N.length → rdG X.K (.tp is) v σ H Q))) (hi : ∀ i ∈ is, i < X.N.length) : PS X stm (rdS Γ X.K xc W H0 (.setT is ce)) := psI h fun D σ H hl ⟨κ, M, ρ, st, r, g⟩ => by
  simp only [run] at g
  refine GoalS.expr r g fun p st' κ' H' v ed a rp nw g' hln => ?_
  have ra := r.aft a
  cases p with
  | d x =>
    simp only at g'
    cases hs : setTg (settle ρ (keeps false (.d x)) (occ ce)) (.tp is) x with
    | none => rw [hs] at g'; exact g'.elim
    | some ρ' =>
      rw [hs] at g'
      have rv := Rel.settled (f := false) ra rp (.inl rfl)
      have rs : Rel X.K κ' M H0 σ H' (settle ρ (keeps false (.d x)) (occ ce)) st' := ra.settle
      refine take_tg (wk := false) msk_le (fun z => by cases z) (.inl rv) hs (fun i hj => by rw [hl]; exact hi i hj) rs.ls fun σ' t => ?_
      obtain ⟨r2, a2⟩ := rs.took t
      exact g' κ' σ' H' ((r.aftS a).trans ((AftS.settle ra).trans a2)) r2
  | two w xs =>
    simp only at g'
    split at g'
    · rename_i i j _
      split at g'
      · rename_i hf
        obtain ⟨t, l, rfl, st2, A, vs, rfl, n1, n2, n3, n4⟩ := nw hf
        have li : i < σ.length := by rw [hl]; exact hi i (by simp)
        have lj : j < σ.length := by rw [hl]; exact hi j (by simp)
        have rs : Rel X.K κ' M H0 σ H' (settle ρ (keeps false (.two w xs)) (occ ce)) st' := ra.settle
        have rb : Rel X.K κ M H0 σ H (settle ρ (keeps false (.two w xs)) (occ ce)) st := r.settle
        have r1 := rs.setSh (i := i) (v := .str w) (p := .d (.str w)) li (Dq.str w)
        have b1 := rb.setSh (i := i) (v := .str w) (p := .d (.str w)) li (Dq.str w)
        refine ⟨t, _, rfl, st2, rfl, ?_⟩
        show gsOf [i, j] [V.str w, V.ref A] σ H' D.nx
        refine ⟨_, _, rfl, _, _, rfl, rfl, ?_⟩
        have a1 : AftS κ σ H ρ κ' (σ.set i (some (.str w))) H' ((settle ρ (keeps false (.two w xs)) (occ ce)).set i (.sh (.d (.str w)))) := (r.aftS a).trans ((AftS.settle ra).trans .setSh)
        refine g' κ' _ H' ⟨a1.pre, fun b o e n z => ?_, fun k e => ?_⟩ (b1.setOw a.pre (fun b o e n => a.keep b o e n) r1 n1 n2 n3 ⟨vs, rfl, ?_⟩ (by simpa using lj))
        · have q := a1.keep b o e n z
          refine ⟨q.1, q.2.1, fun ⟨k, ys, e1, e2⟩ => ?_⟩
          by_cases hk : j = k
          · subst hk
            rw [List.getElem?_set_self (by simpa using lj)] at e2
            cases e2
            rw [n1] at e
            cases e
          · rw [List.getElem?_set_ne hk] at e1 e2
            exact q.2.2 ⟨k, ys, e1, e2⟩
        · have q := pin_set (fun z => by cases z) e
          have q2 := a1.pin k q.2
          exact ⟨q2.1, by rw [List.getElem?_set_ne q.1]; exact q2.2⟩
        · refine n4.mono (msk_mono fun b o n e => ⟨fun z => n (z.imp (fun z => z.imp id fun z => ?_) id), e⟩)
          rcases z with z | z
          · exact .inl z
          · obtain ⟨k, ys, nk, e1, e2⟩ := own_set (fun _ z => by cases z) b z
            obtain ⟨k', ys', nk', e1', e2'⟩ := (ra.demote (occ ce)).2 b ⟨k, ys, e1, e2⟩
            exact .inr ⟨k', ys', nk', e1', e2'⟩
      · exact g'.elim
    · exact g'.elim
  | _ => exact g'.elim
theorem s_par {i j : Nat} {a b : Expr} (h : PS X stm (tPar i j (tCons (rdE Γ X.K xc W ca) (tCons (rdE Γ X.K xc W cb) tNil)))) (hi : i < X.N.length) (hj : j < X.N.length) : PS X stm (rdS Γ X.K xc W H0 (.par i j ca cb)) := psI h fun D σ H hl ⟨κ, M, ρ, st, r, g⟩ => by
  simp only [run] at g
  refine GoalS.expr r g fun p st₁ κ₁ H₁ v e1 a1 r1 _ g1 => ?_
  have ra := r.aft a1
  refine GoalS.expr ra (GoalS.shift (r.aftS a1) g1) fun q st₂ κ₂ H₂ w e2 a2 r2 _ g2 => ⟨v, w, rfl, ?_⟩
  have rb := ra.aft a2
  have s1 : Rel X.K κ₂ M H0 σ H₂ (settle ρ (keeps false p) (occ ca)) st₂ := rb.settle
  have s2 : Rel X.K κ₂ M H0 σ H₂ (settle (settle ρ (keeps false p) (occ ca)) (keeps false q) (occ cb)) st₂ := s1.settle
  have v1 := Rel.settled (f := false) rb (r1.mono a2.pre a2.sameM) (.inl rfl)
  have v2 : Rp X.K κ₂ (msk (Hid κ₂ (Hid2 M (settle (settle ρ (keeps false p) (occ ca)) (keeps false q) (occ cb)) σ)) H₂) v p :=
    v1.mono (List.prefix_refl _) (msk_mono fun b o n e => ⟨fun z => n (z.imp id fun z => z.imp id fun z => own_settle s1 b z), e⟩)
  have w1 : Rp X.K κ₂ (msk (Hid κ₂ (HidE M (settle ρ (keeps false p) (occ ca)) σ (occ cb))) H₂) w q := r2.mono (List.prefix_refl _) (msk_mono fun b o n e => ⟨fun z => n (z.imp id fun z => z.imp id fun ⟨j, ys, nj, e1, e2⟩ => by
    have : ∃ ys', ρ[j]? = some (.own ys') := by
      cases hk : keeps false p with
      | true => rw [hk] at e1; exact ⟨ys, e1⟩
      | false =>
        rw [hk] at e1
        exact demote_back e1
    obtain ⟨ys', e3⟩ := this
    exact ⟨j, ys', nj, e3, e2⟩), e⟩)
  have w2 := Rel.settled (f := false) s1 w1 (.inl rfl)
  have li : i < σ.length := by rw [hl]; exact hi
  have lj : j < σ.length := by rw [hl]; exact hj
  have t1 := s2.setSh li v2
  have t2 := t1.setSh (i := j) (v := w) (p := q) (by simpa using lj) (w2.mono (List.prefix_refl _) (msk_mono fun b o n e => ⟨fun z => n (z.imp id fun z => z.imp id fun z => by
    obtain ⟨j', xs, _, e1, e2⟩ := own_set (fun _ z => by cases z) b z
    exact ⟨j', xs, e1, e2⟩), e⟩))
  exact g2 κ₂ _ H₂ ((ra.aftS a2).trans ((AftS.settle rb).trans ((AftS.settle s1).trans (AftS.setSh.trans AftS.setSh)))) t2
theorem s_par3 {i j l : Nat} {a b c : Expr} {cc : E} (h : PS X stm (tPar3 i j l (tCons (rdE Γ X.K xc W ca) (tCons (rdE Γ X.K xc W cb) (tCons (rdE Γ X.K xc W cc) tNil))))) (hi : i < X.N.length) (hj : j < X.N.length) (hk : l < X.N.length) : PS X stm (rdS Γ X.K xc W H0 (.par3 i j l ca cb cc)) := psI h fun D σ H hl ⟨κ, M, ρ, st, r, g⟩ => by
  simp only [run] at g
  refine GoalS.expr r g fun p st₁ κ₁ H₁ v e1 a1 r1 _ g1 => ?_
  have ra := r.aft a1
  refine GoalS.expr ra (GoalS.shift (r.aftS a1) g1) fun q st₂ κ₂ H₂ w e2 a2 r2 _ g2 => ?_
  have rb := ra.aft a2
  refine GoalS.expr rb (GoalS.shift (ra.aftS a2) g2) fun o st₃ κ₃ H₃ u e3 a3 r3 _ g3 => ⟨v, w, u, rfl, ?_⟩
  have rc := rb.aft a3
  have rd : Rel X.K κ₃ M H0 σ H₃ (demote ρ (occ ca ++ (occ cb ++ occ cc))) st₃ := (rc.demote _).1
  have fit : ∀ {vis : List Nat} {x : V} {y : PV}, (∀ k, k ∈ vis → k ∈ occ ca ++ (occ cb ++ occ cc)) → Rp X.K κ₃ (msk (Hid κ₃ (HidE M ρ σ vis)) H₃) x y → Rp X.K κ₃ (msk (Hid κ₃ (Hid2 M (demote ρ (occ ca ++ (occ cb ++ occ cc))) σ)) H₃) x y := fun {vis x y} hv hr =>
    hr.mono (List.prefix_refl _) (msk_mono fun b o n e => ⟨fun z => n (z.imp id fun z => by
      rcases z with z | z
      · exact .inl z
      · obtain ⟨j, ys, nj, e1, e2⟩ := (rc.demote _).2 b z
        exact .inr ⟨j, ys, fun q => nj (hv j q), e1, e2⟩), e⟩)
  have v1 := fit (vis := occ ca) (fun k h => by simp [h]) ((r1.mono a2.pre a2.sameM).mono a3.pre a3.sameM)
  have w1 := fit (vis := occ cb) (fun k h => by simp [h]) (r2.mono a3.pre a3.sameM)
  have u1 := fit (vis := occ cc) (fun k h => by simp [h]) r3
  have li : i < σ.length := by rw [hl]; exact hi
  have lj : j < σ.length := by rw [hl]; exact hj
  have lk : l < σ.length := by rw [hl]; exact hk
  have keep : ∀ {ρ' : Env} {σ' : L2.St} {m : Nat} {s : PV} {t : V} {x : V} {y : PV}, Rp X.K κ₃ (msk (Hid κ₃ (Hid2 M ρ' σ')) H₃) x y → Rp X.K κ₃ (msk (Hid κ₃ (Hid2 M (ρ'.set m (.sh s)) (σ'.set m (some t)))) H₃) x y := fun {ρ' σ' m s t x y} hr =>
    hr.mono (List.prefix_refl _) (msk_mono fun b o n e => ⟨fun z => n (z.imp id fun z => z.imp id fun z => by
      obtain ⟨j', xs, _, e1, e2⟩ := own_set (fun _ z => by cases z) b z
      exact ⟨j', xs, e1, e2⟩), e⟩)
  have t1 := rd.setSh li v1
  have t2 := t1.setSh (i := j) (v := w) (p := q) (by simpa using lj) (keep w1)
  have t3 := t2.setSh (i := l) (v := u) (p := o) (by simpa using lk) (keep (keep u1))
  exact g3 κ₃ _ H₃ ((rb.aftS a3).trans ((AftS.demote rc).trans (AftS.setSh.trans (AftS.setSh.trans AftS.setSh)))) t3
theorem fold_body (t : Tg) (b : S) : (fun (x : Sw.D) (ρ : Env) (st : Store) => match setTg ρ t x with
            | some ρ' => run Γ b ρ' st
            | none => Res.stuck) = fun x ρ st => match setTg ρ t x with
            | some ρ' => run Γ b ρ' st
            | none => Res.stuck := rfl
theorem setOk_of {κ : List Addr} {M : Addr → Prop} {σ : L2.St} {H : Hp} {ρ : Env} {st : Store} (r : Rel X.K κ M H0 σ H ρ st) (b : Bool) (is : List Nat) : SetOk κ (HidE M ρ σ is) H b (Hid2 M (settle ρ b is) σ) := by
  cases b with
  | true =>
    refine .inr ⟨rfl, fun a z => HidE.le a z, fun a z => ?_⟩
    rcases z with z | ⟨j, ys, e1, e2⟩
    · exact .inl (.inl z)
    · obtain ⟨c, vs, h1, h2, h3, _⟩ := r.ow j ys e1
      rw [e2] at h1
      cases h1
      exact .inr ⟨fun z => r.cells.off _ z (.inr ⟨j, ys, e1, e2⟩), vs, h2, h3.noTup⟩
  | false =>
    refine .inl (funext fun a => propext ⟨fun z => z.imp id fun z => ?_, fun z => z.imp id fun ⟨j, ys, nj, e1, e2⟩ => ⟨j, ys, ?_, e2⟩⟩)
    · obtain ⟨j, ys, nj, e1, e2⟩ := (r.demote is).2 a z
      exact ⟨j, ys, nj, e1, e2⟩
    · exact demote_stay nj e1
theorem s_for {wk : Bool} {t : Tg} (hp : PassesOwn (model X.prog X.w) X.A X.env X.xe) (hc : X.calm = true) (hw : wk = true → ∃ is, t = .tp is) (hi : PI X tg e (rdI Γ X.K xc W wk ce)) (hg : PG X tg (rdG X.K t)) (ht : ∀ i ∈ tgs t, i < X.N.length) (hb : PSs X stms (rdS Γ X.K xc W H0 sb))
    (hs : ∀ x, foldedSetIterable e X.env x = pure x) : PS X (.For tg e stms [] pos) (rdS Γ X.K xc W H0 (.for t ce sb)) := psI (ps_for hp hc hi (pg_len hg) hb hs) fun D σ H hl ⟨κ, M, ρ, st, r, g⟩ => by
  simp only [run] at g
  cases hd : den Γ ce ρ st with
  | stuck => rw [hd] at g; exact g.elim
  | exc c fs st' =>
    rw [hd] at g
    refine ⟨κ, HidE M ρ σ (occ ce), Hid2 M ρ σ, ρ, st, r.envE _, fun p st' e => (by rw [hd] at e; cases e), ?_⟩
    rw [hd]
    exact fun κ' H' cls d a x => g κ' σ H' cls d (r.aftR a) (x.mono fun _ z => .inl z)
  | ok p st₁ =>
    rw [hd] at g
    cases p with
    | cell c => exact g.elim
    | exn a d c fs => exact g.elim
    | two w xs => exact g.elim
    | d x =>
    generalize hρ : settle ρ (keeps (fresh Γ.fresh ce) (.d x)) (occ ce) = ρ1 at g
    generalize hf : (fun (x : Sw.D) (ρ : Env) (st : Store) => match setTg ρ t x with
            | some ρ' => run Γ sb ρ' st
            | none => Res.stuck) = f at g
    replace g : GoalS X.K xc W H0 κ M σ H ρ (match items x with
        | some xs => forL f xs ρ1 st₁
        | none => .stuck) D := by
      rw [← hρ, ← hf]
      rw [← hf] at g
      exact g
    cases hi : items x with
    | none => rw [hi] at g; exact g.elim
    | some xs =>
    rw [hi] at g
    simp only at g
    refine ⟨κ, HidE M ρ σ (occ ce), Hid2 M ρ1 σ, ρ, st, r.envE _, fun p st' e => ?_, ?_⟩
    · rw [hd] at e
      cases e
      rw [← hρ]
      exact setOk_of r _ _
    rw [hd]
    refine ⟨x, xs, rfl, hi, fun κ₁ H₁ J a1 goes hlen => ?_⟩
    have ra := r.aft a1
    have r1 : Rel X.K κ₁ M H0 σ H₁ ρ1 st₁ := by rw [← hρ]; exact ra.settle
    have as1 : AftS κ σ H ρ κ₁ σ H₁ ρ1 := by rw [← hρ]; exact (r.aftS a1).trans (AftS.settle ra)
    refine ⟨fun i m σc Hc => m = xs.length - i ∧ i ≤ xs.length ∧ σc.length = X.N.length ∧ ∃ κc ρc stc, Rel X.K κc M H0 σc Hc ρc stc ∧ AftS κ σ H ρ κc σc Hc ρc ∧ Same (msk (Hid κ₁ (Hid2 M ρ1 σ)) H₁) (msk (Hid κc (Hid2 M ρc σc)) Hc) ∧
      GoalS X.K xc W H0 κ M σ H ρ (forL f (xs.drop i) ρc stc) D, ⟨xs.length, by simp, Nat.zero_le _, hl, κ₁, ρ1, st₁, r1, as1, Same.refl _, g⟩, fun i m σc Hc w => ?_⟩
    obtain ⟨rfl, hi2, hlc, κc, ρc, stc, rc, ac, sc, gc⟩ := w
    have gs := goes (Hid κc (Hid2 M ρc σc)) Hc (occ_of rc.cells) sc
    by_cases hlt : i < xs.length
    · have ex : xs[i]? = some xs[i] := List.getElem?_eq_getElem hlt
      obtain ⟨hgo, hyl⟩ := gs.1 i _ ex
      refine .inr ⟨hgo, fun σ' H' => σ'.length = X.N.length ∧ ∃ κc ρc stc, Rel X.K κc M H0 σ' H' ρc stc ∧ AftS κ σ H ρ κc σ' H' ρc ∧ Same (msk (Hid κ₁ (Hid2 M ρ1 σ)) H₁) (msk (Hid κc (Hid2 M ρc σ')) H') ∧
        GoalS X.K xc W H0 κ M σ H ρ (forL f (xs.drop (i + 1)) ρc stc) D, fun σ' H' w => ⟨xs.length - (i + 1), by omega, rfl, hlt, w⟩, fun v H' y hln => ?_⟩
      obtain ⟨sm1, dv⟩ := hyl v H' y
      rw [List.drop_eq_getElem_cons hlt] at gc
      -- the heap may have grown by the item
      have rc1 : Rel X.K κc M H0 σc H' ρc stc := rc.grown sm1
      have ac1 : AftS κ σ H ρ κc σc H' ρc := ac.trans ⟨List.prefix_refl _, fun b o e n w => ⟨sm1 b o e, n, w⟩, fun _ e => ⟨e, rfl⟩⟩
      replace gc : GoalS X.K xc W H0 κ M σ H ρ ((f xs[i] ρc stc).bind fun o st => match o with
          | .next ρ' => forL f (xs.drop (i + 1)) ρ' st
          | .ret p n => .ok (.ret p n) st) D := gc
      rw [← hf] at gc
      simp only at gc
      cases hs2 : setTg ρc t xs[i] with
      | none => rw [hs2] at gc; exact gc.elim
      | some ρ' =>
      rw [hs2] at gc
      simp only at gc
      rw [hf] at gc
      refine take_tg msk_le hw dv hs2 (fun j hj => by rw [hln]; exact ht j hj) rc1.ls fun σ2 tk => ?_
      obtain ⟨r2, a2⟩ := rc1.took tk
      refine ⟨κc, M, ρ', stc, r2, ?_⟩
      match hr : run Γ sb ρ' stc, gc with
      | .stuck, gc => exact gc
      | .exc c fs st', gc => exact GoalS.shift (ac1.trans a2) gc
      | .ok (.ret q n) st', gc => exact GoalS.shift (ac1.trans a2) gc
      | .ok (.next ρ'') st', gc =>
        intro κ' σ' H'' a3 r3
        refine ⟨?_, κ', ρ'', st', r3, (ac1.trans a2).trans a3, fun b o e => ?_, gc⟩
        · have q := r3.ls
          rw [← q]
          exact run_len hr (by rw [tk.lr, rc1.ls, hln])
        · obtain ⟨n, e⟩ := msk_some.mp (sc b o e)
          have q := (a2.trans a3).keep b o (sm1 b o e) (fun z => n (.inl z)) fun z => n (.inr (.inr z))
          exact msk_some.mpr ⟨fun z => z.elim q.2.1 fun z => z.elim (fun z => n (.inr (.inl z))) q.2.2, q.1⟩
    · have ei : i = xs.length := by omega
      subst ei
      refine .inl ⟨gs.2, ?_⟩
      rw [List.drop_length] at gc
      exact gc κc σc Hc ac rc
/-- a list is set aside while a loop walks it -/
def Aside (M : Addr → Prop) (A : Addr) : Addr → Prop := fun a => M a ∨ a = A
theorem own_pin {κ : List Addr} {M : Addr → Prop} {K : PySem.W.Frag} {σ : L2.St} {H : Hp} {ρ : Env} {st : Store} {j : Nat} {xs : OC} {A : Addr} (r : Rel K κ M H0 σ H ρ st) (hj : ρ[j]? = some (.own xs)) (hA : σ[j]? = some (some (.ref A))) (b : Addr) : Own ρ σ b ↔ (Own (ρ.set j .pin) σ b ∨ b = A) := by
  have hjl : j < ρ.length := (List.getElem?_eq_some_iff.mp hj).1
  constructor
  · rintro ⟨i, ys, e1, e2⟩
    by_cases z : j = i
    · subst z
      rw [hA] at e2
      cases e2
      exact .inr rfl
    · exact .inl ⟨i, ys, by rw [List.getElem?_set_ne z]; exact e1, e2⟩
  · rintro (⟨i, ys, e1, e2⟩ | rfl)
    · by_cases z : j = i
      · subst z
        rw [List.getElem?_set_self hjl] at e1
        cases e1
      · rw [List.getElem?_set_ne z] at e1
        exact ⟨i, ys, e1, e2⟩
    · exact ⟨j, xs, hj, hA⟩
theorem Rel.pinned {κ : List Addr} {M : Addr → Prop} {K : PySem.W.Frag} {σ : L2.St} {H : Hp} {ρ : Env} {st : Store} {j : Nat} {xs : OC} {A : Addr} (r : Rel K κ M H0 σ H ρ st) (hj : ρ[j]? = some (.own xs)) (hA : σ[j]? = some (some (.ref A))) :
    Rel K κ (Aside M A) H0 σ H (ρ.set j .pin) st ∧ Hid2 (Aside M A) (ρ.set j .pin) σ = Hid2 M ρ σ ∧ ¬ Own (ρ.set j .pin) σ A := by
  have hjl : j < ρ.length := (List.getElem?_eq_some_iff.mp hj).1
  have eq : Hid2 (Aside M A) (ρ.set j .pin) σ = Hid2 M ρ σ := funext fun b => propext (by
    unfold Hid2
    rw [own_pin r hj hA b]
    unfold Aside
    constructor
    · rintro ((h | h) | h)
      · exact .inl h
      · exact .inr (.inr h)
      · exact .inr (.inl h)
    · rintro (h | h | h)
      · exact .inl (.inl h)
      · exact .inr h
      · exact .inl (.inr h))
  have nz : ∀ {i : Nat} {s : Slot}, s ≠ .pin → (ρ.set j .pin)[i]? = some s → j ≠ i ∧ ρ[i]? = some s := fun {i s} ns e => by
    by_cases z : j = i
    · subst z
      rw [List.getElem?_set_self hjl] at e
      exact absurd (Option.some.inj e).symm ns
    · rw [List.getElem?_set_ne z] at e
      exact ⟨z, e⟩
  refine ⟨⟨by rw [eq]; exact r.cells, by simp [r.ls], fun i p e => ?_, fun i ys e => ?_, fun i k ys zs a e1 e2 e3 e4 => ?_, r.old⟩, eq, fun ⟨i, ys, e1, e2⟩ => ?_⟩
  · rw [eq]
    exact r.sh i p (nz (fun z => by cases z) e).2
  · obtain ⟨z, e'⟩ := nz (fun z => by cases z) e
    obtain ⟨a, vs, h1, h2, h3, h4, h5⟩ := r.ow i ys e'
    refine ⟨a, vs, h1, h2, by rw [eq]; exact h3, fun w => ?_, h5⟩
    rcases w with w | w
    · exact h4 w
    · subst w
      exact z (r.inj j i xs ys _ hj e' hA h1)
  · exact r.inj i k ys zs a (nz (fun z => by cases z) e1).2 (nz (fun z => by cases z) e2).2 e3 e4
  · obtain ⟨z, e'⟩ := nz (fun z => by cases z) e1
    exact z (r.inj j i xs ys _ hj e' hA e2)
theorem Rel.unpinned {κ : List Addr} {M : Addr → Prop} {K : PySem.W.Frag} {σ : L2.St} {H : Hp} {ρ : Env} {st : Store} {j : Nat} {xs : OC} {A : Addr} {vs : HO} (r : Rel K κ (Aside M A) H0 σ H ρ st) (hj : ρ[j]? = some .pin) (hA : σ[j]? = some (some (.ref A)))
    (hH : H A = some vs) (hd : OcR K (msk (Hid κ (Hid2 (Aside M A) ρ σ)) H) A vs xs) (nM : ¬ M A) (n0 : H0 A = none) (nO : ¬ Own ρ σ A) : Rel K κ M H0 σ H (ρ.set j (.own xs)) st := by
  have hjl : j < ρ.length := (List.getElem?_eq_some_iff.mp hj).1
  have own : ∀ b, Own (ρ.set j (.own xs)) σ b ↔ (Own ρ σ b ∨ b = A) := fun b => by
    constructor
    · rintro ⟨i, ys, e1, e2⟩
      by_cases z : j = i
      · subst z
        rw [hA] at e2
        cases e2
        exact .inr rfl
      · rw [List.getElem?_set_ne z] at e1
        exact .inl ⟨i, ys, e1, e2⟩
    · rintro (⟨i, ys, e1, e2⟩ | rfl)
      · by_cases z : j = i
        · subst z
          rw [hj] at e1
          cases e1
        · exact ⟨i, ys, by rw [List.getElem?_set_ne z]; exact e1, e2⟩
      · exact ⟨j, xs, List.getElem?_set_self hjl, hA⟩
  have eq : Hid2 M (ρ.set j (.own xs)) σ = Hid2 (Aside M A) ρ σ := funext fun b => propext (by
    unfold Hid2
    rw [own b]
    unfold Aside
    constructor
    · rintro (h | h | h)
      · exact .inl (.inl h)
      · exact .inr h
      · exact .inl (.inr h)
    · rintro ((h | h) | h)
      · exact .inl h
      · exact .inr (.inr h)
      · exact .inr (.inl h))
  have nz : ∀ {i : Nat} {s : Slot}, j ≠ i → (ρ.set j (.own xs))[i]? = some s → ρ[i]? = some s := fun {i s} ns e => by
    rw [List.getElem?_set_ne ns] at e
    exact e
  refine ⟨by rw [eq]; exact r.cells, by simp [r.ls], fun i p e => ?_, fun i ys e => ?_, fun i k ys zs a e1 e2 e3 e4 => ?_, r.old⟩
  · by_cases z : j = i
    · subst z
      rw [List.getElem?_set_self hjl] at e
      cases e
    · rw [eq]
      exact r.sh i p (nz z e)
  · by_cases z : j = i
    · subst z
      rw [List.getElem?_set_self hjl] at e
      cases e
      exact ⟨A, vs, hA, hH, by rw [eq]; exact hd, nM, n0⟩
    · obtain ⟨a, ws, h1, h2, h3, h4, h5⟩ := r.ow i ys (nz z e)
      exact ⟨a, ws, h1, h2, by rw [eq]; exact h3, fun w => h4 (.inl w), h5⟩
  · by_cases z : j = i
    · by_cases z' : j = k
      · exact z.symm.trans z'
      · subst z
        rw [hA] at e3
        cases e3
        exact absurd ⟨k, zs, nz z' e2, e4⟩ nO
    · by_cases z' : j = k
      · subst z'
        rw [hA] at e4
        cases e4
        exact absurd ⟨i, ys, nz z e1, e3⟩ nO
      · exact r.inj i k ys zs a (nz z e1) (nz z' e2) e3 e4
theorem s_forO {t : Tg} {j : Nat} {x : Str} {q : Pos} (hp : PassesOwn (model X.prog X.w) X.A X.env X.xe) (hc : X.calm = true) (hN : X.N[j]? = some x) (hv : Vis X.env.scope x) (hd : (x == ("__debug__" : Str)) = false) (hcd : (x == ("__classdict__" : Str)) = false) (hg : PG X tg (rdG X.K t)) (ht : ∀ i ∈ tgs t, i < X.N.length) (hb : PSs X stms (rdS Γ X.K xc W H0 sb)) :
    PS X (.For tg (.Name x q) stms [] pos) (rdS Γ X.K xc W H0 (.forO t j sb)) := psI (ps_for hp hc (pi_list (pe_var hN hv hd hcd)) (pg_len hg) hb (fun _ => rfl)) fun D σ H hl ⟨κ, M, ρ, st, r, g⟩ => by
  simp only [run] at g
  match hj : ρ[j]?, g with
  | some (.sh _), g => exact g.elim
  | some .no, g => exact g.elim
  | some .pin, g => exact g.elim
  | some (.own (.d _)), g => exact g.elim
  | none, g => exact g.elim
  | some (.own (.l xs)), g =>
    simp only at g
    generalize hf : (fun (x : Sw.D) (ρ : Env) (st : Store) => match setTg ρ t x with
            | some ρ' => run Γ sb ρ' st
            | none => Res.stuck) = f at g
    replace g : GoalS X.K xc W H0 κ M σ H ρ ((forL f xs (ρ.set j .pin) st).bind (unpin j xs)) D := by
      rw [← hf]
      rw [← hf] at g
      exact g
    obtain ⟨A, vs, hA, hH, hdq, nM, n0⟩ := r.owL j xs hj
    obtain ⟨r1, em, nO⟩ := r.pinned hj hA
    have nk : A ∉ κ := fun z => r.cells.off A z (.inr ⟨j, _, hj, hA⟩)
    have hd1 : DqAll X.K (msk (Hid κ (Hid2 (Aside M A) (ρ.set j .pin) σ)) H) vs xs := by rw [em]; exact hdq
    have hjl : j < ρ.length := (List.getElem?_eq_some_iff.mp hj).1
    have pin0 : (ρ.set j Slot.pin)[j]? = some .pin := List.getElem?_set_self hjl
    refine ⟨.ref A, hA, A, rfl, ⟨vs, SqL.of hH⟩, fun i m σc Hc => m = xs.length - i ∧ i ≤ xs.length ∧ σc.length = X.N.length ∧ ∃ κc ρc stc, Rel X.K κc (Aside M A) H0 σc Hc ρc stc ∧ AftS κ σ H (ρ.set j .pin) κc σc Hc ρc ∧ Same (msk (Hid κ (Hid2 (Aside M A) (ρ.set j .pin) σ)) H) (msk (Hid κc (Hid2 (Aside M A) ρc σc)) Hc) ∧
      GoalS X.K xc W H0 κ M σ H ρ ((forL f (xs.drop i) ρc stc).bind (unpin j xs)) D, ⟨xs.length, by simp, Nat.zero_le _, hl, κ, ρ.set j .pin, st, r1, AftS.refl, Same.refl _, g⟩, fun i m σc Hc w => ?_⟩
    obtain ⟨rfl, hi2, hlc, κc, ρc, stc, rc, ac, sc, gc⟩ := w
    have hHc := (ac.keep A _ hH nk nO).1
    have dc := hd1.mono sc
    have toS : ∀ {κ' : List Addr} {σ' : L2.St} {H' : Hp} {ρ' : Env}, AftS κ σ H (ρ.set j .pin) κ' σ' H' ρ' → AftS κ σ H ρ κ' σ' H' (ρ'.set j .no) := fun {κ' σ' H' ρ'} a => ⟨a.pre, fun b o e n w => by
      have q := a.keep b o e n fun z => w ((own_pin r hj hA b).mpr (.inl z))
      refine ⟨q.1, q.2.1, fun ⟨i, ys, e1, e2⟩ => q.2.2 ⟨i, ys, ?_, e2⟩⟩
      by_cases z : j = i
      · subst z
        rw [List.getElem?_set] at e1
        simp only [if_true] at e1
        split at e1 <;> cases e1
      · rw [List.getElem?_set_ne z] at e1
        exact e1, fun i e => by
      obtain ⟨z, e⟩ := pin_set (fun z => by cases z) e
      have q := a.pin i e
      exact ⟨(List.getElem?_set_ne z).symm.trans q.1, q.2⟩⟩
    by_cases hlt : i < xs.length
    · have ex : xs[i]? = some xs[i] := List.getElem?_eq_getElem hlt
      obtain ⟨v, ev, dv⟩ := dc.get ex
      refine .inr ⟨⟨vs, v, SqL.of hHc, ev⟩, fun σ' H' => σ'.length = X.N.length ∧ ∃ κc ρc stc, Rel X.K κc (Aside M A) H0 σ' H' ρc stc ∧ AftS κ σ H (ρ.set j .pin) κc σ' H' ρc ∧ Same (msk (Hid κ (Hid2 (Aside M A) (ρ.set j .pin) σ)) H) (msk (Hid κc (Hid2 (Aside M A) ρc σ')) H') ∧
        GoalS X.K xc W H0 κ M σ H ρ ((forL f (xs.drop (i + 1)) ρc stc).bind (unpin j xs)) D, fun σ' H' w => ⟨xs.length - (i + 1), by omega, rfl, hlt, w⟩, fun w H' y hln => ?_⟩
      obtain ⟨rfl, y2⟩ := y
      have ew := y2 vs (SqL.of hHc)
      rw [ev] at ew
      cases ew
      rw [List.drop_eq_getElem_cons hlt] at gc
      replace gc : GoalS X.K xc W H0 κ M σ H ρ (((f xs[i] ρc stc).bind fun o st => match o with
          | .next ρ' => forL f (xs.drop (i + 1)) ρ' st
          | .ret p n => .ok (.ret p n) st).bind (unpin j xs)) D := gc
      rw [← hf] at gc
      simp only at gc
      cases hs2 : setTg ρc t xs[i] with
      | none => rw [hs2] at gc; exact gc.elim
      | some ρ' =>
      rw [hs2] at gc
      simp only at gc
      rw [hf] at gc
      refine take_tg (wk := false) msk_le (fun z => by cases z) (.inl dv) hs2 (fun j hj => by rw [hln]; exact ht j hj) rc.ls fun σ2 tk => ?_
      obtain ⟨r2, a2⟩ := rc.took tk
      refine ⟨κc, Aside M A, ρ', stc, r2, ?_⟩
      match hr : run Γ sb ρ' stc, gc with
      | .stuck, gc => exact gc
      | .exc c fs st', gc =>
        intro κ' σ' H' cls d a3 x3
        have a4 := (toS (ac.trans a2))
        refine gc κ' σ' H' cls d ⟨a4.pre.trans a3.pre, fun b o e n w => ?_, a3.cells.less fun _ z => .inl z⟩ (x3.mono fun _ z => .inl z)
        have q := (ac.trans a2).keep b o e n fun z => w ((own_pin r hj hA b).mpr (.inl z))
        exact a3.keep b o q.1 q.2.1 q.2.2
      | .ok (.ret q n) st', gc =>
        intro κ' H' v a3 rp3 nw3
        have a4 := (toS (ac.trans a2))
        refine gc κ' H' v ⟨a4.pre.trans a3.pre, fun b o e n w => ?_, a3.cells.less fun _ z => .inl z⟩ (rp3.mono (List.prefix_refl _) (msk_mono fun b o n e => ⟨fun z => n (z.imp id .inl), e⟩)) fun hn => ?_
        · have q := (ac.trans a2).keep b o e n fun z => w ((own_pin r hj hA b).mpr (.inl z))
          exact a3.keep b o q.1 q.2.1 q.2.2
        · exact NewP.entry (fun a o e => ⟨o, e⟩) (fun _ z => .inl z) (nw3 hn)
      | .ok (.next ρ'') st', gc =>
        intro κ' σ' H'' a3 r3
        refine ⟨?_, κ', ρ'', st', r3, (ac.trans a2).trans a3, fun b o e => ?_, gc⟩
        · have q := r3.ls
          rw [← q]
          exact run_len hr (by rw [tk.lr, rc.ls, hln])
        · obtain ⟨n, e⟩ := msk_some.mp (sc b o e)
          have q := (a2.trans a3).keep b o e (fun z => n (.inl z)) fun z => n (.inr (.inr z))
          exact msk_some.mpr ⟨fun z => z.elim q.2.1 fun z => z.elim (fun z => n (.inr (.inl z))) q.2.2, q.1⟩
    · have ei : i = xs.length := by omega
      subst ei
      refine .inl ⟨⟨vs, SqL.of hHc, by rw [hd1.length]; exact Nat.le_refl _⟩, ?_⟩
      rw [List.drop_length] at gc
      replace gc : GoalS X.K xc W H0 κ M σ H ρ (unpin j xs (.next ρc) stc) D := gc
      simp only [unpin] at gc
      match hpj : ρc[j]?, gc with
      | some .pin, gc =>
        have hA' : σc[j]? = some (some (.ref A)) := (ac.pin j hpj).2.trans hA
        have nOc := (ac.keep A _ hH nk nO).2.2
        refine gc κc σc Hc ⟨ac.pre, fun b o e n w => ?_, fun i e => ?_⟩ (rc.unpinned (xs := .l xs) hpj hA' hHc ⟨vs, rfl, dc⟩ nM n0 nOc)
        · have q := ac.keep b o e n fun z => w ((own_pin r hj hA b).mpr (.inl z))
          refine ⟨q.1, q.2.1, fun ⟨i, ys, e1, e2⟩ => ?_⟩
          by_cases z : j = i
          · subst z
            rw [hA'] at e2
            cases e2
            exact w ⟨j, _, hj, hA⟩
          · rw [List.getElem?_set_ne z] at e1
            exact q.2.2 ⟨i, ys, e1, e2⟩
        · obtain ⟨z, e⟩ := pin_set (fun z => by cases z) e
          have q := ac.pin i e
          exact ⟨(List.getElem?_set_ne z).symm.trans q.1, q.2⟩
      | some (.sh _), gc => exact gc.elim
      | some .no, gc => exact gc.elim
      | some (.own _), gc => exact gc.elim
      | none, gc => exact gc.elim
theorem s_app {i : Nat} {x : Str} {q1 q2 q3 : Pos} (hN : X.N[i]? = some x) (hv : Vis X.env.scope x) (hd : (x == ("__debug__" : Str)) = false) (hcd : (x == ("__classdict__" : Str)) = false) (he : PE X e (rdE Γ X.K xc W ce)) (hs : starEach [e] X.env = (false, eval e X.env) :: starEach [] X.env)
    (h : ∀ t, PA X [e] t → PS X stm (tDrop (tBM X.K "list" rAppend (tVar i) t))) : PS X stm (rdS Γ X.K xc W H0 (.app i ce)) := psI (h _ (pa_cons he pa_nil hs)) fun D σ H hl ⟨κ, M, ρ, st, r, g⟩ => by
  simp only [run] at g
  match hi : ρ[i]?, g with
  | some (.own (.l xs0)), g =>
    obtain ⟨A, vs0, h1, h2, h3, h4, h5⟩ := r.owL i xs0 hi
    refine ⟨.ref A, h1, .inl ⟨rfl, _, .inl (.inl h2)⟩, ?_⟩
    refine GoalS.expr r g fun p st' κ' H' v ed a rp nw g' => ?_
    have ra := r.aft a
    cases p with
    | d y =>
      simp only at g'
      have rs : Rel X.K κ' M H0 σ H' (settle ρ (keeps false (.d y)) (occ ce)) st' := ra.settle
      match hi2 : (settle ρ (keeps false (.d y)) (occ ce))[i]?, g' with
      | some (.own (.l xs)), g' =>
        obtain ⟨B, vs, q1, q2, q3, q4, q5⟩ := rs.owL i xs hi2
        rw [h1] at q1
        cases q1
        simp only at g'
        split at g'
        · rename_i hlt
          have rv := Rel.settled (f := false) ra rp (.inl rfl)
          obtain ⟨r2, a2⟩ := rs.upd hi2 h1 (q3.append (.cons rv .nil))
          exact ⟨A, vs, v, rfl, rfl, q2, by rw [q3.length]; exact hlt, g' κ' σ _ ((r.aftS a).trans ((AftS.settle ra).trans a2)) r2⟩
        · exact g'.elim
      | some (.sh _), g' => exact g'.elim
      | some (.own (.d _)), g' => exact g'.elim
      | some .no, g' => exact g'.elim
      | some .pin, g' => exact g'.elim
      | none, g' => exact g'.elim
    | _ => exact g'.elim
  | some (.sh _), g => exact g.elim
  | some .no, g => exact g.elim
  | some .pin, g => exact g.elim
  | some (.own (.d _)), g => exact g.elim
  | none, g => exact g.elim
def rIns : V → List V → Hp → VK → Prop := fun x vs H Q => ∃ (l : Addr) (xs : List V) (i : Int) (y : V), x = .ref l ∧ vs = [.int i, y] ∧ H l = some (.lst xs) ∧ xs.length < sizeLine ∧ 0 ≤ i ∧ i < 2 ^ 63 ∧
    Q .non (upd H l (.lst (xs.take i.toNat ++ [y] ++ xs.drop i.toNat)))
theorem s_ins {i : Nat} (h : PS X stm (tDrop (tBM X.K "list" rIns (tVar i) (tCons (rdE Γ X.K xc W ci) (tCons (rdE Γ X.K xc W ce) tNil))))) : PS X stm (rdS Γ X.K xc W H0 (.ins i ci ce)) := psI h fun D σ H hl ⟨κ, M, ρ, st, r, g⟩ => by
  simp only [run] at g
  match hi : ρ[i]?, g with
  | some (.own (.l xs0)), g =>
    obtain ⟨A, vs0, h1, h2, h3, h4, h5⟩ := r.owL i xs0 hi
    refine ⟨.ref A, h1, .inl ⟨rfl, _, .inl (.inl h2)⟩, ?_⟩
    refine GoalS.expr r g fun q st₁ κ₁ H₁ w e1 a1 r1 nw1 g1 => ?_
    clear nw1
    have ra := r.aft a1
    refine GoalS.expr ra (GoalS.shift (r.aftS a1) g1) fun p st₂ κ₂ H₂ v e2 a2 r2 nw2 g2 => ?_
    have rb := ra.aft a2
    clear nw2
    split at g2
    · rename_i k y
      have ew : w = .int k := Dq.int_inv r1
      subst ew
      have rs : Rel X.K κ₂ M H0 σ H₂ (settle ρ (keeps false (.d y)) (occ ce)) st₂ := rb.settle
      match hi2 : (settle ρ (keeps false (.d y)) (occ ce))[i]?, g2 with
      | some (.own (.l xs)), g' =>
        obtain ⟨B, vs, q1, q2, q3, q4, q5⟩ := rs.owL i xs hi2
        rw [h1] at q1
        cases q1
        simp only at g'
        split at g'
        · rename_i hlt
          have rv := Rel.settled (f := false) rb r2 (.inl rfl)
          have q' := ((q3.take k.toNat).append (.cons rv .nil)).append (q3.drop k.toNat)
          rw [List.append_assoc] at q'
          rw [show xs.take k.toNat ++ [y] ++ xs.drop k.toNat = xs.take k.toNat ++ y :: xs.drop k.toNat by simp] at q'
          obtain ⟨r3, a3⟩ := rs.upd hi2 h1 q'
          rw [← List.append_assoc] at r3 a3
          exact ⟨A, vs, k, v, rfl, rfl, q2, by rw [q3.length]; exact hlt.1, hlt.2.1, by omega, g' κ₂ σ _ ((ra.aftS a2).trans ((AftS.settle rb).trans a3)) r3⟩
        · exact g'.elim
      | some (.sh _), g' => exact g'.elim
      | some (.own (.d _)), g' => exact g'.elim
      | some .no, g' => exact g'.elim
      | some .pin, g' => exact g'.elim
      | none, g' => exact g'.elim
    · exact g2.elim
  | some (.sh _), g => exact g.elim
  | some .no, g => exact g.elim
  | some .pin, g => exact g.elim
  | some (.own (.d _)), g => exact g.elim
  | none, g => exact g.elim
theorem s_setI2 {i : Nat} {ca cb cc cd : E} (h : PS X stm (tAsg (tTupN (tCons (rdE Γ X.K xc W ca) (tCons (rdE Γ X.K xc W cb) tNil))) (gTup X.K 2 (gCons (gSub (tVar i) (rdE Γ X.K xc W cc) rSetL) (gCons (gSub (tVar i) (rdE Γ X.K xc W cd) rSetL) gNil))))) : PS X stm (rdS Γ X.K xc W H0 (.setI2 i cc cd ca cb)) := psI h fun D σ H hl ⟨κ, M, ρ, st, r, g⟩ => by
  simp only [run] at g
  match hi : ρ[i]?, g with
  | some (.own (.l xs)), g =>
    obtain ⟨A, vs0, h1, h2, h3, h4, h5⟩ := r.owL i xs hi
    show rdE Γ X.K xc W ca σ H _
    refine GoalS.expr r g fun p st₁ κ₁ H₁ v e1 a1 r1 nw1 g1 => ?_
    clear nw1
    have ra := r.aft a1
    show rdE Γ X.K xc W cb σ H₁ _
    refine GoalS.expr ra (GoalS.shift (r.aftS a1) g1) fun q st₂ κ₂ H₂ w e2 a2 r2 nw2 g2 => ?_
    clear nw2
    have rb := ra.aft a2
    refine ⟨by show 2 ≤ sizeLine; rw [sizeLine_eq]; decide, fun t o nt od => ?_⟩
    have sm : Same H₂ (upd H₂ t (.frz o (.tup [v, w]))) := Same.upd nt
    have at_ := Aft.of_same (rb.envE []).cells sm
    have rc := rb.aft at_
    refine ⟨t, _, rfl, SqN.t ⟨o, upd_same, od⟩, rfl, ?_⟩
    refine ⟨v, [w], rfl, .ref A, h1, ?_⟩
    show rdE Γ X.K xc W cc σ _ _
    refine GoalS.expr rc (GoalS.shift ((ra.aftS a2).trans (rb.aftS at_)) g2) fun x st₃ κ₃ H₃ z e3 a3 r3 nw3 g3 => ?_
    clear nw3
    have rd := rc.aft a3
    split at g3
    · rename_i u1 w1 k1
      have ev : v = .int u1 := Dq.int_inv r1
      subst ev
      have ew : w = .int w1 := Dq.int_inv r2
      subst ew
      obtain ⟨B, vs, q1, q2, q3, q4, q5⟩ := rd.owL i xs hi
      rw [h1] at q1
      cases q1
      cases hx : ixN xs.length k1 with
      | none => rw [hx] at g3; exact g3.elim
      | some j =>
        rw [hx] at g3
        obtain ⟨r4, a4⟩ := rd.upd hi h1 (q3.set j (.int u1))
        refine ⟨A, vs, k1, j, rfl, Dq.int_inv r3, q2, by rw [q3.length]; exact hx, ?_⟩
        refine ⟨.int w1, [], rfl, .ref A, h1, ?_⟩
        show rdE Γ X.K xc W cd σ _ _
        refine GoalS.expr r4 (GoalS.shift ((rc.aftS a3).trans a4) g3) fun y st₅ κ₅ H₅ z5 e5 a5 r5 nw5 g5 => ?_
        clear nw5
        have re := r4.aft a5
        split at g5
        · rename_i m1
          have hi5 : (ρ.set i (.own (.l (xs.set j (.int u1)))))[i]? = some (.own (.l (xs.set j (.int u1)))) := List.getElem?_set_self (List.getElem?_eq_some_iff.mp hi).1
          obtain ⟨B, ws, q1, q2', q3', q4', q5'⟩ := re.owL i _ hi5
          rw [h1] at q1
          cases q1
          cases hy : ixN (xs.set j (.int u1)).length m1 with
          | none => rw [hy] at g5; exact g5.elim
          | some l =>
            rw [hy] at g5
            obtain ⟨r6, a6⟩ := re.upd hi5 h1 (q3'.set l (.int w1))
            exact ⟨A, ws, m1, l, rfl, Dq.int_inv r5, q2', by rw [q3'.length]; exact hy, rfl, g5 κ₅ σ _ ((r4.aftS a5).trans a6) r6⟩
        · exact g5.elim
    · exact g3.elim
  | some (.sh _), g => exact g.elim
  | some .no, g => exact g.elim
  | some .pin, g => exact g.elim
  | some (.own (.d _)), g => exact g.elim
  | none, g => exact g.elim
theorem s_rem {i : Nat} (h : PS X stm (tDrop (tBM X.K "list" (rRem X.K) (tVar i) (tCons (rdE Γ X.K xc W ce) tNil)))) : PS X stm (rdS Γ X.K xc W H0 (.rem i ce)) := psI h fun D σ H hl ⟨κ, M, ρ, st, r, g⟩ => by
  simp only [run] at g
  match hi : ρ[i]?, g with
  | some (.own (.l xs0)), g =>
    obtain ⟨A, vs0, h1, h2, h3, h4, h5⟩ := r.owL i xs0 hi
    refine ⟨.ref A, h1, .inl ⟨rfl, _, .inl (.inl h2)⟩, ?_⟩
    refine GoalS.expr r g fun p st' κ' H' v ed a rp nw g' => ?_
    have ra := r.aft a
    cases p with
    | d y =>
      simp only at g'
      have rs : Rel X.K κ' M H0 σ H' (settle ρ (keeps false (.d y)) (occ ce)) st' := ra.settle
      match hi2 : (settle ρ (keeps false (.d y)) (occ ce))[i]?, g' with
      | some (.own (.l xs)), g' =>
        obtain ⟨B, vs, q1, q2, q3, q4, q5⟩ := rs.owL i xs hi2
        rw [h1] at q1
        cases q1
        simp only at g'
        split at g'
        · rename_i hf
          split at g'
          · rename_i j hj
            have rv := Rel.settled (f := false) ra rp (.inl rfl)
            obtain ⟨r2, a2⟩ := rs.upd hi2 h1 (q3.eraseIdx j)
            exact ⟨_, A, vs, v, xs, y, j, rfl, rfl, q2, msk_le, q3, rv, hf.1, hf.2, hj, g' κ' σ _ ((r.aftS a).trans ((AftS.settle ra).trans a2)) r2⟩
          · exact g'.elim
        · exact g'.elim
      | some (.sh _), g' => exact g'.elim
      | some (.own (.d _)), g' => exact g'.elim
      | some .no, g' => exact g'.elim
      | some .pin, g' => exact g'.elim
      | none, g' => exact g'.elim
    | _ => exact g'.elim
  | some (.sh _), g => exact g.elim
  | some .no, g => exact g.elim
  | some .pin, g => exact g.elim
  | some (.own (.d _)), g => exact g.elim
  | none, g => exact g.elim
theorem s_setI {i : Nat} {ti : TE} (h : PS X stm (tAsg (rdE Γ X.K xc W ce) (gSub (tVar i) (rdE Γ X.K xc W ci) (fun o i v H Q => rSetL o i v H Q ∨ rSetG X.K o i v H Q)))) : PS X stm (rdS Γ X.K xc W H0 (.setI i ci ce)) := psI h fun D σ H hl ⟨κ, M, ρ, st, r, g⟩ => by
  simp only [run] at g
  match hi : ρ[i]?, g with
  | some (.own (.l xs0)), g =>
    obtain ⟨A, vs0, h1, h2, h3, h4, h5⟩ := r.owL i xs0 hi
    refine GoalS.expr r g fun p st₁ κ₁ H₁ v e1 a1 r1 _ g1 => ⟨.ref A, h1, ?_⟩
    have ra := r.aft a1
    refine GoalS.expr ra (GoalS.shift (r.aftS a1) g1) fun q st₂ κ₂ H₂ w e2 a2 r2 _ g2 => ?_
    have rb := ra.aft a2
    cases p with
    | d y =>
      cases q with
      | d z =>
        cases z with
        | int kk =>
          simp only at g2
          have rs : Rel X.K κ₂ M H0 σ H₂ (settle ρ (keeps false (.d y)) (occ ce)) st₂ := rb.settle
          match hi2 : (settle ρ (keeps false (.d y)) (occ ce))[i]?, g2 with
          | some (.own (.l xs)), g2 =>
            obtain ⟨B, vs, q1, q2, q3, q4, q5⟩ := rs.owL i xs hi2
            rw [h1] at q1
            cases q1
            simp only at g2
            cases hx : ixN xs.length kk with
            | none => rw [hx] at g2; exact g2.elim
            | some j =>
              rw [hx] at g2
              have rv := Rel.settled (f := false) rb (r1.mono a2.pre a2.sameM) (.inl rfl)
              obtain ⟨r3, a3⟩ := rs.upd hi2 h1 (q3.set j rv)
              exact .inl ⟨A, vs, kk, j, rfl, Dq.int_inv r2, q2, by rw [q3.length]; exact hx, g2 κ₂ σ _ ((ra.aftS a2).trans ((AftS.settle rb).trans a3)) r3⟩
          | some (.sh _), g2 => exact g2.elim
          | some (.own (.d _)), g2 => exact g2.elim
          | some .no, g2 => exact g2.elim
          | none, g2 => exact g2.elim
        | _ => exact g2.elim
      | _ => exact g2.elim
    | _ => exact g2.elim
  | some (.own (.d ks0)), g =>
    obtain ⟨A, o, h1, h2, h3, h4, h5⟩ := r.ow i _ hi
    refine GoalS.expr r g fun p st₁ κ₁ H₁ v e1 a1 r1 _ g1 => ⟨.ref A, h1, ?_⟩
    have ra := r.aft a1
    refine GoalS.expr ra (GoalS.shift (r.aftS a1) g1) fun q st₂ κ₂ H₂ w e2 a2 r2 _ g2 => ?_
    have rb := ra.aft a2
    cases p with
    | d y =>
      cases q with
      | d z =>
        simp only at g2
        have rs : Rel X.K κ₂ M H0 σ H₂ (settle ρ (keeps false (.d y)) (occ ce)) st₂ := rb.settle
        match hi2 : (settle ρ (keeps false (.d y)) (occ ce))[i]?, g2 with
        | some (.own (.d ks)), g2 =>
          obtain ⟨B, o', q1, q2, ⟨ep, ms, rfl, q3, q3b, q3c, q3d⟩, q4, q5⟩ := rs.ow i _ hi2
          rw [h1] at q1
          cases q1
          simp only at g2
          split at g2
          · rename_i hc
            have rv := Rel.settled (f := false) rb (r1.mono a2.pre a2.sameM) (.inl rfl)
            have wk : Dq X.K (msk (Hid κ₂ (Hid2 M (settle ρ (keeps false (.d y)) (occ ce)) σ)) H₂) w z := Dq.calm (fun A' o us q => by
              obtain ⟨n, e⟩ := msk_some.mp q
              refine msk_some.mpr ⟨fun z => ?_, e⟩
              rcases z with z | z | z
              · exact n (.inl z)
              · exact n (.inr (.inl z))
              · obtain ⟨j, ys, e1, e2⟩ := own_settle rb A' z
                obtain ⟨c, ws, y1, y2, y3, _⟩ := rb.ow j ys e1
                rw [e2] at y1
                cases y1
                rw [e] at y2
                cases y2
                exact y3.noTup o us rfl) r2 (nestI_calm (clsK_nest hc.1))
            refine .inr ⟨A, ep, ms, _, ks, z, y, rfl, q2, msk_le, q3, q3b, q3c, q3d, wk, rv, hc.1, hc.2, fun ep' ms' t1 t2 t3 => ?_⟩
            obtain ⟨r3, a3⟩ := rs.updO (ys := .d (storeD ks z y)) hi2 h1 ⟨ep', ms', rfl, t1, t2, t3, store_ok q3d hc.1⟩
            exact g2 κ₂ σ _ ((ra.aftS a2).trans ((AftS.settle rb).trans a3)) r3
          · exact g2.elim
        | some (.own (.l _)), g2 => exact g2.elim
        | some (.sh _), g2 => exact g2.elim
        | some .no, g2 => exact g2.elim
        | some .pin, g2 => exact g2.elim
        | none, g2 => exact g2.elim
      | _ => exact g2.elim
    | _ => cases q <;> exact g2.elim
  | some (.sh (.cell c)), g =>
    obtain ⟨vc, h1, A, h2, rfl⟩ := r.sh i _ hi
    refine GoalS.expr r g fun p st₁ κ₁ H₁ v e1 a1 r1 _ g1 => ⟨.ref A, h1, ?_⟩
    have ra := r.aft a1
    refine GoalS.expr ra (GoalS.shift (r.aftS a1) g1) fun q st₂ κ₂ H₂ w e2 a2 r2 _ g2 => ?_
    have rb := ra.aft a2
    cases p with
    | d y =>
      cases q with
      | d z =>
        cases z with
        | int kk =>
          simp only at g2
          have hk : κ₂[c]? = some A := by
            obtain ⟨t, rfl⟩ := a1.pre.trans a2.pre
            rw [List.getElem?_append_left (List.getElem?_eq_some_iff.mp h2).1]
            exact h2
          cases hc : st₂[c]? with
          | none => rw [hc] at g2; exact g2.elim
          | some cx =>
            obtain ⟨B, ds, vs, q1, q2, q3, q4, q5⟩ := rb.cells.at_ c cx hc
            rw [hk] at q1
            cases q1
            subst q2
            simp only [hc] at g2
            cases hx : ixN ds.length kk with
            | none => rw [hx] at g2; exact g2.elim
            | some j =>
              rw [hx] at g2
              simp only at g2
              split at g2
              · rename_i hcy
                have rv : Dq X.K (msk (Hid κ₂ (Hid2 M ρ σ)) H₂) v y := by
                  have q := Rel.settled (f := false) rb (r1.mono a2.pre a2.sameM) (.inl rfl)
                  have hkp : keeps false (.d y) = true := by
                    cases y with
                    | list ys => simp [calm] at hcy
                    | _ => simpa [keeps] using hcy
                  rw [hkp] at q
                  exact q
                obtain ⟨r3, a3⟩ := rb.updCell hk (List.getElem?_eq_some_iff.mp hc).1 (q4.set j rv) (calmAll_set q5 hcy)
                exact .inl ⟨A, vs, kk, j, rfl, Dq.int_inv r2, q3, by rw [q4.length]; exact hx, g2 κ₂ σ _ ((ra.aftS a2).trans a3) r3⟩
              · exact g2.elim
        | _ => exact g2.elim
      | _ => exact g2.elim
    | _ => exact g2.elim
  | some (.sh (.d _)), g => exact g.elim
  | some (.sh (.exn _ _ _ _)), g => exact g.elim
  | some .no, g => exact g.elim
  | some .pin, g => exact g.elim
  | none, g => exact g.elim
theorem calmAll_of : ∀ {xs : List Sw.D}, (∀ x ∈ xs, calm x = true) → calmAll xs = true
  | [], _ => rfl
  | x :: xs, h => by rw [calmAll, h x (by simp), calmAll_of fun y hy => h y (by simp [hy])]; rfl
theorem s_dNew {i : Nat} (h : PS X stm (tAsg tDN (gName i))) (hi : i < X.N.length) : PS X stm (rdS Γ X.K xc W H0 (.dNew i)) := psI h fun D σ H hl ⟨κ, M, ρ, st, r, g⟩ => by
  simp only [run] at g
  intro q nq
  have hi' : i < σ.length := by rw [hl]; exact hi
  have sm : Same H (upd H q (dE q 0 [])) := Same.upd nq
  refine g κ _ _ ⟨List.prefix_refl _, fun b o e n w => ⟨sm _ _ e, n, fun ⟨j, ys, e1, e2⟩ => ?_⟩, fun j e => have q := pin_set (fun z => by cases z) e; ⟨q.2, List.getElem?_set_ne q.1⟩⟩
    (r.setOw (List.prefix_refl _) (fun b o e n => ⟨sm _ _ e, n⟩) (r.grown sm) nq upd_same (fun z => r.cells.free nq (.inl z)) ⟨0, [], rfl, .nil, .nil, rfl, rfl⟩ hi')
  by_cases z : i = j
  · subst z
    rw [List.getElem?_set_self hi'] at e2
    cases e2
    rw [nq] at e
    cases e
  · rw [List.getElem?_set_ne z] at e1 e2
    exact w ⟨j, ys, e1, e2⟩
theorem s_dCpy {i : Nat} (h : PS X stm (tAsg (tCB (rCopyG X.K) (tCons (rdE Γ X.K xc W ce) tNil)) (gName i))) (hi : i < X.N.length) : PS X stm (rdS Γ X.K xc W H0 (.dCpy i ce)) := psI h fun D σ H hl ⟨κ, M, ρ, st, r, g⟩ => by
  simp only [run] at g
  refine GoalS.expr r g fun p st' κ' H' v ed a rp nw g' => ?_
  have ra := r.aft a
  have hi' : i < σ.length := by rw [hl]; exact hi
  cases p with
  | d x =>
    cases x with
    | dict ks =>
      simp only at g'
      split at g'
      · rename_i hc
        have hk : ∀ p ∈ ks, isI p.1 = true ∧ calm p.2 = true := fun p hp => by
          have := List.all_eq_true.mp hc.1 p hp
          rwa [Bool.and_eq_true] at this
        refine ⟨_, v, ks, rfl, msk_le, rp, List.all_eq_true.mpr fun p hp => (hk p hp).1, hc.2, fun q ep ms nq t1 t2 t3 ok => ?_⟩
        have sm : Same H' (upd H' q (dE q ep ms)) := Same.upd nq
        have seen : ∀ A o us, msk (Hid κ' (HidE M ρ σ (occ ce))) H' A = some (.frz o (.tup us)) → msk (fun b => Hid κ' (Hid2 M ρ σ) b ∨ b = q) (upd H' q (dE q ep ms)) A = some (.frz o (.tup us)) := fun A o us z => by
          obtain ⟨n, e⟩ := msk_some.mp z
          refine msk_some.mpr ⟨fun z => ?_, sm _ _ e⟩
          rcases z with (z | z | ⟨j, ys, e1, e2⟩) | z
          · exact n (.inl z)
          · exact n (.inr (.inl z))
          · obtain ⟨c, ws, y1, y2, y3, _⟩ := ra.ow j ys e1
            rw [e2] at y1
            cases y1
            rw [e] at y2
            cases y2
            exact y3.noTup o us rfl
          · rw [z, nq] at e
            cases e
        have c1 : calmAll (ks.map (·.1)) = true := calmAll_of fun x hx => by
          obtain ⟨p, hp, rfl⟩ := List.mem_map.mp hx
          exact nestI_calm (isI_nest (hk p hp).1)
        have c2 : calmAll (ks.map (·.2)) = true := calmAll_of fun x hx => by
          obtain ⟨p, hp, rfl⟩ := List.mem_map.mp hx
          exact (hk p hp).2
        refine g' κ' _ _ ⟨a.pre, fun b o e n w => ?_, fun j e => have q := pin_set (fun z => by cases z) e; ⟨q.2, List.getElem?_set_ne q.1⟩⟩
          (ra.setOw (List.prefix_refl _) (fun b o e n => ⟨sm _ _ e, n⟩) (ra.grown sm) nq upd_same (fun z => ra.cells.free nq (.inl z)) ⟨ep, ms, rfl, t1.calm seen c1, t2.calm seen c2, t3, ok⟩ hi')
        have k1 := a.keep b o e n
        refine ⟨sm _ _ k1.1, k1.2, fun ⟨j, ys, e1, e2⟩ => ?_⟩
        by_cases z : i = j
        · subst z
          rw [List.getElem?_set_self hi'] at e2
          cases e2
          rw [nq] at k1
          cases k1.1
        · rw [List.getElem?_set_ne z] at e1 e2
          exact w ⟨j, ys, e1, e2⟩
      · exact g'.elim
    | _ => exact g'.elim
  | _ => exact g'.elim
theorem popD_ok {xs : List Sw.D} {k : Int} {y : Sw.D} {zs : List Sw.D} (h : popD xs k = some (y, zs)) : 0 ≤ k ∧ k < 1000000 ∧ xs[k.toNat]? = some y ∧ zs = xs.eraseIdx k.toNat := by
  unfold popD at h
  split at h
  · rename_i hk
    obtain ⟨u, h1, h2⟩ := Option.map_eq_some_iff.mp h
    cases h2
    exact ⟨hk.1, hk.2, h1, rfl⟩
  · cases h
theorem seqIx {k : Int} {n : Nat} (h0 : 0 ≤ k) (h1 : k.toNat < n) : seqIndex? k n = some k.toNat := by
  unfold seqIndex?
  have a : ¬ k < 0 := by omega
  simp only [if_neg a]
  have b : k < (n : Int) := by omega
  simp [h0, b]
theorem s_whl {n : Nat} (hp : PassesOwn (model X.prog X.w) X.A X.env X.xe) (hc : PT X e (rdT Γ X.K xc W ce)) (hb : PSs X stms (rdS Γ X.K xc W H0 sb)) : PS X (.While e stms [] pos) (rdS Γ X.K xc W H0 (.whl n ce sb)) := psI (ps_while hp hc hb) fun D σ H hl ⟨κ, M, ρ, st, r, g⟩ => by
  simp only [run] at g
  refine ⟨fun m σc Hc => ∃ κc ρc stc, Rel X.K κc M H0 σc Hc ρc stc ∧ GoalS X.K xc W H0 κc M σc Hc ρc (whileL (den Γ ce) (run Γ sb) m ρc stc) D, ⟨n, κ, ρ, st, r, g⟩, fun m σc Hc w => ?_⟩
  obtain ⟨κc, ρc, stc, rc, gc⟩ := w
  cases m with
  | zero => exact gc.elim
  | succ m =>
    simp only [whileL] at gc
    refine GoalS.test (f := fun k st => if k = true then (run Γ sb ρc st).bind fun o st => match o with
        | .next ρ' => whileL (den Γ ce) (run Γ sb) m ρ' st
        | .ret p m => .ok (.ret p m) st
      else .ok (.next ρc) st) rc gc fun kb st' κ' H' a r' g' => ?_
    cases kb with
    | false =>
      rw [if_neg (by decide)]
      rw [if_neg (by decide)] at g'
      exact g' κ' σc H' AftS.refl r'
    | true =>
      rw [if_pos rfl]
      rw [if_pos rfl] at g'
      refine ⟨fun σ' H' => ∃ κ2 ρ2 st2, Rel X.K κ2 M H0 σ' H' ρ2 st2 ∧ GoalS X.K xc W H0 κ2 M σ' H' ρ2 (whileL (den Γ ce) (run Γ sb) m ρ2 st2) D, fun σ' H' w => ⟨m, Nat.lt_succ_self m, w⟩, κ', M, ρc, st', r', ?_⟩
      match hr : run Γ sb ρc st', g' with
      | .stuck, g' => exact g'
      | .exc c fs st'', g' => exact g'
      | .ok (.ret q b) st'', g' => exact g'
      | .ok (.next ρ'') st'', g' => exact fun κ2 σ2 H2 a2 r2 => ⟨κ2, ρ'', st'', r2, GoalS.shift a2 g'⟩
theorem s_popA {i j : Nat} (h : PS X stm (tDrop (tBM X.K "list" rAppend (tVar i) (tCons (tBM X.K "list" rPopAt (tVar j) (tCons (rdE Γ X.K xc W ce) tNil)) tNil)))) : PS X stm (rdS Γ X.K xc W H0 (.popA i j ce)) := psI h fun D σ H hl ⟨κ, M, ρ, st, r, g⟩ => by
  simp only [run] at g
  split at g
  · rename_i xs ys hi hj
    split at g
    · exact g.elim
    rename_i ne
    obtain ⟨A, us, a1, a2, a3, a4, a5⟩ := r.owL i xs hi
    obtain ⟨B, vs, b1, b2, b3, b4, b5⟩ := r.owL j ys hj
    refine ⟨.ref A, a1, .inl ⟨rfl, _, .inl (.inl a2)⟩, ?_⟩
    refine ⟨.ref B, b1, .inl ⟨rfl, _, .inl (.inl b2)⟩, ?_⟩
    refine GoalS.expr r g fun p st' κ' H' v ed a rp nw g' => ?_
    have ra := r.aft a
    split at g'
    · rename_i k
      have ev := Dq.int_inv rp
      subst ev
      split at g'
      · rename_i y zs hp
        split at g'
        · rename_i hlt
          obtain ⟨k0, k1, hy, rfl⟩ := popD_ok hp
          obtain ⟨B', vs', c1, c2, c3, _, _⟩ := ra.owL j ys hj
          rw [b1] at c1
          cases c1
          obtain ⟨yv, hyv, dy⟩ := c3.get hy
          have hl2 : k.toNat < vs'.length := (List.getElem?_eq_some_iff.mp hyv).1
          obtain ⟨r2, s2⟩ := ra.upd hj b1 (c3.eraseIdx k.toNat)
          have hi2 : (ρ.set j (.own (.l (ys.eraseIdx k.toNat))))[i]? = some (.own (.l xs)) := by rw [List.getElem?_set_ne (fun z => ne z.symm)]; exact hi
          obtain ⟨A', us', d1, d2, d3, _, _⟩ := r2.owL i xs hi2
          rw [a1] at d1
          cases d1
          obtain ⟨r3, s3⟩ := r2.upd hi2 a1 (d3.append (.cons (Dq.mono (ra.upd_mask hj b1) dy) .nil))
          exact ⟨B, vs', k, k.toNat, yv, rfl, rfl, c2, by omega, by omega, seqIx k0 hl2, hyv, A, us', yv, rfl, rfl, d2, by rw [d3.length]; exact hlt, g' κ' σ _ (((r.aftS a).trans s2).trans s3) r3⟩
        · exact g'.elim
      · exact g'.elim
    · exact g'.elim
  · exact g.elim
theorem s_popS {i j : Nat} (h : PS X stm (tAsg (tBM X.K "list" rPopAt (tVar j) (tCons (rdE Γ X.K xc W ce) tNil)) (gName i))) (hi : i < X.N.length) : PS X stm (rdS Γ X.K xc W H0 (.popS i j ce)) := psI h fun D σ H hl ⟨κ, M, ρ, st, r, g⟩ => by
  simp only [run] at g
  split at g
  · rename_i ys hj
    split at g
    · exact g.elim
    rename_i ne
    obtain ⟨B, vs, b1, b2, b3, b4, b5⟩ := r.owL j ys hj
    refine ⟨.ref B, b1, .inl ⟨rfl, _, .inl (.inl b2)⟩, ?_⟩
    refine GoalS.expr r g fun p st' κ' H' v ed a rp nw g' => ?_
    have ra := r.aft a
    split at g'
    · rename_i k
      have ev := Dq.int_inv rp
      subst ev
      split at g'
      · rename_i y zs hp
        obtain ⟨k0, k1, hy, rfl⟩ := popD_ok hp
        obtain ⟨B', vs', c1, c2, c3, _, _⟩ := ra.owL j ys hj
        rw [b1] at c1
        cases c1
        obtain ⟨yv, hyv, dy⟩ := c3.get hy
        have hl2 : k.toNat < vs'.length := (List.getElem?_eq_some_iff.mp hyv).1
        obtain ⟨r2, s2⟩ := ra.upd hj b1 (c3.eraseIdx k.toNat)
        have hi' : i < σ.length := by rw [hl]; exact hi
        exact ⟨B, vs', k, k.toNat, yv, rfl, rfl, c2, by omega, by omega, seqIx k0 hl2, hyv, g' κ' _ _ (((r.aftS a).trans s2).trans .setSh) (r2.setSh hi' (Dq.mono (ra.upd_mask hj b1) dy))⟩
      · exact g'.elim
    · exact g'.elim
  · exact g.elim
theorem s_ext {i : Nat} {x : Str} (h : PS X stm (tDrop (tBM X.K "list" rExtend (tVar i) (tCons (rdE Γ X.K xc W ce) tNil)))) : PS X stm (rdS Γ X.K xc W H0 (.ext i ce)) := psI h fun D σ H hl ⟨κ, M, ρ, st, r, g⟩ => by
  simp only [run] at g
  split at g
  · rename_i xs hi
    split at g
    · rename_i hf
      obtain ⟨A, us, a1, a2, a3, a4, a5⟩ := r.owL i xs hi
      refine ⟨.ref A, a1, .inl ⟨rfl, _, .inl (.inl a2)⟩, ?_⟩
      refine GoalS.expr r g fun p st' κ' H' v ed a rp nw g' => ?_
      have ra := r.aft a
      split at g'
      · rename_i ys
        split at g'
        · rename_i hc
          obtain ⟨B, vs, rfl, n1, n2, n3, n4⟩ := nw hf
          obtain ⟨A', us', d1, d2, d3, _, _⟩ := ra.owL i xs hi
          rw [a1] at d1
          cases d1
          have own : ∀ b, Own ρ σ b → ∃ o, H' b = some o ∧ ∀ ob us, o ≠ .frz ob (.tup us) := fun b ⟨j, zs, e1, e2⟩ => by
            obtain ⟨c, ws, h1, h2, h3, _⟩ := ra.ow j zs e1
            rw [e2] at h1
            cases h1
            exact ⟨ws, h2, h3.noTup⟩
          have seen : ∀ b ob zs, msk (fun b => Hid κ' (HidE M ρ σ (occ ce)) b ∨ b = B) H' b = some (.frz ob (.tup zs)) → msk (Hid κ' (Hid2 M ρ σ)) H' b = some (.frz ob (.tup zs)) := fun b ob zs q => by
            obtain ⟨n, e⟩ := msk_some.mp q
            refine msk_some.mpr ⟨fun z => ?_, e⟩
            rcases z with z | z | z
            · exact n (.inl (.inl z))
            · exact n (.inl (.inr (.inl z)))
            · obtain ⟨ws, e', no⟩ := own b z
              rw [e] at e'
              cases e'
              exact no ob zs rfl
          have d4 := DqAll.calm seen n4 hc.1
          obtain ⟨r2, s2⟩ := ra.upd hi a1 (d3.append d4)
          exact ⟨A, B, us', vs, rfl, rfl, d2, n2, by rw [d3.length, d4.length]; exact hc.2, g' κ' σ _ ((r.aftS a).trans s2) r2⟩
        · exact g'.elim
      · exact g'.elim
    · exact g.elim
  · exact g.elim
theorem s_extV {i j : Nat} (h : PS X stm (tDrop (tBM X.K "list" rExtend (tVar i) (tCons (tVar j) tNil)))) : PS X stm (rdS Γ X.K xc W H0 (.extV i j)) := psI h fun D σ H hl ⟨κ, M, ρ, st, r, g⟩ => by
  simp only [run] at g
  split at g
  · rename_i xs ys hi hj
    split at g
    · rename_i hc
      obtain ⟨A, us, a1, a2, a3, a4, a5⟩ := r.owL i xs hi
      obtain ⟨B, vs, b1, b2, b3, b4, b5⟩ := r.owL j ys hj
      obtain ⟨r2, s2⟩ := r.upd hi a1 (a3.append b3)
      exact ⟨.ref A, a1, .inl ⟨rfl, _, .inl (.inl a2)⟩, .ref B, b1, A, B, us, vs, rfl, rfl, a2, b2, by rw [a3.length, b3.length]; exact hc.2, g κ σ _ s2 r2⟩
    · exact g.elim
  · exact g.elim
theorem s_raiseS {c : Nat} {x m : Str} {j : Nat} {p p2 pos pos2 : Pos} (hc : X.calm = true) (tk : Takes X W) (xk : XCls X.K xc c) (hq : PySem.W.excIn X.K (xc c) [.type "ValueError", .type "Exception", .type "BaseException", .type "object"] "ValueError.__new__" = true) (gC : X.mg x = some (.ref (xc c))) (hg : Gl X x)
    (hdb : (x == ("__debug__" : Str)) = false) : PS X (.Raise (some (.Call (.Name x p) [.Constant (.str m) j p2] [] pos)) none pos2) (rdS Γ X.K xc W H0 (.raiseS c)) :=
  psI (L2.ps_raise hc tk (L2.pmk_own PySem.F.excBase_ValueError hq gC xk.kp (L2.raises_own xk.bs xk.ty) hg hdb)) fun D σ H hl ⟨κ, M, ρ, st, r, g⟩ => by
    simp only [run] at g
    split at g
    · exact g κ σ H (.ref (xc c)) none ⟨List.prefix_refl _, fun b o e n _ => ⟨e, n⟩, r.cells.less fun _ z => .inl z⟩ ⟨rfl, xk, .inl ⟨rfl, rfl⟩⟩
    · exact g.elim
theorem xcF_inv {c : Nat} {xs : List D} {fs : List (Str × D)} (h : xcF c xs = some fs) : 6 ≤ c ∧ c ≤ 9 ∧ xs.length = (xfN c).length ∧ xs.all strOk = true ∧ fs = ((xfN c).zip xs).reverse := by
  unfold xcF at h
  simp only [Option.ite_none_right_eq_some, Option.some.injEq] at h
  obtain ⟨⟨h1, h2, h3, h4⟩, rfl⟩ := h
  exact ⟨h1, h2, h3, h4, rfl⟩
theorem dq_fields {K : PySem.W.Frag} {H : Hp} {ns : List Str} {ws : List V} {xs : List D} (h : xs.length = ns.length) (d : DqAll K H ws xs) : DqAll K H ((ns.zip ws).reverse.map (·.2)) ((ns.zip xs).reverse.map (·.2)) := by
  have l := d.length
  rw [List.map_reverse, List.map_reverse, List.map_snd_zip (by omega), List.map_snd_zip (by omega)]
  exact d.reverse
theorem upd_end {H : Hp} {a d : Addr} {u v w z : HO} (ha : H a = none) (ne : d ≠ a) : upd (del (upd (upd (upd H a u) d v) a w) a) d z = upd H d z := by
  funext b
  by_cases h1 : b = d
  · subst h1; rw [upd_same, upd_same]
  · rw [upd_ne h1, upd_ne h1]
    by_cases h2 : b = a
    · subst h2; rw [del_same, ha]
    · rw [del_ne h2, upd_ne h2, upd_ne h1, upd_ne h2]
theorem s_raiseA {c : Nat} {x : Str} {e0 : Expr} {es : List Expr} {p pos2 : Pos} (hc : X.calm = true) (hr : Room 2 X.A) (gd : X.A.guards = some []) (tk : Takes X W) (xk : XCls X.K xc c) (mk : 6 ≤ c → c ≤ 9 → XMk X.prog X.w X.K X.mg X.base (xc c) (xfN c)) (hb : 6 ≤ c ∧ c ≤ 9) (gC : X.mg x = some (.ref (xc c))) (hg : Gl X x)
    (ha : PA X (e0 :: es) (rdA Γ X.K xc W ce)) (he : starEach (e0 :: es) X.env = (false, eval e0 X.env) :: starEach es X.env) (hpl : (backTo pos (starEach es X.env)).any (·.1) = false) (hdb : (x == ("__debug__" : Str)) = false) : PS X (.Raise (some (.Call (.Name x p) (e0 :: es) [] pos)) none pos2) (rdS Γ X.K xc W H0 (.raiseA c ce)) := by
  obtain ⟨T, hno, fI, fd, iC, tI, bd, F1⟩ := mk hb.1 hb.2
  refine psI (L2.ps_raise hc tk (pmk_oexG T iC tI F1 hr gd bd passL hg gC ha hdb he hpl)) fun D σ H hl ⟨κ, M, ρ, st, r, g⟩ => ?_
  simp only [run] at g
  refine ⟨κ, HidE M ρ σ (occ ce), ρ, st, r.envE (occ ce), ?_⟩
  cases hd : denA Γ ce ρ st with
  | stuck => rw [hd] at g; exact g.elim
  | exc c' fs' st' =>
    rw [hd] at g
    exact fun κ' H' cls d a x => g κ' σ H' cls d (r.aftR a) (x.mono fun _ z => .inl z)
  | ok ps st' =>
    rw [hd] at g
    simp only [Res.bind, raiseR] at g
    intro κ₁ H₁ a1 vs rv
    by_cases hh : Γ.hot = none
    · rw [if_pos hh] at g
      cases hx : (asDs ps).bind (xcF c) with
      | none => rw [hx] at g; exact g.elim
      | some fs =>
        rw [hx] at g
        obtain ⟨xs, e1, e2⟩ := Option.bind_eq_some_iff.mp hx
        obtain ⟨_, _, hl2, hok, rfl⟩ := xcF_inv e2
        have dq := rv.ds e1
        have hlv : vs.length = (xfN c).length := dq.length.trans hl2
        have hlen : vs.length ≤ 2 := by
          rw [hlv]
          rcases (by omega : c = 6 ∨ c = 7 ∨ c = 8 ∨ c = 9) with rfl | rfl | rfl | rfl <;> decide
        refine ⟨by omega, fun a na => ⟨a, vs, xs, by rw [List.append_nil], hlv, (dq.mono msk_le).mono (Same.upd na), hok, T, hno, upd_same, fun dx nd ne => ⟨rfl, dx, _, upd_same, by rw [upd_ne ne, upd_same], ?_, ?_⟩⟩⟩
        · rwa [upd_ne ne] at nd
        · have nd' : H₁ dx = none := by rwa [upd_ne ne] at nd
          rw [upd_end na ne]
          have sm : Same H₁ (upd H₁ dx (.xd ((xfN c).zip vs).reverse)) := Same.upd nd'
          have ar := r.aftR a1
          refine g κ₁ σ _ (.ref (xc c)) (some dx) ⟨ar.pre, fun b o e n w => have q := ar.keep b o e n w; ⟨sm _ _ q.1, q.2⟩, ar.cells.same sm⟩ ⟨rfl, xk, .inr ⟨dx, ((xfN c).zip vs).reverse, ?_, rfl, msk_some.mpr ⟨ar.cells.free nd', upd_same⟩, ?_, dq_fields hl2 (dq.mono (msk_mono fun b o n e => ⟨fun z => n (z.imp id .inl), sm _ _ e⟩))⟩⟩
          · intro z
            have := congrArg List.length z
            simp [hl2] at this
            rcases (by omega : c = 6 ∨ c = 7 ∨ c = 8 ∨ c = 9) with rfl | rfl | rfl | rfl <;> simp [xfN] at this
          · rw [List.map_reverse, List.map_reverse, List.map_fst_zip (by omega), List.map_fst_zip (by omega)]
    · rw [if_neg hh] at g
      exact g.elim
theorem anyX_ok {f : Nat → Nat → Res Out} {r : Res Out} (h : anyX f = r) (n : r ≠ .stuck) : ∃ p b st, r = .ok (.ret p b) st ∧ ∀ a d, f a d = .ok (.ret p b) st := by
  unfold anyX at h
  split at h
  · rename_i z
    exact ⟨_, _, _, h.symm, z.choose_spec.choose_spec.choose_spec⟩
  · exact absurd h.symm n
theorem s_tryR {i : Nat} {x n : Str} {np pos pos' : Pos} {b₀ : Stmt} {suite body : List Stmt} {sh : S} (cold : Γ.hot = none) (hs : X.stack = X.env :: X.outer) (hf : X.env.frame = some X.env.locals) (hN : X.N.Nodup) (hi : X.N[i]? = some n) (hln : X.env.kindOf n = some .local) (hc : L2.Names X x (.ref (xc 10))) (tk : Takes X W)
    (hb : ∀ (W' : WX) (pn : List (Addr × Obj)) (xe : Value → Shared → Prop), Takes (X.tr pn xe) W' → PassesOwn (model X.prog X.w) X.A X.env xe → PSs (X.tr pn xe) body (rdS Γ X.K xc W' H0 sb))
    (hsu : ∀ (a : Addr) (oe : Obj) (c : Nat) (d : Option Addr) (pn : List (Addr × Obj)), XCls X.K xc c → Zc (.ref (xc c)) d oe → (∃ vs, oe.data = .fields vs) → PSs (X.suite a ((a, oe) :: pn)) (b₀ :: suite) (rdS (Γ.hotter (a, d, c)) X.K xc (fun _ _ _ _ => False) H0 sh)) :
    PS X (.Try body [.ExceptHandler (some (.Name x np)) (some n) (b₀ :: suite) pos'] [] [] pos) (rdS Γ X.K xc W H0 (.tryR sb i sh)) :=
  psI (L2.ps_try_as (tb := fun W' => rdS Γ X.K xc W' H0 sb) (ts := fun a cls d D σ H => σ.length = X.N.length → ∃ c, cls = .ref (xc c) ∧ XCls X.K xc c ∧ rdS (Γ.hotter (a, d, c)) X.K xc (fun _ _ _ _ => False) H0 sh D σ H) hs hf hN hi hln hc tk hb (fun a oe cls d pn hz hfl => ⟨fun pins s σ H D I z => by
    obtain ⟨c, rfl, xk, q⟩ := z I.len
    exact (hsu a oe c d pn xk hz hfl).run pins s σ H D I q⟩)) fun D σ H hl ⟨κ, M, ρ, st, r, g⟩ => by
    refine ⟨κ, M, ρ, st, r, ?_⟩
    simp only [run, cold] at g
    match hr : run Γ sb ρ st, g with
    | .stuck, g => exact g.elim
    | .ok (.next ρ') st', g => exact g
    | .ok (.ret q n) st', g => exact g
    | .exc c fs st', g =>
      simp only at g
      intro κ' σ' H' cls d a1 x1
      obtain ⟨rfl, xk, xf⟩ := x1
      refine ⟨true, xk.em, fun _ a na hlen => ⟨c, rfl, xk, ?_⟩, fun z => by cases z⟩
      have hlen' : σ'.length = X.N.length := by simpa using hlen
      have il : i < X.N.length := (List.getElem?_eq_some_iff.mp hi).1
      have hne : anyX (fun a b => run (Γ.hotter (a, dOf b fs, c)) sh ((List.replicate ρ.length .no).set i (.sh (.exn a (dOf b fs) c fs))) st') ≠ .stuck := fun z => by rw [z] at g; exact g.elim
      obtain ⟨q, b, st2, er, all⟩ := anyX_ok rfl hne
      rw [er] at g
      obtain ⟨b', hd⟩ : ∃ b', d = dOf b' fs := by
        rcases xf with ⟨rfl, rfl⟩ | ⟨b', vs, hne, rfl, _⟩
        · exact ⟨0, rfl⟩
        · cases fs with
          | nil => exact absurd rfl hne
          | cons f fs => exact ⟨b', rfl⟩
      subst hd
      have hrun := all a b'
      have lr : ρ.length = X.N.length := r.ls.trans hl
      have at_ : ∀ {j : Nat} {s : Slot}, ((List.replicate ρ.length Slot.no).set i (.sh (.exn a (dOf b' fs) c fs)))[j]? = some s → s = .no ∨ (j = i ∧ s = .sh (.exn a (dOf b' fs) c fs)) := fun {j s} e => by
        by_cases z : i = j
        · subst z
          rw [List.getElem?_set_self (by simpa [lr] using il)] at e
          cases e
          exact .inr ⟨rfl, rfl⟩
        · rw [List.getElem?_set_ne z, List.getElem?_replicate] at e
          split at e
          · cases e; exact .inl rfl
          · cases e
      have noOwn : ∀ {σ'' : L2.St} (b : Addr), ¬ Own ((List.replicate ρ.length Slot.no).set i (.sh (.exn a (dOf b' fs) c fs))) σ'' b := fun {σ''} b ⟨j, ys, e1, _⟩ => by
        rcases at_ e1 with z | ⟨_, z⟩ <;> cases z
      have hid : ∀ {σ'' : L2.St}, Hid2 M ((List.replicate ρ.length Slot.no).set i (.sh (.exn a (dOf b' fs) c fs))) σ'' = M := fun {σ''} => funext fun b => propext ⟨fun z => z.elim id fun z => absurd z (noOwn b), .inl⟩
      refine ⟨κ', M, _, st', ⟨by rw [hid]; exact a1.cells, by simp [lr, hlen'], fun j p e => ?_, fun j ys e => ?_, fun j k ys zs b e1 => ?_, fun b o e => ?_⟩, ?_⟩
      · rcases at_ e with z | ⟨rfl, z⟩
        · cases z
        · cases z
          exact ⟨.ref a, List.getElem?_set_self (by rw [hlen']; exact il), rfl, by rw [hid]; exact xf⟩
      · rcases at_ e with z | ⟨_, z⟩ <;> cases z
      · rcases at_ e1 with z | ⟨_, z⟩ <;> cases z
      · obtain ⟨o', e'⟩ := r.old b o e
        by_cases z : b ∈ κ
        · obtain ⟨vs, e2⟩ := a1.cells.has (a1.pre.subset z)
          exact ⟨_, e2⟩
        · by_cases w : Own ρ σ b
          · obtain ⟨j, ys, e1, e2⟩ := w
            obtain ⟨b2, vs, h1, _, _, _, h5⟩ := r.ow j ys e1
            rw [e2] at h1
            cases h1
            rw [h5] at e; cases e
          · exact ⟨o', (a1.keep b o' e' z w).1⟩
      · rw [hrun]
        intro κ2 H2 v a2 rp nw
        exact g κ2 H2 v ⟨a1.pre.trans a2.pre, fun b o e n w => have z := a1.keep b o e n w; a2.keep b o z.1 z.2 (noOwn b), a2.cells⟩ rp nw
end
end Sw

set_option Elab.async false
set_option linter.all false
set_option maxRecDepth 100000
set_option maxHeartbeats 4000000
/-! Does this code stand for that expression of the text? -/
namespace Sw
open PySem PySem.Spec PyProof.Rows L2

/-! ### views -/
def vName : Expr → Option Str
  | .Name x _ => some x
  | _ => none
def vConst : Expr → Option Const
  | .Constant c _ _ => some c
  | _ => none
def vBin : Expr → Option (Expr × Operator × Expr)
  | .BinOp a o b _ => some (a, o, b)
  | _ => none
def vUn : Expr → Option (UnaryOp × Expr)
  | .UnaryOp o a _ => some (o, a)
  | _ => none
def vBool : Expr → Option (BoolOp × List Expr × Pos)
  | .BoolOp o l p => some (o, l, p)
  | _ => none
def vCmp : Expr → Option (Expr × List CmpOp × List Expr)
  | .Compare a o l _ => some (a, o, l)
  | _ => none
def vIf : Expr → Option (Expr × Expr × Expr)
  | .IfExp c a b _ => some (c, a, b)
  | _ => none
def vCall : Expr → Option (Str × List Expr)
  | .Call (.Name x _) l [] _ => some (x, l)
  | _ => none
def vMth : Expr → Option (Expr × Str × Pos × Expr × Pos)
  | .Call (.Attribute o n p) [x] [] q => some (o, n, p, x, q)
  | _ => none
theorem vMth_inv {e o x : Expr} {n : Str} {p q : Pos} (h : vMth e = some (o, n, p, x, q)) : e = .Call (.Attribute o n p) [x] [] q := by
  unfold vMth at h
  split at h
  · cases h; rfl
  · cases h
def vDict : Expr → Bool
  | .Dict [] [] _ => true
  | _ => false
theorem vDict_inv {e : Expr} (h : vDict e = true) : ∃ p, e = .Dict [] [] p := by
  unfold vDict at h
  split at h
  · exact ⟨_, rfl⟩
  · cases h
def vDictA : Expr → Option (Str × Int)
  | .Dict [some (.Constant (.str x) _ _)] [.Constant (.int i) _ _] _ => some (x, i)
  | _ => none
theorem vDictA_inv {e : Expr} {x : Str} {i : Int} (h : vDictA e = some (x, i)) : ∃ j1 p1 j2 p2 p, e = .Dict [some (.Constant (.str x) j1 p1)] [.Constant (.int i) j2 p2] p := by
  unfold vDictA at h
  split at h
  · cases h; exact ⟨_, _, _, _, _, rfl⟩
  · cases h
def vDictI : Expr → Option (Int × Bool)
  | .Dict [some (.Constant (.int i) _ _)] [.Constant (.bool b) _ _] _ => some (i, b)
  | _ => none
theorem vDictI_inv {e : Expr} {i : Int} {b : Bool} (h : vDictI e = some (i, b)) : ∃ j1 p1 j2 p2 p, e = .Dict [some (.Constant (.int i) j1 p1)] [.Constant (.bool b) j2 p2] p := by
  unfold vDictI at h
  split at h
  · cases h; exact ⟨_, _, _, _, _, rfl⟩
  · cases h
def vMth2 : Expr → Option (Expr × Str × Pos × Expr × Expr × Pos)
  | .Call (.Attribute o n p) [x, y] [] q => some (o, n, p, x, y, q)
  | _ => none
theorem vMth2_inv {e o x y : Expr} {n : Str} {p q : Pos} (h : vMth2 e = some (o, n, p, x, y, q)) : e = .Call (.Attribute o n p) [x, y] [] q := by
  unfold vMth2 at h
  split at h
  · cases h; rfl
  · cases h
def vMth0 : Expr → Option (Expr × Str × Pos × Pos)
  | .Call (.Attribute o n p) [] [] q => some (o, n, p, q)
  | _ => none
theorem vMth0_inv {e o : Expr} {n : Str} {p q : Pos} (h : vMth0 e = some (o, n, p, q)) : e = .Call (.Attribute o n p) [] [] q := by
  unfold vMth0 at h
  split at h
  · cases h; rfl
  · cases h
def vAttr : Expr → Option (Expr × Str)
  | .Attribute a n _ => some (a, n)
  | _ => none
theorem vAttr_inv {e a : Expr} {n : Str} (h : vAttr e = some (a, n)) : ∃ p, e = .Attribute a n p := by
  cases e <;> simp only [vAttr, reduceCtorEq, Option.some.injEq, Prod.mk.injEq] at h
  obtain ⟨rfl, rfl⟩ := h; exact ⟨_, rfl⟩
/-- no call of super -/
def nsup : Expr → Bool
  | .Call (.Name id _) [] [] _ => id != ("super" : Str)
  | _ => true
theorem base_ok {o : Expr} {attr : Str} {env : PySem.Env} (h : nsup o = true) : attributeBase o attr env (eval o env) = eval o env := by
  unfold attributeBase
  split
  · rename_i id p pos
    have h' : (id != ("super" : Str)) = true := h
    rw [if_pos (by rw [h']; rfl)]
  · rfl
def vSub : Expr → Option (Expr × Expr)
  | .Subscript a b _ => some (a, b)
  | _ => none
def vSlc : Expr → Option (Expr × Option Expr × Option Expr)
  | .Subscript a (.Slice lo hi none _) _ => some (a, lo, hi)
  | _ => none
def vRev : Expr → Option Expr
  | .Subscript a (.Slice none none (some (.UnaryOp .USub (.Constant (.int 1) _ _) _)) _) _ => some a
  | _ => none
def vTup : Expr → Option (List Expr)
  | .Tuple l _ _ => some l
  | _ => none
def vList : Expr → Option (List Expr)
  | .List l _ => some l
  | _ => none
def vComp : Expr → Option (Expr × Expr × Expr × List Expr × Scope)
  | .ListComp e [⟨t, i, fs, 0⟩] sc _ => some (e, t, i, fs, sc)
  | _ => none
theorem vName_inv {e : Expr} {x : Str} (h : vName e = some x) : ∃ p, e = .Name x p := by
  cases e <;> simp only [vName, reduceCtorEq, Option.some.injEq] at h
  subst h; exact ⟨_, rfl⟩
theorem vConst_inv {e : Expr} {c : Const} (h : vConst e = some c) : ∃ k p, e = .Constant c k p := by
  cases e <;> simp only [vConst, reduceCtorEq, Option.some.injEq] at h
  subst h; exact ⟨_, _, rfl⟩
theorem vBin_inv {e a b : Expr} {o : Operator} (h : vBin e = some (a, o, b)) : ∃ p, e = .BinOp a o b p := by
  cases e <;> simp only [vBin, reduceCtorEq, Option.some.injEq, Prod.mk.injEq] at h
  obtain ⟨rfl, rfl, rfl⟩ := h; exact ⟨_, rfl⟩
theorem vUn_inv {e a : Expr} {o : UnaryOp} (h : vUn e = some (o, a)) : ∃ p, e = .UnaryOp o a p := by
  cases e <;> simp only [vUn, reduceCtorEq, Option.some.injEq, Prod.mk.injEq] at h
  obtain ⟨rfl, rfl⟩ := h; exact ⟨_, rfl⟩
theorem vBool_inv {e : Expr} {o : BoolOp} {l : List Expr} {p : Pos} (h : vBool e = some (o, l, p)) : e = .BoolOp o l p := by
  cases e <;> simp only [vBool, reduceCtorEq, Option.some.injEq, Prod.mk.injEq] at h
  obtain ⟨rfl, rfl, rfl⟩ := h; rfl
theorem vCmp_inv {e a : Expr} {o : List CmpOp} {l : List Expr} (h : vCmp e = some (a, o, l)) : ∃ p, e = .Compare a o l p := by
  cases e <;> simp only [vCmp, reduceCtorEq, Option.some.injEq, Prod.mk.injEq] at h
  obtain ⟨rfl, rfl, rfl⟩ := h; exact ⟨_, rfl⟩
theorem vIf_inv {e c a b : Expr} (h : vIf e = some (c, a, b)) : ∃ p, e = .IfExp c a b p := by
  cases e <;> simp only [vIf, reduceCtorEq, Option.some.injEq, Prod.mk.injEq] at h
  obtain ⟨rfl, rfl, rfl⟩ := h; exact ⟨_, rfl⟩
theorem vCall_inv {e : Expr} {x : Str} {l : List Expr} (h : vCall e = some (x, l)) : ∃ p q, e = .Call (.Name x p) l [] q := by
  unfold vCall at h
  split at h
  · cases h; exact ⟨_, _, rfl⟩
  · cases h
theorem vSub_inv {e a b : Expr} (h : vSub e = some (a, b)) : ∃ p, e = .Subscript a b p := by
  cases e <;> simp only [vSub, reduceCtorEq, Option.some.injEq, Prod.mk.injEq] at h
  obtain ⟨rfl, rfl⟩ := h; exact ⟨_, rfl⟩
theorem vSlc_inv {e a : Expr} {lo hi : Option Expr} (h : vSlc e = some (a, lo, hi)) : ∃ p q, e = .Subscript a (.Slice lo hi none p) q := by
  unfold vSlc at h
  split at h
  · cases h; exact ⟨_, _, rfl⟩
  · cases h
theorem vRev_inv {e a : Expr} (h : vRev e = some a) : ∃ k p1 p2 p3 p4, e = .Subscript a (.Slice none none (some (.UnaryOp .USub (.Constant (.int 1) k p1) p2)) p3) p4 := by
  unfold vRev at h
  split at h
  · cases h; exact ⟨_, _, _, _, _, rfl⟩
  · cases h
theorem vTup_inv {e : Expr} {l : List Expr} (h : vTup e = some l) : ∃ k p, e = .Tuple l k p := by
  cases e <;> simp only [vTup, reduceCtorEq, Option.some.injEq] at h
  subst h; exact ⟨_, _, rfl⟩
theorem vList_inv {e : Expr} {l : List Expr} (h : vList e = some l) : ∃ p, e = .List l p := by
  cases e <;> simp only [vList, reduceCtorEq, Option.some.injEq] at h
  subst h; exact ⟨_, rfl⟩
theorem vComp_inv {e el t i : Expr} {fs : List Expr} {sc : Scope} (h : vComp e = some (el, t, i, fs, sc)) : ∃ p, e = .ListComp el [⟨t, i, fs, 0⟩] sc p := by
  unfold vComp at h
  split at h
  · cases h; exact ⟨_, rfl⟩
  · cases h
/-- what is walked only into a tuple of names -/
def needT : E → Bool
  | .enm _ => true
  | .zp _ _ => true
  | _ => false
def ntup : Expr → Bool
  | .Tuple _ _ _ => false
  | _ => true
theorem ntup_inv {e : Expr} (h : ntup e = false) : ∃ es k p, e = .Tuple es k p := by
  cases e <;> first | (cases h; done) | exact ⟨_, _, _, rfl⟩
/-- not starred; no slice; no set; a test that is just its value -/
def nst : Expr → Bool
  | .Starred _ _ => false
  | _ => true
def nsl : Expr → Bool
  | .Slice _ _ _ _ => false
  | _ => true
def nset : Expr → Bool
  | .Set _ _ _ => false
  | _ => true
def plainT : Expr → Bool
  | .Name _ _ => true
  | .Call _ _ _ _ => true
  | .Subscript _ _ _ => true
  | .Constant _ _ _ => true
  | _ => false
theorem star_of {e : Expr} {es : List Expr} {env : PySem.Env} (h : nst e = true) : starEach (e :: es) env = (false, eval e env) :: starEach es env := by
  cases e <;> first | rfl | (simp [nst] at h)
theorem ix_plain {e : Expr} (h : nsl e = true) : PlainIx e := by
  intro o i
  cases e <;> first | rfl | (simp [nsl] at h)
theorem behind_of {e : Expr} {op : CmpOp} (h : nset e = true) : behindInMarks op e = false := by
  cases e <;> first | rfl | (simp [nset] at h)
theorem folded_of {e : Expr} {env : PySem.Env} (h : nset e = true) : ∀ x, foldedSetIterable e env x = pure x := by
  intro x
  cases e <;> first | rfl | (simp [nset] at h)
theorem true_of {e : Expr} {env : PySem.Env} (h : plainT e = true) : ∀ whole, PySem.isTrue e env whole = (do let v ← whole; standAt e.pos; holding [v] (truthy v)) := by
  intro w
  cases e <;> first | rfl | (simp [plainT] at h)

/-! ### names -/
def okNm (x : Str) : Bool := !(x == ("__debug__" : Str)) && !(x == ("__classdict__" : Str))
def visB (sc : Scope) (x : Str) : Bool := match sc.names.lookup x with
  | some .local => true
  | some .cell => true
  | some .free => true
  | _ => false
def locB (sc : Scope) (x : Str) : Bool := match sc.names.lookup x with
  | some .local => true
  | some .cell => true
  | _ => false
def glB (sc : Scope) (x : Str) : Bool := match sc.names.lookup x with
  | some .globalImplicit => true
  | _ => false
theorem visB_ok {sc : Scope} {x : Str} (h : visB sc x = true) : Vis sc x := by
  unfold visB at h
  split at h <;> first | exact .inl (by assumption) | exact .inr (.inl (by assumption)) | exact .inr (.inr (by assumption)) | cases h
theorem locB_ok {sc : Scope} {x : Str} (h : locB sc x = true) : Loc sc x := by
  unfold locB at h
  split at h <;> first | exact .inl (by assumption) | exact .inr (by assumption) | cases h
theorem glB_ok {X : Cx} {x : Str} (h : glB X.env.scope x = true) : Gl X x := by
  unfold glB at h
  split at h
  · assumption
  · cases h
theorem okNm_ok {x : Str} (h : okNm x = true) : (x == ("__debug__" : Str)) = false ∧ (x == ("__classdict__" : Str)) = false := by
  simpa [okNm] using h
/-! ### targets -/
def namesOf : List Expr → Option (List Str)
  | [] => some []
  | .Name x _ :: r => (namesOf r).map (x :: ·)
  | _ => none
def ownOf (t : Tg) (tg : Expr) : Option (List (Str × Nat)) :=
  match t with
  | .nm i => (vName tg).map fun x => [(x, i)]
  | .tp is => match (vTup tg).bind namesOf with
    | some xs => if xs.length = is.length then some (xs.zip is) else none
    | none => none
/-- the names stand at their places and may be stored -/
def ckTg (N : List Str) (okx : Str → Bool) (t : Tg) (tg : Expr) : Bool :=
  match ownOf t tg with
  | some own => own.all fun p => decide (N[p.2]? = some p.1) && okx p.1
  | none => false
section
variable {X : Cx}
theorem each_names : ∀ {es : List Expr} {xs : List Str}, namesOf es = some xs → es.length = xs.length ∧ (assignEach es X.env).length = xs.length ∧ (assignEach es X.env).findIdx? (·.1) = none
  | [], xs, h => by
    simp only [namesOf, Option.some.injEq] at h
    subst h
    exact ⟨rfl, rfl, rfl⟩
  | .Name x p :: r, xs, h => by
    simp only [namesOf, Option.map_eq_some_iff] at h
    obtain ⟨ys, h1, rfl⟩ := h
    obtain ⟨a, b, c⟩ := each_names h1
    refine ⟨by simp [a], ?_, ?_⟩
    · show (assignEach r X.env).length + 1 = _
      rw [b]; rfl
    · show ((false, assign (.Name x p) X.env) :: assignEach r X.env).findIdx? (·.1) = none
      rw [List.findIdx?_cons, c]
      rfl
  | .BoolOp .. :: _, _, h => by simp [namesOf] at h
  | .NamedExpr .. :: _, _, h => by simp [namesOf] at h
  | .BinOp .. :: _, _, h => by simp [namesOf] at h
  | .UnaryOp .. :: _, _, h => by simp [namesOf] at h
  | .Lambda .. :: _, _, h => by simp [namesOf] at h
  | .IfExp .. :: _, _, h => by simp [namesOf] at h
  | .Dict .. :: _, _, h => by simp [namesOf] at h
  | .Set .. :: _, _, h => by simp [namesOf] at h
  | .ListComp .. :: _, _, h => by simp [namesOf] at h
  | .SetComp .. :: _, _, h => by simp [namesOf] at h
  | .DictComp .. :: _, _, h => by simp [namesOf] at h
  | .GeneratorExp .. :: _, _, h => by simp [namesOf] at h
  | .Await .. :: _, _, h => by simp [namesOf] at h
  | .Yield .. :: _, _, h => by simp [namesOf] at h
  | .YieldFrom .. :: _, _, h => by simp [namesOf] at h
  | .Compare .. :: _, _, h => by simp [namesOf] at h
  | .Call .. :: _, _, h => by simp [namesOf] at h
  | .FormattedValue .. :: _, _, h => by simp [namesOf] at h
  | .JoinedStr .. :: _, _, h => by simp [namesOf] at h
  | .Constant .. :: _, _, h => by simp [namesOf] at h
  | .Attribute .. :: _, _, h => by simp [namesOf] at h
  | .Subscript .. :: _, _, h => by simp [namesOf] at h
  | .Starred .. :: _, _, h => by simp [namesOf] at h
  | .List .. :: _, _, h => by simp [namesOf] at h
  | .Tuple .. :: _, _, h => by simp [namesOf] at h
  | .Slice .. :: _, _, h => by simp [namesOf] at h
theorem names_cons {e : Expr} {es : List Expr} {xs : List Str} (h : namesOf (e :: es) = some xs) : ∃ x p r, e = .Name x p ∧ namesOf es = some r ∧ xs = x :: r := by
  unfold namesOf at h
  split at h
  · rename_i e1
    cases e1
  · rename_i e1
    cases e1
    simp only [Option.map_eq_some_iff] at h
    obtain ⟨r, h1, h2⟩ := h
    exact ⟨_, _, r, rfl, h1, h2.symm⟩
  · cases h
theorem pgs_names (hN : X.N.Nodup) : ∀ {es : List Expr} {xs : List Str} {is : List Nat}, namesOf es = some xs → xs.length = is.length → (∀ p ∈ xs.zip is, X.N[p.2]? = some p.1 ∧ Loc X.env.scope p.1 ∧ (X.fn p.1 = true ∨ X.env.scope.names.lookup p.1 = some .local)) → PGs X es (gsOf is)
  | [], xs, is, h, hl, _ => by
    simp only [namesOf, Option.some.injEq] at h
    subst h
    cases is with
    | nil => exact pgs_nil
    | cons _ _ => cases hl
  | e :: es, xs, is, h, hl, hx => by
    obtain ⟨x, p, r, rfl, h1, rfl⟩ := names_cons h
    cases is with
    | nil => cases hl
    | cons i is =>
      have q := hx (x, i) (by simp)
      exact pgs_cons (pg_name (i := i) hN q.1 q.2.1 q.2.2) (pgs_names hN h1 (by simpa using hl) fun p hp => hx p (by simp [hp])) rfl
theorem tg_ok (hN : X.N.Nodup) (hc : X.calm = true) {t : Tg} {tg : Expr} {own : List (Str × Nat)} (h : ownOf t tg = some own) (hx : ∀ p ∈ own, X.N[p.2]? = some p.1 ∧ Loc X.env.scope p.1 ∧ (X.fn p.1 = true ∨ X.env.scope.names.lookup p.1 = some .local)) : PG X tg (rdG X.K t) := by
  cases t with
  | nm i =>
    simp only [ownOf, Option.map_eq_some_iff] at h
    obtain ⟨x, h1, rfl⟩ := h
    obtain ⟨p, rfl⟩ := vName_inv h1
    have q := hx (x, i) (by simp)
    exact pg_name hN q.1 q.2.1 q.2.2
  | tp is =>
    simp only [ownOf] at h
    split at h
    · rename_i xs hxs
      split at h
      · rename_i hl
        cases h
        obtain ⟨es, h1, h2⟩ := Option.bind_eq_some_iff.mp hxs
        obtain ⟨k, p, rfl⟩ := vTup_inv h1
        obtain ⟨a, b, c⟩ := each_names (X := X) h2
        exact pg_tup (n := is.length) hc (pgs_names hN h2 hl hx) (b.trans hl) c
      · cases h
    · cases h
theorem own_wk {t : Tg} {tg : Expr} {own : List (Str × Nat)} (h : ownOf t tg = some own) (w : (!ntup tg) = true) : ∃ is, t = .tp is := by
  cases t with
  | tp is => exact ⟨is, rfl⟩
  | nm i =>
    simp only [ownOf, Option.map_eq_some_iff] at h
    obtain ⟨x, h1, rfl⟩ := h
    obtain ⟨p, rfl⟩ := vName_inv h1
    cases w
theorem own_tgs {t : Tg} {tg : Expr} {own : List (Str × Nat)} (h : ownOf t tg = some own) : own.map (·.2) = tgs t := by
  cases t with
  | nm i =>
    simp only [ownOf, Option.map_eq_some_iff] at h
    obtain ⟨x, _, rfl⟩ := h
    rfl
  | tp is =>
    simp only [ownOf] at h
    split at h
    · split at h
      · rename_i hl
        cases h
        exact List.map_snd_zip (by omega)
      · cases h
    · cases h
end

/-! ### the check -/
mutual
def ck (nm : Nm) (N : List Str) : E → Scope → Expr → Bool
  | .dead, _, _ => true
  | .var i, sc, e => match vName e with
    | some x => decide (N[i]? = some x) && visB sc x && okNm x
    | none => false
  | .cI i, _, e => match vConst e with
    | some (.int j) => decide (i = j)
    | _ => false
  | .cS i, _, e => match vConst e with
    | some (.str j) => decide (i = j)
    | _ => false
  | .cB i, _, e => match vConst e with
    | some (.bool j) => decide (i = j)
    | _ => false
  | .cN, _, e => match vConst e with
    | some .none => true
    | _ => false
  | .glob g, sc, e => match vName e with
    | some x => decide (nm.gl g = some x) && glB sc x && okNm x
    | none => false
  | .tup es, sc, e => match vTup e with
    | some l => ckA nm N es sc l && decide (l.length ≤ 1000)
    | none => false
  | .lst es, sc, e => match vList e with
    | some l => ckA nm N es sc l && decide (l.length ≤ 1000)
    | none => false
  | .op o a b, sc, e => match vBin e with
    | some (l, p, r) => decide (p = opA o) && ck nm N a sc l && ck nm N b sc r
    | none => false
  | .neg a, sc, e => match vUn e with
    | some (.USub, l) => ck nm N a sc l
    | _ => false
  | .cmp o a b, sc, e => match vCmp e with
    | some (l, [p], [r]) => decide (p = cmA o) && ck nm N a sc l && ck nm N b sc r && nset r
    | _ => false
  | .inR ng a b, sc, e => match vCmp e with
    | some (l, [p], [r]) => match vCall r with
      | some (z, [y]) => decide (p = inOp ng) && decide (z = ("range" : Str)) && glB sc z && ck nm N a sc l && ck nm N b sc y && nst y && nset r
      | _ => false
    | _ => false
  | .chain o u a b c, sc, e => match vCmp e with
    | some (l, [p, q], [r, t]) => decide (p = cmA o) && decide (q = cmA u) && ck nm N a sc l && ck nm N b sc r && ck nm N c sc t && nset t
    | _ => false
  | .chain3 o u w a b c d, sc, e => match vCmp e with
    | some (l, [p, q, y], [r, t, x]) => decide (p = cmA o) && decide (q = cmA u) && decide (y = cmA w) && ck nm N a sc l && ck nm N b sc r && ck nm N c sc t && ck nm N d sc x && nset x
    | _ => false
  | .emp a, sc, e => match vUn e with
    | some (.Not, l) => ck nm N a sc l
    | _ => false
  | .rev a, sc, e => match vRev e with
    | some l => ck nm N a sc l
    | none => false
  | .mth m a b, sc, e => match vMth e with
    | some (o, n, p, x, q) => decide (n = meN m) && ck nm N a sc o && ck nm N b sc x && nst x && (p.endLine == q.line) && nsup o
    | none => false
  | .jn a b, sc, e => match vMth e with
    | some (o, n, p, x, q) => decide (n = ("join" : Str)) && ck nm N a sc o && ck nm N b sc x && nst x && (p.endLine == q.line) && nsup o
    | none => false
  | .spl a b, sc, e => match vMth e with
    | some (o, n, p, x, q) => decide (n = ("split" : Str)) && ck nm N a sc o && ck nm N b sc x && nst x && (p.endLine == q.line) && nsup o
    | none => false
  | .tupR a, sc, e => !nm.hot && match vCall e with
    | some (x, [y]) => match vCall y with
      | some (z, [l]) => decide (x = ("tuple" : Str)) && glB sc x && decide (z = ("range" : Str)) && glB sc z && ck nm N a sc l && nst l && nst y
      | _ => false
    | _ => false
  | .lstR2 a b, sc, e => !nm.hot && match vCall e with
    | some (x, [y]) => match vCall y with
      | some (z, [l, l2]) => decide (x = ("list" : Str)) && glB sc x && decide (z = ("range" : Str)) && glB sc z && ck nm N a sc l && ck nm N b sc l2 && nst l && nst l2 && nst y
      | _ => false
    | _ => false
  | .lstR a, sc, e => !nm.hot && match vCall e with
    | some (x, [y]) => match vCall y with
      | some (z, [l]) => decide (x = ("list" : Str)) && glB sc x && decide (z = ("range" : Str)) && glB sc z && ck nm N a sc l && nst l && nst y
      | _ => false
    | _ => false
  | .sset a, sc, e => !nm.hot && match vCall e with
    | some (x, [y]) => match vCall y with
      | some (z, [l]) => decide (x = ("sorted" : Str)) && glB sc x && decide (z = ("set" : Str)) && glB sc z && ck nm N a sc l && nst l && nst y
      | _ => false
    | _ => false
  | .told w a, sc, e => match vTup e with
    | some [c, y] => match vConst c with
      | some (.str x) => decide (w = x) && ck nm N a sc y && nst y
      | _ => false
    | _ => false
  | .lenS a, sc, e => !nm.hot && match vCall e with
    | some (x, [y]) => match vCall y with
      | some (z, [l]) => decide (x = ("len" : Str)) && glB sc x && decide (z = ("set" : Str)) && glB sc z && ck nm N a sc l && nst l && nst y
      | _ => false
    | _ => false
  | .d0, _, e => vDict e
  | .dA x i, _, e => match vDictA e with
    | some (y, j) => decide (x = y) && decide (i = j)
    | none => false
  | .dI i b, _, e => match vDictI e with
    | some (j, c) => decide (i = j) && decide (b = c)
    | none => false
  | .dget a b c, sc, e => match vMth2 e with
    | some (o, n, p, x, y, q) => decide (n = ("get" : Str)) && ck nm N a sc o && ck nm N b sc x && ck nm N c sc y && nst x && nst y && (p.endLine == q.line) && nsup o
    | none => false
  | .xat f a, sc, e => nm.hot && match vAttr e with
    | some (l, n) => decide (n = f) && decide (f ∈ xatN) && ck nm N a sc l && nsup l
    | none => false
  | .not a, sc, e => match vUn e with
    | some (.Not, l) => ck nm N a sc l
    | _ => false
  | .and a b, sc, e => match vBool e with
    | some (.And, x :: y :: r, p) => ck nm N a sc x && ck nm N b sc (.BoolOp .And (y :: r) p)
    | _ => false
  | .or a b, sc, e => match vBool e with
    | some (.Or, x :: y :: r, p) => ck nm N a sc x && ck nm N b sc (.BoolOp .Or (y :: r) p)
    | _ => false
  | .orT a b, sc, e => match vBool e with
    | some (.Or, [x, y], _) => ck nm N a sc x && ck nm N b sc y
    | _ => false
  | .one a, sc, e => match vBool e with
    | some (_, [x], _) => ck nm N a sc x
    | _ => false
  | .ite c a b, sc, e => match vIf e with
    | some (x, y, z) => ckT nm N c sc x && ck nm N a sc y && ck nm N b sc z
    | none => false
  | .idx a b, sc, e => match vSub e with
    | some (l, r) => ck nm N a sc l && ck nm N b sc r && nsl r
    | none => false
  | .slc a lo hi, sc, e => match vSlc e with
    | some (l, x, y) => ck nm N a sc l && ckP nm N lo sc x && ckP nm N hi sc y
    | none => false
  | .xis C a, sc, e => match vCall e with
    | some (x, [l, .Name y _]) => nm.hot && decide (C ≤ 11) && decide (x = ("isinstance" : Str)) && glB sc x && glB sc y && okNm y && (if C = 11 then decide (y = ("ValueError" : Str)) else decide (nm.cl C = some y)) && ck nm N a sc l && nst l
    | _ => false
  | .call f es, sc, e => match vCall e with
    | some (x, l) => decide (nm.fn f = some x) && glB sc x && okNm x && decide (l ≠ []) && ckA nm N es sc l
    | none => false
  | .blt (.isI t) (.cons a .nil), sc, e => match vCall e with
    | some (x, [l, .Name y _]) => decide (x = ("isinstance" : Str)) && glB sc x && decide (y = Str.ofString (tyN t)) && glB sc y && ck nm N a sc l && nst l
    | _ => false
  | .blt b es, sc, e => (biOk b && (biHot b || !nm.hot)) && match vCall e with
    | some (x, l) => decide (x = biNm b) && glB sc x && decide (l ≠ []) && ckA nm N es sc l
    | none => false
  | .comp el t it cnd, sc, e => !nm.hot && match vComp e with
    | some (x, tg, i, fs, s) => match ownOf t tg with
      | some own => blkC N sc s own && (own.all fun p => decide (N[p.2]? = some p.1) && locB s p.1) && ckI nm N it sc i && (nset i && (!needT it || !ntup tg)) && ckC nm N cnd (relS s sc) fs && ck nm N el (relS s sc) x
      | none => false
    | none => false
  | _, _, _ => false
def ckA (nm : Nm) (N : List Str) : E → Scope → List Expr → Bool
  | .nil, _, [] => true
  | .cons a r, sc, x :: l => ck nm N a sc x && nst x && ckA nm N r sc l
  | _, _, _ => false
def ckP (nm : Nm) (N : List Str) : E → Scope → Option Expr → Bool
  | .nil, _, none => true
  | .one a, sc, some x => ck nm N a sc x
  | _, _, _ => false
def ckC (nm : Nm) (N : List Str) : E → Scope → List Expr → Bool
  | .nil, _, [] => true
  | .one a, sc, [x] => ckT nm N a sc x
  | _, _, _ => false
def ckT (nm : Nm) (N : List Str) : E → Scope → Expr → Bool
  | .dead, _, _ => true
  | .not a, sc, e => match vUn e with
    | some (.Not, l) => ckT nm N a sc l
    | _ => false
  | .and a b, sc, e => match vBool e with
    | some (.And, x :: y :: r, p) => ckT nm N a sc x && ckT nm N b sc (.BoolOp .And (y :: r) p)
    | _ => false
  | .or a b, sc, e => match vBool e with
    | some (.Or, x :: y :: r, p) => ckT nm N a sc x && ckT nm N b sc (.BoolOp .Or (y :: r) p)
    | _ => false
  | .one a, sc, e => match vBool e with
    | some (_, [x], _) => ckT nm N a sc x
    | _ => false
  | .cmp o a b, sc, e => match vCmp e with
    | some (l, [p], [r]) => decide (p = cmA o) && ck nm N a sc l && ck nm N b sc r && nset r
    | _ => false
  | .inR ng a b, sc, e => match vCmp e with
    | some (l, [p], [r]) => match vCall r with
      | some (z, [y]) => decide (p = inOp ng) && decide (z = ("range" : Str)) && glB sc z && ck nm N a sc l && ck nm N b sc y && nst y && nset r
      | _ => false
    | _ => false
  | .chain o u a b c, sc, e => match vCmp e with
    | some (l, [p, q], [r, t]) => decide (p = cmA o) && decide (q = cmA u) && ck nm N a sc l && ck nm N b sc r && ck nm N c sc t && nset t
    | _ => false
  | .chain3 o u w a b c d, sc, e => match vCmp e with
    | some (l, [p, q, y], [r, t, x]) => decide (p = cmA o) && decide (q = cmA u) && decide (y = cmA w) && ck nm N a sc l && ck nm N b sc r && ck nm N c sc t && ck nm N d sc x && nset x
    | _ => false
  | .xis C a, sc, e => match vCall e with
    | some (x, [l, .Name y _]) => nm.hot && decide (C ≤ 11) && decide (x = ("isinstance" : Str)) && glB sc x && glB sc y && okNm y && (if C = 11 then decide (y = ("ValueError" : Str)) else decide (nm.cl C = some y)) && ck nm N a sc l && nst l
    | _ => false
  | .call f es, sc, e => match vCall e with
    | some (x, l) => decide (nm.fn f = some x) && glB sc x && okNm x && decide (l ≠ []) && ckA nm N es sc l
    | none => false
  | .blt (.isI t) (.cons a .nil), sc, e => match vCall e with
    | some (x, [l, .Name y _]) => decide (x = ("isinstance" : Str)) && glB sc x && decide (y = Str.ofString (tyN t)) && glB sc y && ck nm N a sc l && nst l
    | _ => false
  | .blt b es, sc, e => (biOk b && (biHot b || !nm.hot)) && match vCall e with
    | some (x, l) => decide (x = biNm b) && glB sc x && decide (l ≠ []) && ckA nm N es sc l
    | none => false
  | .var i, sc, e => match vName e with
    | some x => decide (N[i]? = some x) && visB sc x && okNm x
    | none => false
  | .idx a b, sc, e => match vSub e with
    | some (l, r) => ck nm N a sc l && ck nm N b sc r && nsl r
    | none => false
  | _, _, _ => false
def ckI (nm : Nm) (N : List Str) : E → Scope → Expr → Bool
  | .dead, _, _ => true
  | .enm a, sc, e => match vCall e with
    | some (x, [l]) => decide (x = ("enumerate" : Str)) && glB sc x && ck nm N a sc l && nst l
    | _ => false
  | .vals a, sc, e => match vMth0 e with
    | some (o, n, p, q) => decide (n = ("values" : Str)) && ck nm N a sc o && (p.endLine == q.line) && nsup o
    | none => false
  | .zp a b, sc, e => match vCall e with
    | some (x, [l, r]) => decide (x = ("zip" : Str)) && glB sc x && ck nm N a sc l && ck nm N b sc r && nst l && nst r
    | _ => false
  | .rng1 a, sc, e => match vCall e with
    | some (x, [l]) => decide (x = ("range" : Str)) && glB sc x && ck nm N a sc l && nst l
    | _ => false
  | .rng2 a b, sc, e => match vCall e with
    | some (x, [l, r]) => decide (x = ("range" : Str)) && glB sc x && ck nm N a sc l && ck nm N b sc r && nst l && nst r
    | _ => false
  | .var i, sc, e => match vName e with
    | some x => decide (N[i]? = some x) && visB sc x && okNm x
    | none => false
  | .op o a b, sc, e => match vBin e with
    | some (l, p, r) => decide (p = opA o) && ck nm N a sc l && ck nm N b sc r
    | none => false
  | .idx a b, sc, e => match vSub e with
    | some (l, r) => ck nm N a sc l && ck nm N b sc r && nsl r
    | none => false
  | .call f es, sc, e => match vCall e with
    | some (x, l) => decide (nm.fn f = some x) && glB sc x && okNm x && decide (l ≠ []) && ckA nm N es sc l
    | none => false
  | .lst es, sc, e => match vList e with
    | some l => ckA nm N es sc l && decide (l.length ≤ 1000)
    | none => false
  | .tup es, sc, e => match vTup e with
    | some l => ckA nm N es sc l && decide (l.length ≤ 1000)
    | none => false
  | .sset a, sc, e => !nm.hot && match vCall e with
    | some (x, [y]) => match vCall y with
      | some (z, [l]) => decide (x = ("sorted" : Str)) && glB sc x && decide (z = ("set" : Str)) && glB sc z && ck nm N a sc l && nst l && nst y
      | _ => false
    | _ => false
  | .lstR a, sc, e => !nm.hot && match vCall e with
    | some (x, [y]) => match vCall y with
      | some (z, [l]) => decide (x = ("list" : Str)) && glB sc x && decide (z = ("range" : Str)) && glB sc z && ck nm N a sc l && nst l && nst y
      | _ => false
    | _ => false
  | .lstR2 a b, sc, e => !nm.hot && match vCall e with
    | some (x, [y]) => match vCall y with
      | some (z, [l, l2]) => decide (x = ("list" : Str)) && glB sc x && decide (z = ("range" : Str)) && glB sc z && ck nm N a sc l && ck nm N b sc l2 && nst l && nst l2 && nst y
      | _ => false
    | _ => false
  | .spl a b, sc, e => match vMth e with
    | some (o, n, p, x, q) => decide (n = ("split" : Str)) && ck nm N a sc o && ck nm N b sc x && nst x && (p.endLine == q.line) && nsup o
    | none => false
  | .rev a, sc, e => match vRev e with
    | some l => ck nm N a sc l
    | none => false
  | .glob g, sc, e => match vName e with
    | some x => decide (nm.gl g = some x) && glB sc x && okNm x
    | none => false
  | .blt b es, sc, e => (biOk b && (biHot b || !nm.hot)) && match vCall e with
    | some (x, l) => decide (x = biNm b) && glB sc x && decide (l ≠ []) && ckA nm N es sc l
    | none => false
  | .comp el t it cnd, sc, e => !nm.hot && match vComp e with
    | some (x, tg, i, fs, s) => match ownOf t tg with
      | some own => blkC N sc s own && (own.all fun p => decide (N[p.2]? = some p.1) && locB s p.1) && ckI nm N it sc i && (nset i && (!needT it || !ntup tg)) && ckC nm N cnd (relS s sc) fs && ck nm N el (relS s sc) x
      | none => false
    | none => false
  | .slc a lo hi, sc, e => match vSlc e with
    | some (l, x, y) => ck nm N a sc l && ckP nm N lo sc x && ckP nm N hi sc y
    | none => false
  | _, _, _ => false
end
end Sw

set_option Elab.async false
set_option linter.all false
set_option maxRecDepth 100000
set_option maxHeartbeats 4000000
/-! The check is sound: expressions. -/
namespace Sw
open PySem PySem.Spec PyProof.Rows L2

theorem denA_len {Γ : Ctx} {nm : Nm} {N : List Str} : ∀ {c : E} {sc : Scope} {es : List Expr} {ρ : Env} {st st' : Store} {ps : List PV}, ckA nm N c sc es = true → denA Γ c ρ st = .ok ps st' → ps.length = es.length := by
  intro c
  induction c with
  | nil =>
    intro sc es ρ st st' ps h d
    cases es with
    | nil => simp only [denA] at d; cases d; rfl
    | cons _ _ => simp [ckA] at h
  | cons a r iha ihr =>
    intro sc es ρ st st' ps h d
    cases es with
    | nil => simp [ckA] at h
    | cons x l =>
      simp only [ckA, Bool.and_eq_true] at h
      simp only [denA] at d
      obtain ⟨p, st1, h1, h2⟩ := bind_ok d
      obtain ⟨qs, st2, h3, h4⟩ := bind_ok h2
      cases h4
      rw [List.length_cons, List.length_cons, ihr h.2 h3]
  | _ => intro sc es ρ st st' ps h d; simp [ckA] at h
section
variable {Γ : Ctx} {xc : Nat → Addr} {k : Nat} {nm : Nm}
theorem need_of {c : E} {tg e : Expr} (h : (nset e && (!needT c || !ntup tg)) = true) : nset e = true ∧ (needT c = true → ntup tg = false) := by
  rw [Bool.and_eq_true, Bool.or_eq_true, Bool.not_eq_true', Bool.not_eq_true'] at h
  exact ⟨h.1, fun z => h.2.elim (fun y => by rw [z] at y; cases y) id⟩
/-- what the check of code c says, in every context -/
structure Snd (Γ : Ctx) (xc : Nat → Addr) (k : Nat) (nm : Nm) (c : E) : Prop where
  e : ∀ (X : Cx) (W : WX), Facts X Γ nm xc k → Takes X W → ∀ e, ck nm X.N c X.env.scope e = true → PE X e (rdE Γ X.K xc W c)
  a : ∀ (X : Cx) (W : WX), Facts X Γ nm xc k → Takes X W → ∀ es, ckA nm X.N c X.env.scope es = true → PA X es (rdA Γ X.K xc W c)
  p : ∀ (X : Cx) (W : WX), Facts X Γ nm xc k → Takes X W → ∀ o, ckP nm X.N c X.env.scope o = true → PO X o (rdP Γ X.K xc W c)
  q : ∀ (X : Cx) (W : WX), Facts X Γ nm xc k → Takes X W → ∀ es, ckC nm X.N c X.env.scope es = true → PTs X es (rdC Γ X.K xc W c)
  t : ∀ (X : Cx) (W : WX), Facts X Γ nm xc k → Takes X W → ∀ e, ckT nm X.N c X.env.scope e = true → PT X e (rdT Γ X.K xc W c)
  w : ∀ (X : Cx) (W : WX), Facts X Γ nm xc k → Takes X W → ∀ o l p, ckT nm X.N c X.env.scope (.BoolOp o l p) = true → PW X (.BoolOp o l p) (rdT Γ X.K xc W c)
  i : ∀ (X : Cx) (W : WX), Facts X Γ nm xc k → Takes X W → ∀ tg e, (needT c = true → ntup tg = false) → ckI nm X.N c X.env.scope e = true → PI X tg e (rdI Γ X.K xc W (!ntup tg) c)
theorem Facts.blk {X : Cx} (F : Facts X Γ nm xc k) (hh : nm.hot = false) (s : Shared) (H : Hp) (scope : Scope) (cenv : PySem.Env) (fp : List Addr) : Facts (X.blk s H scope cenv fp) Γ nm xc k where
  un := F.un
  room := F.room
  calm := F.calm
  gds := F.gds
  nd := F.nd
  bl := F.bl
  fns := fun f x hn => by
    obtain ⟨a, fd, ps, h1, h2, h3, h4, h5⟩ := F.fns f x hn
    refine ⟨a, fd, ps, h1, h2, h3, ?_, h5⟩
    rcases h4 with h4 | ⟨y, e, _⟩
    · exact .inl h4
    · rw [F.cold hh] at e; cases e
  gls := F.gls
  cls := F.cls
  xok := F.xok
  hot := F.hot
  xat := fun x e => by rw [F.cold hh] at e; cases e
  heat := F.heat
theorem args_cons {nm : Nm} {N : List Str} {c : E} {sc : Scope} {es : List Expr} (h : ckA nm N c sc es = true) (n : es ≠ []) : ∃ a l, es = a :: l ∧ nst a = true := by
  cases es with
  | nil => exact absurd rfl n
  | cons a l =>
    cases c <;> first | (simp only [ckA, Bool.and_eq_true] at h; exact ⟨a, l, rfl, h.1.2⟩) | simp [ckA] at h
theorem args_nst {nm : Nm} {N : List Str} : ∀ {c : E} {sc : Scope} {es : List Expr}, ckA nm N c sc es = true → ∀ e ∈ es, nst e = true := by
  intro c
  induction c with
  | nil =>
    intro sc es h e he
    cases es with
    | nil => cases he
    | cons _ _ => simp [ckA] at h
  | cons a r iha ihr =>
    intro sc es h e he
    cases es with
    | nil => simp [ckA] at h
    | cons x l =>
      simp only [ckA, Bool.and_eq_true] at h
      rcases List.mem_cons.mp he with rfl | he
      · exact h.1.2
      · exact ihr h.2 e he
  | _ => intro sc es h; simp [ckA] at h
theorem no_star {env : PySem.Env} {pos : Pos} : ∀ {es : List Expr}, (∀ e ∈ es, nst e = true) → (backTo pos (starEach es env)).any (·.1) = false := by
  intro es h
  have key : ∀ es : List Expr, (∀ e ∈ es, nst e = true) → (starEach es env).any (·.1) = false := by
    intro es
    induction es with
    | nil => intro _; rfl
    | cons e es ih =>
      intro h
      rw [star_of (h e (by simp))]
      show (false || (starEach es env).any (·.1)) = false
      rw [ih fun e he => h e (by simp [he])]
      rfl
  have key2 : ∀ l : List (Bool × Sem Value), l.any (·.1) = false → (backTo pos l).any (·.1) = false := by
    intro l
    cases l with
    | nil => intro _; rfl
    | cons x l => intro h; simpa [backTo] using h
  exact key2 _ (key es h)
theorem e_call {X : Cx} {W : WX} (F : Facts X Γ nm xc k) (tk : Takes X W) {f : Nat} {es : E} (iha : Snd Γ xc k nm es) {e : Expr} (h : ck nm X.N (.call f es) X.env.scope e = true) : PE X e (rdE Γ X.K xc W (.call f es)) ∧ plainT e = true := by
  simp only [ck] at h
  split at h
  · rename_i x l hv
    simp only [Bool.and_eq_true, decide_eq_true_eq] at h
    obtain ⟨⟨⟨⟨h1, h2⟩, h3⟩, h4⟩, h5⟩ := h
    obtain ⟨p, q, rfl⟩ := vCall_inv hv
    obtain ⟨a, l, rfl, ha⟩ := args_cons h5 h4
    have ns := args_nst h5
    exact ⟨r_call F tk h1 (glB_ok h2) (iha.a X W F tk _ h5) (okNm_ok h3).1 (star_of ha) (no_star fun e he => ns e (by simp [he])), rfl⟩
  · cases h
theorem e_var {X : Cx} {W : WX} {i : Nat} {e : Expr} (h : ck nm X.N (.var i) X.env.scope e = true) : PE X e (rdE Γ X.K xc W (.var i)) ∧ plainT e = true := by
  simp only [ck] at h
  split at h
  · rename_i x hv
    simp only [Bool.and_eq_true, decide_eq_true_eq] at h
    obtain ⟨p, rfl⟩ := vName_inv hv
    exact ⟨r_var h.1.1 (visB_ok h.1.2) (okNm_ok h.2).1 (okNm_ok h.2).2, rfl⟩
  · cases h
theorem e_idx {X : Cx} {W : WX} (F : Facts X Γ nm xc k) (tk : Takes X W) {a b : E} (iha : Snd Γ xc k nm a) (ihb : Snd Γ xc k nm b) {e : Expr} (h : ck nm X.N (.idx a b) X.env.scope e = true) : PE X e (rdE Γ X.K xc W (.idx a b)) ∧ plainT e = true := by
  simp only [ck] at h
  split at h
  · rename_i l r hv
    simp only [Bool.and_eq_true] at h
    obtain ⟨p, rfl⟩ := vSub_inv hv
    exact ⟨r_idx F (iha.e X W F tk _ h.1.1) (ihb.e X W F tk _ h.1.2) (ix_plain h.2), rfl⟩
  · cases h
theorem e_slc {X : Cx} {W : WX} (F : Facts X Γ nm xc k) (tk : Takes X W) {a lo hi : E} (iha : Snd Γ xc k nm a) (ihl : Snd Γ xc k nm lo) (ihh : Snd Γ xc k nm hi) {e : Expr} (h : ck nm X.N (.slc a lo hi) X.env.scope e = true) : PE X e (rdE Γ X.K xc W (.slc a lo hi)) := by
  simp only [ck] at h
  split at h
  · rename_i l x y hv
    simp only [Bool.and_eq_true] at h
    obtain ⟨p, q, rfl⟩ := vSlc_inv hv
    exact r_slc (iha.e X W F tk _ h.1.1) (ihl.p X W F tk _ h.1.2) (ihh.p X W F tk _ h.2)
  · cases h
theorem e_op {X : Cx} {W : WX} (F : Facts X Γ nm xc k) (tk : Takes X W) {o : Op} {a b : E} (iha : Snd Γ xc k nm a) (ihb : Snd Γ xc k nm b) {e : Expr} (h : ck nm X.N (.op o a b) X.env.scope e = true) : PE X e (rdE Γ X.K xc W (.op o a b)) := by
  simp only [ck] at h
  split at h
  · rename_i l p r hv
    simp only [Bool.and_eq_true, decide_eq_true_eq] at h
    obtain ⟨q, rfl⟩ := vBin_inv hv
    obtain ⟨⟨rfl, h1⟩, h2⟩ := h
    exact r_op (iha.e X W F tk _ h1) (ihb.e X W F tk _ h2)
  · cases h
theorem e_disp {X : Cx} {W : WX} (F : Facts X Γ nm xc k) (tk : Takes X W) {es : E} (iha : Snd Γ xc k nm es) {e : Expr} : (ck nm X.N (.tup es) X.env.scope e = true → PE X e (rdE Γ X.K xc W (.tup es))) ∧ (ck nm X.N (.lst es) X.env.scope e = true → PE X e (rdE Γ X.K xc W (.lst es))) := by
  have z : ∀ {l : List Expr}, l.length ≤ 1000 → ∀ vs : List V, vs.length = l.length → vs.length ≤ sizeLine := fun {l} h vs e => by
    rw [e]
    exact Nat.le_trans h (by decide)
  refine ⟨fun h => ?_, fun h => ?_⟩
  · simp only [ck] at h
    split at h
    · rename_i l hv
      simp only [Bool.and_eq_true, decide_eq_true_eq] at h
      obtain ⟨j, p, rfl⟩ := vTup_inv hv
      exact r_tup (z h.2) (fun ρ st ps st' d => denA_len h.1 d) (iha.a X W F tk _ h.1)
    · cases h
  · simp only [ck] at h
    split at h
    · rename_i l hv
      simp only [Bool.and_eq_true, decide_eq_true_eq] at h
      obtain ⟨p, rfl⟩ := vList_inv hv
      exact r_lst (z h.2) (fun ρ st ps st' d => denA_len h.1 d) (iha.a X W F tk _ h.1)
    · cases h
theorem e_isI {X : Cx} {W : WX} (F : Facts X Γ nm xc k) (tk : Takes X W) {t : Ty} {a : E} (iha : ∀ e, ck nm X.N a X.env.scope e = true → PE X e (rdE Γ X.K xc W a)) {e : Expr} (h : ck nm X.N (.blt (.isI t) (.cons a .nil)) X.env.scope e = true) : PE X e (rdE Γ X.K xc W (.blt (.isI t) (.cons a .nil))) ∧ plainT e = true := by
  simp only [ck] at h
  split at h
  · rename_i x l y p hv
    simp only [Bool.and_eq_true, decide_eq_true_eq] at h
    obtain ⟨⟨⟨⟨⟨rfl, h1⟩, rfl⟩, h2⟩, h3⟩, h4⟩ := h
    obtain ⟨q, r, rfl⟩ := vCall_inv hv
    exact ⟨r_isI (b := l) F (glB_ok h1) (glB_ok h2) (iha _ h3) (star_of h4) (star_of rfl) (no_star fun e he => by
      rcases List.mem_cons.mp he with rfl | he
      · rfl
      · cases he), rfl⟩
  · cases h
theorem e_blt {X : Cx} {W : WX} (F : Facts X Γ nm xc k) (tk : Takes X W) {b : Bi} {es : E} (iha : Snd Γ xc k nm es) (hb : (biOk b && (biHot b || !nm.hot)) = true) {e : Expr} (h : (match vCall e with
    | some (x, l) => decide (x = biNm b) && glB X.env.scope x && decide (l ≠ []) && ckA nm X.N es X.env.scope l
    | none => false) = true) : PE X e (rdE Γ X.K xc W (.blt b es)) ∧ plainT e = true := by
  split at h
  · rename_i x l hv
    simp only [Bool.and_eq_true, decide_eq_true_eq] at h
    obtain ⟨⟨⟨rfl, h2⟩, h4⟩, h5⟩ := h
    obtain ⟨p, q, rfl⟩ := vCall_inv hv
    obtain ⟨a, l, rfl, ha⟩ := args_cons h5 h4
    have ns := args_nst h5
    exact ⟨r_blt F (Bool.and_eq_true_iff.mp hb).1 (by have z := (Bool.and_eq_true_iff.mp hb).2; rw [Bool.or_eq_true, Bool.not_eq_true'] at z; exact z) (glB_ok h2) (iha.a X W F tk _ h5) (star_of ha) (no_star fun e he => ns e (by simp [he])), rfl⟩
  · cases h
theorem e_xis {X : Cx} {W : WX} (F : Facts X Γ nm xc k) {C : Nat} {a : E} (iha : ∀ e, ck nm X.N a X.env.scope e = true → PE X e (rdE Γ X.K xc W a)) {e : Expr} (h : ck nm X.N (.xis C a) X.env.scope e = true) : PE X e (rdE Γ X.K xc W (.xis C a)) ∧ plainT e = true := by
  simp only [ck] at h
  split at h
  · rename_i x l y p hv
    simp only [Bool.and_eq_true, decide_eq_true_eq] at h
    obtain ⟨⟨⟨⟨⟨⟨⟨⟨h1, h2⟩, rfl⟩, h3⟩, h4⟩, h5⟩, h6⟩, h7⟩, h8⟩ := h
    obtain ⟨q, r, rfl⟩ := vCall_inv hv
    have hn : C = 11 ∧ y = "ValueError" ∨ C ≠ 11 ∧ nm.cl C = some y := by
      by_cases z : C = 11
      · rw [if_pos z] at h6
        exact .inl ⟨z, of_decide_eq_true h6⟩
      · rw [if_neg z] at h6
        exact .inr ⟨z, of_decide_eq_true h6⟩
    exact ⟨r_xis F h1 h2 (glB_ok h3) (glB_ok h4) (okNm_ok h5).1 hn (iha _ h7) (star_of h8) (star_of rfl) (no_star fun e he => by
      rcases List.mem_cons.mp he with rfl | he
      · rfl
      · cases he), rfl⟩
  · cases h
theorem comp_cold {N : List Str} {el it cnd : E} {t : Tg} {sc : Scope} {e : Expr} (h : ck nm N (.comp el t it cnd) sc e = true) : nm.hot = false := by
  simp only [ck, Bool.and_eq_true, Bool.not_eq_true'] at h
  exact h.1
/-- the parts of a comprehension's rule -/
theorem e_comp {X : Cx} {W : WX} (F : Facts X Γ nm xc k) (tk : Takes X W) {el it cnd : E} {t : Tg} (ihe : Snd Γ xc k nm el) (ihi : Snd Γ xc k nm it) (ihc : Snd Γ xc k nm cnd) {e : Expr} (h : ck nm X.N (.comp el t it cnd) X.env.scope e = true) :
    ∃ x tg i fs s own p, e = .ListComp x [⟨tg, i, fs, 0⟩] s p ∧ PI X tg i (rdI Γ X.K xc W (!ntup tg) it) ∧ BlkOk X.N X.env.scope s own ∧
      (∀ (sh : Shared) (H : Hp) (C : Addr) (cl : List (Str × Addr)) (fp : List Addr), PG (X.blk sh H s (compEnvC s cl C X.env) fp) tg (fun v σ H Q => σ.length = X.N.length → rdG X.K t v σ H Q)) ∧
      (∀ (sh : Shared) (H : Hp) (C : Addr) (cl : List (Str × Addr)) (fp : List Addr), PTs (X.blk sh H s (compEnvC s cl C X.env) fp) fs (rdC Γ X.K xc W0 cnd)) ∧
      (∀ (sh : Shared) (H : Hp) (C : Addr) (cl : List (Str × Addr)) (fp : List Addr), PE (X.blk sh H s (compEnvC s cl C X.env) fp) x (rdE Γ X.K xc W0 el)) ∧
      (∀ x, foldedSetIterable i X.env x = pure x) ∧ (∀ σ H Q, rdE Γ X.K xc W (.comp el t it cnd) σ H Q → tLc (rdI Γ X.K xc W (!ntup tg) it) (fun v σ H Q => σ.length = X.N.length → rdG X.K t v σ H Q) (rdC Γ X.K xc W0 cnd) (rdE Γ X.K xc W0 el) (own.map (·.2)) σ H Q) := by
  have hh := comp_cold h
  simp only [ck, hh, Bool.not_false, Bool.true_and] at h
  split at h
  · rename_i x tg i fs s hv
    split at h
    · rename_i own ho
      rw [Bool.and_eq_true, Bool.and_eq_true, Bool.and_eq_true, Bool.and_eq_true, Bool.and_eq_true] at h
      obtain ⟨⟨⟨⟨⟨h1, h2⟩, h3⟩, h4⟩, h5⟩, h6⟩ := h
      obtain ⟨h4, h7⟩ := need_of h4
      simp only [List.all_eq_true, Bool.and_eq_true, decide_eq_true_eq] at h2
      obtain ⟨p, rfl⟩ := vComp_inv hv
      have hsc : ∀ (C : Addr) (cl : List (Str × Addr)), (compEnvC s cl C X.env).scope = relS s X.env.scope := fun _ _ => rfl
      refine ⟨x, tg, i, fs, s, own, p, rfl, ihi.i X W F tk tg i h7 h3, blkOk_by h1, fun sh H C cl fp => ?_, fun sh H C cl fp => ?_, fun sh H C cl fp => ?_, folded_of h4, fun σ H Q q => ?_⟩
      · refine pg_len (X := X.blk sh H s (compEnvC s cl C X.env) fp) (tg_ok (X := X.blk sh H s (compEnvC s cl C X.env) fp) F.nd (F.calm hh) ho fun q hq => ?_)
        obtain ⟨a1, a2⟩ := h2 q hq
        refine ⟨a1, ?_, ?_⟩
        · rcases locB_ok a2 with z | z
          · exact .inl (lookup_relS_keep (by decide) z)
          · exact .inr (lookup_relS_keep (by decide) z)
        · rcases locB_ok a2 with z | z
          · exact .inr (lookup_relS_keep (by decide) z)
          · exact .inl (show (s.names.lookup q.1 == some NameKind.cell) = true by rw [z]; rfl)
      · exact ihc.q (X.blk sh H s (compEnvC s cl C X.env) fp) W0 (F.blk hh ..) takes0 fs h5
      · exact ihe.e (X.blk sh H s (compEnvC s cl C X.env) fp) W0 (F.blk hh ..) takes0 x h6
      · rw [own_tgs ho]
        refine comp_read (n := X.N.length) (fun _ => Iff.rfl) (fun j hj => ?_) (own_wk ho) q
        rw [← own_tgs ho] at hj
        obtain ⟨q, hq, rfl⟩ := List.mem_map.mp hj
        exact (List.getElem?_eq_some_iff.mp (h2 q hq).1).1
    · cases h
  · cases h
end
end Sw

set_option Elab.async false
set_option linter.all false
set_option maxRecDepth 100000
set_option maxHeartbeats 4000000
/-! The check is sound: every expression. -/
namespace Sw
open PySem PySem.Spec PyProof.Rows L2
section
variable {Γ : Ctx} {xc : Nat → Addr} {k : Nat} {nm : Nm}
/-- nothing but a value; never tested, never walked -/
theorem only_e {c : E} (he : ∀ (X : Cx) (W : WX), Facts X Γ nm xc k → Takes X W → ∀ e, ck nm X.N c X.env.scope e = true → PE X e (rdE Γ X.K xc W c))
    (ha : ∀ N sc es, ckA nm N c sc es = false) (hp : ∀ N sc o, ckP nm N c sc o = false) (hq : ∀ N sc es, ckC nm N c sc es = false) (ht : ∀ N sc e, ckT nm N c sc e = false) (hi : ∀ N sc e, ckI nm N c sc e = false) : Snd Γ xc k nm c where
  e := he
  a := fun X W F tk es h => by rw [ha] at h; cases h
  p := fun X W F tk es h => by rw [hp] at h; cases h
  q := fun X W F tk es h => by rw [hq] at h; cases h
  t := fun X W F tk es h => by rw [ht] at h; cases h
  w := fun X W F tk o l p h => by rw [ht] at h; cases h
  i := fun X W F tk tg es _ h => by rw [hi] at h; cases h
/-- a value, tested as it stands -/
theorem val_t {X : Cx} {W : WX} {c : E} {e : Expr} (h : PE X e (rdE Γ X.K xc W c) ∧ plainT e = true) : PT X e (rdT Γ X.K xc W c) := t_val (true_of h.2) h.1
/-- a value that is walked, too; not tested -/
theorem only_ei {c : E} (he : ∀ (X : Cx) (W : WX), Facts X Γ nm xc k → Takes X W → ∀ e, ck nm X.N c X.env.scope e = true → PE X e (rdE Γ X.K xc W c))
    (ha : ∀ N sc es, ckA nm N c sc es = false) (hp : ∀ N sc o, ckP nm N c sc o = false) (hq : ∀ N sc es, ckC nm N c sc es = false) (ht : ∀ N sc e, ckT nm N c sc e = false) (hi : ∀ N sc e, ckI nm N c sc e = ck nm N c sc e) : Snd Γ xc k nm c where
  e := he
  a := fun X W F tk es h => by rw [ha] at h; cases h
  p := fun X W F tk es h => by rw [hp] at h; cases h
  q := fun X W F tk es h => by rw [hq] at h; cases h
  t := fun X W F tk es h => by rw [ht] at h; cases h
  w := fun X W F tk o l p h => by rw [ht] at h; cases h
  i := fun X W F tk tg es _ h => by rw [hi] at h; exact pi_seq (he X W F tk _ h)
theorem only_et {c : E} (he : ∀ (X : Cx) (W : WX), Facts X Γ nm xc k → Takes X W → ∀ e, ck nm X.N c X.env.scope e = true → PE X e (rdE Γ X.K xc W c) ∧ plainT e = true)
    (ha : ∀ N sc es, ckA nm N c sc es = false) (hp : ∀ N sc o, ckP nm N c sc o = false) (hq : ∀ N sc es, ckC nm N c sc es = false) (ht : ∀ N sc e, ckT nm N c sc e = ck nm N c sc e) (hi : ∀ N sc e, ckI nm N c sc e = false) : Snd Γ xc k nm c where
  e := fun X W F tk e h => (he X W F tk e h).1
  a := fun X W F tk es h => by rw [ha] at h; cases h
  p := fun X W F tk es h => by rw [hp] at h; cases h
  q := fun X W F tk es h => by rw [hq] at h; cases h
  t := fun X W F tk e h => by rw [ht] at h; exact val_t (he X W F tk e h)
  w := fun X W F tk o l p h => by
    rw [ht] at h
    exact absurd (he X W F tk _ h).2 (by simp [plainT])
  i := fun X W F tk tg es _ h => by rw [hi] at h; cases h
theorem only_eti {c : E} (he : ∀ (X : Cx) (W : WX), Facts X Γ nm xc k → Takes X W → ∀ e, ck nm X.N c X.env.scope e = true → PE X e (rdE Γ X.K xc W c) ∧ plainT e = true)
    (ha : ∀ N sc es, ckA nm N c sc es = false) (hp : ∀ N sc o, ckP nm N c sc o = false) (hq : ∀ N sc es, ckC nm N c sc es = false) (ht : ∀ N sc e, ckT nm N c sc e = ck nm N c sc e) (hi : ∀ N sc e, ckI nm N c sc e = ck nm N c sc e) : Snd Γ xc k nm c where
  e := fun X W F tk e h => (he X W F tk e h).1
  a := fun X W F tk es h => by rw [ha] at h; cases h
  p := fun X W F tk es h => by rw [hp] at h; cases h
  q := fun X W F tk es h => by rw [hq] at h; cases h
  t := fun X W F tk e h => by rw [ht] at h; exact val_t (he X W F tk e h)
  w := fun X W F tk o l p h => by
    rw [ht] at h
    exact absurd (he X W F tk _ h).2 (by simp [plainT])
  i := fun X W F tk tg es _ h => by rw [hi] at h; exact pi_seq (he X W F tk _ h).1
theorem chain3_parts {X : Cx} {W : WX} (F : Facts X Γ nm xc k) (tk : Takes X W) {o u w : Cm} {a b c d : E} (iha : Snd Γ xc k nm a) (ihb : Snd Γ xc k nm b) (ihc : Snd Γ xc k nm c) (ihd : Snd Γ xc k nm d) {e : Expr} (h : ck nm X.N (.chain3 o u w a b c d) X.env.scope e = true) : PE X e (rdE Γ X.K xc W (.chain3 o u w a b c d)) ∧ PT X e (rdT Γ X.K xc W (.chain3 o u w a b c d)) ∧ ∀ o l p, e ≠ .BoolOp o l p := by
  simp only [ck] at h
  split at h
  · rename_i l p q y r t x hv
    simp only [Bool.and_eq_true, decide_eq_true_eq] at h
    obtain ⟨z, rfl⟩ := vCmp_inv hv
    obtain ⟨⟨⟨⟨⟨⟨⟨rfl, rfl⟩, rfl⟩, h1⟩, h2⟩, h3⟩, h4⟩, h5⟩ := h
    have hm : lastMarks [cmA o, cmA u, cmA w] [r, t, x] = false := behind_of h5
    refine ⟨peI (pe_chain3 (cm_of F.un) (cm_of F.un) (cm_of F.un) (iha.e X W F tk _ h1) (ihb.e X W F tk _ h2) (ihc.e X W F tk _ h3) (ihd.e X W F tk _ h4) hm) fun σ H Q h => chain3_read h,
      ptI (pt_chain3 (cm_of F.un) (cm_of F.un) (cm_of F.un) (iha.e X W F tk _ h1) (ihb.e X W F tk _ h2) (ihc.e X W F tk _ h3) (ihd.e X W F tk _ h4) hm) fun σ H Q h => ?_, fun _ _ _ z => by cases z⟩
    obtain ⟨κ, M, ρ, st, env, g⟩ := h
    exact chain3_read (Q := fun v H' => ∃ k, v = .bl k ∧ Q k H') ⟨κ, M, ρ, st, env, g⟩
  · cases h
theorem cmp_parts {X : Cx} {W : WX} (F : Facts X Γ nm xc k) (tk : Takes X W) {o : Cm} {a b : E} (iha : Snd Γ xc k nm a) (ihb : Snd Γ xc k nm b) {e : Expr} (h : ck nm X.N (.cmp o a b) X.env.scope e = true) : PE X e (rdE Γ X.K xc W (.cmp o a b)) ∧ PT X e (rdT Γ X.K xc W (.cmp o a b)) ∧ ∀ o l p, e ≠ .BoolOp o l p := by
  simp only [ck] at h
  split at h
  · rename_i l p r hv
    simp only [Bool.and_eq_true, decide_eq_true_eq] at h
    obtain ⟨q, rfl⟩ := vCmp_inv hv
    obtain ⟨⟨⟨rfl, h1⟩, h2⟩, h3⟩ := h
    exact ⟨r_cmp F (iha.e X W F tk _ h1) (ihb.e X W F tk _ h2) (behind_of h3), t_cmp F (iha.e X W F tk _ h1) (ihb.e X W F tk _ h2) (behind_of h3), fun _ _ _ z => by cases z⟩
  · cases h
theorem inR_parts {X : Cx} {W : WX} (F : Facts X Γ nm xc k) (tk : Takes X W) {ng : Bool} {a b : E} (iha : Snd Γ xc k nm a) (ihb : Snd Γ xc k nm b) {e : Expr} (h : ck nm X.N (.inR ng a b) X.env.scope e = true) : PE X e (rdE Γ X.K xc W (.inR ng a b)) ∧ PT X e (rdT Γ X.K xc W (.inR ng a b)) ∧ ∀ o l p, e ≠ .BoolOp o l p := by
  simp only [ck] at h
  split at h
  · rename_i l p r hv
    split at h
    · rename_i z y hw
      simp only [Bool.and_eq_true, decide_eq_true_eq] at h
      obtain ⟨q, rfl⟩ := vCmp_inv hv
      obtain ⟨⟨⟨⟨⟨⟨rfl, rfl⟩, h1⟩, h2⟩, h3⟩, h4⟩, h5⟩ := h
      obtain ⟨p3, p4, rfl⟩ := vCall_inv hw
      exact ⟨r_inR F (glB_ok h1) (iha.e X W F tk _ h2) (ihb.e X W F tk _ h3) (star_of h4) (behind_of h5), t_inR F (glB_ok h1) (iha.e X W F tk _ h2) (ihb.e X W F tk _ h3) (star_of h4) (behind_of h5), fun _ _ _ z => by cases z⟩
    · cases h
  · cases h
theorem chain_parts {X : Cx} {W : WX} (F : Facts X Γ nm xc k) (tk : Takes X W) {o u : Cm} {a b c : E} (iha : Snd Γ xc k nm a) (ihb : Snd Γ xc k nm b) (ihc : Snd Γ xc k nm c) {e : Expr} (h : ck nm X.N (.chain o u a b c) X.env.scope e = true) : PE X e (rdE Γ X.K xc W (.chain o u a b c)) ∧ PT X e (rdT Γ X.K xc W (.chain o u a b c)) ∧ ∀ o l p, e ≠ .BoolOp o l p := by
  simp only [ck] at h
  split at h
  · rename_i l p q r t hv
    simp only [Bool.and_eq_true, decide_eq_true_eq] at h
    obtain ⟨z, rfl⟩ := vCmp_inv hv
    obtain ⟨⟨⟨⟨⟨rfl, rfl⟩, h1⟩, h2⟩, h3⟩, h4⟩ := h
    have hm : lastMarks [cmA o, cmA u] [r, t] = false := behind_of h4
    exact ⟨r_chain F (iha.e X W F tk _ h1) (ihb.e X W F tk _ h2) (ihc.e X W F tk _ h3) (pe_chain (cm_of F.un) (cm_of F.un) (iha.e X W F tk _ h1) (ihb.e X W F tk _ h2) (ihc.e X W F tk _ h3) hm),
      t_chain F (pt_chain (cm_of F.un) (cm_of F.un) (iha.e X W F tk _ h1) (ihb.e X W F tk _ h2) (ihc.e X W F tk _ h3) hm), fun _ _ _ z => by cases z⟩
  · cases h
theorem with_i {c : E} (h : Snd Γ xc k nm c) (hi : ∀ (X : Cx) (W : WX), Facts X Γ nm xc k → Takes X W → ∀ tg e, (needT c = true → ntup tg = false) → ckI nm X.N c X.env.scope e = true → PI X tg e (rdI Γ X.K xc W (!ntup tg) c)) : Snd Γ xc k nm c := ⟨h.e, h.a, h.p, h.q, h.t, h.w, hi⟩
theorem only_et' {c : E} (he : ∀ (X : Cx) (W : WX), Facts X Γ nm xc k → Takes X W → ∀ e, ck nm X.N c X.env.scope e = true → PE X e (rdE Γ X.K xc W c) ∧ plainT e = true)
    (ha : ∀ N sc es, ckA nm N c sc es = false) (hp : ∀ N sc o, ckP nm N c sc o = false) (hq : ∀ N sc es, ckC nm N c sc es = false) (ht : ∀ N sc e, ckT nm N c sc e = ck nm N c sc e) (hi : ∀ (X : Cx) (W : WX), Facts X Γ nm xc k → Takes X W → ∀ tg e, (needT c = true → ntup tg = false) → ckI nm X.N c X.env.scope e = true → PI X tg e (rdI Γ X.K xc W (!ntup tg) c)) : Snd Γ xc k nm c where
  e := fun X W F tk e h => (he X W F tk e h).1
  a := fun X W F tk es h => by rw [ha] at h; cases h
  p := fun X W F tk es h => by rw [hp] at h; cases h
  q := fun X W F tk es h => by rw [hq] at h; cases h
  t := fun X W F tk e h => by rw [ht] at h; exact val_t (he X W F tk e h)
  w := fun X W F tk o l p h => by
    rw [ht] at h
    exact absurd (he X W F tk _ h).2 (by simp [plainT])
  i := hi
theorem snd_blt {b : Bi} {es : E} (iha : Snd Γ xc k nm es) (ihs : ∀ a, es = .cons a .nil → ∀ (X : Cx) (W : WX), Facts X Γ nm xc k → Takes X W → ∀ e, ck nm X.N a X.env.scope e = true → PE X e (rdE Γ X.K xc W a)) : Snd Γ xc k nm (.blt b es) := by
  have gen : ∀ (b : Bi) (es : E) (iha : Snd Γ xc k nm es) (X : Cx) (W : WX), Facts X Γ nm xc k → Takes X W → ∀ e, ((biOk b && (biHot b || !nm.hot)) && match vCall e with
    | some (x, l) => decide (x = biNm b) && glB X.env.scope x && decide (l ≠ []) && ckA nm X.N es X.env.scope l
    | none => false) = true → PE X e (rdE Γ X.K xc W (.blt b es)) ∧ plainT e = true := fun b es iha X W F tk e h => by
    rw [Bool.and_eq_true] at h
    exact e_blt F tk iha h.1 h.2
  have hI : ∀ (X : Cx) (W : WX), Facts X Γ nm xc k → Takes X W → ∀ tg e, (needT (.blt b es) = true → ntup tg = false) → ckI nm X.N (.blt b es) X.env.scope e = true → PI X tg e (rdI Γ X.K xc W (!ntup tg) (.blt b es)) := fun X W F tk tg e _ h => by
    simp only [ckI] at h
    exact pi_seq (gen b es iha X W F tk e h).1
  by_cases hi : ∃ t a, b = .isI t ∧ es = .cons a .nil
  · obtain ⟨t, a, rfl, rfl⟩ := hi
    exact only_et' (fun X W F tk e h => e_isI F tk (fun e => ihs a rfl X W F tk e) h) (by intros; first | rfl | (simp [ckA, ckP, ckC, ckT, ckI]; done)) (by intros; first | rfl | (simp [ckA, ckP, ckC, ckT, ckI]; done)) (by intros; first | rfl | (simp [ckA, ckP, ckC, ckT, ckI]; done)) (by intros; rfl) hI
  · have hk : ∀ N sc e, ck nm N (.blt b es) sc e = ((biOk b && (biHot b || !nm.hot)) && match vCall e with
      | some (x, l) => decide (x = biNm b) && glB sc x && decide (l ≠ []) && ckA nm N es sc l
      | none => false) := fun N sc e => by
      rw [ck] <;> first | rfl | (intro t a e1 e2; exact hi ⟨t, a, e1, e2⟩)
    have ht : ∀ N sc e, ckT nm N (.blt b es) sc e = ((biOk b && (biHot b || !nm.hot)) && match vCall e with
      | some (x, l) => decide (x = biNm b) && glB sc x && decide (l ≠ []) && ckA nm N es sc l
      | none => false) := fun N sc e => by
      rw [ckT] <;> first | rfl | (intro t a e1 e2; exact hi ⟨t, a, e1, e2⟩)
    exact only_et' (fun X W F tk e h => gen b es iha X W F tk e (by rw [← hk]; exact h)) (by intros; first | rfl | (simp [ckA, ckP, ckC, ckT, ckI]; done)) (by intros; first | rfl | (simp [ckA, ckP, ckC, ckT, ckI]; done)) (by intros; first | rfl | (simp [ckA, ckP, ckC, ckT, ckI]; done)) (fun N sc e => (ht N sc e).trans (hk N sc e).symm) hI
theorem snd_and {a b : E} (iha : Snd Γ xc k nm a) (ihb : Snd Γ xc k nm b) : Snd Γ xc k nm (.and a b) := by
  have w : ∀ (X : Cx) (W : WX), Facts X Γ nm xc k → Takes X W → ∀ e, ckT nm X.N (.and a b) X.env.scope e = true → PW X e (rdT Γ X.K xc W (.and a b)) := fun X W F tk e h => by
    simp only [ckT] at h
    split at h
    · rename_i x y r p hv
      obtain rfl := vBool_inv hv
      rw [Bool.and_eq_true] at h
      exact w_and (iha.t X W F tk _ h.1) (ihb.w X W F tk _ _ _ h.2)
    · cases h
  refine ⟨fun X W F tk e h => ?_, by intros; rename_i h; simp [ckA] at h, by intros; rename_i h; simp [ckP] at h, by intros; rename_i h; simp [ckC] at h, fun X W F tk e h => (w X W F tk e h).pt, fun X W F tk o l p h => w X W F tk _ h, by intros; rename_i h; simp [ckI] at h⟩
  simp only [ck] at h
  split at h
  · rename_i x y r p hv
    obtain rfl := vBool_inv hv
    rw [Bool.and_eq_true] at h
    exact r_and (iha.e X W F tk _ h.1) (ihb.e X W F tk _ h.2)
  · cases h
theorem snd_or {a b : E} (iha : Snd Γ xc k nm a) (ihb : Snd Γ xc k nm b) : Snd Γ xc k nm (.or a b) := by
  have w : ∀ (X : Cx) (W : WX), Facts X Γ nm xc k → Takes X W → ∀ e, ckT nm X.N (.or a b) X.env.scope e = true → PW X e (rdT Γ X.K xc W (.or a b)) := fun X W F tk e h => by
    simp only [ckT] at h
    split at h
    · rename_i x y r p hv
      obtain rfl := vBool_inv hv
      rw [Bool.and_eq_true] at h
      exact w_or (iha.t X W F tk _ h.1) (ihb.w X W F tk _ _ _ h.2)
    · cases h
  refine ⟨fun X W F tk e h => ?_, by intros; rename_i h; simp [ckA] at h, by intros; rename_i h; simp [ckP] at h, by intros; rename_i h; simp [ckC] at h, fun X W F tk e h => (w X W F tk e h).pt, fun X W F tk o l p h => w X W F tk _ h, by intros; rename_i h; simp [ckI] at h⟩
  simp only [ck] at h
  split at h
  · rename_i x y r p hv
    obtain rfl := vBool_inv hv
    rw [Bool.and_eq_true] at h
    exact r_or (iha.e X W F tk _ h.1) (ihb.e X W F tk _ h.2)
  · cases h
theorem snd_one {a : E} (iha : Snd Γ xc k nm a) : Snd Γ xc k nm (.one a) := by
  have w : ∀ (X : Cx) (W : WX), Facts X Γ nm xc k → Takes X W → ∀ e, ckT nm X.N (.one a) X.env.scope e = true → PW X e (rdT Γ X.K xc W (.one a)) := fun X W F tk e h => by
    simp only [ckT] at h
    split at h
    · rename_i o x p hv
      obtain rfl := vBool_inv hv
      cases o with
      | And => exact w_oneA (iha.t X W F tk _ h)
      | Or => exact w_oneO (iha.t X W F tk _ h)
    · cases h
  refine ⟨fun X W F tk e h => ?_, by intros; rename_i h; simp [ckA] at h, fun X W F tk o h => ?_, fun X W F tk es h => ?_, fun X W F tk e h => (w X W F tk e h).pt, fun X W F tk o l p h => w X W F tk _ h, by intros; rename_i h; simp [ckI] at h⟩
  · simp only [ck] at h
    split at h
    · rename_i o x p hv
      obtain rfl := vBool_inv hv
      exact r_one (iha.e X W F tk _ h)
    · cases h
  · cases o with
    | none => simp [ckP] at h
    | some x => exact p_some (iha.e X W F tk _ (by simpa only [ckP] using h))
  · match es, h with
    | [x], h => exact c_one (iha.t X W F tk _ (by simpa only [ckC] using h))
    | [], h => simp [ckC] at h
    | _ :: _ :: _, h => simp [ckC] at h
theorem snd_not {a : E} (iha : Snd Γ xc k nm a) : Snd Γ xc k nm (.not a) := by
  refine ⟨fun X W F tk e h => ?_, by intros; rename_i h; simp [ckA] at h, by intros; rename_i h; simp [ckP] at h, by intros; rename_i h; simp [ckC] at h, fun X W F tk e h => ?_, fun X W F tk o l p h => ?_, by intros; rename_i h; simp [ckI] at h⟩
  · simp only [ck] at h
    split at h
    · rename_i x hv
      obtain ⟨p, rfl⟩ := vUn_inv hv
      exact r_not (iha.e X W F tk _ h)
    · cases h
  · simp only [ckT] at h
    split at h
    · rename_i x hv
      obtain ⟨p, rfl⟩ := vUn_inv hv
      exact t_not (iha.t X W F tk _ h)
    · cases h
  · simp [ckT, vUn] at h
theorem snd_nil : Snd Γ xc k nm .nil := by
  refine ⟨by intros; rename_i h; simp [ck] at h, fun X W F tk es h => ?_, fun X W F tk o h => ?_, fun X W F tk es h => ?_, by intros; rename_i h; simp [ckT] at h, by intros; rename_i h; simp [ckT] at h, by intros; rename_i h; simp [ckI] at h⟩
  · cases es with
    | nil => exact a_nil
    | cons x l => simp [ckA] at h
  · cases o with
    | none => exact p_none
    | some x => simp [ckP] at h
  · cases es with
    | nil => exact c_nil
    | cons x l => simp [ckC] at h
theorem snd_cons {a r : E} (iha : Snd Γ xc k nm a) (ihr : Snd Γ xc k nm r) : Snd Γ xc k nm (.cons a r) := by
  refine ⟨by intros; rename_i h; simp [ck] at h, fun X W F tk es h => ?_, by intros; rename_i h; simp [ckP] at h, by intros; rename_i h; simp [ckC] at h, by intros; rename_i h; simp [ckT] at h, by intros; rename_i h; simp [ckT] at h, by intros; rename_i h; simp [ckI] at h⟩
  cases es with
  | nil => simp [ckA] at h
  | cons x l =>
    simp only [ckA, Bool.and_eq_true] at h
    exact a_cons (iha.e X W F tk _ h.1.1) (ihr.a X W F tk _ h.2) (star_of h.1.2)
theorem snd_rng1 {a : E} (iha : Snd Γ xc k nm a) : Snd Γ xc k nm (.rng1 a) := by
  refine ⟨by intros; rename_i h; simp [ck] at h, by intros; rename_i h; simp [ckA] at h, by intros; rename_i h; simp [ckP] at h, by intros; rename_i h; simp [ckC] at h, by intros; rename_i h; simp [ckT] at h, by intros; rename_i h; simp [ckT] at h, fun X W F tk tg e _ h => ?_⟩
  simp only [ckI] at h
  split at h
  · rename_i x l hv
    simp only [Bool.and_eq_true, decide_eq_true_eq] at h
    obtain ⟨⟨⟨rfl, h1⟩, h2⟩, h3⟩ := h
    obtain ⟨p, q, rfl⟩ := vCall_inv hv
    exact pi_rng1 F (glB_ok h1) (iha.e X W F tk _ h2) (star_of h3)
  · cases h
theorem snd_rng2 {a b : E} (iha : Snd Γ xc k nm a) (ihb : Snd Γ xc k nm b) : Snd Γ xc k nm (.rng2 a b) := by
  refine ⟨by intros; rename_i h; simp [ck] at h, by intros; rename_i h; simp [ckA] at h, by intros; rename_i h; simp [ckP] at h, by intros; rename_i h; simp [ckC] at h, by intros; rename_i h; simp [ckT] at h, by intros; rename_i h; simp [ckT] at h, fun X W F tk tg e _ h => ?_⟩
  simp only [ckI] at h
  split at h
  · rename_i x l r hv
    simp only [Bool.and_eq_true, decide_eq_true_eq] at h
    obtain ⟨⟨⟨⟨⟨rfl, h1⟩, h2⟩, h3⟩, h4⟩, h5⟩ := h
    obtain ⟨p, q, rfl⟩ := vCall_inv hv
    have hr : starEach [r] X.env = [(false, eval r X.env)] := star_of h5
    have hl : starEach [l, r] X.env = [(false, eval l X.env), (false, eval r X.env)] := by rw [star_of h4, hr]
    exact pi_rng2 F (glB_ok h1) (iha.e X W F tk _ h2) (ihb.e X W F tk _ h3) hl hr
  · cases h
theorem snd_enm {a : E} (iha : Snd Γ xc k nm a) : Snd Γ xc k nm (.enm a) := by
  refine ⟨by intros; rename_i h; simp [ck] at h, by intros; rename_i h; simp [ckA] at h, by intros; rename_i h; simp [ckP] at h, by intros; rename_i h; simp [ckC] at h, by intros; rename_i h; simp [ckT] at h, by intros; rename_i h; simp [ckT] at h, fun X W F tk tg e ht h => ?_⟩
  obtain ⟨es, kk, tp, rfl⟩ := ntup_inv (ht rfl)
  simp only [ckI] at h
  split at h
  · rename_i x l hv
    simp only [Bool.and_eq_true, decide_eq_true_eq] at h
    obtain ⟨⟨⟨rfl, h1⟩, h2⟩, h3⟩ := h
    obtain ⟨p, q, rfl⟩ := vCall_inv hv
    exact pi_enm F (glB_ok h1) (iha.e X W F tk _ h2) (star_of h3)
  · cases h
theorem snd_zp {a b : E} (iha : Snd Γ xc k nm a) (ihb : Snd Γ xc k nm b) : Snd Γ xc k nm (.zp a b) := by
  refine ⟨by intros; rename_i h; simp [ck] at h, by intros; rename_i h; simp [ckA] at h, by intros; rename_i h; simp [ckP] at h, by intros; rename_i h; simp [ckC] at h, by intros; rename_i h; simp [ckT] at h, by intros; rename_i h; simp [ckT] at h, fun X W F tk tg e ht h => ?_⟩
  obtain ⟨es, kk, tp, rfl⟩ := ntup_inv (ht rfl)
  simp only [ckI] at h
  split at h
  · rename_i x l r hv
    simp only [Bool.and_eq_true, decide_eq_true_eq] at h
    obtain ⟨⟨⟨⟨⟨rfl, h1⟩, h2⟩, h3⟩, h4⟩, h5⟩ := h
    obtain ⟨p, q, rfl⟩ := vCall_inv hv
    have hr : starEach [r] X.env = [(false, eval r X.env)] := star_of h5
    exact pi_zp F (glB_ok h1) (iha.e X W F tk _ h2) (ihb.e X W F tk _ h3) (star_of h4) hr (no_star fun e he => by
      have : e = r := by simpa using he
      rw [this]; exact h5)
  · cases h
theorem snd_vals {a : E} (iha : Snd Γ xc k nm a) : Snd Γ xc k nm (.vals a) := by
  refine ⟨by intros; rename_i h; simp [ck] at h, by intros; rename_i h; simp [ckA] at h, by intros; rename_i h; simp [ckP] at h, by intros; rename_i h; simp [ckC] at h, by intros; rename_i h; simp [ckT] at h, by intros; rename_i h; simp [ckT] at h, fun X W F tk tg e _ h => ?_⟩
  simp only [ckI] at h
  split at h
  · rename_i o n p q hv
    simp only [Bool.and_eq_true, decide_eq_true_eq] at h
    obtain ⟨⟨⟨rfl, h1⟩, h2⟩, h3⟩ := h
    obtain rfl := vMth0_inv hv
    exact pi_vals (iha.e X W F tk _ h1) (base_ok h3) h2
  · cases h
theorem snd_comp {el it cnd : E} {t : Tg} (ihe : Snd Γ xc k nm el) (ihi : Snd Γ xc k nm it) (ihc : Snd Γ xc k nm cnd) : Snd Γ xc k nm (.comp el t it cnd) :=
  only_ei (fun X W F tk e h => by
    obtain ⟨x, tg, i, fs, s, own, p, rfl, h1, h2, h3, h4, h5, h6, h7⟩ := e_comp F tk ihe ihi ihc h
    exact peI (pe_lc (F.calm (comp_cold h)) F.nd h1 h2 h3 h4 h5 h6) h7) (by intros; first | rfl | (simp [ckA, ckP, ckC, ckT, ckI]; done)) (by intros; first | rfl | (simp [ckA, ckP, ckC, ckT, ckI]; done)) (by intros; first | rfl | (simp [ckA, ckP, ckC, ckT, ckI]; done)) (by intros; first | rfl | (simp [ckA, ckP, ckC, ckT, ckI]; done)) (by intros; rfl)
theorem snd_dead : Snd Γ xc k nm .dead := by
  refine ⟨fun X W F tk e _ => ⟨fun pins s σ H Q I h => ?_⟩, by intros; rename_i h; simp [ckA] at h, by intros; rename_i h; simp [ckP] at h, by intros; rename_i h; simp [ckC] at h, fun X W F tk e _ => ⟨fun pins s σ H Q I h => ?_⟩, fun X W F tk o l p _ => ⟨fun wh pins s σ H Q I h => ?_⟩, fun X W F tk tg e _ _ => ⟨fun pins s σ H R I h => ?_⟩⟩
  · obtain ⟨_, _, _, _, _, g⟩ := h
    exact g.elim
  · obtain ⟨_, _, _, _, _, g⟩ := h
    exact g.elim
  · obtain ⟨_, _, _, _, _, g⟩ := h
    exact g.elim
  · obtain ⟨_, _, _, _, _, _, _, g⟩ := h
    exact g.elim
theorem snd_const (i : Int) (x : Str) (b : Bool) : Snd Γ xc k nm (.cI i) ∧ Snd Γ xc k nm (.cS x) ∧ Snd Γ xc k nm (.cB b) ∧ Snd Γ xc k nm .cN := by
  refine ⟨only_e (fun X W F tk e h => ?_) (by intros; first | rfl | (simp [ckA, ckP, ckC, ckT, ckI]; done)) (by intros; first | rfl | (simp [ckA, ckP, ckC, ckT, ckI]; done)) (by intros; first | rfl | (simp [ckA, ckP, ckC, ckT, ckI]; done)) (by intros; first | rfl | (simp [ckA, ckP, ckC, ckT, ckI]; done)) (by intros; first | rfl | (simp [ckA, ckP, ckC, ckT, ckI]; done)), only_e (fun X W F tk e h => ?_) (by intros; first | rfl | (simp [ckA, ckP, ckC, ckT, ckI]; done)) (by intros; first | rfl | (simp [ckA, ckP, ckC, ckT, ckI]; done)) (by intros; first | rfl | (simp [ckA, ckP, ckC, ckT, ckI]; done)) (by intros; first | rfl | (simp [ckA, ckP, ckC, ckT, ckI]; done)) (by intros; first | rfl | (simp [ckA, ckP, ckC, ckT, ckI]; done)), only_e (fun X W F tk e h => ?_) (by intros; first | rfl | (simp [ckA, ckP, ckC, ckT, ckI]; done)) (by intros; first | rfl | (simp [ckA, ckP, ckC, ckT, ckI]; done)) (by intros; first | rfl | (simp [ckA, ckP, ckC, ckT, ckI]; done)) (by intros; first | rfl | (simp [ckA, ckP, ckC, ckT, ckI]; done)) (by intros; first | rfl | (simp [ckA, ckP, ckC, ckT, ckI]; done)), only_e (fun X W F tk e h => ?_) (by intros; first | rfl | (simp [ckA, ckP, ckC, ckT, ckI]; done)) (by intros; first | rfl | (simp [ckA, ckP, ckC, ckT, ckI]; done)) (by intros; first | rfl | (simp [ckA, ckP, ckC, ckT, ckI]; done)) (by intros; first | rfl | (simp [ckA, ckP, ckC, ckT, ckI]; done)) (by intros; first | rfl | (simp [ckA, ckP, ckC, ckT, ckI]; done))⟩
  · simp only [ck] at h
    split at h
    · rename_i j hv
      obtain ⟨_, _, rfl⟩ := vConst_inv hv
      obtain rfl := of_decide_eq_true h
      exact r_int
    · cases h
  · simp only [ck] at h
    split at h
    · rename_i j hv
      obtain ⟨_, _, rfl⟩ := vConst_inv hv
      obtain rfl := of_decide_eq_true h
      exact r_str
    · cases h
  · simp only [ck] at h
    split at h
    · rename_i j hv
      obtain ⟨_, _, rfl⟩ := vConst_inv hv
      obtain rfl := of_decide_eq_true h
      exact r_bool
    · cases h
  · simp only [ck] at h
    split at h
    · rename_i hv
      obtain ⟨_, _, rfl⟩ := vConst_inv hv
      exact r_none
    · cases h
theorem snd (c : E) : Snd Γ xc k nm c := by
  suffices h : Snd Γ xc k nm c ∧ ∀ a, c = .cons a .nil → ∀ (X : Cx) (W : WX), Facts X Γ nm xc k → Takes X W → ∀ e, ck nm X.N a X.env.scope e = true → PE X e (rdE Γ X.K xc W a) from h.1
  induction c with
  | var i => exact ⟨only_eti (fun X W F tk e h => e_var h) (by intros; first | rfl | (simp [ckA, ckP, ckC, ckT, ckI]; done)) (by intros; first | rfl | (simp [ckA, ckP, ckC, ckT, ckI]; done)) (by intros; first | rfl | (simp [ckA, ckP, ckC, ckT, ckI]; done)) (by intros; rfl) (by intros; rfl), fun _ z => by cases z⟩
  | cI i => exact ⟨(snd_const i "" true).1, fun _ z => by cases z⟩
  | cS x => exact ⟨(snd_const 0 x true).2.1, fun _ z => by cases z⟩
  | cB b => exact ⟨(snd_const 0 "" b).2.2.1, fun _ z => by cases z⟩
  | cN => exact ⟨(snd_const 0 "" true).2.2.2, fun _ z => by cases z⟩
  | glob g =>
    refine ⟨only_ei (fun X W F tk e h => ?_) (by intros; first | rfl | (simp [ckA, ckP, ckC, ckT, ckI]; done)) (by intros; first | rfl | (simp [ckA, ckP, ckC, ckT, ckI]; done)) (by intros; first | rfl | (simp [ckA, ckP, ckC, ckT, ckI]; done)) (by intros; first | rfl | (simp [ckA, ckP, ckC, ckT, ckI]; done)) (by intros; rfl), fun _ z => by cases z⟩
    simp only [ck] at h
    split at h
    · rename_i x hv
      simp only [Bool.and_eq_true, decide_eq_true_eq] at h
      obtain ⟨p, rfl⟩ := vName_inv hv
      exact r_glob F h.1.1 (glB_ok h.1.2) (okNm_ok h.2).1
    · cases h
  | nil => exact ⟨snd_nil, fun _ z => by cases z⟩
  | cons a r iha ihr => exact ⟨snd_cons iha.1 ihr.1, fun _ z => by cases z; exact iha.1.e⟩
  | tup es ih => exact ⟨only_ei (fun X W F tk e h => (e_disp F tk ih.1).1 h) (by intros; first | rfl | (simp [ckA, ckP, ckC, ckT, ckI]; done)) (by intros; first | rfl | (simp [ckA, ckP, ckC, ckT, ckI]; done)) (by intros; first | rfl | (simp [ckA, ckP, ckC, ckT, ckI]; done)) (by intros; first | rfl | (simp [ckA, ckP, ckC, ckT, ckI]; done)) (by intros; rfl), fun _ z => by cases z⟩
  | lst es ih => exact ⟨only_ei (fun X W F tk e h => (e_disp F tk ih.1).2 h) (by intros; first | rfl | (simp [ckA, ckP, ckC, ckT, ckI]; done)) (by intros; first | rfl | (simp [ckA, ckP, ckC, ckT, ckI]; done)) (by intros; first | rfl | (simp [ckA, ckP, ckC, ckT, ckI]; done)) (by intros; first | rfl | (simp [ckA, ckP, ckC, ckT, ckI]; done)) (by intros; rfl), fun _ z => by cases z⟩
  | op o a b iha ihb => exact ⟨only_ei (fun X W F tk e h => e_op F tk iha.1 ihb.1 h) (by intros; first | rfl | (simp [ckA, ckP, ckC, ckT, ckI]; done)) (by intros; first | rfl | (simp [ckA, ckP, ckC, ckT, ckI]; done)) (by intros; first | rfl | (simp [ckA, ckP, ckC, ckT, ckI]; done)) (by intros; first | rfl | (simp [ckA, ckP, ckC, ckT, ckI]; done)) (by intros; rfl), fun _ z => by cases z⟩
  | neg a iha =>
    refine ⟨only_e (fun X W F tk e h => ?_) (by intros; first | rfl | (simp [ckA, ckP, ckC, ckT, ckI]; done)) (by intros; first | rfl | (simp [ckA, ckP, ckC, ckT, ckI]; done)) (by intros; first | rfl | (simp [ckA, ckP, ckC, ckT, ckI]; done)) (by intros; first | rfl | (simp [ckA, ckP, ckC, ckT, ckI]; done)) (by intros; first | rfl | (simp [ckA, ckP, ckC, ckT, ckI]; done)), fun _ z => by cases z⟩
    simp only [ck] at h
    split at h
    · rename_i x hv
      obtain ⟨p, rfl⟩ := vUn_inv hv
      exact r_neg (iha.1.e X W F tk _ h)
    · cases h
  | cmp o a b iha ihb =>
    refine ⟨⟨fun X W F tk e h => (cmp_parts F tk iha.1 ihb.1 h).1, by intros; rename_i h; simp [ckA] at h, by intros; rename_i h; simp [ckP] at h, by intros; rename_i h; simp [ckC] at h, fun X W F tk e h => (cmp_parts F tk iha.1 ihb.1 (show ck nm X.N (.cmp o a b) X.env.scope e = true from h)).2.1, fun X W F tk u l p h => absurd rfl ((cmp_parts F tk iha.1 ihb.1 (show ck nm X.N (.cmp o a b) X.env.scope (.BoolOp u l p) = true from h)).2.2 u l p), by intros; rename_i h; simp [ckI] at h⟩, fun _ z => by cases z⟩
  | inR ng a b iha ihb =>
    refine ⟨⟨fun X W F tk e h => (inR_parts F tk iha.1 ihb.1 h).1, by intros; rename_i h; simp [ckA] at h, by intros; rename_i h; simp [ckP] at h, by intros; rename_i h; simp [ckC] at h, fun X W F tk e h => (inR_parts F tk iha.1 ihb.1 (show ck nm X.N (.inR ng a b) X.env.scope e = true from h)).2.1, fun X W F tk u l p h => absurd rfl ((inR_parts F tk iha.1 ihb.1 (show ck nm X.N (.inR ng a b) X.env.scope (.BoolOp u l p) = true from h)).2.2 u l p), by intros; rename_i h; simp [ckI] at h⟩, fun _ z => by cases z⟩
  | chain o u a b c iha ihb ihc =>
    refine ⟨⟨fun X W F tk e h => (chain_parts F tk iha.1 ihb.1 ihc.1 h).1, by intros; rename_i h; simp [ckA] at h, by intros; rename_i h; simp [ckP] at h, by intros; rename_i h; simp [ckC] at h, fun X W F tk e h => (chain_parts F tk iha.1 ihb.1 ihc.1 (show ck nm X.N (.chain o u a b c) X.env.scope e = true from h)).2.1, fun X W F tk v l p h => absurd rfl ((chain_parts F tk iha.1 ihb.1 ihc.1 (show ck nm X.N (.chain o u a b c) X.env.scope (.BoolOp v l p) = true from h)).2.2 v l p), by intros; rename_i h; simp [ckI] at h⟩, fun _ z => by cases z⟩
  | chain3 o u w a b c d iha ihb ihc ihd =>
    refine ⟨⟨fun X W F tk e h => (chain3_parts F tk iha.1 ihb.1 ihc.1 ihd.1 h).1, by intros; rename_i h; simp [ckA] at h, by intros; rename_i h; simp [ckP] at h, by intros; rename_i h; simp [ckC] at h, fun X W F tk e h => (chain3_parts F tk iha.1 ihb.1 ihc.1 ihd.1 (show ck nm X.N (.chain3 o u w a b c d) X.env.scope e = true from h)).2.1, fun X W F tk v l p h => absurd rfl ((chain3_parts F tk iha.1 ihb.1 ihc.1 ihd.1 (show ck nm X.N (.chain3 o u w a b c d) X.env.scope (.BoolOp v l p) = true from h)).2.2 v l p), by intros; rename_i h; simp [ckI] at h⟩, fun _ z => by cases z⟩
  | not a iha => exact ⟨snd_not iha.1, fun _ z => by cases z⟩
  | and a b iha ihb => exact ⟨snd_and iha.1 ihb.1, fun _ z => by cases z⟩
  | or a b iha ihb => exact ⟨snd_or iha.1 ihb.1, fun _ z => by cases z⟩
  | one a iha => exact ⟨snd_one iha.1, fun _ z => by cases z⟩
  | ite c a b ihc iha ihb =>
    refine ⟨only_e (fun X W F tk e h => ?_) (by intros; first | rfl | (simp [ckA, ckP, ckC, ckT, ckI]; done)) (by intros; first | rfl | (simp [ckA, ckP, ckC, ckT, ckI]; done)) (by intros; first | rfl | (simp [ckA, ckP, ckC, ckT, ckI]; done)) (by intros; first | rfl | (simp [ckA, ckP, ckC, ckT, ckI]; done)) (by intros; first | rfl | (simp [ckA, ckP, ckC, ckT, ckI]; done)), fun _ z => by cases z⟩
    simp only [ck] at h
    split at h
    · rename_i x y w hv
      simp only [Bool.and_eq_true] at h
      obtain ⟨p, rfl⟩ := vIf_inv hv
      exact r_ite (ihc.1.t X W F tk _ h.1.1) (iha.1.e X W F tk _ h.1.2) (ihb.1.e X W F tk _ h.2)
    · cases h
  | idx a b iha ihb => exact ⟨only_eti (fun X W F tk e h => e_idx F tk iha.1 ihb.1 h) (by intros; first | rfl | (simp [ckA, ckP, ckC, ckT, ckI]; done)) (by intros; first | rfl | (simp [ckA, ckP, ckC, ckT, ckI]; done)) (by intros; first | rfl | (simp [ckA, ckP, ckC, ckT, ckI]; done)) (by intros; rfl) (by intros; rfl), fun _ z => by cases z⟩
  | slc a lo hi iha ihl ihh => exact ⟨only_ei (fun X W F tk e h => e_slc F tk iha.1 ihl.1 ihh.1 h) (by intros; first | rfl | (simp [ckA, ckP, ckC, ckT, ckI]; done)) (by intros; first | rfl | (simp [ckA, ckP, ckC, ckT, ckI]; done)) (by intros; first | rfl | (simp [ckA, ckP, ckC, ckT, ckI]; done)) (by intros; first | rfl | (simp [ckA, ckP, ckC, ckT, ckI]; done)) (by intros; rfl), fun _ z => by cases z⟩
  | rev a iha =>
    refine ⟨only_ei (fun X W F tk e h => ?_) (by intros; first | rfl | (simp [ckA, ckP, ckC, ckT, ckI]; done)) (by intros; first | rfl | (simp [ckA, ckP, ckC, ckT, ckI]; done)) (by intros; first | rfl | (simp [ckA, ckP, ckC, ckT, ckI]; done)) (by intros; first | rfl | (simp [ckA, ckP, ckC, ckT, ckI]; done)) (by intros; rfl), fun _ z => by cases z⟩
    simp only [ck] at h
    split at h
    · rename_i l hv
      obtain ⟨_, _, _, _, _, rfl⟩ := vRev_inv hv
      exact r_rev (iha.1.e X W F tk _ h)
    · cases h
  | orT a b iha ihb =>
    refine ⟨only_e (fun X W F tk e h => ?_) (by intros; first | rfl | (simp [ckA, ckP, ckC, ckT, ckI]; done)) (by intros; first | rfl | (simp [ckA, ckP, ckC, ckT, ckI]; done)) (by intros; first | rfl | (simp [ckA, ckP, ckC, ckT, ckI]; done)) (by intros; first | rfl | (simp [ckA, ckP, ckC, ckT, ckI]; done)) (by intros; first | rfl | (simp [ckA, ckP, ckC, ckT, ckI]; done)), fun _ z => by cases z⟩
    simp only [ck] at h
    split at h
    · rename_i x y p hv
      obtain rfl := vBool_inv hv
      rw [Bool.and_eq_true] at h
      exact r_orT (iha.1.e X W F tk _ h.1) (ihb.1.e X W F tk _ h.2)
    · cases h
  | emp a iha =>
    refine ⟨only_e (fun X W F tk e h => ?_) (by intros; first | rfl | (simp [ckA, ckP, ckC, ckT, ckI]; done)) (by intros; first | rfl | (simp [ckA, ckP, ckC, ckT, ckI]; done)) (by intros; first | rfl | (simp [ckA, ckP, ckC, ckT, ckI]; done)) (by intros; first | rfl | (simp [ckA, ckP, ckC, ckT, ckI]; done)) (by intros; first | rfl | (simp [ckA, ckP, ckC, ckT, ckI]; done)), fun _ z => by cases z⟩
    simp only [ck] at h
    split at h
    · rename_i l hv
      obtain ⟨p, rfl⟩ := vUn_inv hv
      exact r_emp (iha.1.e X W F tk _ h)
    · cases h
  | mth m a b iha ihb =>
    refine ⟨only_e (fun X W F tk e h => ?_) (by intros; first | rfl | (simp [ckA, ckP, ckC, ckT, ckI]; done)) (by intros; first | rfl | (simp [ckA, ckP, ckC, ckT, ckI]; done)) (by intros; first | rfl | (simp [ckA, ckP, ckC, ckT, ckI]; done)) (by intros; first | rfl | (simp [ckA, ckP, ckC, ckT, ckI]; done)) (by intros; first | rfl | (simp [ckA, ckP, ckC, ckT, ckI]; done)), fun _ z => by cases z⟩
    simp only [ck] at h
    split at h
    · rename_i o n p x q hv
      simp only [Bool.and_eq_true, decide_eq_true_eq] at h
      obtain ⟨⟨⟨⟨⟨rfl, h1⟩, h2⟩, h3⟩, h4⟩, h5⟩ := h
      obtain rfl := vMth_inv hv
      have hs : starEach [x] X.env = [(false, eval x X.env)] := star_of h3
      exact r_mth F (iha.1.e X W F tk _ h1) (ihb.1.e X W F tk _ h2) (base_ok h5) hs h4 (by rw [hs]; rfl)
    · cases h
  | jn a b iha ihb =>
    refine ⟨only_e (fun X W F tk e h => ?_) (by intros; first | rfl | (simp [ckA, ckP, ckC, ckT, ckI]; done)) (by intros; first | rfl | (simp [ckA, ckP, ckC, ckT, ckI]; done)) (by intros; first | rfl | (simp [ckA, ckP, ckC, ckT, ckI]; done)) (by intros; first | rfl | (simp [ckA, ckP, ckC, ckT, ckI]; done)) (by intros; first | rfl | (simp [ckA, ckP, ckC, ckT, ckI]; done)), fun _ z => by cases z⟩
    simp only [ck] at h
    split at h
    · rename_i o n p x q hv
      simp only [Bool.and_eq_true, decide_eq_true_eq] at h
      obtain ⟨⟨⟨⟨⟨rfl, h1⟩, h2⟩, h3⟩, h4⟩, h5⟩ := h
      obtain rfl := vMth_inv hv
      have hs : starEach [x] X.env = [(false, eval x X.env)] := star_of h3
      exact r_jn (iha.1.e X W F tk _ h1) (ihb.1.e X W F tk _ h2) (base_ok h5) hs h4
    · cases h
  | spl a b iha ihb =>
    refine ⟨only_ei (fun X W F tk e h => ?_) (by intros; first | rfl | (simp [ckA, ckP, ckC, ckT, ckI]; done)) (by intros; first | rfl | (simp [ckA, ckP, ckC, ckT, ckI]; done)) (by intros; first | rfl | (simp [ckA, ckP, ckC, ckT, ckI]; done)) (by intros; first | rfl | (simp [ckA, ckP, ckC, ckT, ckI]; done)) (by intros; rfl), fun _ z => by cases z⟩
    simp only [ck] at h
    split at h
    · rename_i o n p x q hv
      simp only [Bool.and_eq_true, decide_eq_true_eq] at h
      obtain ⟨⟨⟨⟨⟨rfl, h1⟩, h2⟩, h3⟩, h4⟩, h5⟩ := h
      obtain rfl := vMth_inv hv
      have hs : starEach [x] X.env = [(false, eval x X.env)] := star_of h3
      exact r_spl (iha.1.e X W F tk _ h1) (ihb.1.e X W F tk _ h2) (base_ok h5) hs h4
    · cases h
  | tupR a iha =>
    refine ⟨only_e (fun X W F tk e h => ?_) (by intros; first | rfl | (simp [ckA, ckP, ckC, ckT, ckI]; done)) (by intros; first | rfl | (simp [ckA, ckP, ckC, ckT, ckI]; done)) (by intros; first | rfl | (simp [ckA, ckP, ckC, ckT, ckI]; done)) (by intros; first | rfl | (simp [ckA, ckP, ckC, ckT, ckI]; done)) (by intros; first | rfl | (simp [ckA, ckP, ckC, ckT, ckI]; done)), fun _ z => by cases z⟩
    simp only [ck] at h
    rw [Bool.and_eq_true, Bool.not_eq_true'] at h
    obtain ⟨hh, h⟩ := h
    split at h
    · rename_i x y hv
      split at h
      · rename_i z l hw
        simp only [Bool.and_eq_true, decide_eq_true_eq] at h
        obtain ⟨⟨⟨⟨⟨⟨rfl, h1⟩, rfl⟩, h2⟩, h3⟩, h4⟩, h5⟩ := h
        obtain ⟨p1, p2, rfl⟩ := vCall_inv hv
        obtain ⟨p3, p4, rfl⟩ := vCall_inv hw
        exact r_tupR F hh (glB_ok h1) (glB_ok h2) (iha.1.e X W F tk _ h3) (star_of h4) (star_of h5)
      · cases h
    · cases h
  | lstR2 a b iha ihb =>
    refine ⟨only_ei (fun X W F tk e h => ?_) (by intros; first | rfl | (simp [ckA, ckP, ckC, ckT, ckI]; done)) (by intros; first | rfl | (simp [ckA, ckP, ckC, ckT, ckI]; done)) (by intros; first | rfl | (simp [ckA, ckP, ckC, ckT, ckI]; done)) (by intros; first | rfl | (simp [ckA, ckP, ckC, ckT, ckI]; done)) (by intros; rfl), fun _ z => by cases z⟩
    simp only [ck] at h
    rw [Bool.and_eq_true, Bool.not_eq_true'] at h
    obtain ⟨hh, h⟩ := h
    split at h
    · rename_i x y hv
      split at h
      · rename_i z l l2 hw
        simp only [Bool.and_eq_true, decide_eq_true_eq] at h
        obtain ⟨⟨⟨⟨⟨⟨⟨⟨rfl, h1⟩, rfl⟩, h2⟩, h3⟩, h3'⟩, h4⟩, h4'⟩, h5⟩ := h
        obtain ⟨p1, p2, rfl⟩ := vCall_inv hv
        obtain ⟨p3, p4, rfl⟩ := vCall_inv hw
        exact r_lstR2 F hh (glB_ok h1) (glB_ok h2) (iha.1.e X W F tk _ h3) (ihb.1.e X W F tk _ h3') (star_of h4) (star_of h4') (star_of h5)
      · cases h
    · cases h
  | lstR a iha =>
    refine ⟨only_ei (fun X W F tk e h => ?_) (by intros; first | rfl | (simp [ckA, ckP, ckC, ckT, ckI]; done)) (by intros; first | rfl | (simp [ckA, ckP, ckC, ckT, ckI]; done)) (by intros; first | rfl | (simp [ckA, ckP, ckC, ckT, ckI]; done)) (by intros; first | rfl | (simp [ckA, ckP, ckC, ckT, ckI]; done)) (by intros; rfl), fun _ z => by cases z⟩
    simp only [ck] at h
    rw [Bool.and_eq_true, Bool.not_eq_true'] at h
    obtain ⟨hh, h⟩ := h
    split at h
    · rename_i x y hv
      split at h
      · rename_i z l hw
        simp only [Bool.and_eq_true, decide_eq_true_eq] at h
        obtain ⟨⟨⟨⟨⟨⟨rfl, h1⟩, rfl⟩, h2⟩, h3⟩, h4⟩, h5⟩ := h
        obtain ⟨p1, p2, rfl⟩ := vCall_inv hv
        obtain ⟨p3, p4, rfl⟩ := vCall_inv hw
        exact r_lstR F hh (glB_ok h1) (glB_ok h2) (iha.1.e X W F tk _ h3) (star_of h4) (star_of h5)
      · cases h
    · cases h
  | sset a iha =>
    refine ⟨only_ei (fun X W F tk e h => ?_) (by intros; first | rfl | (simp [ckA, ckP, ckC, ckT, ckI]; done)) (by intros; first | rfl | (simp [ckA, ckP, ckC, ckT, ckI]; done)) (by intros; first | rfl | (simp [ckA, ckP, ckC, ckT, ckI]; done)) (by intros; first | rfl | (simp [ckA, ckP, ckC, ckT, ckI]; done)) (by intros; rfl), fun _ z => by cases z⟩
    simp only [ck] at h
    rw [Bool.and_eq_true, Bool.not_eq_true'] at h
    obtain ⟨hh, h⟩ := h
    split at h
    · rename_i x y hv
      split at h
      · rename_i z l hw
        simp only [Bool.and_eq_true, decide_eq_true_eq] at h
        obtain ⟨⟨⟨⟨⟨⟨rfl, h1⟩, rfl⟩, h2⟩, h3⟩, h4⟩, h5⟩ := h
        obtain ⟨p1, p2, rfl⟩ := vCall_inv hv
        obtain ⟨p3, p4, rfl⟩ := vCall_inv hw
        exact r_sset F hh (glB_ok h1) (glB_ok h2) (iha.1.e X W F tk _ h3) (star_of h4) (star_of h5)
      · cases h
    · cases h
  | lenS a iha =>
    refine ⟨only_e (fun X W F tk e h => ?_) (by intros; first | rfl | (simp [ckA, ckP, ckC, ckT, ckI]; done)) (by intros; first | rfl | (simp [ckA, ckP, ckC, ckT, ckI]; done)) (by intros; first | rfl | (simp [ckA, ckP, ckC, ckT, ckI]; done)) (by intros; first | rfl | (simp [ckA, ckP, ckC, ckT, ckI]; done)) (by intros; first | rfl | (simp [ckA, ckP, ckC, ckT, ckI]; done)), fun _ z => by cases z⟩
    simp only [ck] at h
    rw [Bool.and_eq_true, Bool.not_eq_true'] at h
    obtain ⟨hh, h⟩ := h
    split at h
    · rename_i x y hv
      split at h
      · rename_i z l hw
        simp only [Bool.and_eq_true, decide_eq_true_eq] at h
        obtain ⟨⟨⟨⟨⟨⟨rfl, h1⟩, rfl⟩, h2⟩, h3⟩, h4⟩, h5⟩ := h
        obtain ⟨p1, p2, rfl⟩ := vCall_inv hv
        obtain ⟨p3, p4, rfl⟩ := vCall_inv hw
        exact r_lenS F hh (glB_ok h1) (glB_ok h2) (iha.1.e X W F tk _ h3) (star_of h4)
      · cases h
    · cases h
  | told w a iha =>
    refine ⟨only_e (fun X W F tk e h => ?_) (by intros; first | rfl | (simp [ckA, ckP, ckC, ckT, ckI]; done)) (by intros; first | rfl | (simp [ckA, ckP, ckC, ckT, ckI]; done)) (by intros; first | rfl | (simp [ckA, ckP, ckC, ckT, ckI]; done)) (by intros; first | rfl | (simp [ckA, ckP, ckC, ckT, ckI]; done)) (by intros; first | rfl | (simp [ckA, ckP, ckC, ckT, ckI]; done)), fun _ z => by cases z⟩
    simp only [ck] at h
    split at h
    · rename_i c y hv
      split at h
      · rename_i x hw
        simp only [Bool.and_eq_true, decide_eq_true_eq] at h
        obtain ⟨⟨rfl, h3⟩, h4⟩ := h
        obtain ⟨_, _, rfl⟩ := vConst_inv hw
        obtain ⟨_, _, rfl⟩ := vTup_inv hv
        exact r_told (iha.1.e X W F tk _ h3) (star_of h4)
      · cases h
    · cases h
  | d0 =>
    refine ⟨only_e (fun X W F tk e h => ?_) (by intros; first | rfl | (simp [ckA, ckP, ckC, ckT, ckI]; done)) (by intros; first | rfl | (simp [ckA, ckP, ckC, ckT, ckI]; done)) (by intros; first | rfl | (simp [ckA, ckP, ckC, ckT, ckI]; done)) (by intros; first | rfl | (simp [ckA, ckP, ckC, ckT, ckI]; done)) (by intros; first | rfl | (simp [ckA, ckP, ckC, ckT, ckI]; done)), fun _ z => by cases z⟩
    simp only [ck] at h
    obtain ⟨p, rfl⟩ := vDict_inv h
    exact r_d0
  | dA x i =>
    refine ⟨only_e (fun X W F tk e h => ?_) (by intros; first | rfl | (simp [ckA, ckP, ckC, ckT, ckI]; done)) (by intros; first | rfl | (simp [ckA, ckP, ckC, ckT, ckI]; done)) (by intros; first | rfl | (simp [ckA, ckP, ckC, ckT, ckI]; done)) (by intros; first | rfl | (simp [ckA, ckP, ckC, ckT, ckI]; done)) (by intros; first | rfl | (simp [ckA, ckP, ckC, ckT, ckI]; done)), fun _ z => by cases z⟩
    simp only [ck] at h
    split at h
    · rename_i y j hv
      simp only [Bool.and_eq_true, decide_eq_true_eq] at h
      obtain ⟨rfl, rfl⟩ := h
      obtain ⟨_, _, _, _, _, rfl⟩ := vDictA_inv hv
      exact r_dA
    · cases h
  | dI i b =>
    refine ⟨only_e (fun X W F tk e h => ?_) (by intros; first | rfl | (simp [ckA, ckP, ckC, ckT, ckI]; done)) (by intros; first | rfl | (simp [ckA, ckP, ckC, ckT, ckI]; done)) (by intros; first | rfl | (simp [ckA, ckP, ckC, ckT, ckI]; done)) (by intros; first | rfl | (simp [ckA, ckP, ckC, ckT, ckI]; done)) (by intros; first | rfl | (simp [ckA, ckP, ckC, ckT, ckI]; done)), fun _ z => by cases z⟩
    simp only [ck] at h
    split at h
    · rename_i j c hv
      simp only [Bool.and_eq_true, decide_eq_true_eq] at h
      obtain ⟨rfl, rfl⟩ := h
      obtain ⟨_, _, _, _, _, rfl⟩ := vDictI_inv hv
      exact r_dI
    · cases h
  | dget a b c iha ihb ihc =>
    refine ⟨only_e (fun X W F tk e h => ?_) (by intros; first | rfl | (simp [ckA, ckP, ckC, ckT, ckI]; done)) (by intros; first | rfl | (simp [ckA, ckP, ckC, ckT, ckI]; done)) (by intros; first | rfl | (simp [ckA, ckP, ckC, ckT, ckI]; done)) (by intros; first | rfl | (simp [ckA, ckP, ckC, ckT, ckI]; done)) (by intros; first | rfl | (simp [ckA, ckP, ckC, ckT, ckI]; done)), fun _ z => by cases z⟩
    simp only [ck] at h
    split at h
    · rename_i o n p x y q hv
      simp only [Bool.and_eq_true, decide_eq_true_eq] at h
      obtain ⟨⟨⟨⟨⟨⟨⟨rfl, h1⟩, h2⟩, h3⟩, h4⟩, h5⟩, h6⟩, h7⟩ := h
      obtain rfl := vMth2_inv hv
      have hs : starEach [x, y] X.env = [(false, eval x X.env), (false, eval y X.env)] := by rw [star_of h4, star_of h5]; rfl
      exact r_dget F (iha.1.e X W F tk _ h1) (ihb.1.e X W F tk _ h2) (ihc.1.e X W F tk _ h3) ⟨base_ok h7, by rw [hs]; rfl, h6, by rw [hs]; rfl⟩
    · cases h
  | vals a iha => exact ⟨snd_vals iha.1, fun _ z => by cases z⟩
  | xat f a iha =>
    refine ⟨only_e (fun X W F tk e h => ?_) (by intros; first | rfl | (simp [ckA, ckP, ckC, ckT, ckI]; done)) (by intros; first | rfl | (simp [ckA, ckP, ckC, ckT, ckI]; done)) (by intros; first | rfl | (simp [ckA, ckP, ckC, ckT, ckI]; done)) (by intros; first | rfl | (simp [ckA, ckP, ckC, ckT, ckI]; done)) (by intros; first | rfl | (simp [ckA, ckP, ckC, ckT, ckI]; done)), fun _ z => by cases z⟩
    simp only [ck] at h
    rw [Bool.and_eq_true] at h
    obtain ⟨hh, h⟩ := h
    split at h
    · rename_i l n hv
      simp only [Bool.and_eq_true, decide_eq_true_eq] at h
      obtain ⟨⟨⟨rfl, h1⟩, h2⟩, h3⟩ := h
      obtain ⟨p, rfl⟩ := vAttr_inv hv
      exact r_xat F hh h1 (iha.1.e X W F tk _ h2) (base_ok h3)
    · cases h
  | call f es ih => exact ⟨only_eti (fun X W F tk e h => e_call F tk ih.1 h) (by intros; first | rfl | (simp [ckA, ckP, ckC, ckT, ckI]; done)) (by intros; first | rfl | (simp [ckA, ckP, ckC, ckT, ckI]; done)) (by intros; first | rfl | (simp [ckA, ckP, ckC, ckT, ckI]; done)) (by intros; rfl) (by intros; rfl), fun _ z => by cases z⟩
  | blt b es ih => exact ⟨snd_blt ih.1 ih.2, fun _ z => by cases z⟩
  | rng1 a ih => exact ⟨snd_rng1 ih.1, fun _ z => by cases z⟩
  | rng2 a b iha ihb => exact ⟨snd_rng2 iha.1 ihb.1, fun _ z => by cases z⟩
  | enm a ih => exact ⟨snd_enm ih.1, fun _ z => by cases z⟩
  | zp a b iha ihb => exact ⟨snd_zp iha.1 ihb.1, fun _ z => by cases z⟩
  | comp el t it cnd ihe ihi ihc => exact ⟨snd_comp ihe.1 ihi.1 ihc.1, fun _ z => by cases z⟩
  | xis C a iha => exact ⟨only_et (fun X W F tk e h => e_xis F (fun e => iha.1.e X W F tk e) h) (by intros; first | rfl | (simp [ckA, ckP, ckC, ckT, ckI]; done)) (by intros; first | rfl | (simp [ckA, ckP, ckC, ckT, ckI]; done)) (by intros; first | rfl | (simp [ckA, ckP, ckC, ckT, ckI]; done)) (by intros; rfl) (by intros; first | rfl | (simp [ckA, ckP, ckC, ckT, ckI]; done)), fun _ z => by cases z⟩
  | dead => exact ⟨snd_dead, fun _ z => by cases z⟩
end
end Sw

set_option Elab.async false
set_option linter.all false
set_option maxRecDepth 100000
set_option maxHeartbeats 4000000
/-! Statements: does this code stand for them? The check is sound. -/
namespace Sw
open PySem PySem.Spec PyProof.Rows L2

def nlc : Expr → Bool
  | .ListComp _ _ _ _ => false
  | .SetComp _ _ _ _ => false
  | .DictComp _ _ _ _ _ => false
  | _ => true
theorem sw_nlc {e : Expr} {t : Option Expr} {l : Nat} {env : PySem.Env} (h : nlc e = true) : swapsWith e t l env = pure false := by
  cases e <;> first | rfl | (simp [nlc] at h)
theorem stores_ntup {e : Expr} {ts : List Expr} {env : PySem.Env} (h : ntup e = true) : swappedStores ts e env = pure none := by
  unfold swappedStores
  cases e <;> first | (simp [ntup] at h; done) | skip
  all_goals (split <;> first | rfl | (rename_i h0; cases h0; done) | (rename_i h0; split at h0 <;> first | (cases h0; done) | (rename_i h1; cases h1; done)))
def isFun (sc : Scope) : Bool := match sc.kind with
  | .function => true
  | _ => false
theorem isFun_ok {sc : Scope} (h : isFun sc = true) : sc.kind = .function := by
  unfold isFun at h
  split at h
  · assumption
  · cases h
def lclB (sc : Scope) (x : Str) : Bool := match sc.names.lookup x with
  | some .local => true
  | _ => false
theorem lclB_ok {sc : Scope} {x : Str} (h : lclB sc x = true) : sc.names.lookup x = some .local := by
  unfold lclB at h
  split at h
  · assumption
  · cases h
theorem lclB_eq {sc : Scope} {x : Str} : (sc.names.lookup x == some NameKind.local) = lclB sc x := by
  unfold lclB
  split
  · rename_i h; rw [h]; rfl
  · rename_i h
    cases h2 : sc.names.lookup x with
    | none => rfl
    | some kd =>
      cases kd <;> first | rfl | exact absurd h2 h
/-- is the comprehension stored straight into the name? -/
def swB (sc s : Scope) (x : Str) (p q : Pos) : Bool := lclB sc x && (p.line == q.line) && !(s.names.any fun (n, k) => n == x && (k == .local || k == .cell))
theorem sw_lc {elt : Expr} {gs : List Comprehension} {s : Scope} {p q : Pos} {x : Str} {l : Nat} {env : PySem.Env} (hk : env.scope.kind = .function) : swapsWith (.ListComp elt gs s q) (some (.Name x p)) l env = pure (swB env.scope s x p q) := by
  have hb : env.blockKind = .function := by unfold Env.blockKind; rw [hk]; rfl
  unfold swapsWith swB
  simp only [hb, Expr.pos]
  rw [← lclB_eq]
  rfl

/-- a tuple that is stored part by part, as it stands -/
def noSwapB (sc : Scope) (t v : Expr) : Bool := match t, v with
  | .Tuple ts _ _, .Tuple vs _ _ =>
    if !(ts.length == 2 || ts.length == 3) || vs.length != ts.length then true
    else if vs.any fun | .Starred .. => true | _ => false then true
    else
      let line := (ts.head?.map (·.pos.line)).getD 0
      let names := ts.filterMap fun
        | .Name id pos => if (sc.names.lookup id == some NameKind.local) && pos.line == line then some id else none
        | _ => none
      (names.length != ts.length || names.eraseDups.length != names.length) || vs.all (foldedForSure 8)
  | _, _ => false
theorem noSwap_ok {t v : Expr} {env : PySem.Env} (h : noSwapB env.scope t v = true) : swappedStores [t] v env = pure none := by
  unfold noSwapB at h
  split at h
  · rename_i ts k1 p1 vs k2 p2
    unfold swappedStores
    simp only
    by_cases a : (!(ts.length == 2 || ts.length == 3) || vs.length != ts.length || env.blockKind != .function) = true
    · exact if_pos a
    · refine (if_neg a).trans ?_
      by_cases b : (vs.any fun | .Starred .. => true | _ => false) = true
      · exact if_pos b
      · refine (if_neg b).trans ?_
        rw [if_neg (fun z => a (by rw [Bool.or_eq_true] at z ⊢; exact .inl (by rw [Bool.or_eq_true]; exact z))), if_neg b] at h
        simp only at h
        rw [Bool.or_eq_true] at h
        rcases h with h | h
        · exact if_pos h
        · split
          all_goals first | rfl | exact if_pos h | (split <;> first | rfl | exact if_pos h | contradiction)
  · cases h
/-! ### views -/
def vAsg : Stmt → Option (Expr × Expr × Pos)
  | .Assign [t] v p => some (t, v, p)
  | _ => none
def vIfS : Stmt → Option (Expr × List Stmt × List Stmt)
  | .If c a b _ => some (c, a, b)
  | _ => none
def vFor : Stmt → Option (Expr × Expr × List Stmt)
  | .For t i b [] _ => some (t, i, b)
  | _ => none
def vRet : Stmt → Option Expr
  | .Return (some e) _ => some e
  | _ => none
def vExp : Stmt → Option (Expr × Pos)
  | .Expr e p => some (e, p)
  | _ => none
def vApp : Stmt → Option (Str × Pos × Expr × Pos)
  | .Expr (.Call (.Attribute (.Name x _) m q) [e] [] r) _ => if m = ("append" : Str) then some (x, q, e, r) else none
  | _ => none
def vRem : Stmt → Option (Str × Pos × Expr × Pos)
  | .Expr (.Call (.Attribute (.Name x _) m q) [e] [] r) _ => if m = ("remove" : Str) then some (x, q, e, r) else none
  | _ => none
theorem vRem_inv {s : Stmt} {x : Str} {q r : Pos} {e : Expr} (h : vRem s = some (x, q, e, r)) : ∃ p u, s = .Expr (.Call (.Attribute (.Name x p) "remove" q) [e] [] r) u := by
  unfold vRem at h
  split at h
  · split at h
    · rename_i hm
      subst hm
      cases h
      exact ⟨_, _, rfl⟩
    · cases h
  · cases h
def vIns : Stmt → Option (Str × Pos × Expr × Expr × Pos)
  | .Expr (.Call (.Attribute (.Name x _) m q) [a, e] [] r) _ => if m = ("insert" : Str) then some (x, q, a, e, r) else none
  | _ => none
theorem vIns_inv {s : Stmt} {x : Str} {q r : Pos} {a e : Expr} (h : vIns s = some (x, q, a, e, r)) : ∃ p u, s = .Expr (.Call (.Attribute (.Name x p) "insert" q) [a, e] [] r) u := by
  unfold vIns at h
  split at h
  · split at h
    · rename_i hm
      subst hm
      cases h
      exact ⟨_, _, rfl⟩
    · cases h
  · cases h
def vWhl : Stmt → Option (Expr × List Stmt)
  | .While c b [] _ => some (c, b)
  | _ => none
theorem vWhl_inv {s : Stmt} {c : Expr} {b : List Stmt} (h : vWhl s = some (c, b)) : ∃ p, s = .While c b [] p := by
  unfold vWhl at h
  split at h
  · cases h; exact ⟨_, rfl⟩
  · cases h
def vPop : Expr → Option (Str × Pos × Expr × Pos)
  | .Call (.Attribute (.Name x _) n q) [e] [] r => if n = ("pop" : Str) then some (x, q, e, r) else none
  | _ => none
theorem vPop_inv {s : Expr} {x : Str} {q r : Pos} {e : Expr} (h : vPop s = some (x, q, e, r)) : ∃ p, s = .Call (.Attribute (.Name x p) "pop" q) [e] [] r := by
  unfold vPop at h
  split at h
  · split at h
    · rename_i hn
      cases h
      subst hn
      exact ⟨_, rfl⟩
    · cases h
  · cases h
def vExt : Stmt → Option (Str × Pos × Expr × Pos)
  | .Expr (.Call (.Attribute (.Name x _) n q) [e] [] r) _ => if n = ("extend" : Str) then some (x, q, e, r) else none
  | _ => none
theorem vExt_inv {s : Stmt} {x : Str} {q r : Pos} {e : Expr} (h : vExt s = some (x, q, e, r)) : ∃ p u, s = .Expr (.Call (.Attribute (.Name x p) "extend" q) [e] [] r) u := by
  unfold vExt at h
  split at h
  · split at h
    · rename_i hn
      cases h
      subst hn
      exact ⟨_, _, rfl⟩
    · cases h
  · cases h
def vRaise : Stmt → Option Str
  | .Raise (some (.Call (.Name x _) [.Constant (.str _) _ _] [] _)) none _ => some x
  | _ => none
theorem vRaise_inv {s : Stmt} {x : Str} (h : vRaise s = some x) : ∃ p m j p2 pos pos2, s = .Raise (some (.Call (.Name x p) [.Constant (.str m) j p2] [] pos)) none pos2 := by
  unfold vRaise at h
  split at h
  · cases h; exact ⟨_, _, _, _, _, _, rfl⟩
  · cases h
def vRaiseA : Stmt → Option (Str × List Expr × Pos)
  | .Raise (some (.Call (.Name x _) l [] p)) none _ => some (x, l, p)
  | _ => none
theorem vRaiseA_inv {s : Stmt} {x : Str} {l : List Expr} {pos : Pos} (h : vRaiseA s = some (x, l, pos)) : ∃ p pos2, s = .Raise (some (.Call (.Name x p) l [] pos)) none pos2 := by
  unfold vRaiseA at h
  split at h
  · cases h; exact ⟨_, _, rfl⟩
  · cases h
def vTry : Stmt → Option (List Stmt × Str × Str × Stmt × List Stmt)
  | .Try bd [.ExceptHandler (some (.Name x _)) (some n) (s0 :: su) _] [] [] _ => some (bd, x, n, s0, su)
  | _ => none
theorem vTry_inv {s : Stmt} {bd : List Stmt} {x n : Str} {s0 : Stmt} {su : List Stmt} (h : vTry s = some (bd, x, n, s0, su)) : ∃ p p2 pos, s = .Try bd [.ExceptHandler (some (.Name x p)) (some n) (s0 :: su) p2] [] [] pos := by
  unfold vTry at h
  split at h
  · cases h; exact ⟨_, _, _, rfl⟩
  · cases h
def vNm : Expr → Option (Str × Pos)
  | .Name x p => some (x, p)
  | _ => none
def vTri : Expr → Option (Str × Pos × Str × Pos × Str × Pos)
  | .Tuple [.Name x p, .Name y q, .Name z r] _ _ => some (x, p, y, q, z, r)
  | _ => none
def vThree : Expr → Option (Expr × Expr × Expr)
  | .Tuple [a, b, c] _ _ => some (a, b, c)
  | _ => none
theorem vTri_inv {e : Expr} {x y z : Str} {p q r : Pos} (h : vTri e = some (x, p, y, q, z, r)) : ∃ k s, e = .Tuple [.Name x p, .Name y q, .Name z r] k s := by
  unfold vTri at h
  split at h
  · cases h; exact ⟨_, _, rfl⟩
  · cases h
theorem vThree_inv {e a b c : Expr} (h : vThree e = some (a, b, c)) : ∃ k s, e = .Tuple [a, b, c] k s := by
  unfold vThree at h
  split at h
  · cases h; exact ⟨_, _, rfl⟩
  · cases h
def vPair : Expr → Option (Str × Pos × Str × Pos)
  | .Tuple [.Name x p, .Name y q] _ _ => some (x, p, y, q)
  | _ => none
def vTwo : Expr → Option (Expr × Expr)
  | .Tuple [a, b] _ _ => some (a, b)
  | _ => none
theorem vAsg_inv {s : Stmt} {t v : Expr} {p : Pos} (h : vAsg s = some (t, v, p)) : s = .Assign [t] v p := by
  unfold vAsg at h
  split at h
  · cases h; rfl
  · cases h
theorem vIfS_inv {s : Stmt} {c : Expr} {a b : List Stmt} (h : vIfS s = some (c, a, b)) : ∃ p, s = .If c a b p := by
  cases s <;> simp only [vIfS, reduceCtorEq, Option.some.injEq, Prod.mk.injEq] at h
  obtain ⟨rfl, rfl, rfl⟩ := h; exact ⟨_, rfl⟩
theorem vFor_inv {s : Stmt} {t i : Expr} {b : List Stmt} (h : vFor s = some (t, i, b)) : ∃ p, s = .For t i b [] p := by
  unfold vFor at h
  split at h
  · cases h; exact ⟨_, rfl⟩
  · cases h
theorem vRet_inv {s : Stmt} {e : Expr} (h : vRet s = some e) : ∃ p, s = .Return (some e) p := by
  unfold vRet at h
  split at h
  · cases h; exact ⟨_, rfl⟩
  · cases h
theorem vExp_inv {s : Stmt} {e : Expr} {p : Pos} (h : vExp s = some (e, p)) : s = .Expr e p := by
  cases s <;> simp only [vExp, reduceCtorEq, Option.some.injEq, Prod.mk.injEq] at h
  obtain ⟨rfl, rfl⟩ := h; rfl
theorem vApp_inv {s : Stmt} {x : Str} {q r : Pos} {e : Expr} (h : vApp s = some (x, q, e, r)) : ∃ p u, s = .Expr (.Call (.Attribute (.Name x p) "append" q) [e] [] r) u := by
  unfold vApp at h
  split at h
  · split at h
    · rename_i hm
      subst hm
      cases h
      exact ⟨_, _, rfl⟩
    · cases h
  · cases h
theorem vNm_inv {e : Expr} {x : Str} {p : Pos} (h : vNm e = some (x, p)) : e = .Name x p := by
  cases e <;> simp only [vNm, reduceCtorEq, Option.some.injEq, Prod.mk.injEq] at h
  obtain ⟨rfl, rfl⟩ := h; rfl
theorem vPair_inv {e : Expr} {x y : Str} {p q : Pos} (h : vPair e = some (x, p, y, q)) : ∃ k r, e = .Tuple [.Name x p, .Name y q] k r := by
  unfold vPair at h
  split at h
  · cases h; exact ⟨_, _, rfl⟩
  · cases h
theorem vTwo_inv {e a b : Expr} (h : vTwo e = some (a, b)) : ∃ k r, e = .Tuple [a, b] k r := by
  unfold vTwo at h
  split at h
  · cases h; exact ⟨_, _, rfl⟩
  · cases h

/-! ### the check -/
mutual
def ckS (nm : Nm) (N : List Str) (fr : Nat → Bool) (sc : Scope) : S → Stmt → Bool
  | .dead, _ => true
  | .set i own e, s => match vAsg s with
    | some (t, v, _) => match vNm t with
      | some (x, p) => decide (N[i]? = some x) && locB sc x && ck nm N e sc v && (!own || fresh fr e) && (nlc v || (!nm.hot && match vComp v with
        | some (_, _, _, _, cs) => isFun sc && (lclB sc x || !swB sc cs x p v.pos)
        | none => false))
      | none => false
    | none => false
  | .setT is e, s => !nm.hot && match vAsg s with
    | some (t, v, _) => match ownOf (.tp is) t with
      | some own => (own.all fun p => decide (N[p.2]? = some p.1) && locB sc p.1) && ck nm N e sc v && nlc v && (ntup v || noSwapB sc t v)
      | none => false
    | none => false
  | .par i j a b, s => !nm.hot && match vAsg s with
    | some (t, v, _) => match vPair t, vTwo v with
      | some (x, p, y, q), some (l, r) => decide (N[i]? = some x) && decide (N[j]? = some y) && decide (x ≠ y) && lclB sc x && lclB sc y && isFun sc && (p.line == q.line) && ck nm N a sc l && ck nm N b sc r && nst l && nst r
          && !([l, r].all (foldedForSure 8)) && !([l, r].all (constantsAlone 8))
      | _, _ => false
    | none => false
  | .par3 i j l a b c, s => !nm.hot && match vAsg s with
    | some (t, v, _) => match vTri t, vThree v with
      | some (x, p, y, q, z, r), some (u, w, o) => decide (N[i]? = some x) && decide (N[j]? = some y) && decide (N[l]? = some z) && decide (x ≠ y) && decide (x ≠ z) && decide (y ≠ z) && lclB sc x && lclB sc y && lclB sc z && isFun sc && (p.line == q.line) && (p.line == r.line) && ck nm N a sc u && ck nm N b sc w && ck nm N c sc o && nst u && nst w && nst o
          && !([u, w, o].all (foldedForSure 8)) && !([u, w, o].all (constantsAlone 8))
      | _, _ => false
    | none => false
  | .ite c a b, s => match vIfS s with
    | some (t, x, y) => ckT nm N c sc t && ckB nm N fr sc a x && ckB nm N fr sc b y
    | none => false
  | .for t it b, s => !nm.hot && match vFor s with
    | some (tg, i, x) => match ownOf t tg with
      | some own => (own.all fun p => decide (N[p.2]? = some p.1) && locB sc p.1) && ckI nm N it sc i && (nset i && (!needT it || !ntup tg)) && ckB nm N fr sc b x
      | none => false
    | none => false
  | .ret e, s => match vRet s with
    | some x => ck nm N e sc x
    | none => false
  | .retV i, s => match (vRet s).bind vName with
    | some x => decide (N[i]? = some x) && visB sc x && okNm x
    | none => false
  | .exp e, s => match vExp s with
    | some (x, _) => ck nm N e sc x && nlc x
    | none => false
  | .rem i e, s => !nm.hot && match vRem s with
    | some (x, q, a, r) => decide (N[i]? = some x) && visB sc x && okNm x && ck nm N e sc a && nst a && (q.endLine == r.line)
    | none => false
  | .ins i ix e, s => match vIns s with
    | some (x, q, a, b, r) => decide (N[i]? = some x) && visB sc x && okNm x && ck nm N ix sc a && ck nm N e sc b && nst a && nst b && (q.endLine == r.line)
    | none => false
  | .app i e, s => match vApp s with
    | some (x, q, a, r) => decide (N[i]? = some x) && visB sc x && okNm x && ck nm N e sc a && nst a && (q.endLine == r.line)
    | none => false
  | .setI2 i c d a b, s => !nm.hot && match vAsg s with
    | some (t, v, _) => match vTup t, vTup v with
      | some [t1, t2], some [v1, v2] => match vSub t1, vSub t2 with
        | some (o1, x1), some (o2, x2) => match vName o1, vName o2 with
          | some y, some y' => decide (y = y') && decide (N[i]? = some y) && visB sc y && okNm y && ck nm N c sc x1 && ck nm N d sc x2 && ck nm N a sc v1 && ck nm N b sc v2 && nlc v && nsl x1 && nsl x2 && nst v1 && nst v2
          | _, _ => false
        | _, _ => false
      | _, _ => false
    | none => false
  | .extV i j, s => match vExt s with
    | some (x, q, a, r) => match vName a with
      | some y => decide (N[i]? = some x) && visB sc x && okNm x && decide (N[j]? = some y) && visB sc y && okNm y && nst a && (q.endLine == r.line)
      | none => false
    | none => false
  | .dNew i, s => match vAsg s with
    | some (t, v, _) => match vNm t with
      | some (x, _) => decide (N[i]? = some x) && locB sc x && vDict v && nlc v
      | none => false
    | none => false
  | .dCpy i e, s => match vAsg s with
    | some (t, v, _) => match vNm t, vCall v with
      | some (x, _), some (z, [l]) => decide (N[i]? = some x) && locB sc x && decide (z = ("dict" : Str)) && glB sc z && ck nm N e sc l && nst l && nlc v
      | _, _ => false
    | none => false
  | .setI i ix e, s => match vAsg s with
    | some (t, v, _) => match vSub t with
      | some (o, a) => match vName o with
        | some x => decide (N[i]? = some x) && visB sc x && okNm x && ck nm N ix sc a && ck nm N e sc v && nlc v && ntup v && nsl a
        | none => false
      | none => false
    | none => false
  | .whl _ c b, s => !nm.hot && match vWhl s with
    | some (t, x) => ckT nm N c sc t && ckB nm N fr sc b x
    | none => false
  | .popA i j ix, s => match vApp s with
    | some (x, q, a, r) => match vPop a with
      | some (y, q2, l, r2) => decide (N[i]? = some x) && visB sc x && okNm x && decide (N[j]? = some y) && visB sc y && okNm y && ck nm N ix sc l && nst l && (q.endLine == r.line) && (q2.endLine == r2.line)
      | none => false
    | none => false
  | .popS i j ix, s => match vAsg s with
    | some (t, v, _) => match vNm t, vPop v with
      | some (x, p), some (y, q2, l, r2) => decide (N[i]? = some x) && locB sc x && decide (N[j]? = some y) && visB sc y && okNm y && ck nm N ix sc l && nst l && (q2.endLine == r2.line) && nlc v
      | _, _ => false
    | none => false
  | .ext i e, s => match vExt s with
    | some (x, q, a, r) => decide (N[i]? = some x) && visB sc x && okNm x && ck nm N e sc a && nst a && (q.endLine == r.line)
    | none => false
  | .drop _ b, s => ckS nm N fr sc b s
  | .forO t j b, s => !nm.hot && match vFor s with
    | some (tg, i, x) => match ownOf t tg, vName i with
      | some own, some y => (own.all fun p => decide (N[p.2]? = some p.1) && locB sc p.1) && decide (N[j]? = some y) && visB sc y && okNm y && ckB nm N fr sc b x
      | _, _ => false
    | none => false
  | .raiseS c, s => match vRaise s with
    | some x => !nm.hot && decide (c < 6) && nm.rz c && decide (nm.cl c = some x) && glB sc x && okNm x
    | none => false
  | .raiseA c es, s => match vRaiseA s with
    | some (x, l, _) => !nm.hot && decide (6 ≤ c ∧ c ≤ 9) && nm.rz c && decide (nm.cl c = some x) && glB sc x && okNm x && decide (l ≠ []) && ckA nm N es sc l
    | none => false
  | .tryR b i h, s => match vTry s with
    | some (bd, x, n, s0, su) => !nm.hot && decide (nm.cl 10 = some x) && glB sc x && okNm x && decide (N[i]? = some n) && lclB sc n && ckB nm N fr sc b bd && ckB nm.heat N fr sc h (s0 :: su)
    | none => false
  | .skip, _ => false
  | .seq _ _, _ => false
def ckB (nm : Nm) (N : List Str) (fr : Nat → Bool) (sc : Scope) : S → List Stmt → Bool
  | .skip, [] => true
  | .seq a b, s :: l => ckS nm N fr sc a s && ckB nm N fr sc b l
  | .dead, _ => true
  | .drop _ b, l => ckB nm N fr sc b l
  | _, _ => false
end
end Sw

set_option Elab.async false
set_option linter.all false
set_option maxRecDepth 100000
set_option maxHeartbeats 4000000
/-! The check is sound: statements. -/
namespace Sw
open PySem PySem.Spec PyProof.Rows L2
structure FactsS (X : Cx) (Γ : Ctx) (nm : Nm) (xc : Nat → Addr) (k : Nat) (W : WX) : Prop where
  f : Facts X Γ nm xc k
  tk : Takes X W
  fn : ∀ x, X.fn x = true
  own : nm.hot = false → PassesOwn (model X.prog X.w) X.A X.env X.xe
  stk : nm.hot = false → X.stack = X.env :: X.outer
  frm : X.env.frame = some X.env.locals
section
variable {Γ : Ctx} {xc : Nat → Addr} {k : Nat} {nm : Nm}
structure SndS (Γ : Ctx) (xc : Nat → Addr) (k : Nat) (nm : Nm) (c : S) : Prop where
  s : ∀ (X : Cx) (W : WX) (H0 : Hp), FactsS X Γ nm xc k W → ∀ stm, ckS nm X.N Γ.fresh X.env.scope c stm = true → PS X stm (rdS Γ X.K xc W H0 c)
  b : ∀ (X : Cx) (W : WX) (H0 : Hp), FactsS X Γ nm xc k W → ∀ stms, ckB nm X.N Γ.fresh X.env.scope c stms = true → PSs X stms (rdS Γ X.K xc W H0 c)
theorem only_s {c : S} (h : ∀ (X : Cx) (W : WX) (H0 : Hp), FactsS X Γ nm xc k W → ∀ stm, ckS nm X.N Γ.fresh X.env.scope c stm = true → PS X stm (rdS Γ X.K xc W H0 c)) (hb : ∀ N sc l, ckB nm N Γ.fresh sc c l = false) : SndS Γ xc k nm c :=
  ⟨h, fun X W H0 F stms z => by rw [hb] at z; cases z⟩
theorem own_ok {X : Cx} (fn : ∀ x, X.fn x = true) {own : List (Str × Nat)} (h : (own.all fun p => decide (X.N[p.2]? = some p.1) && locB X.env.scope p.1) = true) : ∀ p ∈ own, X.N[p.2]? = some p.1 ∧ Loc X.env.scope p.1 ∧ (X.fn p.1 = true ∨ X.env.scope.names.lookup p.1 = some .local) := fun p hp => by
  have q := List.all_eq_true.mp h p hp
  simp only [Bool.and_eq_true, decide_eq_true_eq] at q
  exact ⟨q.1, locB_ok q.2, .inl (fn _)⟩
theorem lt_of {N : List Str} {i : Nat} {x : Str} (h : N[i]? = some x) : i < N.length := (List.getElem?_eq_some_iff.mp h).1
theorem tgs_lt {N : List Str} {sc : Scope} {t : Tg} {tg : Expr} {own : List (Str × Nat)} (ho : ownOf t tg = some own) (h : (own.all fun p => decide (N[p.2]? = some p.1) && locB sc p.1) = true) : ∀ i ∈ tgs t, i < N.length := fun i hi => by
  rw [← own_tgs ho] at hi
  obtain ⟨p, hp, rfl⟩ := List.mem_map.mp hi
  have q := List.all_eq_true.mp h p hp
  simp only [Bool.and_eq_true, decide_eq_true_eq] at q
  exact lt_of q.1
theorem ck_blt_lc {N : List Str} {sc : Scope} {b : Bi} {es : E} {e : Expr} (h : vCall e = none) : ck nm N (.blt b es) sc e = false := by
  by_cases hi : ∃ t a, b = .isI t ∧ es = .cons a .nil
  · obtain ⟨t, a, rfl, rfl⟩ := hi
    simp only [ck, h]
  · rw [ck] <;> first | (rw [h, Bool.and_false]; done) | (intro t a e1 e2; exact hi ⟨t, a, e1, e2⟩)
theorem assign_sub {o a : Expr} {p : Pos} {env : PySem.Env} (h : nsl a = true) : ∀ v, assign (.Subscript o a p) env v = (do
      let ov ← holding [v] (eval o env)
      let iv ← holding [v, ov] (eval a env)
      standAt p
      holding [v, ov, iv] (setItem ov iv v)
      release [v, ov, iv] []) := by
  intro v
  cases a <;> first | rfl | (simp [nsl] at h)
theorem ssnd_set {i : Nat} {own : Bool} {c : E} : SndS Γ xc k nm (.set i own c) := only_s (fun X W H0 F stm h => by
  simp only [ckS] at h
  split at h
  · rename_i t v sp hv
    obtain rfl := vAsg_inv hv
    split at h
    · rename_i x p hx
      obtain rfl := vNm_inv hx
      simp only [Bool.and_eq_true, decide_eq_true_eq, Bool.or_eq_true, Bool.not_eq_true'] at h
      obtain ⟨⟨⟨⟨h1, h2⟩, h3⟩, h4⟩, h5⟩ := h
      have ho : own = true → fresh Γ.fresh c = true := fun z => by
        rcases h4 with h4 | h4
        · rw [z] at h4; cases h4
        · exact h4
      have simple : swapsWith v (some (.Name x p)) sp.line X.env = pure false → PS X (.Assign [.Name x p] v sp) (rdS Γ X.K xc W H0 (.set i own c)) := fun hs =>
        s_set (ps_set F.f.nd h1 (locB_ok h2) ((snd c).e X W F.f F.tk v h3) hs (.inl (F.fn x))) (lt_of h1) ho
      rcases h5 with h5 | h5
      · exact simple (sw_nlc h5)
      · have hh : nm.hot = false := h5.1
        replace h5 := h5.2
        split at h5
        · rename_i el tg it fs cs hc
          simp only [Bool.and_eq_true, Bool.or_eq_true, Bool.not_eq_true'] at h5
          obtain ⟨hk, h5⟩ := h5
          obtain ⟨q, rfl⟩ := vComp_inv hc
          by_cases hsw : swB X.env.scope cs x p q = true
          · have hl : X.env.scope.names.lookup x = some .local := by
              unfold swB at hsw
              simp only [Bool.and_eq_true] at hsw
              exact lclB_ok hsw.1.1
            cases c <;> first | (simp [ck, vName, vConst, vBin, vUn, vBool, vCmp, vIf, vCall, vSub, vSlc, vRev, vTup, vList, vMth, vDict, vDictA, vAttr] at h3; done) | skip
            case comp ce ct ci cc =>
              obtain ⟨x', tg', i', fs', s', own', p', e1, a1, a2, a3, a4, a5, a6, a7⟩ := e_comp F.f F.tk (snd ce) (snd ci) (snd cc) h3
              cases e1
              refine s_set ?_ (lt_of h1) ho
              have q0 := ps_setLc (py := p) (spos := sp) (F.f.calm hh) F.f.nd h1 hl ((sw_lc (isFun_ok hk)).trans (by rw [hsw])) a1 a2 a3 a4 a5 a6
              exact psI q0 fun D σ H _ z => a7 _ _ _ z
            case dead => exact ⟨fun pins s σ H D I z => by
              obtain ⟨_, _, _, _, _, g⟩ := z
              exact g.elim⟩
            case blt => rw [ck_blt_lc rfl] at h3; cases h3
            all_goals (exfalso; revert h3; simp [ck, vDictI, vMth2]; done)
          · exact simple ((sw_lc (isFun_ok hk)).trans (by rw [Bool.not_eq_true] at hsw; rw [hsw]))
        · cases h5
    · cases h
  · cases h) (by intros; rfl)
theorem ssnd_setT {is : List Nat} {c : E} : SndS Γ xc k nm (.setT is c) := only_s (fun X W H0 F stm h => by
  simp only [ckS] at h
  rw [Bool.and_eq_true, Bool.not_eq_true'] at h
  obtain ⟨hh, h⟩ := h
  split at h
  · rename_i t v sp hv
    obtain rfl := vAsg_inv hv
    split at h
    · rename_i own ho
      rw [Bool.and_eq_true, Bool.and_eq_true, Bool.and_eq_true] at h
      obtain ⟨⟨⟨h1, h2⟩, h3⟩, h4⟩ := h
      have hg := tg_ok F.f.nd (F.f.calm hh) ho (own_ok F.fn h1)
      refine s_setT (ps_asg ((snd c).e X W F.f F.tk v h2) (pg_len hg) (sw_nlc h3) (by rw [Bool.or_eq_true] at h4; exact h4.elim stores_ntup noSwap_ok) ?_) (fun i hi => tgs_lt (t := .tp is) ho h1 i hi)
      simp only [ownOf] at ho
      split at ho
      · rename_i xs hxs
        obtain ⟨es, e1, e2⟩ := Option.bind_eq_some_iff.mp hxs
        obtain ⟨_, _, rfl⟩ := vTup_inv e1
        rfl
      · cases ho
    · cases h
  · cases h) (by intros; rfl)
theorem ssnd_par {i j : Nat} {a b : E} : SndS Γ xc k nm (.par i j a b) := only_s (fun X W H0 F stm h => by
  simp only [ckS] at h
  rw [Bool.and_eq_true, Bool.not_eq_true'] at h
  obtain ⟨hh, h⟩ := h
  split at h
  · rename_i t v sp hv
    obtain rfl := vAsg_inv hv
    split at h
    · rename_i x p y q l r ht hw
      obtain ⟨k1, p1, rfl⟩ := vPair_inv ht
      obtain ⟨k2, p2, rfl⟩ := vTwo_inv hw
      simp only [Bool.and_eq_true, decide_eq_true_eq, Bool.not_eq_true', beq_iff_eq] at h
      obtain ⟨⟨⟨⟨⟨⟨⟨⟨⟨⟨⟨⟨h1, h2⟩, h3⟩, h4⟩, h5⟩, h6⟩, h7⟩, h8⟩, h9⟩, h10⟩, h11⟩, h12⟩, h13⟩ := h
      have hij : i ≠ j := fun z => by
        subst z
        rw [h1] at h2
        cases h2
        exact h3 rfl
      have ex := lclB_ok h4
      have ey := lclB_ok h5
      refine s_par (a := l) (b := r) (ps_par (F.f.calm hh) F.f.nd h1 h2 hij ex ey (pa_cons ((snd a).e X W F.f F.tk l h8) (pa_cons ((snd b).e X W F.f F.tk r h9) pa_nil (star_of h11)) (star_of h10)) ?_ rfl) (lt_of h1) (lt_of h2)
      have hb : X.env.blockKind = .function := by unfold Env.blockKind; rw [isFun_ok h6]; rfl
      have kx : X.env.kindOf x = some .local := ex
      have ky : X.env.kindOf y = some .local := ey
      have hxy : (x == y) = false := by simpa using h3
      have hyx : (y == x) = false := by simpa using Ne.symm h3
      unfold swappedStores
      simp only [hb, List.length_cons, List.length_nil]
      rw [if_neg (by decide), if_neg ?_]
      · simp only [List.filterMap_cons, List.filterMap_nil, kx, ky, Expr.pos, h7, List.head?_cons, Option.map_some, Option.getD_some, beq_self_eq_true, Bool.and_self, if_true]
        rw [if_neg (by simp [List.eraseDups, List.eraseDupsBy, List.eraseDupsBy.loop, hxy, hyx]), if_neg (by rw [h12]; decide), if_neg (by rw [h13]; decide)]
      · intro z
        simp only [List.any_cons, List.any_nil, Bool.or_false, Bool.or_eq_true] at z
        rcases z with z | z
        · cases l <;> first | (simp [nst] at h10; done) | (cases z; done)
        · cases r <;> first | (simp [nst] at h11; done) | (cases z; done)
    · cases h
  · cases h) (by intros; rfl)
theorem ssnd_par3 {i j l : Nat} {a b c : E} : SndS Γ xc k nm (.par3 i j l a b c) := only_s (fun X W H0 F stm h => by
  simp only [ckS] at h
  rw [Bool.and_eq_true, Bool.not_eq_true'] at h
  obtain ⟨hh, h⟩ := h
  split at h
  · rename_i t v sp hv
    obtain rfl := vAsg_inv hv
    split at h
    · rename_i x p y q z r u w o ht hw
      obtain ⟨k1, p1, rfl⟩ := vTri_inv ht
      obtain ⟨k2, p2, rfl⟩ := vThree_inv hw
      simp only [Bool.and_eq_true, decide_eq_true_eq, Bool.not_eq_true', beq_iff_eq] at h
      obtain ⟨⟨⟨⟨⟨⟨⟨⟨⟨⟨⟨⟨⟨⟨⟨⟨⟨⟨⟨h1, h2⟩, h3⟩, n1⟩, n2⟩, n3⟩, l1⟩, l2⟩, l3⟩, hf⟩, q1⟩, q2⟩, c1⟩, c2⟩, c3⟩, s1⟩, s2⟩, s3⟩, f1⟩, f2⟩ := h
      have ne : ∀ {i j : Nat} {x y : Str}, X.N[i]? = some x → X.N[j]? = some y → x ≠ y → i ≠ j := fun {i j x y} a b n z => by
        subst z
        rw [a] at b
        cases b
        exact n rfl
      have ex := lclB_ok l1
      have ey := lclB_ok l2
      have ez := lclB_ok l3
      have e3 : starEach [o] X.env = (false, eval o X.env) :: starEach [] X.env := star_of s3
      refine s_par3 (a := u) (b := w) (c := o) (ps_par3 (F.f.calm hh) F.f.nd h1 h2 h3 (ne h1 h2 n1) (ne h1 h3 n2) (ne h2 h3 n3) ex ey ez (pa_cons ((snd a).e X W F.f F.tk u c1) (pa_cons ((snd b).e X W F.f F.tk w c2) (pa_cons ((snd c).e X W F.f F.tk o c3) pa_nil e3) (star_of s2)) (star_of s1)) ?_ rfl) (lt_of h1) (lt_of h2) (lt_of h3)
      have hb : X.env.blockKind = .function := by unfold Env.blockKind; rw [isFun_ok hf]; rfl
      have kx : X.env.kindOf x = some .local := ex
      have ky : X.env.kindOf y = some .local := ey
      have kz : X.env.kindOf z = some .local := ez
      have b1 : (x == y) = false := by simpa using n1
      have b2 : (x == z) = false := by simpa using n2
      have b3 : (y == z) = false := by simpa using n3
      have b4 : (y == x) = false := by simpa using Ne.symm n1
      have b5 : (z == x) = false := by simpa using Ne.symm n2
      have b6 : (z == y) = false := by simpa using Ne.symm n3
      unfold swappedStores
      simp only [hb, List.length_cons, List.length_nil]
      rw [if_neg (by decide), if_neg ?_]
      · simp only [List.filterMap_cons, List.filterMap_nil, kx, ky, kz, Expr.pos, ← q1, ← q2, List.head?_cons, Option.map_some, Option.getD_some, beq_self_eq_true, Bool.and_self, if_true]
        rw [if_neg (by simp [List.eraseDups, List.eraseDupsBy, List.eraseDupsBy.loop, b1, b2, b3, b4, b5, b6]), if_neg (by rw [f1]; decide), if_neg (by rw [f2]; decide)]
      · intro z
        simp only [List.any_cons, List.any_nil, Bool.or_false, Bool.or_eq_true] at z
        rcases z with z | z | z
        · cases u <;> first | (simp [nst] at s1; done) | (cases z; done)
        · cases w <;> first | (simp [nst] at s2; done) | (cases z; done)
        · cases o <;> first | (simp [nst] at s3; done) | (cases z; done)
    · cases h
  · cases h) (by intros; rfl)
theorem ssnd_ite {c : E} {a b : S} (iha : SndS Γ xc k nm a) (ihb : SndS Γ xc k nm b) : SndS Γ xc k nm (.ite c a b) := only_s (fun X W H0 F stm h => by
  simp only [ckS] at h
  split at h
  · rename_i t x y hv
    obtain ⟨p, rfl⟩ := vIfS_inv hv
    simp only [Bool.and_eq_true] at h
    exact s_ite ((snd c).t X W F.f F.tk t h.1.1) (iha.b X W H0 F x h.1.2) (ihb.b X W H0 F y h.2)
  · cases h) (by intros; rfl)
theorem ssnd_for {t : Tg} {c : E} {b : S} (ihb : SndS Γ xc k nm b) : SndS Γ xc k nm (.for t c b) := only_s (fun X W H0 F stm h => by
  simp only [ckS] at h
  rw [Bool.and_eq_true, Bool.not_eq_true'] at h
  obtain ⟨hh, h⟩ := h
  split at h
  · rename_i tg i x hv
    obtain ⟨p, rfl⟩ := vFor_inv hv
    split at h
    · rename_i own ho
      rw [Bool.and_eq_true, Bool.and_eq_true, Bool.and_eq_true] at h
      obtain ⟨⟨⟨h1, h2⟩, h3⟩, h4⟩ := h
      obtain ⟨h3, h5⟩ := need_of h3
      exact s_for (F.own hh) (F.f.calm hh) (own_wk ho) ((snd c).i X W F.f F.tk tg i h5 h2) (tg_ok F.f.nd (F.f.calm hh) ho (own_ok F.fn h1)) (tgs_lt ho h1) (ihb.b X W H0 F x h4) (folded_of h3)
    · cases h
  · cases h) (by intros; rfl)
theorem ssnd_forO {t : Tg} {j : Nat} {b : S} (ihb : SndS Γ xc k nm b) : SndS Γ xc k nm (.forO t j b) := only_s (fun X W H0 F stm h => by
  simp only [ckS] at h
  rw [Bool.and_eq_true, Bool.not_eq_true'] at h
  obtain ⟨hh, h⟩ := h
  split at h
  · rename_i tg i x hv
    obtain ⟨p, rfl⟩ := vFor_inv hv
    split at h
    · rename_i own y ho hy
      obtain ⟨q, rfl⟩ := vName_inv hy
      rw [Bool.and_eq_true, Bool.and_eq_true, Bool.and_eq_true, Bool.and_eq_true] at h
      obtain ⟨⟨⟨⟨h1, h2⟩, h3⟩, h4⟩, h5⟩ := h
      exact s_forO (F.own hh) (F.f.calm hh) (of_decide_eq_true h2) (visB_ok h3) (okNm_ok h4).1 (okNm_ok h4).2 (tg_ok F.f.nd (F.f.calm hh) ho (own_ok F.fn h1)) (tgs_lt ho h1) (ihb.b X W H0 F x h5)
    · cases h
  · cases h) (by intros; rfl)
theorem ssnd_whl {n : Nat} {c : E} {b : S} (ihb : SndS Γ xc k nm b) : SndS Γ xc k nm (.whl n c b) := only_s (fun X W H0 F stm h => by
  simp only [ckS] at h
  rw [Bool.and_eq_true, Bool.not_eq_true'] at h
  obtain ⟨hh, h⟩ := h
  split at h
  · rename_i t x hv
    obtain ⟨p, rfl⟩ := vWhl_inv hv
    rw [Bool.and_eq_true] at h
    exact s_whl (F.own hh) ((snd c).t X W F.f F.tk t h.1) (ihb.b X W H0 F x h.2)
  · cases h) (by intros; rfl)
theorem ssnd_popA {i j : Nat} {e : E} : SndS Γ xc k nm (.popA i j e) := only_s (fun X W H0 F stm h => by
  simp only [ckS] at h
  split at h
  · rename_i x q a r hv
    obtain ⟨p, u, rfl⟩ := vApp_inv hv
    split at h
    · rename_i y q2 l r2 hw
      obtain ⟨p2, rfl⟩ := vPop_inv hw
      simp only [Bool.and_eq_true, decide_eq_true_eq] at h
      obtain ⟨⟨⟨⟨⟨⟨⟨⟨⟨h1, h2⟩, h3⟩, h4⟩, h5⟩, h6⟩, h7⟩, h8⟩, h9⟩, h10⟩ := h
      have hst : starEach [l] X.env = (false, eval l X.env) :: starEach [] X.env := star_of h8
      have hin : PE X (.Call (.Attribute (.Name y p2) "pop" q2) [l] [] r2) (tBM X.K "list" rPopAt (tVar j) (tCons (rdE Γ X.K xc W e) tNil)) := by
        refine pe_bm PySem.F.plainAttrs_list PySem.F.slot_list_pop PySem.F.type_list_pop mt_popAt (pe_var h4 (visB_ok h5) (okNm_ok h6).1 (okNm_ok h6).2) (pa_cons ((snd e).e X W F.f F.tk l h7) pa_nil hst) rfl ?_ h10 hst rfl
        rw [hst]
        rfl
      refine s_popA (ps_expr (pe_bm PySem.F.plainAttrs_list PySem.F.slot_list_append PySem.F.type_list_append mt_append (pe_var h1 (visB_ok h2) (okNm_ok h3).1 (okNm_ok h3).2) (pa_cons hin pa_nil rfl) rfl rfl h9 rfl rfl) rfl)
    · cases h
  · cases h) (by intros; rfl)
theorem ssnd_popS {i j : Nat} {e : E} : SndS Γ xc k nm (.popS i j e) := only_s (fun X W H0 F stm h => by
  simp only [ckS] at h
  split at h
  · rename_i t v sp hv
    obtain rfl := vAsg_inv hv
    split at h
    · rename_i x p y q2 l r2 ht hw
      obtain rfl := vNm_inv ht
      obtain ⟨p2, rfl⟩ := vPop_inv hw
      simp only [Bool.and_eq_true, decide_eq_true_eq] at h
      obtain ⟨⟨⟨⟨⟨⟨⟨⟨h1, h2⟩, h4⟩, h5⟩, h6⟩, h7⟩, h8⟩, h10⟩, h11⟩ := h
      have hst : starEach [l] X.env = (false, eval l X.env) :: starEach [] X.env := star_of h8
      have hin : PE X (.Call (.Attribute (.Name y p2) "pop" q2) [l] [] r2) (tBM X.K "list" rPopAt (tVar j) (tCons (rdE Γ X.K xc W e) tNil)) := by
        refine pe_bm PySem.F.plainAttrs_list PySem.F.slot_list_pop PySem.F.type_list_pop mt_popAt (pe_var h4 (visB_ok h5) (okNm_ok h6).1 (okNm_ok h6).2) (pa_cons ((snd e).e X W F.f F.tk l h7) pa_nil hst) rfl ?_ h10 hst rfl
        rw [hst]
        rfl
      exact s_popS (ps_set F.f.nd h1 (locB_ok h2) hin (sw_nlc h11) (.inl (F.fn x))) (lt_of h1)
    · cases h
  · cases h) (by intros; rfl)
theorem ssnd_ext {i : Nat} {e : E} : SndS Γ xc k nm (.ext i e) := only_s (fun X W H0 F stm h => by
  simp only [ckS] at h
  split at h
  · rename_i x q a r hv
    obtain ⟨p, u, rfl⟩ := vExt_inv hv
    simp only [Bool.and_eq_true, decide_eq_true_eq] at h
    obtain ⟨⟨⟨⟨⟨h1, h2⟩, h3⟩, h4⟩, h5⟩, h6⟩ := h
    have hst : starEach [a] X.env = (false, eval a X.env) :: starEach [] X.env := star_of h5
    refine s_ext (x := x) (ps_expr (pe_bm PySem.F.plainAttrs_list PySem.F.slot_list_extend PySem.F.type_list_extend mt_extend (pe_var h1 (visB_ok h2) (okNm_ok h3).1 (okNm_ok h3).2) (pa_cons ((snd e).e X W F.f F.tk a h4) pa_nil hst) rfl ?_ h6 hst rfl) rfl)
    rw [hst]
    rfl
  · cases h) (by intros; rfl)
theorem ssnd_ret {e : E} : SndS Γ xc k nm (.ret e) := only_s (fun X W H0 F stm h => by
  simp only [ckS] at h
  split at h
  · rename_i x hv
    obtain ⟨p, rfl⟩ := vRet_inv hv
    exact s_ret ((snd e).e X W F.f F.tk x h)
  · cases h) (by intros; rfl)
theorem ssnd_retV {i : Nat} : SndS Γ xc k nm (.retV i) := only_s (fun X W H0 F stm h => by
  simp only [ckS] at h
  split at h
  · rename_i x hv
    obtain ⟨e, e1, e2⟩ := Option.bind_eq_some_iff.mp hv
    obtain ⟨p, rfl⟩ := vRet_inv e1
    obtain ⟨q, rfl⟩ := vName_inv e2
    simp only [Bool.and_eq_true, decide_eq_true_eq] at h
    exact s_retV h.1.1 (visB_ok h.1.2) (okNm_ok h.2).1 (okNm_ok h.2).2
  · cases h) (by intros; rfl)
theorem ssnd_exp {e : E} : SndS Γ xc k nm (.exp e) := only_s (fun X W H0 F stm h => by
  simp only [ckS] at h
  split at h
  · rename_i x p hv
    obtain rfl := vExp_inv hv
    rw [Bool.and_eq_true] at h
    exact s_exp ((snd e).e X W F.f F.tk x h.1) (sw_nlc h.2)
  · cases h) (by intros; rfl)
theorem ssnd_app {i : Nat} {e : E} : SndS Γ xc k nm (.app i e) := only_s (fun X W H0 F stm h => by
  simp only [ckS] at h
  split at h
  · rename_i x q a r hv
    obtain ⟨p, u, rfl⟩ := vApp_inv hv
    simp only [Bool.and_eq_true, decide_eq_true_eq] at h
    obtain ⟨⟨⟨⟨⟨h1, h2⟩, h3⟩, h4⟩, h5⟩, h6⟩ := h
    have hst : starEach [a] X.env = (false, eval a X.env) :: starEach [] X.env := star_of h5
    refine s_app (q1 := p) (q2 := p) (q3 := p) h1 (visB_ok h2) (okNm_ok h3).1 (okNm_ok h3).2 ((snd e).e X W F.f F.tk a h4) hst fun t ha => ?_
    refine ps_expr (pe_bm PySem.F.plainAttrs_list PySem.F.slot_list_append PySem.F.type_list_append mt_append (pe_var h1 (visB_ok h2) (okNm_ok h3).1 (okNm_ok h3).2) ha rfl ?_ h6 hst rfl) rfl
    rw [hst]
    rfl
  · cases h) (by intros; rfl)
theorem ssnd_rem {i : Nat} {e : E} : SndS Γ xc k nm (.rem i e) := only_s (fun X W H0 F stm h => by
  simp only [ckS] at h
  rw [Bool.and_eq_true, Bool.not_eq_true'] at h
  obtain ⟨hh, h⟩ := h
  split at h
  · rename_i x q a r hv
    obtain ⟨p, u, rfl⟩ := vRem_inv hv
    simp only [Bool.and_eq_true, decide_eq_true_eq] at h
    obtain ⟨⟨⟨⟨⟨h1, h2⟩, h3⟩, h4⟩, h5⟩, h6⟩ := h
    have hst : starEach [a] X.env = (false, eval a X.env) :: starEach [] X.env := star_of h5
    refine s_rem (ps_expr (pe_bm PySem.F.plainAttrs_list PySem.F.slot_list_remove PySem.F.type_list_remove (mt_rem F.f.un) (pe_var h1 (visB_ok h2) (okNm_ok h3).1 (okNm_ok h3).2) (pa_cons ((snd e).e X W F.f F.tk a h4) pa_nil hst) rfl ?_ h6 hst rfl) rfl)
    rw [hst]
    rfl
  · cases h) (by intros; rfl)
theorem ssnd_ins {i : Nat} {ix e : E} : SndS Γ xc k nm (.ins i ix e) := only_s (fun X W H0 F stm h => by
  simp only [ckS] at h
  split at h
  · rename_i x q a b r hv
    obtain ⟨p, u, rfl⟩ := vIns_inv hv
    simp only [Bool.and_eq_true, decide_eq_true_eq] at h
    obtain ⟨⟨⟨⟨⟨⟨⟨h1, h2⟩, h3⟩, h4⟩, h4'⟩, h5⟩, h5'⟩, h6⟩ := h
    have hst : starEach [a, b] X.env = (false, eval a X.env) :: starEach [b] X.env := star_of h5
    have hst2 : starEach [b] X.env = (false, eval b X.env) :: starEach [] X.env := star_of h5'
    refine s_ins (ps_expr (pe_bm PySem.F.plainAttrs_list PySem.F.slot_list_insert PySem.F.type_list_insert mt_insert (pe_var h1 (visB_ok h2) (okNm_ok h3).1 (okNm_ok h3).2) (pa_cons ((snd ix).e X W F.f F.tk a h4) (pa_cons ((snd e).e X W F.f F.tk b h4') pa_nil hst2) hst) rfl ?_ h6 hst ?_) rfl)
    · rw [hst, hst2]
      rfl
    · rw [hst2]
      rfl
  · cases h) (by intros; rfl)
theorem ssnd_setI2 {i : Nat} {c d a b : E} : SndS Γ xc k nm (.setI2 i c d a b) := only_s (fun X W H0 F stm h => by
  simp only [ckS] at h
  rw [Bool.and_eq_true, Bool.not_eq_true'] at h
  obtain ⟨hh, h⟩ := h
  split at h
  · rename_i t v sp hv
    obtain rfl := vAsg_inv hv
    split at h
    · rename_i t1 t2 v1 v2 ht hw
      obtain ⟨kt, pt, rfl⟩ := vTup_inv ht
      obtain ⟨kv, pv, rfl⟩ := vTup_inv hw
      split at h
      · rename_i o1 x1 o2 x2 hs1 hs2
        obtain ⟨p1, rfl⟩ := vSub_inv hs1
        obtain ⟨p2, rfl⟩ := vSub_inv hs2
        split at h
        · rename_i y y' hy hy'
          obtain ⟨p3, rfl⟩ := vName_inv hy
          obtain ⟨p4, rfl⟩ := vName_inv hy'
          simp only [Bool.and_eq_true, decide_eq_true_eq] at h
          obtain ⟨⟨⟨⟨⟨⟨⟨⟨⟨⟨⟨⟨rfl, h1⟩, h2⟩, h3⟩, h4⟩, h5⟩, h6⟩, h7⟩, h8⟩, h9⟩, h10⟩, h11⟩, h12⟩ := h
          have sa : starEach [v1, v2] X.env = (false, eval v1 X.env) :: starEach [v2] X.env := star_of h11
          have sb : starEach [v2] X.env = (false, eval v2 X.env) :: starEach [] X.env := star_of h12
          refine s_setI2 (ps_asg (pe_tupN (pa_cons ((snd a).e X W F.f F.tk v1 h6) (pa_cons ((snd b).e X W F.f F.tk v2 h7) pa_nil sb) sa))
            (pg_tup (F.f.calm hh) (pgs_cons (pg_sub (pe_var h1 (visB_ok h2) (okNm_ok h3).1 (okNm_ok h3).2) ((snd c).e X W F.f F.tk x1 h4) set_list (assign_sub h9)) (pgs_cons (pg_sub (pe_var h1 (visB_ok h2) (okNm_ok h3).1 (okNm_ok h3).2) ((snd d).e X W F.f F.tk x2 h5) set_list (assign_sub h10)) pgs_nil)))
            (show swapsWithSole [.Tuple [.Subscript (.Name y p3) x1 p1, .Subscript (.Name y p4) x2 p2] kt pt] (.Tuple [v1, v2] kv pv) sp.line X.env = pure false from sw_nlc (t := some (.Tuple [.Subscript (.Name y p3) x1 p1, .Subscript (.Name y p4) x2 p2] kt pt)) (l := sp.line) (env := X.env) h8) ?_ rfl)
          · unfold swappedStores
            simp
        · cases h
      · cases h
    · cases h
  · cases h) (by intros; rfl)
theorem ssnd_extV {i j : Nat} : SndS Γ xc k nm (.extV i j) := only_s (fun X W H0 F stm h => by
  simp only [ckS] at h
  split at h
  · rename_i x q a r hv
    obtain ⟨p, u, rfl⟩ := vExt_inv hv
    split at h
    · rename_i y hy
      obtain ⟨p2, rfl⟩ := vName_inv hy
      simp only [Bool.and_eq_true, decide_eq_true_eq] at h
      obtain ⟨⟨⟨⟨⟨⟨⟨h1, h2⟩, h3⟩, h4⟩, h5⟩, h6⟩, h7⟩, h8⟩ := h
      have hst : starEach [Expr.Name y p2] X.env = (false, eval (.Name y p2) X.env) :: starEach [] X.env := star_of h7
      refine s_extV (ps_expr (pe_bm PySem.F.plainAttrs_list PySem.F.slot_list_extend PySem.F.type_list_extend mt_extend (pe_var h1 (visB_ok h2) (okNm_ok h3).1 (okNm_ok h3).2) (pa_cons (pe_var h4 (visB_ok h5) (okNm_ok h6).1 (okNm_ok h6).2) pa_nil hst) rfl ?_ h8 hst rfl) rfl)
      rw [hst]
      rfl
    · cases h
  · cases h) (by intros; rfl)
theorem ssnd_dNew {i : Nat} : SndS Γ xc k nm (.dNew i) := only_s (fun X W H0 F stm h => by
  simp only [ckS] at h
  split at h
  · rename_i t v sp hv
    obtain rfl := vAsg_inv hv
    split at h
    · rename_i x p ht
      obtain rfl := vNm_inv ht
      simp only [Bool.and_eq_true, decide_eq_true_eq] at h
      obtain ⟨⟨⟨h1, h2⟩, h3⟩, h4⟩ := h
      obtain ⟨q, rfl⟩ := vDict_inv h3
      exact s_dNew (ps_set F.f.nd h1 (locB_ok h2) pe_dn (sw_nlc h4) (.inl (F.fn x))) (lt_of h1)
    · cases h
  · cases h) (by intros; rfl)
theorem ssnd_dCpy {i : Nat} {e : E} : SndS Γ xc k nm (.dCpy i e) := only_s (fun X W H0 F stm h => by
  simp only [ckS] at h
  split at h
  · rename_i t v sp hv
    obtain rfl := vAsg_inv hv
    split at h
    · rename_i x p z l ht hw
      obtain rfl := vNm_inv ht
      obtain ⟨p1, p2, rfl⟩ := vCall_inv hw
      simp only [Bool.and_eq_true, decide_eq_true_eq] at h
      obtain ⟨⟨⟨⟨⟨⟨h1, h2⟩, rfl⟩, h4⟩, h5⟩, h6⟩, h7⟩ := h
      have hs : starEach [l] X.env = (false, eval l X.env) :: starEach [] X.env := star_of h6
      exact s_dCpy (ps_set F.f.nd h1 (locB_ok h2) (pe_callTy call_copyG (glB_ok h4) (F.f.bl _ (by decide +kernel)) (by decide +kernel) (pa_cons ((snd e).e X W F.f F.tk l h5) pa_nil hs) (by decide +kernel) (by decide +kernel) hs rfl) (sw_nlc h7) (.inl (F.fn x))) (lt_of h1)
    · cases h
  · cases h) (by intros; rfl)
theorem set_any {X : Cx} (hu : X.A.units + 64 < cLine) : PSet X (fun o i v H Q => rSetL o i v H Q ∨ rSetG X.K o i v H Q) := fun pins s σ H o i v ov iv u Q I ro ri rv h => h.elim (set_list pins s σ H o i v ov iv u Q I ro ri rv) (set_gen hu pins s σ H o i v ov iv u Q I ro ri rv)
theorem ssnd_setI {i : Nat} {ix e : E} : SndS Γ xc k nm (.setI i ix e) := only_s (fun X W H0 F stm h => by
  simp only [ckS] at h
  split at h
  · rename_i t v sp hv
    obtain rfl := vAsg_inv hv
    split at h
    · rename_i o a hs
      obtain ⟨p, rfl⟩ := vSub_inv hs
      split at h
      · rename_i x hx
        obtain ⟨p2, rfl⟩ := vName_inv hx
        simp only [Bool.and_eq_true, decide_eq_true_eq] at h
        obtain ⟨⟨⟨⟨⟨⟨⟨h1, h2⟩, h3⟩, h4⟩, h5⟩, h6⟩, h7⟩, h8⟩ := h
        exact s_setI (ti := fun _ _ _ => True) (ps_asg ((snd e).e X W F.f F.tk v h5) (pg_sub (pe_var h1 (visB_ok h2) (okNm_ok h3).1 (okNm_ok h3).2) ((snd ix).e X W F.f F.tk a h4) (set_any F.f.un) (assign_sub h8)) (show swapsWithSole [.Subscript (.Name x p2) a p] v sp.line X.env = pure false from sw_nlc (t := some (.Subscript (.Name x p2) a p)) (l := sp.line) (env := X.env) h6) (stores_ntup h7) rfl)
      · cases h
    · cases h
  · cases h) (by intros; rfl)
theorem rd_drop {X : Cx} {W : WX} {H0 : Hp} {is : List Nat} {b : S} {D : Ends} {σ : L2.St} {H : Hp} (z : rdS Γ X.K xc W H0 (.drop is b) D σ H) : rdS Γ X.K xc W H0 b D σ H := by
  obtain ⟨κ, M, ρ, st, r, g⟩ := z
  refine ⟨κ, M, ρ, st, r, ?_⟩
  simp only [run] at g
  match hr : run Γ b ρ st, g with
  | .stuck, g => exact g
  | .exc c fs st', g => exact g
  | .ok (.ret p n) st', g => exact g
  | .ok (.next ρ') st', g => exact fun κ' σ' H' a r' => g κ' σ' H' (a.trans (AftS.drop r')) (r'.drop is).1
theorem ssnd_drop {is : List Nat} {b : S} (ihb : SndS Γ xc k nm b) : SndS Γ xc k nm (.drop is b) :=
  ⟨fun X W H0 F stm h => psI (ihb.s X W H0 F stm (by simpa only [ckS] using h)) fun D σ H _ z => rd_drop z, fun X W H0 F stms h => pssI (ihb.b X W H0 F stms (by simpa only [ckB] using h)) fun D σ H _ z => rd_drop z⟩
theorem ssnd_raiseS {c : Nat} : SndS Γ xc k nm (.raiseS c) := only_s (fun X W H0 F stm h => by
  simp only [ckS] at h
  split at h
  · rename_i x hv
    obtain ⟨p, m, j, p2, pos, pos2, rfl⟩ := vRaise_inv hv
    simp only [Bool.and_eq_true, decide_eq_true_eq, Bool.not_eq_true'] at h
    obtain ⟨⟨⟨⟨⟨h1, h2⟩, h3⟩, h4⟩, h5⟩, h6⟩ := h
    exact s_raiseS (F.f.calm h1) F.tk (F.f.xok c h3).1 ((F.f.xok c h3).2.1 h2) (F.f.cls c x h4) (glB_ok h5) (okNm_ok h6).1
  · cases h) (by intros; rfl)
theorem ssnd_raiseA {c : Nat} {es : E} : SndS Γ xc k nm (.raiseA c es) := only_s (fun X W H0 F stm h => by
  simp only [ckS] at h
  split at h
  · rename_i x l pos hv
    obtain ⟨p, pos2, rfl⟩ := vRaiseA_inv hv
    simp only [Bool.and_eq_true, decide_eq_true_eq, Bool.not_eq_true'] at h
    obtain ⟨⟨⟨⟨⟨⟨⟨h1, h2⟩, h3⟩, h4⟩, h5⟩, h6⟩, h7⟩, h8⟩ := h
    obtain ⟨a, l, rfl, ha⟩ := args_cons h8 h7
    have ns := args_nst h8
    exact s_raiseA (F.f.calm h1) ((F.f.room h1).mono (by omega)) (F.f.gds h1) F.tk (F.f.xok c h3).1 (F.f.xok c h3).2.2 h2 (F.f.cls c x h4) (glB_ok h5) ((snd es).a X W F.f F.tk _ h8) (star_of ha) (no_star fun e he => ns e (by simp [he])) (okNm_ok h6).1
  · cases h) (by intros; rfl)
theorem FactsS.tr {X : Cx} {W W' : WX} (F : FactsS X Γ nm xc k W) (hh : nm.hot = false) {pn : List (Addr × Obj)} {xe : Value → Shared → Prop} (tk : Takes (X.tr pn xe) W') (po : PassesOwn (model X.prog X.w) X.A X.env xe) : FactsS (X.tr pn xe) Γ nm xc k W' :=
  ⟨⟨F.f.un, F.f.room, F.f.calm, F.f.gds, F.f.nd, F.f.bl, F.f.fns, F.f.gls, F.f.cls, F.f.xok, F.f.hot, fun x e => (by rw [F.f.cold hh] at e; cases e), F.f.heat⟩, tk, F.fn, fun _ => po, F.stk, F.frm⟩
theorem FactsS.suite {X : Cx} {W : WX} (F : FactsS X Γ nm xc k W) (hh : nm.hot = false) {a : Addr} {oe : Obj} {c : Nat} {d : Option Addr} {pn : List (Addr × Obj)} (xk : XCls X.K xc c) (hz : Zc (.ref (xc c)) d oe) (hf : ∃ vs, oe.data = .fields vs) : FactsS (X.suite a ((a, oe) :: pn)) (Γ.hotter (a, d, c)) nm.heat xc k (fun _ _ _ _ => False) where
  f := {
    un := F.f.un
    room := fun z => by cases z
    calm := fun z => by cases z
    gds := fun z => by cases z
    nd := F.f.nd
    bl := F.f.bl
    fns := fun f x hn => by
      obtain ⟨a', fd, ps, e1, e2, e3, e4⟩ := F.f.heat hh f x hn
      exact ⟨a', fd, ps, e1, e2, e3, .inr ⟨(a, d, c), rfl, ⟨((F.f.room hh).mono (Nat.le_add_right k 2)).dp, ((F.f.room hh).mono (Nat.le_add_right k 2)).un⟩, (e4 (a, d, c)).1⟩, (e4 (a, d, c)).2⟩
    gls := F.f.gls
    cls := F.f.cls
    xok := F.f.xok
    hot := rfl
    xat := fun x e => by
      cases e
      exact ⟨xk, oe, List.mem_cons_self, hz, hf⟩
    heat := fun z => by cases z }
  tk := L2.takes0
  fn := F.fn
  own := fun z => by cases z
  stk := fun z => by cases z
  frm := F.frm
theorem ssnd_tryR {b h : S} {i : Nat} (ihb : SndS Γ xc k nm b) (ihh : ∀ x, SndS (Γ.hotter x) xc k nm.heat h) : SndS Γ xc k nm (.tryR b i h) := only_s (fun X W H0 F stm h => by
  simp only [ckS] at h
  split at h
  · rename_i bd x n s0 su hv
    obtain ⟨p, p2, pos, rfl⟩ := vTry_inv hv
    simp only [Bool.and_eq_true, decide_eq_true_eq, Bool.not_eq_true'] at h
    obtain ⟨⟨⟨⟨⟨⟨⟨h1, h2⟩, h3⟩, h4⟩, h5⟩, h6⟩, h7⟩, h8⟩ := h
    exact s_tryR (F.f.cold h1) (F.stk h1) F.frm F.f.nd h5 (lclB_ok h6) ⟨glB_ok h3, (okNm_ok h4).1, .inl (F.f.cls 10 x h2)⟩ F.tk (fun W' pn xe tk po => ihb.b (X.tr pn xe) W' H0 (F.tr h1 tk po) bd h7) fun a oe c d pn xk hz hf => (ihh (a, d, c)).b (X.suite a ((a, oe) :: pn)) (fun _ _ _ _ => False) H0 (F.suite h1 xk hz hf) (s0 :: su) h8
  · cases h) (by intros; rfl)
end
theorem ssnd {xc : Nat → Addr} {k : Nat} (c : S) : ∀ (Γ : Ctx) (nm : Nm), SndS Γ xc k nm c := by
  induction c with
  | dead => intro Γ nm; exact ⟨fun X W H0 F stm _ => ⟨fun pins s σ H D I z => by
      obtain ⟨_, _, _, _, _, g⟩ := z
      exact g.elim⟩, fun X W H0 F stms _ => ⟨fun pins s σ H D I z => by
      obtain ⟨_, _, _, _, _, g⟩ := z
      exact g.elim⟩⟩
  | skip => intro Γ nm; exact ⟨fun X W H0 F stm h => (by cases h), fun X W H0 F stms h => by
      cases stms with
      | nil => exact b_nil
      | cons s l => cases h⟩
  | seq a b iha ihb => intro Γ nm; exact ⟨fun X W H0 F stm h => (by cases h), fun X W H0 F stms h => by
      cases stms with
      | nil => cases h
      | cons s l =>
        simp only [ckB, Bool.and_eq_true] at h
        exact b_cons ((iha Γ nm).s X W H0 F s h.1) ((ihb Γ nm).b X W H0 F l h.2)⟩
  | set i own e => intro Γ nm; exact ssnd_set
  | setT is e => intro Γ nm; exact ssnd_setT
  | par i j a b => intro Γ nm; exact ssnd_par
  | par3 i j l a b c => intro Γ nm; exact ssnd_par3
  | ite c a b iha ihb => intro Γ nm; exact ssnd_ite (iha Γ nm) (ihb Γ nm)
  | «for» t it b ihb => intro Γ nm; exact ssnd_for (ihb Γ nm)
  | ret e => intro Γ nm; exact ssnd_ret
  | retV i => intro Γ nm; exact ssnd_retV
  | exp e => intro Γ nm; exact ssnd_exp
  | rem i e => intro Γ nm; exact ssnd_rem
  | ins i ix e => intro Γ nm; exact ssnd_ins
  | setI2 i c d a b => intro Γ nm; exact ssnd_setI2
  | app i e => intro Γ nm; exact ssnd_app
  | extV i j => intro Γ nm; exact ssnd_extV
  | dNew i => intro Γ nm; exact ssnd_dNew
  | dCpy i e => intro Γ nm; exact ssnd_dCpy
  | setI i ix e => intro Γ nm; exact ssnd_setI
  | whl n c b ihb => intro Γ nm; exact ssnd_whl (ihb Γ nm)
  | popA i j e => intro Γ nm; exact ssnd_popA
  | popS i j e => intro Γ nm; exact ssnd_popS
  | ext i e => intro Γ nm; exact ssnd_ext
  | drop is b ihb => intro Γ nm; exact ssnd_drop (ihb Γ nm)
  | forO t j b ihb => intro Γ nm; exact ssnd_forO (ihb Γ nm)
  | raiseS c => intro Γ nm; exact ssnd_raiseS
  | raiseA c es => intro Γ nm; exact ssnd_raiseA
  | tryR b i h ihb ihh => intro Γ nm; exact ssnd_tryR (ihb Γ nm) fun x => ihh (Γ.hotter x) nm.heat
end Sw

set_option Elab.async false
set_option linter.all false
set_option maxRecDepth 100000
set_option maxHeartbeats 4000000
/-! The defs of the text, each worth what its code yields. -/
namespace Sw
open PySem PySem.Spec PyProof.Rows L2

section
variable {K : PySem.W.Frag} {xc : Nat → Addr}
theorem RpAll.at {κ : List Addr} {H : Hp} : ∀ {vs : List V} {ps : List PV} {i : Nat} {p : PV}, RpAll K κ H vs ps → ps[i]? = some p → ∃ v, vs[i]? = some v ∧ Rp K κ H v p
  | _, _, _, _, .nil, e => by simp at e
  | _, _, 0, _, .cons r _, e => by simp at e; subst e; exact ⟨_, rfl, r⟩
  | _, _, i + 1, _, .cons _ t, e => by
    obtain ⟨v, h1, h2⟩ := RpAll.at (i := i) t (by simpa using e)
    exact ⟨v, by simpa using h1, h2⟩
theorem enter_at {f : FD} {ps : List PV} {i : Nat} {s : Slot} (h : (enter f ps)[i]? = some s) : (∃ p, ps[i]? = some p ∧ s = .sh p) ∨ s = .no := by
  unfold enter at h
  by_cases hi : i < ps.length
  · rw [List.getElem?_append_left (by simpa using hi), List.getElem?_map, List.getElem?_eq_getElem hi] at h
    simp only [Option.map_some, Option.some.injEq] at h
    exact .inl ⟨ps[i], List.getElem?_eq_getElem hi, h.symm⟩
  · rw [List.getElem?_append_right (by simpa using Nat.le_of_not_lt hi)] at h
    obtain ⟨_, e⟩ := List.getElem?_eq_some_iff.mp h
    rw [List.getElem_replicate] at e
    exact .inr e.symm
theorem enter_own {f : FD} {ps : List PV} {σ : L2.St} (a : Addr) : ¬ Own (enter f ps) σ a := fun ⟨i, xs, h, _⟩ => by
  rcases enter_at h with ⟨p, _, e⟩ | e
  · cases e
  · cases e
theorem rel_enter {κ : List Addr} {M : Addr → Prop} {H : Hp} {st : Store} {f : FD} {N : List Str} {vs : List V} {ps : List PV} (c : Cells K κ M H st) (r : RpAll K κ (msk (Hid κ M) H) vs ps) (hN : N.length = f.sl) (hl : ps.length ≤ f.sl) : Rel K κ M H (L2.start N vs) H (enter f ps) st := by
  have hv := r.length
  have e1 : ∀ a, Hid2 M (enter f ps) (L2.start N vs) a ↔ M a := fun a => ⟨fun h => h.elim id fun z => absurd z (enter_own a), .inl⟩
  refine ⟨c.less fun a h => (e1 a).mp h, ?_, fun i p h => ?_, fun i xs h => ?_, fun i j xs ys a h => ?_, fun a o h => ⟨o, h⟩⟩
  · unfold enter L2.start
    simp only [List.length_append, List.length_map, List.length_replicate]
    omega
  · rcases enter_at h with ⟨q, e, e2⟩ | e
    · cases e2
      obtain ⟨v, h1, h2⟩ := r.at e
      refine ⟨v, ?_, h2.mono (List.prefix_refl _) (msk_mono fun b o n e => ⟨fun z => n (z.imp id (e1 b).mp), e⟩)⟩
      unfold L2.start
      have hi : i < vs.length := (List.getElem?_eq_some_iff.mp h1).1
      rw [List.getElem?_append_left (by simpa using hi), List.getElem?_map, h1]
      rfl
    · cases e
  · rcases enter_at h with ⟨q, _, e2⟩ | e
    · cases e2
    · cases e
  · rcases enter_at h with ⟨q, _, e2⟩ | e
    · cases e2
    · cases e
theorem aft_of {κ κ' : List Addr} {M : Addr → Prop} {H H' : Hp} {st' : Store} {σ : L2.St} {f : FD} {ps : List PV} (a : AftR K κ M σ H (enter f ps) κ' H' st') : Aft K κ M H κ' H' st' := ⟨a.pre, fun b o e n => a.keep b o e n (enter_own b), a.cells⟩
theorem body_read {Γ : Ctx} {κ : List Addr} {M : Addr → Prop} {H : Hp} {st : Store} {f : FD} {N : List Str} {vs : List V} {ps : List PV} {Q : VK} {E : XK} (c : Cells K κ M H st) (r : RpAll K κ (msk (Hid κ M) H) vs ps) (hN : N.length = f.sl) (hl : ps.length ≤ f.sl)
    (g : Goal K xc (fun cls d _ H' => E cls d H') [] κ M H f.fresh ((run Γ f.body (enter f ps) st).bind fun o st => leave f o st) Q) : rdS Γ K xc (fun cls d _ H' => E cls d H') H f.body { nx := fun _ H' => Q .non H', rt := Q } (L2.start N vs) H := by
  refine ⟨κ, M, enter f ps, st, rel_enter c r hN hl, ?_⟩
  match hr : run Γ f.body (enter f ps) st, g with
  | .stuck, g => exact g
  | .exc cc fs st', g => exact fun κ' σ' H' cls d a x => g κ' H' cls d (aft_of a) x
  | .ok (.next ρ') st', g =>
    intro κ' σ' H' a rl
    exact g κ' H' .non ⟨a.pre, fun b o e n => have q := a.keep b o e n (enter_own b); ⟨q.1, q.2.1⟩, rl.cells.less fun _ h => .inl h⟩ .non fun _ => trivial
  | .ok (.ret p n) st', g =>
    intro κ' H' v a rp nw
    have af := aft_of a
    simp only [Res.bind, leave] at g
    by_cases h1 : (isList p && (f.fresh || f.cell) && !n) = true
    · rw [if_pos h1] at g
      exact g.elim
    rw [if_neg h1] at g
    have hn : isList p = true → (f.fresh || f.cell) = true → n = true := fun x y => by
      cases hn : n with
      | true => rfl
      | false =>
        rw [x, y, hn] at h1
        exact absurd rfl h1
    by_cases hc : f.cell = true
    · rw [if_pos hc] at g
      cases p with
      | d x =>
        cases x with
        | list xs =>
          simp only at g
          by_cases hcm : calmAll xs = true
          · rw [if_pos hcm] at g
            obtain ⟨A, ws, rfl, n1, n2, n3, n4⟩ := nw (hn rfl (by rw [hc, Bool.or_true]))
            have nM : ¬ M A := fun z => c.free n1 (.inr z)
            have cal : ∀ {us : List V} {ds : List D} {S : Hp}, (∀ b o, (∀ zs, o ≠ .lst zs) → S b = some o → msk (Hid (κ' ++ [A]) M) H' b = some o) → DqAll K S us ds → calmAll ds = true → DqAll K (msk (Hid (κ' ++ [A]) M) H') us ds := fun {us ds S} key h hcd => DqAll.calm (fun B o us q => key B _ (fun vs z => by cases z) q) h hcd
            have nota : ∀ b o, (∀ zs, o ≠ .lst zs) → H' b = some o → b ≠ A := fun b o no e z => by
              rw [z, n2] at e
              cases e
              exact no ws rfl
            refine g (κ' ++ [A]) H' (.ref A) ⟨af.pre.trans (List.prefix_append _ _), fun b o e nb => ?_, ⟨?_, ?_, fun k x e => ?_, af.cells.own, fun b hb => ?_⟩⟩ ⟨A, ?_, rfl⟩ fun _ => trivial
            · have q := af.keep b o e nb
              refine ⟨q.1, fun z => ?_⟩
              rcases List.mem_append.mp z with z | z
              · exact q.2 z
              · have : b = A := by simpa using z
                rw [this, n1] at e
                cases e
            · simp [af.cells.len]
            · refine List.nodup_append.mpr ⟨af.cells.nd, by simp, fun x hx y hy => ?_⟩
              have : y = A := by simpa using hy
              rw [this]
              exact fun z => n3 (z ▸ hx)
            · by_cases hk : k < st'.length
              · rw [List.getElem?_append_left hk] at e
                obtain ⟨B, ds, us, q1, q2, q3, q4, q5⟩ := af.cells.at_ k x e
                refine ⟨B, ds, us, ?_, q2, q3, cal (fun b o no e => ?_) q4 q5, q5⟩
                · rw [List.getElem?_append_left (by rw [af.cells.len]; exact hk)]
                  exact q1
                · obtain ⟨m, e⟩ := msk_some.mp e
                  refine msk_some.mpr ⟨fun z => ?_, e⟩
                  rcases z with z | z
                  · rcases List.mem_append.mp z with z | z
                    · exact m (.inl z)
                    · exact nota b o no e (by simpa using z)
                  · exact m (.inr z)
              · rw [List.getElem?_append_right (Nat.le_of_not_lt hk)] at e
                obtain ⟨k', hk'⟩ : ∃ k', k - st'.length = k' := ⟨_, rfl⟩
                rw [hk'] at e
                cases k' with
                | succ j => simp at e
                | zero =>
                  simp only [List.getElem?_cons_zero, Option.some.injEq] at e
                  subst e
                  have ek : k = κ'.length := by rw [af.cells.len]; omega
                  refine ⟨A, xs, ws, ?_, rfl, n2, cal (fun b o no e => ?_) n4 hcm, hcm⟩
                  · rw [ek, List.getElem?_append_right (Nat.le_refl _)]
                    simp
                  · obtain ⟨m, e⟩ := msk_some.mp e
                    refine msk_some.mpr ⟨fun z => ?_, e⟩
                    rcases z with z | z
                    · rcases List.mem_append.mp z with z | z
                      · exact m (.inl (.inl z))
                      · exact m (.inr (by simpa using z))
                    · exact m (.inl (.inr z))
            · rcases List.mem_append.mp hb with z | z
              · exact af.cells.off b z
              · have : b = A := by simpa using z
                rw [this]
                exact nM
            · rw [← af.cells.len, List.getElem?_append_right (Nat.le_refl _)]
              simp
          · rw [if_neg hcm] at g
            exact g.elim
        | _ => exact g.elim
      | _ => exact g.elim
    · rw [if_neg hc] at g
      refine g κ' H' v af rp fun hf => ?_
      by_cases hl : isList p = true
      · exact nw (hn hl (by rw [hf, Bool.true_or]))
      · unfold NewP
        split
        · exact absurd rfl hl
        · exact absurd rfl hl
        · trivial
end

/-! ### the table -/
def ckD (nm : Nm) (N ps : List Str) (fr : Nat → Bool) (fd : FD) (sc : Scope) (body : List Stmt) : Bool :=
  isFun sc && !sc.isCoroutine && !sc.isGenerator && decide N.Nodup && decide (N.take ps.length = ps) && ps.all (fun x => locB sc x) && sc.names.all (fun y => !(decide (y.2 = .free))) && decide (N.length = fd.sl) && decide (ps.length = fd.ar) && decide (fd.ar ≤ fd.sl) && ckB nm N fr sc fd.body body
abbrev frOf (T : Nat → Option FD) : Nat → Bool := frT T
def DefOk (K : PySem.W.Frag) (mg : Str → Option Value) (nm : Nm) (T : Nat → Option FD) (pn : Nat → List Str) (i : Nat) (x : Str) : Prop :=
  ∃ (fd : FD) (N ps : List Str) (f : Addr) (fdat : FuncData) (st : Stmt), T i = some fd ∧ ps = pn i ∧ mg x = some (.ref f) ∧ PySem.W.keepIn K (.ref f) = true ∧ (∀ us : List Value, us.length = ps.length → bindArgs fdat ⟨us, []⟩ = pure (ps.zip us)) ∧ Fun K x x st f fdat ∧ ckD nm N ps (frOf T) fd (defScope st) (defBody st) = true
theorem ckD_scope {nm : Nm} {N ps : List Str} {fr : Nat → Bool} {fd : FD} {sc : Scope} {body : List Stmt} (h : ckD nm N ps fr fd sc body = true) : FnScope N ps sc ∧ N.length = fd.sl ∧ ps.length = fd.ar ∧ fd.ar ≤ fd.sl ∧ ckB nm N fr sc fd.body body = true := by
  unfold ckD at h
  simp only [Bool.and_eq_true, decide_eq_true_eq, Bool.not_eq_true', List.all_eq_true, decide_eq_false_iff_not] at h
  obtain ⟨⟨⟨⟨⟨⟨⟨⟨⟨⟨h1, h2⟩, h3⟩, h4⟩, h5⟩, h6⟩, h7⟩, h8⟩, h9⟩, h10⟩, h11⟩ := h
  exact ⟨⟨isFun_ok h1, h2, h3, h4, h5, fun x hx => locB_ok (h6 x hx), h7⟩, h8, h9, h10, h11⟩
theorem callF_len {T : Nat → Option FD} {gl : Nat → D} {k i : Nat} {fd : FD} {qs : List PV} {st : Store} (ht : T i = some fd) (h : callF T gl k i qs st ≠ .stuck) : qs.length = fd.ar := by
  cases k with
  | zero => exact absurd rfl h
  | succ k =>
    unfold callF at h
    rw [ht] at h
    simp only at h
    by_cases z : qs.length = fd.ar
    · exact z
    · rw [if_neg z] at h
      exact absurd rfl h
theorem callX_len {T : Nat → Option FD} {gl : Nat → D} {x : Hx} {k i : Nat} {fd : FD} {qs : List PV} {st : Store} (ht : T i = some fd) (h : callX T gl x k i qs st ≠ .stuck) : qs.length = fd.ar := by
  cases k with
  | zero => exact absurd rfl h
  | succ k =>
    unfold callX at h
    rw [ht] at h
    simp only at h
    by_cases z : qs.length = fd.ar
    · exact z
    · rw [if_neg z] at h
      exact absurd rfl h
/-- what the text's names are worth -/
structure Txt (K : PySem.W.Frag) (mg : Str → Option Value) (nm : Nm) (T : Nat → Option FD) (pn : Nat → List Str) (gl : Nat → D) (xc : Nat → Addr) : Prop where
  cold : nm.hot = false
  bl : ∀ x ∈ bNames, mg x = none
  fns : ∀ i x, nm.fn i = some x → DefOk K mg nm T pn i x
  gls : ∀ g x, nm.gl g = some x → ∃ v u, mg x = some u ∧ RelV v u ∧ ∀ H, Dq K H v (gl g)
  hfns : ∀ i x, nm.heat.fn i = some x → DefOk K mg nm.heat T pn i x
  cls : ∀ c x, nm.cl c = some x → mg x = some (.ref (xc c))
  xok : ∀ c, nm.rz c = true → XCls K xc c ∧ (c < 6 → PySem.W.excIn K (xc c) [.type "ValueError", .type "Exception", .type "BaseException", .type "object"] "ValueError.__new__" = true) ∧ (6 ≤ c → c ≤ 9 → ∀ (P : Program) (w : World) (base : Heap), XMk P w K mg base (xc c) (xfN c))
theorem fn_ofX {CX : CXT} {P : Program} {w : World} {K : PySem.W.Frag} {mg : Str → Option Value} {base : Heap} {k : Nat} {f : Addr} {name qual : Str} {params : Arguments} {body : List Stmt} {scope : Scope} {dV kV doc pm cdv ct oc : Value} {an od : Option Addr}
    {osl : Array (Option Value)} {N ps : List Str} {sp : Sp} {xc : Nat → Addr} {x : Hx} (lk : K.lookup f = some ⟨oc, od, .func (PySem.W.fnOf name qual params body scope dV kV doc pm an cdv ct), osl⟩) (hcd : PySem.W.codeIn K cdv qual = true) (S : FnScope N ps scope)
    (len : ∀ vs H Q E, sp vs H Q E → vs.length = ps.length)
    (hbody : ∀ (A : Around) (outer : List PySem.Env) (s : Shared) (H : Hp) (vs : List V) (Q : VK) (E : XK) (p : Addr × Obj), p.1 = x.1 → Zc (.ref (xc x.2.2)) x.2.1 p.2 → (∃ vs, p.2.data = .fields vs) → XCls K xc x.2.2 → L2H.RoomH k (A.deeper (envOfC qual scope s.heap.objs.size f cdv)) → sp vs H Q E →
      ∃ t, PSs (L2H.cxH CX P w K mg base N qual scope f cdv A outer s H E p) body t ∧ t { nx := fun _ H' => Q .non H', rt := Q } (L2.start N vs) H) :
    FnX P w K mg base CX xc x (k + 1) f (PySem.W.fnOf name qual params body scope dV kV doc pm an cdv ct) ps sp := by
  refine ⟨len, fun A outer s H args us vs Q E p hr hp hz hf xk hpin e0 hb r hsp => ?_⟩
  have hl := len _ _ _ _ hsp
  have KX : K.In s.heap := e0.mod.kin.keeps fun b o e => (e0.bs b o e).1
  have lim : s.heap.NoLimit := e0.mod.nolimit.keeps fun b o e => (e0.bs b o e).1
  have hkind : ∀ y ∈ ps.zip us, scope.names.lookup y.1 = some .local ∨ (scope.names.lookup y.1 = some .cell ∧ ((cellsFrom (s.heap.objs.size + 1) scope.names []).lookup y.1).isSome = true) := fun ⟨n, v⟩ hy => by
    rcases S.par n (List.of_mem_zip hy).1 with q | q
    · exact .inl q
    · exact .inr ⟨q, PySem.W.cellsFrom_some _ _ _ (.inl q)⟩
  refine codeAny_call_function hr.depth (KX _ _ lk) rfl S.co S.gen rfl (PySem.W.codeRec_of KX hcd) (hb _ _ _ _ ?_)
  refine wpAny_newFunctionEnv_cells S.kind hkind fun env he s1 y => ?_
  subst he
  refine ⟨lim.keeps y.toInCall.keep, codeAny_func ?_⟩
  obtain ⟨t, ht, hq⟩ := hbody A outer s H vs Q E p hp hz hf xk (hr.deeper _) hsp
  have I : Inv (L2H.cxH CX P w K mg base N qual scope f cdv A outer s H E p) [] (L2.start N vs) H s1 := L2H.inv_startH S hpin e0 hl r y
  refine wpAny_mono (ht.run [] s1 (L2.start N vs) H _ I hq) (fun fl s' hs => ?_) fun e s' hs => hs
  have fin : ∀ {σ' : L2.St} {H' : Hp} {v : V} {u : Value}, Inv (L2H.cxH CX P w K mg base N qual scope f cdv A outer s H E p) [] σ' H' s' → RelV v u → Q v H' → CE outer P w H s Q u s' :=
    fun {σ' H' v u} J rv q => ⟨v, H', J.os, J.bare, J.base, J.hok, rv, q⟩
  cases fl with
  | ret u =>
    obtain ⟨v, σ', H', J, rv, q⟩ := hs
    exact fin J rv q
  | next =>
    obtain ⟨σ', H', J, q⟩ := hs
    exact fin (v := V.non) (u := Value.none) J rfl q
  | brk =>
    obtain ⟨_, _, _, q⟩ := hs
    exact False.elim q
  | cont =>
    obtain ⟨_, _, _, q⟩ := hs
    exact False.elim q
theorem all_okX {P : Program} {w : World} {K : PySem.W.Frag} {mg : Str → Option Value} {base : Heap} {nm : Nm} {T : Nat → Option FD} {pn : Nat → List Str} {gl : Nat → D} {xc : Nat → Addr} (tx : Txt K mg nm T pn gl xc) (hx : Hx) : ∀ (k i : Nat) (fd : FD) (N ps : List Str) (x : Str) (f : Addr) (fdat : FuncData) (st : Stmt),
    T i = some fd → Fun K x x st f fdat → ckD nm.heat N ps (frOf T) fd (defScope st) (defBody st) = true → FnX P w K mg base (L2.CX P w) xc hx k f fdat ps (spF K xc ps.length (callX T gl hx k i) (frOf T i))
  | 0, i, fd, N, ps, x, f, fdat, st, ht, F, hck => ⟨fun vs H Q E h => h.1, fun A outer s H args us vs Q E p _ _ _ _ _ _ _ _ _ h => by
      obtain ⟨_, κ, M, st, ps, _, _, g⟩ := h
      exact g.elim⟩
  | k + 1, i, fd, N, ps, x, f, fdat, st, ht, F, hck => by
    obtain ⟨S, hN, hp, hle, hb⟩ := ckD_scope hck
    obtain ⟨oc, od, kV, doc, pm, an, cdv, ct, osl, rfl, lk, hcd⟩ := F.ex
    refine fn_ofX lk hcd S (fun vs H Q E h => h.1) fun A outer s H vs Q E p hp1 hz hf xk hr h => ?_
    obtain ⟨hv, κ, M, sto, qs, c, r, g⟩ := h
    have hq : qs.length = fd.ar := by rw [← r.length, hv, hp]
    let Γ : Ctx := ⟨fun g => callX T gl hx k g, gl, frOf T, some hx, fun _ _ _ _ => .stuck⟩
    have tk : Takes (L2H.cxH (L2.CX P w) P w K mg base N x (defScope st) f cdv A outer s H E p) (fun cls d _ H => E cls d H) := takes_of rfl rfl rfl rfl
    have hf2 : Facts (L2H.cxH (L2.CX P w) P w K mg base N x (defScope st) f cdv A outer s H E p) Γ nm.heat xc k := {
      un := by
        have := hr.un
        show (A.deeper _).units + 64 < cLine
        omega
      room := fun z => by cases z
      calm := fun z => by cases z
      gds := fun z => by cases z
      nd := S.nd
      bl := tx.bl
      fns := fun j y hj => by
        obtain ⟨fd', N', ps', f', fdat', st', q1, _, q2, q3, q4, q5, q6⟩ := tx.hfns j y hj
        have z := (ckD_scope q6).2.2.1
        exact ⟨f', fdat', ps', q2, q3, .all q4, .inr ⟨hx, rfl, hr, all_okX tx hx k j fd' N' ps' y f' fdat' st' q1 q5 q6⟩, fun us st2 hs => (callX_len q1 hs).trans z.symm⟩
      gls := tx.gls
      cls := tx.cls
      xok := fun c hc => ⟨(tx.xok c hc).1, (tx.xok c hc).2.1, fun h1 h2 => (tx.xok c hc).2.2 h1 h2 P w base⟩
      hot := rfl
      xat := fun y e => by
        cases e
        exact ⟨xk, p.2, by rw [← hp1]; exact List.mem_singleton.mpr rfl, hz, hf⟩
      heat := fun z => by cases z }
    refine ⟨_, (ssnd fd.body Γ nm.heat).b (L2H.cxH (L2.CX P w) P w K mg base N x (defScope st) f cdv A outer s H E p) (fun cls d _ H => E cls d H) H ⟨hf2, tk, fun _ => rfl, fun z => (by cases z), fun z => (by cases z), rfl⟩ (defBody st) hb, ?_⟩
    refine body_read (Γ := Γ) c r hN (by omega) ?_
    have e1 : callX T gl hx (k + 1) i qs sto = (run Γ fd.body (enter fd qs) sto).bind fun o st => leave fd o st := by
      unfold callX
      rw [ht]
      simp only
      rw [if_pos hq]
    have e2 : frOf T i = fd.fresh := by show frT T i = _; unfold frT; rw [ht]
    rw [e1, e2] at g
    exact g
theorem all_ok {P : Program} {w : World} {K : PySem.W.Frag} {mg : Str → Option Value} {base : Heap} {nm : Nm} {T : Nat → Option FD} {pn : Nat → List Str} {gl : Nat → D} {xc : Nat → Addr} (tx : Txt K mg nm T pn gl xc) : ∀ (k i : Nat) (fd : FD) (N ps : List Str) (x : Str) (f : Addr) (fdat : FuncData) (st : Stmt),
    T i = some fd → Fun K x x st f fdat → ckD nm N ps (frOf T) fd (defScope st) (defBody st) = true → FnG P w K mg base (L2.CX P w) (k + 2) f fdat ps (spF K xc ps.length (callF T gl k i) (frOf T i))
  | 0, i, fd, N, ps, x, f, fdat, st, ht, F, hck => ⟨fun vs H Q E h => h.1, fun A _ _ outer s H args us vs Q E h _ _ _ => by
      obtain ⟨_, κ, M, st, ps, _, _, g⟩ := h
      exact g.elim⟩
  | k + 1, i, fd, N, ps, x, f, fdat, st, ht, F, hck => by
    obtain ⟨S, hN, hp, hle, hb⟩ := ckD_scope hck
    obtain ⟨oc, od, kV, doc, pm, an, cdv, ct, osl, rfl, lk, hcd⟩ := F.ex
    refine fn_ofG lk hcd S (fun vs H Q E h => h.1) fun A outer s H vs Q E hr hgu h => ?_
    obtain ⟨hv, κ, M, sto, qs, c, r, g⟩ := h
    have hq : qs.length = fd.ar := by rw [← r.length, hv, hp]
    let Γ : Ctx := ⟨fun g => callF T gl k g, gl, frOf T, none, fun x g => callX T gl x k g⟩
    have tk : Takes (cxOf (L2.CX P w) P w K mg base N x (defScope st) f cdv A outer s H E) (fun cls d _ H => E cls d H) := takes_of rfl rfl rfl rfl
    have hf : Facts (cxOf (L2.CX P w) P w K mg base N x (defScope st) f cdv A outer s H E) Γ nm xc k := {
      un := hr.units
      room := fun _ => hr
      calm := fun _ => rfl
      gds := fun _ => hgu
      nd := S.nd
      bl := tx.bl
      fns := fun j y hj => by
        obtain ⟨fd', N', ps', f', fdat', st', q1, _, q2, q3, q4, q5, q6⟩ := tx.fns j y hj
        have z := (ckD_scope q6).2.2.1
        exact ⟨f', fdat', ps', q2, q3, .all q4, .inl ⟨rfl, ⟨hr, hgu⟩, all_ok tx k j fd' N' ps' y f' fdat' st' q1 q5 q6⟩, fun us st2 hs => (callF_len q1 hs).trans z.symm⟩
      gls := tx.gls
      cls := tx.cls
      xok := fun c hc => ⟨(tx.xok c hc).1, (tx.xok c hc).2.1, fun h1 h2 => (tx.xok c hc).2.2 h1 h2 P w base⟩
      hot := tx.cold.symm
      xat := fun y e => by cases e
      heat := fun _ j y hj => by
        obtain ⟨fd', N', ps', f', fdat', st', q1, _, q2, q3, q4, q5, q6⟩ := tx.hfns j y hj
        have z := (ckD_scope q6).2.2.1
        exact ⟨f', fdat', ps', q2, q3, .all q4, fun x => ⟨all_okX tx x k j fd' N' ps' y f' fdat' st' q1 q5 q6, fun us st2 hs => (callX_len q1 hs).trans z.symm⟩⟩ }
    refine ⟨_, (ssnd fd.body Γ nm).b (cxOf (L2.CX P w) P w K mg base N x (defScope st) f cdv A outer s H E) (fun cls d _ H => E cls d H) H ⟨hf, tk, fun _ => rfl, fun _ => passes_of rfl, fun _ => rfl, rfl⟩ (defBody st) hb, ?_⟩
    refine body_read (Γ := Γ) c r hN (by omega) ?_
    have e1 : callF T gl (k + 1) i qs sto = (run Γ fd.body (enter fd qs) sto).bind fun o st => leave fd o st := by
      unfold callF
      rw [ht]
      simp only
      rw [if_pos hq]
    have e2 : frOf T i = fd.fresh := by show frT T i = _; unfold frT; rw [ht]
    rw [e1, e2] at g
    exact g
end Sw

set_option Elab.async false
set_option linter.all false
set_option maxRecDepth 100000
set_option maxHeartbeats 4000000
/-! The end: the row, from what the code yields. -/
namespace Sw
open PySem PySem.Spec PyProof.Rows L2

/-- a def as the program's top left it -/
theorem DefOk.mk {K : PySem.W.Frag} {mg : Str → Option Value} {h : Heap} {nm : Nm} {T : Nat → Option FD} {i : Nat} {x : Str} {fd : FD} {N ps : List Str} {f : Addr} {oc : Value} {od an : Option Addr} {osl : Array (Option Value)} {kV doc pm cdv ct : Value} {args : Arguments} {body : List Stmt} {sc : Scope}
    (X : K.In h) (G : h.Ns mainGlobals mg) {pn : Nat → List Str} (ht : T i = some fd) (hp : ps = pn i) (a : PySem.W.nsIn K mainGlobals x = some (some (.ref f))) (l : K.lookup f = some ⟨oc, od, .func (PySem.W.fnOf x x args body sc .none kV doc pm an cdv ct), osl⟩)
    (c : PySem.W.codeIn K cdv x = true) (k : PySem.W.keepIn K (.ref f) = true) (hb : ∀ us : List Value, us.length = ps.length → bindArgs (PySem.W.fnOf x x args body sc .none kV doc pm an cdv ct) ⟨us, []⟩ = pure (ps.zip us))
    (hk : ckD nm N ps (frOf T) fd sc body = true) : DefOk K mg nm T pn i x :=
  ⟨fd, N, ps, f, _, .FunctionDef x args body [] none [] sc none x default, ht, hp, PySem.W.mg_of X G a, k, hb, fun_mk (st := .FunctionDef x args body [] none [] sc none x default) l c k, hk⟩
/-- the law's def, called with the script: nothing but the script is tracked; no repr is under way -/
theorem top_go {P : Program} {w : World} {K : PySem.W.Frag} {mg mb : Str → Option Value} {k : Nat} {fa a : Addr} {fd : FuncData} {x : Str} {sp : Sp} {s : Shared} {vs : List Value} {H : Hp} (hr : Room k callerA) (hg : s.gens = #[])
    (F : ∀ base : Heap, K.In base → base.Ns mainGlobals mg → FnG P w K mg base (L2.CX P w) k fa fd [x] sp) (bind : BindsTo s fd ⟨[.ref a], []⟩ [(x, .ref a)]) (KX : K.In s.heap) (hns : s.heap.Ns mainGlobals mg) (hb : s.heap.Ns builtinsNs mb) (hbb : ∀ x : Str, x ≠ "__name__" → mb x = bootBuiltins x) (hlim : s.heap.NoLimit)
    (ha : s.heap.get? a = some { cls := .type "list", data := .seq vs.toArray }) (hsp : sp [.ref a] H (fun v _ => v = .bl true) fun _ _ _ => False) (hok : HOk P w H s.heap) (only : ∀ b, H b = none ∨ (b = a ∧ K.lookup a = none ∧ ∃ o xs, H b = some (.frz o (.lst xs)))) :
    codeAny (model P w) callerA (.call (.ref fa) ⟨[.ref a], []⟩) (fun r s' => r = .ok (.ret (.bool true)) ∧ OldK s.heap s'.heap ∧ s'.os = s.os ∧ AllBare s'.gens) s := by
  have free : ∀ {b : Addr} {o : Obj} {m : Array DictEntry} {p : Nat}, s.heap.get? b = some o → o.data = .dict m p → H b = none := fun {b o m p} e d => (only b).elim id fun ⟨z, _⟩ => by
    rw [z, ha] at e
    cases e
    cases (show Data.seq vs.toArray _ = Data.dict m p from d)
  have ns : ∀ {b : Addr} {m : Str → Option Value}, s.heap.Ns b m → (hidT s.heap H).Ns b m := fun ⟨o, es, ep, e, d, r⟩ => ⟨o, es, ep, hidT_get e (free e d), d, r⟩
  have inK : K.In (hidT s.heap H) := fun b o e => hidT_get (KX b o e) ((only b).elim id fun ⟨z, n, _⟩ => by rw [z, n] at e; cases e)
  obtain ⟨mc, l1, l2⟩ := hlim
  have e0 : Env0 P w K mg (hidT s.heap H) callerA [] s H := ⟨rfl, ⟨inK, ns hns, ⟨mb, ns hb, hbb⟩, ⟨mc, ns l1, l2⟩⟩, fun _ _ e => of_hidT e, Nat.le_of_eq (hidT_size _ _), trivial, fun _ h => absurd (show _ ∈ ([] : List Addr) from h) (by simp), hok, .of_eq hg⟩
  refine codeAny_mono ((F _ inK (ns hns)).go callerA rfl hr [] s H ⟨[.ref a], []⟩ [.ref a] [.ref a] _ _ hsp (.cons rfl .nil) bind e0) fun r s' h => ?_
  match r, h with
  | .ok (.ret u), ⟨v, H', os, bare, un, hok', rv, q⟩ =>
    rw [show v = .bl true from q] at rv
    rw [show u = Value.bool true from rv]
    refine ⟨rfl, OldK.of_keep fun b o e => ?_, os, bare⟩
    rcases only b with z | ⟨_, _, ob, xs, z⟩
    · exact un.keep b o e z (fun y => by cases (show _ ∈ ([] : List Addr) from y)) (by simp)
    · have e1 := (hok b _ z).1
      rw [e] at e1
      cases e1
      exact (hok' b _ (un.frzs b _ _ z)).1
  | .ok .next, h => exact False.elim h
  | .ok .brk, h => exact False.elim h
  | .ok .cont, h => exact False.elim h
  | .error e, ⟨_, _, _, _, _, _, _, _, _, _, _, _, z⟩ => exact z.elim
theorem walk {l : PySem.W.OpenLaw} {n k i0 : Nat} {q : Program} {loose : List Str} {XP : (Str → Option Value) → Heap → Prop} {YP : World → Heap → Prop} {d : DefRec} {K : Params → PySem.W.Frag} {nm : Nm} {T : Nat → Option FD} {pn : Nat → List Str} {gl : Nat → D} {x : Str}
    (hn : l.most = some n) (hn2 : n ≤ sizeLine) (hdf : d.params.defaults = []) (hr : Room (k + 2) callerA)
    (hY : ∀ (w : World) (h : Heap), YP w h → (K w.params).In h) (hi : nm.fn i0 = some d.name) (hx : pn i0 = [x])
    (F : ∀ (w : World) (mg : Str → Option Value) (fa : Addr) (h : Heap), (K w.params).In h → h.Ns mainGlobals mg → mg d.name = some (.ref fa) → ∃ xc, Txt (K w.params) mg nm T pn gl xc)
    (law : ∀ ns : List Int, ns.length ≤ n → (∀ z ∈ ns, Builtin.Int.intBits z ≤ 1048576) → ∃ st, callF T gl k i0 [.d (.list (ns.map PyData.int))] [] = .ok (.d (.bool true)) st) :
    PySem.W.WalkO q loose XP YP l.row.toRowW d [] (fun f vs => PySem.call f vs) := by
  refine Att.attach_callB hn hdf fun w s₀ s mg mb fa o pm cd doc a vs ns G Y ho hd hcd hmg hobj hints hlen hbits hg => ?_
  have KX := hY w _ Y
  obtain ⟨xc, tx⟩ := F w mg fa _ KX G.T.g hmg
  obtain ⟨fd, N, ps, f, fdat, st, q1, q0, q2, q3, q4, q5, q6⟩ := tx.fns i0 _ hi
  rw [hx] at q0
  subst q0
  rw [hmg] at q2
  cases q2
  obtain ⟨sto, e⟩ := law ns hlen hbits
  have rv := L2.vals_ints hints
  have ln := hints.length
  have hsp : ∀ H : Hp, SqL (K w.params) H a (ns.map V.int) → spF (K w.params) xc 1 (callF T gl k i0) (frOf T i0) [.ref a] H (fun v _ => v = .bl true) fun _ _ _ => False := fun H hS => by
    have cl : Cells (K w.params) [] (fun _ => False) H [] := ⟨rfl, .nil, fun k x e => by simp at e, fun _ z => z.elim, fun _ z => by cases z⟩
    refine ⟨rfl, [], fun _ => False, [], [.d (.list (ns.map PyData.int))], cl, .cons (.lst (SqL.mono (fun a o e => msk_some.mpr ⟨fun z => z.elim (fun z => by cases z) id, e⟩) hS) DqAll.ints) .nil, ?_⟩
    rw [e]
    exact fun κ' H' v _ rp _ => Dq.bool_inv rp
  have run := fun (H : Hp) (hS : SqL (K w.params) H a (ns.map V.int)) => top_go (P := l.prog) (w := w) (mg := mg) (mb := mb) (x := x) (H := H) hr hg (fun base _ _ => all_ok tx k i0 fd N [x] d.name fa fdat st q1 q5 q6) (.of_eq (q4 [.ref a] rfl)) KX G.T.g G.T.b G.T.builtins G.T.nolimit hobj (hsp H hS)
  cases hk : (K w.params).lookup a with
  | some ob =>
    have eo := KX a ob hk
    rw [hobj] at eo
    cases eo
    exact run (fun _ => none) (.inr ⟨_, vs.toArray, _, hk, rfl, rfl, rfl, by rw [List.size_toArray]; omega, by simpa using rv⟩) (fun _ _ z => by cases z) fun _ => .inl rfl
  | none =>
    refine run (fun b => if b = a then some (.frz { cls := .type "list", data := .seq vs.toArray } (.lst (ns.map V.int))) else none) (.inl (.inr ⟨{ cls := .type "list", data := .seq vs.toArray }, if_pos rfl⟩)) (fun b u z => ?_) fun b => ?_
    · by_cases hb : b = a
      · subst hb
        have z' := (if_pos rfl).symm.trans z
        cases z'
        exact ⟨hobj, by rw [List.length_map]; omega, vs, _, rv, hobj⟩
      · have z' := (if_neg hb).symm.trans z
        cases z'
    · by_cases hb : b = a
      · exact .inr ⟨hb, hk, _, _, if_pos hb⟩
      · exact .inl (if_neg hb)
theorem bind_1 {fd : FuncData} {ps : List Str} (hp : ps.length = 1) (h : ∀ u0 : Value, bindArgs fd ⟨[u0], []⟩ = pure (ps.zip [u0])) : ∀ us : List Value, us.length = ps.length → bindArgs fd ⟨us, []⟩ = pure (ps.zip us) := fun us hl => by
  rw [hp] at hl
  match us, hl with
  | [u0], _ => exact h u0
theorem bind_2 {fd : FuncData} {ps : List Str} (hp : ps.length = 2) (h : ∀ u0 u1 : Value, bindArgs fd ⟨[u0, u1], []⟩ = pure (ps.zip [u0, u1])) : ∀ us : List Value, us.length = ps.length → bindArgs fd ⟨us, []⟩ = pure (ps.zip us) := fun us hl => by
  rw [hp] at hl
  match us, hl with
  | [u0, u1], _ => exact h u0 u1
theorem bind_3 {fd : FuncData} {ps : List Str} (hp : ps.length = 3) (h : ∀ u0 u1 u2 : Value, bindArgs fd ⟨[u0, u1, u2], []⟩ = pure (ps.zip [u0, u1, u2])) : ∀ us : List Value, us.length = ps.length → bindArgs fd ⟨us, []⟩ = pure (ps.zip us) := fun us hl => by
  rw [hp] at hl
  match us, hl with
  | [u0, u1, u2], _ => exact h u0 u1 u2
theorem bind_4 {fd : FuncData} {ps : List Str} (hp : ps.length = 4) (h : ∀ u0 u1 u2 u3 : Value, bindArgs fd ⟨[u0, u1, u2, u3], []⟩ = pure (ps.zip [u0, u1, u2, u3])) : ∀ us : List Value, us.length = ps.length → bindArgs fd ⟨us, []⟩ = pure (ps.zip us) := fun us hl => by
  rw [hp] at hl
  match us, hl with
  | [u0, u1, u2, u3], _ => exact h u0 u1 u2 u3
theorem bind_5 {fd : FuncData} {ps : List Str} (hp : ps.length = 5) (h : ∀ u0 u1 u2 u3 u4 : Value, bindArgs fd ⟨[u0, u1, u2, u3, u4], []⟩ = pure (ps.zip [u0, u1, u2, u3, u4])) : ∀ us : List Value, us.length = ps.length → bindArgs fd ⟨us, []⟩ = pure (ps.zip us) := fun us hl => by
  rw [hp] at hl
  match us, hl with
  | [u0, u1, u2, u3, u4], _ => exact h u0 u1 u2 u3 u4
theorem bind_6 {fd : FuncData} {ps : List Str} (hp : ps.length = 6) (h : ∀ u0 u1 u2 u3 u4 u5 : Value, bindArgs fd ⟨[u0, u1, u2, u3, u4, u5], []⟩ = pure (ps.zip [u0, u1, u2, u3, u4, u5])) : ∀ us : List Value, us.length = ps.length → bindArgs fd ⟨us, []⟩ = pure (ps.zip us) := fun us hl => by
  rw [hp] at hl
  match us, hl with
  | [u0, u1, u2, u3, u4, u5], _ => exact h u0 u1 u2 u3 u4 u5
theorem bind_7 {fd : FuncData} {ps : List Str} (hp : ps.length = 7) (h : ∀ u0 u1 u2 u3 u4 u5 u6 : Value, bindArgs fd ⟨[u0, u1, u2, u3, u4, u5, u6], []⟩ = pure (ps.zip [u0, u1, u2, u3, u4, u5, u6])) : ∀ us : List Value, us.length = ps.length → bindArgs fd ⟨us, []⟩ = pure (ps.zip us) := fun us hl => by
  rw [hp] at hl
  match us, hl with
  | [u0, u1, u2, u3, u4, u5, u6], _ => exact h u0 u1 u2 u3 u4 u5 u6
/-- a module constant -/
def GlOk (K : PySem.W.Frag) (mg : Str → Option Value) (gl : Nat → D) (g : Nat) (x : Str) : Prop := ∃ v u, mg x = some u ∧ RelV v u ∧ ∀ H, Dq K H v (gl g)
theorem GlOk.int {K : PySem.W.Frag} {mg : Str → Option Value} {h : Heap} {gl : Nat → D} {g : Nat} {x : Str} {i : Int} {t : Tok} (X : K.In h) (G : h.Ns mainGlobals mg) (e : gl g = .int i) (a : PySem.W.nsIn K mainGlobals x = some (some (.int i t))) : GlOk K mg gl g x :=
  ⟨.int i, .int i t, PySem.W.mg_of X G a, ⟨t, rfl⟩, fun H => by rw [e]; exact .int i⟩
theorem GlOk.str {K : PySem.W.Frag} {mg : Str → Option Value} {h : Heap} {gl : Nat → D} {g : Nat} {x : Str} {i : Str} {t : Tok} (X : K.In h) (G : h.Ns mainGlobals mg) (e : gl g = .str i) (a : PySem.W.nsIn K mainGlobals x = some (some (.str i t))) : GlOk K mg gl g x :=
  ⟨.str i, .str i t, PySem.W.mg_of X G a, ⟨t, rfl⟩, fun H => by rw [e]; exact .str i⟩
inductive Each (P : Nat → Str → Prop) : Nat → List Str → Prop
  | nil {k : Nat} : Each P k []
  | cons {k : Nat} {x : Str} {r : List Str} : P k x → Each P (k + 1) r → Each P k (x :: r)
theorem Each.at {P : Nat → Str → Prop} : ∀ {L : List Str} {k : Nat}, Each P k L → ∀ i x, L[i]? = some x → P (k + i) x
  | _, _, .nil, i, x, e => by simp at e
  | _, _, .cons h _, 0, x, e => by simp at e; subst e; exact h
  | _, k, .cons _ t, i + 1, x, e => by
    have q := Each.at t i x (by simpa using e)
    rw [show k + (i + 1) = k + 1 + i by omega]
    exact q
theorem each_of {P : Nat → Str → Prop} {L : List Str} (h : Each P 0 L) : ∀ i x, L[i]? = some x → P i x := fun i x e => by
  have q := h.at i x e
  rwa [Nat.zero_add] at q
inductive EachP (P : Nat → Str → Prop) : List (Nat × Str) → Prop
  | nil : EachP P []
  | cons {k : Nat} {x : Str} {r : List (Nat × Str)} : P k x → EachP P r → EachP P ((k, x) :: r)
theorem eachP_of {P : Nat → Str → Prop} : ∀ {L : List (Nat × Str)}, EachP P L → ∀ i x, L.lookup i = some x → P i x
  | _, .nil, i, x, e => by simp at e
  | _, .cons (k := k) h t, i, x, e => by
    rw [List.lookup_cons] at e
    by_cases z : i = k
    · subst z
      simp at e
      subst e
      exact h
    · rw [show (i == k) = false by simpa using z] at e
      exact eachP_of t i x e
theorem bl_of {mg : Str → Option Value} (h1 : mg "len" = none) (h2 : mg "tuple" = none) (h3 : mg "list" = none) (h4 : mg "sorted" = none) (h5 : mg "min" = none) (h6 : mg "max" = none) (h7 : mg "sum" = none) (h8 : mg "all" = none) (h9 : mg "any" = none) (h10 : mg "int" = none)
    (h11 : mg "bool" = none) (h12 : mg "str" = none) (h13 : mg "dict" = none) (h14 : mg "isinstance" = none) (h15 : mg "divmod" = none) (h16 : mg "set" = none) (h17 : mg "range" = none) (h18 : mg "enumerate" = none) (h19 : mg "zip" = none) (h20 : mg "repr" = none) (h21 : mg "ValueError" = none) : ∀ x ∈ bNames, mg x = none := fun x hx => by
  simp only [bNames, List.mem_cons, List.not_mem_nil, or_false] at hx
  rcases hx with rfl | rfl | rfl | rfl | rfl | rfl | rfl | rfl | rfl | rfl | rfl | rfl | rfl | rfl | rfl | rfl | rfl | rfl | rfl | rfl | rfl <;> assumption
/-! ### the exceptions' classes -/
def clL : List (Nat × Str) := [(0, "NoSet"), (1, "NoPlace"), (2, "NoMap"), (3, "NoPaper"), (4, "Apart"), (5, "NoRow"), (6, "NoWeb"), (7, "NoThrees"), (8, "NoText"), (9, "TooGreat"), (10, "SwitchError")]
def xcL (a0 a1 a2 a3 a4 a5 a6 a7 a8 a9 a10 : Addr) (c : Nat) : Addr := match c with
  | 0 => a0 | 1 => a1 | 2 => a2 | 3 => a3 | 4 => a4 | 5 => a5 | 6 => a6 | 7 => a7 | 8 => a8 | 9 => a9 | _ => a10
section
variable {K : PySem.W.Frag} {mg : Str → Option Value} {h : Heap} {a0 a1 a2 a3 a4 a5 a6 a7 a8 a9 a10 : Addr}
theorem cls_all (X : K.In h) (G : h.Ns mainGlobals mg) (h0 : PySem.W.nsIn K mainGlobals "NoSet" = some (some (.ref a0))) (h1 : PySem.W.nsIn K mainGlobals "NoPlace" = some (some (.ref a1))) (h2 : PySem.W.nsIn K mainGlobals "NoMap" = some (some (.ref a2))) (h3 : PySem.W.nsIn K mainGlobals "NoPaper" = some (some (.ref a3)))
    (h4 : PySem.W.nsIn K mainGlobals "Apart" = some (some (.ref a4))) (h5 : PySem.W.nsIn K mainGlobals "NoRow" = some (some (.ref a5))) (h6 : PySem.W.nsIn K mainGlobals "NoWeb" = some (some (.ref a6))) (h7 : PySem.W.nsIn K mainGlobals "NoThrees" = some (some (.ref a7))) (h8 : PySem.W.nsIn K mainGlobals "NoText" = some (some (.ref a8)))
    (h9 : PySem.W.nsIn K mainGlobals "TooGreat" = some (some (.ref a9))) (h10 : PySem.W.nsIn K mainGlobals "SwitchError" = some (some (.ref a10))) : ∀ c x, clL.lookup c = some x → mg x = some (.ref (xcL a0 a1 a2 a3 a4 a5 a6 a7 a8 a9 a10 c)) :=
  eachP_of (P := fun c x => mg x = some (.ref (xcL a0 a1 a2 a3 a4 a5 a6 a7 a8 a9 a10 c))) (.cons (PySem.W.mg_of X G h0) (.cons (PySem.W.mg_of X G h1) (.cons (PySem.W.mg_of X G h2) (.cons (PySem.W.mg_of X G h3) (.cons (PySem.W.mg_of X G h4) (.cons (PySem.W.mg_of X G h5) (.cons (PySem.W.mg_of X G h6) (.cons (PySem.W.mg_of X G h7) (.cons (PySem.W.mg_of X G h8) (.cons (PySem.W.mg_of X G h9) (.cons (PySem.W.mg_of X G h10) .nil)))))))))))
/-- what isinstance asks of the classes -/
structure ClsT (K : PySem.W.Frag) (a : Addr) : Prop where
  c : PySem.W.isClsIn K a = true
  t : PySem.W.typeIn K (.ref a) = some (.type "type")
theorem kit_of {D a : Addr} {b : Bool} (T : ClsT K a) (hs : PySem.W.subIn K (.ref D) (.ref D) = some true) (h : PySem.W.subIn K (.ref D) (.ref a) = some b) : PySem.W.kitOne K (.ref D) (.ref a) = some b := by
  unfold PySem.W.kitOne
  by_cases z : D = a
  · subst z
    rw [hs] at h
    cases h
    rw [if_pos (by simp)]
  · rw [if_neg (by simpa using z)]
    show (if ((PySem.W.clsIn K a).isSome && PySem.W.typeIn K (.ref a) == some (.type "type")) = true then PySem.W.subIn K (.ref D) (.ref a) else none) = some b
    rw [if_pos (by rw [show (PySem.W.clsIn K a).isSome = true from T.c, T.t]; rfl)]
    exact h
theorem kit_ve {D : Addr} (h : PySem.W.subIn K (.ref D) (.type "ValueError") = some true) : PySem.W.kitOne K (.ref D) (.type "ValueError") = some true := by
  show (if ((Value.ref D == Value.type "ValueError") = true) then some true else PySem.W.kitCls K (.ref D) (.type "ValueError")) = some true
  rw [if_neg (by simp)]
  show (if PySem.W.kitMeta "ValueError" = true then PySem.W.subIn K (.ref D) (.type "ValueError") else none) = some true
  rw [if_pos (by decide +kernel)]
  exact h
theorem XCls.mk2 {c : Nat} (T0 : ClsT K a0) (T1 : ClsT K a1) (T2 : ClsT K a2) (T3 : ClsT K a3) (T4 : ClsT K a4) (T5 : ClsT K a5) (T6 : ClsT K a6) (T7 : ClsT K a7) (T8 : ClsT K a8) (T9 : ClsT K a9) (T10 : ClsT K a10) {D : Addr} (hc : c < 10) (e : xcL a0 a1 a2 a3 a4 a5 a6 a7 a8 a9 a10 c = D)
    (kp : PySem.W.keepIn K (.ref D) = true) (bs : PySem.W.subIn K (.ref D) (.type "BaseException") = some true) (ty : PySem.W.typeIn K (.ref D) = some (.type "type"))
    (hg : PySem.W.findIn K (.ref D) "__getattribute__" = some (some (.builtin "BaseException.__getattribute__"))) (hk : PySem.W.findIn K (.ref D) "__getattr__" = some none) (hd : PySem.W.hasDictIn K D = true) (ha : PySem.W.findIn K (.ref D) "__class__" = some (some (.builtin "object.__class__")))
    (hn : PySem.W.specialIn K (.builtin "object.__class__") "__get__" = some (some (.builtin "getset_descriptor.__get__"))) (ht : PySem.W.takesIn K (.builtin "object.__class__") = some true) (hm : PySem.W.mroIn K D (.type "object") = some true)
    (f0 : PySem.W.findIn K (.ref D) "at" = some none) (f1 : PySem.W.findIn K (.ref D) "wrong" = some none) (f2 : PySem.W.findIn K (.ref D) "many" = some none) (f3 : PySem.W.findIn K (.ref D) "most" = some none)
    (s0 : PySem.W.subIn K (.ref D) (.ref a0) = some (decide (c = 0))) (s1 : PySem.W.subIn K (.ref D) (.ref a1) = some (decide (c = 1))) (s2 : PySem.W.subIn K (.ref D) (.ref a2) = some (decide (c = 2))) (s3 : PySem.W.subIn K (.ref D) (.ref a3) = some (decide (c = 3))) (s4 : PySem.W.subIn K (.ref D) (.ref a4) = some (decide (c = 4)))
    (s5 : PySem.W.subIn K (.ref D) (.ref a5) = some (decide (c = 5))) (s6 : PySem.W.subIn K (.ref D) (.ref a6) = some (decide (c = 6))) (s7 : PySem.W.subIn K (.ref D) (.ref a7) = some (decide (c = 7))) (s8 : PySem.W.subIn K (.ref D) (.ref a8) = some (decide (c = 8))) (s9 : PySem.W.subIn K (.ref D) (.ref a9) = some (decide (c = 9)))
    (s10 : PySem.W.subIn K (.ref D) (.ref a10) = some true) (b10 : PySem.W.subIn K (.ref a10) (.type "BaseException") = some true) (v : PySem.W.subIn K (.ref D) (.type "ValueError") = some true) : XCls K (xcL a0 a1 a2 a3 a4 a5 a6 a7 a8 a9 a10) c := by
  have self : PySem.W.subIn K (.ref D) (.ref D) = some true := by
    have hh : c = 0 ∨ c = 1 ∨ c = 2 ∨ c = 3 ∨ c = 4 ∨ c = 5 ∨ c = 6 ∨ c = 7 ∨ c = 8 ∨ c = 9 := by omega
    rcases hh with rfl | rfl | rfl | rfl | rfl | rfl | rfl | rfl | rfl | rfl <;> (simp only [xcL] at e; subst e; assumption)
  refine ⟨by rw [e]; exact kp, by rw [e]; exact bs, by rw [e]; exact ty, by rw [e]; exact ⟨hg, hk, bs, hd, ha, hn, ht, hm⟩, fun C hC => ?_, ?_, ?_⟩
  · rw [e]
    have hh : C = 0 ∨ C = 1 ∨ C = 2 ∨ C = 3 ∨ C = 4 ∨ C = 5 ∨ C = 6 ∨ C = 7 ∨ C = 8 ∨ C = 9 ∨ C = 10 ∨ C = 11 := by omega
    have hx : ∀ C, C < 10 → xsub c C = decide (c = C) := fun C h => by
      unfold xsub
      have : ¬ 10 ≤ C := by omega
      simp [this]
    rcases hh with rfl | rfl | rfl | rfl | rfl | rfl | rfl | rfl | rfl | rfl | rfl | rfl
    · rw [hx _ (by omega)]; exact kit_of T0 self s0
    · rw [hx _ (by omega)]; exact kit_of T1 self s1
    · rw [hx _ (by omega)]; exact kit_of T2 self s2
    · rw [hx _ (by omega)]; exact kit_of T3 self s3
    · rw [hx _ (by omega)]; exact kit_of T4 self s4
    · rw [hx _ (by omega)]; exact kit_of T5 self s5
    · rw [hx _ (by omega)]; exact kit_of T6 self s6
    · rw [hx _ (by omega)]; exact kit_of T7 self s7
    · rw [hx _ (by omega)]; exact kit_of T8 self s8
    · rw [hx _ (by omega)]; exact kit_of T9 self s9
    · have : xsub c 10 = true := by simp [xsub]
      rw [this]; exact kit_of T10 self s10
    · have : xsub c 11 = true := by simp [xsub]
      rw [this]; exact kit_ve v
  · rw [e]
    have e1 : (PySem.W.subIn K (.ref a10) (.type "BaseException") == some true) = true := by rw [b10] <;> rfl
    have e2 : ((PySem.W.clsIn K a10).isSome && PySem.W.typeIn K (.ref a10) == some (.type "type")) = true := by
      rw [show (PySem.W.clsIn K a10).isSome = true from T10.c, T10.t]; rfl
    show (if (PySem.W.subIn K (.ref a10) (.type "BaseException") == some true) = true then (if ((PySem.W.clsIn K a10).isSome && PySem.W.typeIn K (.ref a10) == some (.type "type")) = true then PySem.W.subIn K (.ref D) (.ref a10) else none) else none) = some true
    rw [if_pos e1, if_pos e2]
    exact s10
  · intro f hf
    rw [e]
    simp only [xatN, List.mem_cons, List.not_mem_nil, or_false] at hf
    rcases hf with rfl | rfl | rfl | rfl <;> assumption
/-- the classes lie where the names say -/
structure ClsAll (K : PySem.W.Frag) (mg : Str → Option Value) (a0 a1 a2 a3 a4 a5 a6 a7 a8 a9 a10 : Addr) : Prop where
  N : ∀ c x, clL.lookup c = some x → mg x = some (.ref (xcL a0 a1 a2 a3 a4 a5 a6 a7 a8 a9 a10 c))
  T0 : ClsT K a0
  T1 : ClsT K a1
  T2 : ClsT K a2
  T3 : ClsT K a3
  T4 : ClsT K a4
  T5 : ClsT K a5
  T6 : ClsT K a6
  T7 : ClsT K a7
  T8 : ClsT K a8
  T9 : ClsT K a9
  T10 : ClsT K a10
  b : PySem.W.subIn K (.ref a10) (.type "BaseException") = some true
theorem ClsAll.mk2 (X : K.In h) (G : h.Ns mainGlobals mg) (h0 : PySem.W.nsIn K mainGlobals "NoSet" = some (some (.ref a0))) (h1 : PySem.W.nsIn K mainGlobals "NoPlace" = some (some (.ref a1))) (h2 : PySem.W.nsIn K mainGlobals "NoMap" = some (some (.ref a2))) (h3 : PySem.W.nsIn K mainGlobals "NoPaper" = some (some (.ref a3))) (h4 : PySem.W.nsIn K mainGlobals "Apart" = some (some (.ref a4))) (h5 : PySem.W.nsIn K mainGlobals "NoRow" = some (some (.ref a5))) (h6 : PySem.W.nsIn K mainGlobals "NoWeb" = some (some (.ref a6))) (h7 : PySem.W.nsIn K mainGlobals "NoThrees" = some (some (.ref a7))) (h8 : PySem.W.nsIn K mainGlobals "NoText" = some (some (.ref a8))) (h9 : PySem.W.nsIn K mainGlobals "TooGreat" = some (some (.ref a9))) (h10 : PySem.W.nsIn K mainGlobals "SwitchError" = some (some (.ref a10))) (c0 : PySem.W.isClsIn K a0 = true) (t0 : PySem.W.typeIn K (.ref a0) = some (.type "type")) (c1 : PySem.W.isClsIn K a1 = true) (t1 : PySem.W.typeIn K (.ref a1) = some (.type "type")) (c2 : PySem.W.isClsIn K a2 = true) (t2 : PySem.W.typeIn K (.ref a2) = some (.type "type")) (c3 : PySem.W.isClsIn K a3 = true) (t3 : PySem.W.typeIn K (.ref a3) = some (.type "type")) (c4 : PySem.W.isClsIn K a4 = true) (t4 : PySem.W.typeIn K (.ref a4) = some (.type "type")) (c5 : PySem.W.isClsIn K a5 = true) (t5 : PySem.W.typeIn K (.ref a5) = some (.type "type")) (c6 : PySem.W.isClsIn K a6 = true) (t6 : PySem.W.typeIn K (.ref a6) = some (.type "type")) (c7 : PySem.W.isClsIn K a7 = true) (t7 : PySem.W.typeIn K (.ref a7) = some (.type "type")) (c8 : PySem.W.isClsIn K a8 = true) (t8 : PySem.W.typeIn K (.ref a8) = some (.type "type")) (c9 : PySem.W.isClsIn K a9 = true) (t9 : PySem.W.typeIn K (.ref a9) = some (.type "type")) (c10 : PySem.W.isClsIn K a10 = true) (t10 : PySem.W.typeIn K (.ref a10) = some (.type "type")) (b10 : PySem.W.subIn K (.ref a10) (.type "BaseException") = some true) : ClsAll K mg a0 a1 a2 a3 a4 a5 a6 a7 a8 a9 a10 :=
  ⟨cls_all X G h0 h1 h2 h3 h4 h5 h6 h7 h8 h9 h10, ⟨c0, t0⟩, ⟨c1, t1⟩, ⟨c2, t2⟩, ⟨c3, t3⟩, ⟨c4, t4⟩, ⟨c5, t5⟩, ⟨c6, t6⟩, ⟨c7, t7⟩, ⟨c8, t8⟩, ⟨c9, t9⟩, ⟨c10, t10⟩, b10⟩
theorem ClsAll.ex {nm : Nm} {T : Nat → Option FD} {pn : Nat → List Str} {gl : Nat → D} (TT : ClsAll K mg a0 a1 a2 a3 a4 a5 a6 a7 a8 a9 a10) (t : Txt K mg nm T pn gl (xcL a0 a1 a2 a3 a4 a5 a6 a7 a8 a9 a10)) : ∃ xc, Txt K mg nm T pn gl xc := ⟨_, t⟩
theorem ClsAll.x0 (TT : ClsAll K mg a0 a1 a2 a3 a4 a5 a6 a7 a8 a9 a10)
    (kp : PySem.W.keepIn K (.ref a0) = true) (bs : PySem.W.subIn K (.ref a0) (.type "BaseException") = some true) (ty : PySem.W.typeIn K (.ref a0) = some (.type "type")) (hg : PySem.W.findIn K (.ref a0) "__getattribute__" = some (some (.builtin "BaseException.__getattribute__"))) (hk : PySem.W.findIn K (.ref a0) "__getattr__" = some none) (hd : PySem.W.hasDictIn K a0 = true) (ha : PySem.W.findIn K (.ref a0) "__class__" = some (some (.builtin "object.__class__")))
    (hn : PySem.W.specialIn K (.builtin "object.__class__") "__get__" = some (some (.builtin "getset_descriptor.__get__"))) (ht : PySem.W.takesIn K (.builtin "object.__class__") = some true) (hm : PySem.W.mroIn K a0 (.type "object") = some true) (f0 : PySem.W.findIn K (.ref a0) "at" = some none) (f1 : PySem.W.findIn K (.ref a0) "wrong" = some none) (f2 : PySem.W.findIn K (.ref a0) "many" = some none) (f3 : PySem.W.findIn K (.ref a0) "most" = some none)
    (s0 : PySem.W.subIn K (.ref a0) (.ref a0) = some true) (s1 : PySem.W.subIn K (.ref a0) (.ref a1) = some false) (s2 : PySem.W.subIn K (.ref a0) (.ref a2) = some false) (s3 : PySem.W.subIn K (.ref a0) (.ref a3) = some false) (s4 : PySem.W.subIn K (.ref a0) (.ref a4) = some false) (s5 : PySem.W.subIn K (.ref a0) (.ref a5) = some false) (s6 : PySem.W.subIn K (.ref a0) (.ref a6) = some false) (s7 : PySem.W.subIn K (.ref a0) (.ref a7) = some false) (s8 : PySem.W.subIn K (.ref a0) (.ref a8) = some false) (s9 : PySem.W.subIn K (.ref a0) (.ref a9) = some false) (s10 : PySem.W.subIn K (.ref a0) (.ref a10) = some true) (v : PySem.W.subIn K (.ref a0) (.type "ValueError") = some true) : XCls K (xcL a0 a1 a2 a3 a4 a5 a6 a7 a8 a9 a10) 0 :=
  XCls.mk2 (c := 0) (D := a0) TT.T0 TT.T1 TT.T2 TT.T3 TT.T4 TT.T5 TT.T6 TT.T7 TT.T8 TT.T9 TT.T10 (by omega) rfl kp bs ty hg hk hd ha hn ht hm f0 f1 f2 f3 s0 s1 s2 s3 s4 s5 s6 s7 s8 s9 s10 TT.b v
theorem ClsAll.x1 (TT : ClsAll K mg a0 a1 a2 a3 a4 a5 a6 a7 a8 a9 a10)
    (kp : PySem.W.keepIn K (.ref a1) = true) (bs : PySem.W.subIn K (.ref a1) (.type "BaseException") = some true) (ty : PySem.W.typeIn K (.ref a1) = some (.type "type")) (hg : PySem.W.findIn K (.ref a1) "__getattribute__" = some (some (.builtin "BaseException.__getattribute__"))) (hk : PySem.W.findIn K (.ref a1) "__getattr__" = some none) (hd : PySem.W.hasDictIn K a1 = true) (ha : PySem.W.findIn K (.ref a1) "__class__" = some (some (.builtin "object.__class__")))
    (hn : PySem.W.specialIn K (.builtin "object.__class__") "__get__" = some (some (.builtin "getset_descriptor.__get__"))) (ht : PySem.W.takesIn K (.builtin "object.__class__") = some true) (hm : PySem.W.mroIn K a1 (.type "object") = some true) (f0 : PySem.W.findIn K (.ref a1) "at" = some none) (f1 : PySem.W.findIn K (.ref a1) "wrong" = some none) (f2 : PySem.W.findIn K (.ref a1) "many" = some none) (f3 : PySem.W.findIn K (.ref a1) "most" = some none)
    (s0 : PySem.W.subIn K (.ref a1) (.ref a0) = some false) (s1 : PySem.W.subIn K (.ref a1) (.ref a1) = some true) (s2 : PySem.W.subIn K (.ref a1) (.ref a2) = some false) (s3 : PySem.W.subIn K (.ref a1) (.ref a3) = some false) (s4 : PySem.W.subIn K (.ref a1) (.ref a4) = some false) (s5 : PySem.W.subIn K (.ref a1) (.ref a5) = some false) (s6 : PySem.W.subIn K (.ref a1) (.ref a6) = some false) (s7 : PySem.W.subIn K (.ref a1) (.ref a7) = some false) (s8 : PySem.W.subIn K (.ref a1) (.ref a8) = some false) (s9 : PySem.W.subIn K (.ref a1) (.ref a9) = some false) (s10 : PySem.W.subIn K (.ref a1) (.ref a10) = some true) (v : PySem.W.subIn K (.ref a1) (.type "ValueError") = some true) : XCls K (xcL a0 a1 a2 a3 a4 a5 a6 a7 a8 a9 a10) 1 :=
  XCls.mk2 (c := 1) (D := a1) TT.T0 TT.T1 TT.T2 TT.T3 TT.T4 TT.T5 TT.T6 TT.T7 TT.T8 TT.T9 TT.T10 (by omega) rfl kp bs ty hg hk hd ha hn ht hm f0 f1 f2 f3 s0 s1 s2 s3 s4 s5 s6 s7 s8 s9 s10 TT.b v
theorem ClsAll.x2 (TT : ClsAll K mg a0 a1 a2 a3 a4 a5 a6 a7 a8 a9 a10)
    (kp : PySem.W.keepIn K (.ref a2) = true) (bs : PySem.W.subIn K (.ref a2) (.type "BaseException") = some true) (ty : PySem.W.typeIn K (.ref a2) = some (.type "type")) (hg : PySem.W.findIn K (.ref a2) "__getattribute__" = some (some (.builtin "BaseException.__getattribute__"))) (hk : PySem.W.findIn K (.ref a2) "__getattr__" = some none) (hd : PySem.W.hasDictIn K a2 = true) (ha : PySem.W.findIn K (.ref a2) "__class__" = some (some (.builtin "object.__class__")))
    (hn : PySem.W.specialIn K (.builtin "object.__class__") "__get__" = some (some (.builtin "getset_descriptor.__get__"))) (ht : PySem.W.takesIn K (.builtin "object.__class__") = some true) (hm : PySem.W.mroIn K a2 (.type "object") = some true) (f0 : PySem.W.findIn K (.ref a2) "at" = some none) (f1 : PySem.W.findIn K (.ref a2) "wrong" = some none) (f2 : PySem.W.findIn K (.ref a2) "many" = some none) (f3 : PySem.W.findIn K (.ref a2) "most" = some none)
    (s0 : PySem.W.subIn K (.ref a2) (.ref a0) = some false) (s1 : PySem.W.subIn K (.ref a2) (.ref a1) = some false) (s2 : PySem.W.subIn K (.ref a2) (.ref a2) = some true) (s3 : PySem.W.subIn K (.ref a2) (.ref a3) = some false) (s4 : PySem.W.subIn K (.ref a2) (.ref a4) = some false) (s5 : PySem.W.subIn K (.ref a2) (.ref a5) = some false) (s6 : PySem.W.subIn K (.ref a2) (.ref a6) = some false) (s7 : PySem.W.subIn K (.ref a2) (.ref a7) = some false) (s8 : PySem.W.subIn K (.ref a2) (.ref a8) = some false) (s9 : PySem.W.subIn K (.ref a2) (.ref a9) = some false) (s10 : PySem.W.subIn K (.ref a2) (.ref a10) = some true) (v : PySem.W.subIn K (.ref a2) (.type "ValueError") = some true) : XCls K (xcL a0 a1 a2 a3 a4 a5 a6 a7 a8 a9 a10) 2 :=
  XCls.mk2 (c := 2) (D := a2) TT.T0 TT.T1 TT.T2 TT.T3 TT.T4 TT.T5 TT.T6 TT.T7 TT.T8 TT.T9 TT.T10 (by omega) rfl kp bs ty hg hk hd ha hn ht hm f0 f1 f2 f3 s0 s1 s2 s3 s4 s5 s6 s7 s8 s9 s10 TT.b v
theorem ClsAll.x3 (TT : ClsAll K mg a0 a1 a2 a3 a4 a5 a6 a7 a8 a9 a10)
    (kp : PySem.W.keepIn K (.ref a3) = true) (bs : PySem.W.subIn K (.ref a3) (.type "BaseException") = some true) (ty : PySem.W.typeIn K (.ref a3) = some (.type "type")) (hg : PySem.W.findIn K (.ref a3) "__getattribute__" = some (some (.builtin "BaseException.__getattribute__"))) (hk : PySem.W.findIn K (.ref a3) "__getattr__" = some none) (hd : PySem.W.hasDictIn K a3 = true) (ha : PySem.W.findIn K (.ref a3) "__class__" = some (some (.builtin "object.__class__")))
    (hn : PySem.W.specialIn K (.builtin "object.__class__") "__get__" = some (some (.builtin "getset_descriptor.__get__"))) (ht : PySem.W.takesIn K (.builtin "object.__class__") = some true) (hm : PySem.W.mroIn K a3 (.type "object") = some true) (f0 : PySem.W.findIn K (.ref a3) "at" = some none) (f1 : PySem.W.findIn K (.ref a3) "wrong" = some none) (f2 : PySem.W.findIn K (.ref a3) "many" = some none) (f3 : PySem.W.findIn K (.ref a3) "most" = some none)
    (s0 : PySem.W.subIn K (.ref a3) (.ref a0) = some false) (s1 : PySem.W.subIn K (.ref a3) (.ref a1) = some false) (s2 : PySem.W.subIn K (.ref a3) (.ref a2) = some false) (s3 : PySem.W.subIn K (.ref a3) (.ref a3) = some true) (s4 : PySem.W.subIn K (.ref a3) (.ref a4) = some false) (s5 : PySem.W.subIn K (.ref a3) (.ref a5) = some false) (s6 : PySem.W.subIn K (.ref a3) (.ref a6) = some false) (s7 : PySem.W.subIn K (.ref a3) (.ref a7) = some false) (s8 : PySem.W.subIn K (.ref a3) (.ref a8) = some false) (s9 : PySem.W.subIn K (.ref a3) (.ref a9) = some false) (s10 : PySem.W.subIn K (.ref a3) (.ref a10) = some true) (v : PySem.W.subIn K (.ref a3) (.type "ValueError") = some true) : XCls K (xcL a0 a1 a2 a3 a4 a5 a6 a7 a8 a9 a10) 3 :=
  XCls.mk2 (c := 3) (D := a3) TT.T0 TT.T1 TT.T2 TT.T3 TT.T4 TT.T5 TT.T6 TT.T7 TT.T8 TT.T9 TT.T10 (by omega) rfl kp bs ty hg hk hd ha hn ht hm f0 f1 f2 f3 s0 s1 s2 s3 s4 s5 s6 s7 s8 s9 s10 TT.b v
theorem ClsAll.x4 (TT : ClsAll K mg a0 a1 a2 a3 a4 a5 a6 a7 a8 a9 a10)
    (kp : PySem.W.keepIn K (.ref a4) = true) (bs : PySem.W.subIn K (.ref a4) (.type "BaseException") = some true) (ty : PySem.W.typeIn K (.ref a4) = some (.type "type")) (hg : PySem.W.findIn K (.ref a4) "__getattribute__" = some (some (.builtin "BaseException.__getattribute__"))) (hk : PySem.W.findIn K (.ref a4) "__getattr__" = some none) (hd : PySem.W.hasDictIn K a4 = true) (ha : PySem.W.findIn K (.ref a4) "__class__" = some (some (.builtin "object.__class__")))
    (hn : PySem.W.specialIn K (.builtin "object.__class__") "__get__" = some (some (.builtin "getset_descriptor.__get__"))) (ht : PySem.W.takesIn K (.builtin "object.__class__") = some true) (hm : PySem.W.mroIn K a4 (.type "object") = some true) (f0 : PySem.W.findIn K (.ref a4) "at" = some none) (f1 : PySem.W.findIn K (.ref a4) "wrong" = some none) (f2 : PySem.W.findIn K (.ref a4) "many" = some none) (f3 : PySem.W.findIn K (.ref a4) "most" = some none)
    (s0 : PySem.W.subIn K (.ref a4) (.ref a0) = some false) (s1 : PySem.W.subIn K (.ref a4) (.ref a1) = some false) (s2 : PySem.W.subIn K (.ref a4) (.ref a2) = some false) (s3 : PySem.W.subIn K (.ref a4) (.ref a3) = some false) (s4 : PySem.W.subIn K (.ref a4) (.ref a4) = some true) (s5 : PySem.W.subIn K (.ref a4) (.ref a5) = some false) (s6 : PySem.W.subIn K (.ref a4) (.ref a6) = some false) (s7 : PySem.W.subIn K (.ref a4) (.ref a7) = some false) (s8 : PySem.W.subIn K (.ref a4) (.ref a8) = some false) (s9 : PySem.W.subIn K (.ref a4) (.ref a9) = some false) (s10 : PySem.W.subIn K (.ref a4) (.ref a10) = some true) (v : PySem.W.subIn K (.ref a4) (.type "ValueError") = some true) : XCls K (xcL a0 a1 a2 a3 a4 a5 a6 a7 a8 a9 a10) 4 :=
  XCls.mk2 (c := 4) (D := a4) TT.T0 TT.T1 TT.T2 TT.T3 TT.T4 TT.T5 TT.T6 TT.T7 TT.T8 TT.T9 TT.T10 (by omega) rfl kp bs ty hg hk hd ha hn ht hm f0 f1 f2 f3 s0 s1 s2 s3 s4 s5 s6 s7 s8 s9 s10 TT.b v
theorem ClsAll.x5 (TT : ClsAll K mg a0 a1 a2 a3 a4 a5 a6 a7 a8 a9 a10)
    (kp : PySem.W.keepIn K (.ref a5) = true) (bs : PySem.W.subIn K (.ref a5) (.type "BaseException") = some true) (ty : PySem.W.typeIn K (.ref a5) = some (.type "type")) (hg : PySem.W.findIn K (.ref a5) "__getattribute__" = some (some (.builtin "BaseException.__getattribute__"))) (hk : PySem.W.findIn K (.ref a5) "__getattr__" = some none) (hd : PySem.W.hasDictIn K a5 = true) (ha : PySem.W.findIn K (.ref a5) "__class__" = some (some (.builtin "object.__class__")))
    (hn : PySem.W.specialIn K (.builtin "object.__class__") "__get__" = some (some (.builtin "getset_descriptor.__get__"))) (ht : PySem.W.takesIn K (.builtin "object.__class__") = some true) (hm : PySem.W.mroIn K a5 (.type "object") = some true) (f0 : PySem.W.findIn K (.ref a5) "at" = some none) (f1 : PySem.W.findIn K (.ref a5) "wrong" = some none) (f2 : PySem.W.findIn K (.ref a5) "many" = some none) (f3 : PySem.W.findIn K (.ref a5) "most" = some none)
    (s0 : PySem.W.subIn K (.ref a5) (.ref a0) = some false) (s1 : PySem.W.subIn K (.ref a5) (.ref a1) = some false) (s2 : PySem.W.subIn K (.ref a5) (.ref a2) = some false) (s3 : PySem.W.subIn K (.ref a5) (.ref a3) = some false) (s4 : PySem.W.subIn K (.ref a5) (.ref a4) = some false) (s5 : PySem.W.subIn K (.ref a5) (.ref a5) = some true) (s6 : PySem.W.subIn K (.ref a5) (.ref a6) = some false) (s7 : PySem.W.subIn K (.ref a5) (.ref a7) = some false) (s8 : PySem.W.subIn K (.ref a5) (.ref a8) = some false) (s9 : PySem.W.subIn K (.ref a5) (.ref a9) = some false) (s10 : PySem.W.subIn K (.ref a5) (.ref a10) = some true) (v : PySem.W.subIn K (.ref a5) (.type "ValueError") = some true) : XCls K (xcL a0 a1 a2 a3 a4 a5 a6 a7 a8 a9 a10) 5 :=
  XCls.mk2 (c := 5) (D := a5) TT.T0 TT.T1 TT.T2 TT.T3 TT.T4 TT.T5 TT.T6 TT.T7 TT.T8 TT.T9 TT.T10 (by omega) rfl kp bs ty hg hk hd ha hn ht hm f0 f1 f2 f3 s0 s1 s2 s3 s4 s5 s6 s7 s8 s9 s10 TT.b v
theorem ClsAll.x6 (TT : ClsAll K mg a0 a1 a2 a3 a4 a5 a6 a7 a8 a9 a10)
    (kp : PySem.W.keepIn K (.ref a6) = true) (bs : PySem.W.subIn K (.ref a6) (.type "BaseException") = some true) (ty : PySem.W.typeIn K (.ref a6) = some (.type "type")) (hg : PySem.W.findIn K (.ref a6) "__getattribute__" = some (some (.builtin "BaseException.__getattribute__"))) (hk : PySem.W.findIn K (.ref a6) "__getattr__" = some none) (hd : PySem.W.hasDictIn K a6 = true) (ha : PySem.W.findIn K (.ref a6) "__class__" = some (some (.builtin "object.__class__")))
    (hn : PySem.W.specialIn K (.builtin "object.__class__") "__get__" = some (some (.builtin "getset_descriptor.__get__"))) (ht : PySem.W.takesIn K (.builtin "object.__class__") = some true) (hm : PySem.W.mroIn K a6 (.type "object") = some true) (f0 : PySem.W.findIn K (.ref a6) "at" = some none) (f1 : PySem.W.findIn K (.ref a6) "wrong" = some none) (f2 : PySem.W.findIn K (.ref a6) "many" = some none) (f3 : PySem.W.findIn K (.ref a6) "most" = some none)
    (s0 : PySem.W.subIn K (.ref a6) (.ref a0) = some false) (s1 : PySem.W.subIn K (.ref a6) (.ref a1) = some false) (s2 : PySem.W.subIn K (.ref a6) (.ref a2) = some false) (s3 : PySem.W.subIn K (.ref a6) (.ref a3) = some false) (s4 : PySem.W.subIn K (.ref a6) (.ref a4) = some false) (s5 : PySem.W.subIn K (.ref a6) (.ref a5) = some false) (s6 : PySem.W.subIn K (.ref a6) (.ref a6) = some true) (s7 : PySem.W.subIn K (.ref a6) (.ref a7) = some false) (s8 : PySem.W.subIn K (.ref a6) (.ref a8) = some false) (s9 : PySem.W.subIn K (.ref a6) (.ref a9) = some false) (s10 : PySem.W.subIn K (.ref a6) (.ref a10) = some true) (v : PySem.W.subIn K (.ref a6) (.type "ValueError") = some true) : XCls K (xcL a0 a1 a2 a3 a4 a5 a6 a7 a8 a9 a10) 6 :=
  XCls.mk2 (c := 6) (D := a6) TT.T0 TT.T1 TT.T2 TT.T3 TT.T4 TT.T5 TT.T6 TT.T7 TT.T8 TT.T9 TT.T10 (by omega) rfl kp bs ty hg hk hd ha hn ht hm f0 f1 f2 f3 s0 s1 s2 s3 s4 s5 s6 s7 s8 s9 s10 TT.b v
theorem ClsAll.x7 (TT : ClsAll K mg a0 a1 a2 a3 a4 a5 a6 a7 a8 a9 a10)
    (kp : PySem.W.keepIn K (.ref a7) = true) (bs : PySem.W.subIn K (.ref a7) (.type "BaseException") = some true) (ty : PySem.W.typeIn K (.ref a7) = some (.type "type")) (hg : PySem.W.findIn K (.ref a7) "__getattribute__" = some (some (.builtin "BaseException.__getattribute__"))) (hk : PySem.W.findIn K (.ref a7) "__getattr__" = some none) (hd : PySem.W.hasDictIn K a7 = true) (ha : PySem.W.findIn K (.ref a7) "__class__" = some (some (.builtin "object.__class__")))
    (hn : PySem.W.specialIn K (.builtin "object.__class__") "__get__" = some (some (.builtin "getset_descriptor.__get__"))) (ht : PySem.W.takesIn K (.builtin "object.__class__") = some true) (hm : PySem.W.mroIn K a7 (.type "object") = some true) (f0 : PySem.W.findIn K (.ref a7) "at" = some none) (f1 : PySem.W.findIn K (.ref a7) "wrong" = some none) (f2 : PySem.W.findIn K (.ref a7) "many" = some none) (f3 : PySem.W.findIn K (.ref a7) "most" = some none)
    (s0 : PySem.W.subIn K (.ref a7) (.ref a0) = some false) (s1 : PySem.W.subIn K (.ref a7) (.ref a1) = some false) (s2 : PySem.W.subIn K (.ref a7) (.ref a2) = some false) (s3 : PySem.W.subIn K (.ref a7) (.ref a3) = some false) (s4 : PySem.W.subIn K (.ref a7) (.ref a4) = some false) (s5 : PySem.W.subIn K (.ref a7) (.ref a5) = some false) (s6 : PySem.W.subIn K (.ref a7) (.ref a6) = some false) (s7 : PySem.W.subIn K (.ref a7) (.ref a7) = some true) (s8 : PySem.W.subIn K (.ref a7) (.ref a8) = some false) (s9 : PySem.W.subIn K (.ref a7) (.ref a9) = some false) (s10 : PySem.W.subIn K (.ref a7) (.ref a10) = some true) (v : PySem.W.subIn K (.ref a7) (.type "ValueError") = some true) : XCls K (xcL a0 a1 a2 a3 a4 a5 a6 a7 a8 a9 a10) 7 :=
  XCls.mk2 (c := 7) (D := a7) TT.T0 TT.T1 TT.T2 TT.T3 TT.T4 TT.T5 TT.T6 TT.T7 TT.T8 TT.T9 TT.T10 (by omega) rfl kp bs ty hg hk hd ha hn ht hm f0 f1 f2 f3 s0 s1 s2 s3 s4 s5 s6 s7 s8 s9 s10 TT.b v
theorem ClsAll.x8 (TT : ClsAll K mg a0 a1 a2 a3 a4 a5 a6 a7 a8 a9 a10)
    (kp : PySem.W.keepIn K (.ref a8) = true) (bs : PySem.W.subIn K (.ref a8) (.type "BaseException") = some true) (ty : PySem.W.typeIn K (.ref a8) = some (.type "type")) (hg : PySem.W.findIn K (.ref a8) "__getattribute__" = some (some (.builtin "BaseException.__getattribute__"))) (hk : PySem.W.findIn K (.ref a8) "__getattr__" = some none) (hd : PySem.W.hasDictIn K a8 = true) (ha : PySem.W.findIn K (.ref a8) "__class__" = some (some (.builtin "object.__class__")))
    (hn : PySem.W.specialIn K (.builtin "object.__class__") "__get__" = some (some (.builtin "getset_descriptor.__get__"))) (ht : PySem.W.takesIn K (.builtin "object.__class__") = some true) (hm : PySem.W.mroIn K a8 (.type "object") = some true) (f0 : PySem.W.findIn K (.ref a8) "at" = some none) (f1 : PySem.W.findIn K (.ref a8) "wrong" = some none) (f2 : PySem.W.findIn K (.ref a8) "many" = some none) (f3 : PySem.W.findIn K (.ref a8) "most" = some none)
    (s0 : PySem.W.subIn K (.ref a8) (.ref a0) = some false) (s1 : PySem.W.subIn K (.ref a8) (.ref a1) = some false) (s2 : PySem.W.subIn K (.ref a8) (.ref a2) = some false) (s3 : PySem.W.subIn K (.ref a8) (.ref a3) = some false) (s4 : PySem.W.subIn K (.ref a8) (.ref a4) = some false) (s5 : PySem.W.subIn K (.ref a8) (.ref a5) = some false) (s6 : PySem.W.subIn K (.ref a8) (.ref a6) = some false) (s7 : PySem.W.subIn K (.ref a8) (.ref a7) = some false) (s8 : PySem.W.subIn K (.ref a8) (.ref a8) = some true) (s9 : PySem.W.subIn K (.ref a8) (.ref a9) = some false) (s10 : PySem.W.subIn K (.ref a8) (.ref a10) = some true) (v : PySem.W.subIn K (.ref a8) (.type "ValueError") = some true) : XCls K (xcL a0 a1 a2 a3 a4 a5 a6 a7 a8 a9 a10) 8 :=
  XCls.mk2 (c := 8) (D := a8) TT.T0 TT.T1 TT.T2 TT.T3 TT.T4 TT.T5 TT.T6 TT.T7 TT.T8 TT.T9 TT.T10 (by omega) rfl kp bs ty hg hk hd ha hn ht hm f0 f1 f2 f3 s0 s1 s2 s3 s4 s5 s6 s7 s8 s9 s10 TT.b v
theorem ClsAll.x9 (TT : ClsAll K mg a0 a1 a2 a3 a4 a5 a6 a7 a8 a9 a10)
    (kp : PySem.W.keepIn K (.ref a9) = true) (bs : PySem.W.subIn K (.ref a9) (.type "BaseException") = some true) (ty : PySem.W.typeIn K (.ref a9) = some (.type "type")) (hg : PySem.W.findIn K (.ref a9) "__getattribute__" = some (some (.builtin "BaseException.__getattribute__"))) (hk : PySem.W.findIn K (.ref a9) "__getattr__" = some none) (hd : PySem.W.hasDictIn K a9 = true) (ha : PySem.W.findIn K (.ref a9) "__class__" = some (some (.builtin "object.__class__")))
    (hn : PySem.W.specialIn K (.builtin "object.__class__") "__get__" = some (some (.builtin "getset_descriptor.__get__"))) (ht : PySem.W.takesIn K (.builtin "object.__class__") = some true) (hm : PySem.W.mroIn K a9 (.type "object") = some true) (f0 : PySem.W.findIn K (.ref a9) "at" = some none) (f1 : PySem.W.findIn K (.ref a9) "wrong" = some none) (f2 : PySem.W.findIn K (.ref a9) "many" = some none) (f3 : PySem.W.findIn K (.ref a9) "most" = some none)
    (s0 : PySem.W.subIn K (.ref a9) (.ref a0) = some false) (s1 : PySem.W.subIn K (.ref a9) (.ref a1) = some false) (s2 : PySem.W.subIn K (.ref a9) (.ref a2) = some false) (s3 : PySem.W.subIn K (.ref a9) (.ref a3) = some false) (s4 : PySem.W.subIn K (.ref a9) (.ref a4) = some false) (s5 : PySem.W.subIn K (.ref a9) (.ref a5) = some false) (s6 : PySem.W.subIn K (.ref a9) (.ref a6) = some false) (s7 : PySem.W.subIn K (.ref a9) (.ref a7) = some false) (s8 : PySem.W.subIn K (.ref a9) (.ref a8) = some false) (s9 : PySem.W.subIn K (.ref a9) (.ref a9) = some true) (s10 : PySem.W.subIn K (.ref a9) (.ref a10) = some true) (v : PySem.W.subIn K (.ref a9) (.type "ValueError") = some true) : XCls K (xcL a0 a1 a2 a3 a4 a5 a6 a7 a8 a9 a10) 9 :=
  XCls.mk2 (c := 9) (D := a9) TT.T0 TT.T1 TT.T2 TT.T3 TT.T4 TT.T5 TT.T6 TT.T7 TT.T8 TT.T9 TT.T10 (by omega) rfl kp bs ty hg hk hd ha hn ht hm f0 f1 f2 f3 s0 s1 s2 s3 s4 s5 s6 s7 s8 s9 s10 TT.b v
/-! ### an own __init__ -/
theorem base_of (g : PySem.W.specialIn K (.ref a10) "__getattribute__" = some (some (.builtin "type.__getattribute__"))) (r : PySem.W.readsIn K a10 (.type "type") = true) (f : PySem.W.findCls K (.ref a10) (.type "type") "__init__" = some (.val (.builtin "ValueError.__init__"))) : BaseC K a10 := ⟨g, r, f⟩
variable {C fI : Addr} {n o q : Str}
theorem XMk.one {nm q0 Nn bs bm sn sub ab col dd k0 k1 k2 k3 k5} {oc : Value} {od an : Option Addr} {osl : Array (Option Value)} {kV doc pm cdv ct : Value} {args : Arguments} {body : List Stmt} {sc : Scope} (X : K.In h) (G : h.Ns mainGlobals mg)
    (hC : K.lookup C = some (excClassObj nm q0 C Nn bs bm true sn sub ab col dd k0 k1 k2 k3 k5 "ValueError.__new__")) (hr : PySem.HandSPX.refsVE bm = true) (sa : PySem.W.findIn K (.ref C) "__setattr__" = some (some (.builtin "object.__setattr__"))) (ex : PySem.W.subIn K (.ref C) (.type "BaseException") = some true) (ty : PySem.W.typeIn K (.ref C) = some (.type "type")) (kp : PySem.W.keepIn K (.ref C) = true)
    (hn : PySem.W.findIn K (.ref C) n = some none) (iC : PySem.W.findIn K (.ref C) "__init__" = some (some (.ref fI))) (tI : PySem.W.typeIn K (.ref fI) = some (.type "function")) (l : K.lookup fI = some ⟨oc, od, .func (PySem.W.fnOf "__init__" q args body sc .none kV doc pm an cdv ct), osl⟩) (c : PySem.W.codeIn K cdv q = true) (k : PySem.W.keepIn K (.ref fI) = true)
    (hb : ∀ us : List Value, us.length = (["self", n] : List Str).length → bindArgs (PySem.W.fnOf "__init__" q args body sc .none kV doc pm an cdv ct) ⟨us, []⟩ = pure ((["self", n] : List Str).zip us)) (hv : vInit1 body = some (("SwitchError" : Str), n)) (hs : ckScI ["self", n] "SwitchError" sc = true) (hB : PySem.W.nsIn K mainGlobals "SwitchError" = some (some (.ref a10))) (hS : PySem.W.nsIn K mainGlobals "str" = some none) (T : BaseC K a10) : ∀ (P : Program) (w : World) (base : Heap), XMk P w K mg base C [n] := fun P w base =>
  ⟨⟨⟨nm, q0, Nn, bs, bm, sn, sub, ab, col, dd, k0, k1, k2, k3, k5, hC, hr⟩, sa, ex, ty, kp⟩, fun f hf => by rw [List.mem_singleton.mp hf]; exact hn, fI, _, iC, tI, .all hb, init1 (st := .FunctionDef "__init__" args body [] none [] sc none q default) (fun_mk (st := .FunctionDef "__init__" args body [] none [] sc none q default) l c k) hv hs (PySem.W.mg_of X G hB) T (PySem.W.mg_none_of X G hS)⟩
theorem XMk.two {nm q0 Nn bs bm sn sub ab col dd k0 k1 k2 k3 k5} {oc : Value} {od an : Option Addr} {osl : Array (Option Value)} {kV doc pm cdv ct : Value} {args : Arguments} {body : List Stmt} {sc : Scope} (X : K.In h) (G : h.Ns mainGlobals mg)
    (hC : K.lookup C = some (excClassObj nm q0 C Nn bs bm true sn sub ab col dd k0 k1 k2 k3 k5 "ValueError.__new__")) (hr : PySem.HandSPX.refsVE bm = true) (sa : PySem.W.findIn K (.ref C) "__setattr__" = some (some (.builtin "object.__setattr__"))) (ex : PySem.W.subIn K (.ref C) (.type "BaseException") = some true) (ty : PySem.W.typeIn K (.ref C) = some (.type "type")) (kp : PySem.W.keepIn K (.ref C) = true)
    (hn : PySem.W.findIn K (.ref C) n = some none) (ho : PySem.W.findIn K (.ref C) o = some none) (iC : PySem.W.findIn K (.ref C) "__init__" = some (some (.ref fI))) (tI : PySem.W.typeIn K (.ref fI) = some (.type "function")) (l : K.lookup fI = some ⟨oc, od, .func (PySem.W.fnOf "__init__" q args body sc .none kV doc pm an cdv ct), osl⟩) (c : PySem.W.codeIn K cdv q = true) (k : PySem.W.keepIn K (.ref fI) = true)
    (hb : ∀ us : List Value, us.length = (["self", n, o] : List Str).length → bindArgs (PySem.W.fnOf "__init__" q args body sc .none kV doc pm an cdv ct) ⟨us, []⟩ = pure ((["self", n, o] : List Str).zip us)) (hv : vInit2 body = some (("SwitchError" : Str), n, o)) (hs : ckScI ["self", n, o] "SwitchError" sc = true) (hB : PySem.W.nsIn K mainGlobals "SwitchError" = some (some (.ref a10))) (hS : PySem.W.nsIn K mainGlobals "str" = some none) (T : BaseC K a10) : ∀ (P : Program) (w : World) (base : Heap), XMk P w K mg base C [n, o] := fun P w base =>
  ⟨⟨⟨nm, q0, Nn, bs, bm, sn, sub, ab, col, dd, k0, k1, k2, k3, k5, hC, hr⟩, sa, ex, ty, kp⟩, fun f hf => by
    rcases List.mem_cons.mp hf with rfl | hf
    · exact hn
    · rw [List.mem_singleton.mp hf]; exact ho, fI, _, iC, tI, .all hb, init2 (st := .FunctionDef "__init__" args body [] none [] sc none q default) (fun_mk (st := .FunctionDef "__init__" args body [] none [] sc none q default) l c k) hv hs (PySem.W.mg_of X G hB) T (PySem.W.mg_none_of X G hS)⟩
inductive EachN (P : Nat → Prop) : List Nat → Prop
  | nil : EachN P []
  | cons {k : Nat} {r : List Nat} : P k → EachN P r → EachN P (k :: r)
theorem eachN_of {P : Nat → Prop} : ∀ {L : List Nat}, EachN P L → ∀ i, L.contains i = true → P i
  | _, .nil, i, e => by simp at e
  | _, .cons (k := k) h t, i, e => by
    by_cases z : i = k
    · subst z; exact h
    · refine eachN_of t i ?_
      simp only [List.contains_cons, Bool.or_eq_true, beq_iff_eq] at e
      exact e.resolve_left z
end
end Sw

set_option linter.all false
set_option maxRecDepth 100000
set_option maxHeartbeats 1000000
/-! How code is evaluated, step by step, as rewriting. -/
namespace Sw
open PySem
noncomputable section
variable {Γ : Ctx} {ρ : Env} {st : Store}
/-! expressions -/
noncomputable def kOp2 (o : Op) (p : PV) (r : Res PV) : Res PV := r.bind fun q st => opR o p q st
noncomputable def kOp1 (Γ : Ctx) (o : Op) (b : E) (ρ : Env) (r : Res PV) : Res PV := r.bind fun p st => kOp2 o p (den Γ b ρ st)
theorem ev_op {o a b} : den Γ (.op o a b) ρ st = kOp1 Γ o b ρ (den Γ a ρ st) := by rw [den]; rfl
theorem ev_op1 {o b p} : kOp1 Γ o b ρ (.ok p st) = kOp2 o p (den Γ b ρ st) := rfl
theorem ev_op2 {o x y} : kOp2 o (.d x) (.ok (.d y) st) = ofO ((opD o x y).map .d) st := rfl
noncomputable def kCm2 (o : Cm) (p : PV) (r : Res PV) : Res PV := r.bind fun q st => cmR o p q st
noncomputable def kCm1 (Γ : Ctx) (o : Cm) (b : E) (ρ : Env) (r : Res PV) : Res PV := r.bind fun p st => kCm2 o p (den Γ b ρ st)
theorem ev_cm {o a b} : den Γ (.cmp o a b) ρ st = kCm1 Γ o b ρ (den Γ a ρ st) := by rw [den]; rfl
theorem ev_cm1 {o b p} : kCm1 Γ o b ρ (.ok p st) = kCm2 o p (den Γ b ρ st) := rfl
theorem ev_cm2 {o x y} : kCm2 o (.d x) (.ok (.d y) st) = ofO ((cmD o x y).map fun b => .d (.bool b)) st := rfl
noncomputable def kIf (p : PV) (st : Store) (f g : Res PV) : Res PV := ifB p st fun k => if k then f else g
theorem ev_if {b : Bool} {f g} : kIf (.d (.bool b)) st f g = if b = true then f else g := rfl
noncomputable def kCh2 (Γ : Ctx) (o u : Cm) (p : PV) (c : E) (ρ : Env) (r : Res PV) : Res PV := r.bind fun q st => (cmR o p q st).bind fun r st => ifB r st fun k => if k then kCm2 u q (den Γ c ρ st) else .ok (.d (.bool false)) st
noncomputable def kCh1 (Γ : Ctx) (o u : Cm) (b c : E) (ρ : Env) (r : Res PV) : Res PV := r.bind fun p st => kCh2 Γ o u p c ρ (den Γ b ρ st)
theorem ev_ch {o u a b c} : den Γ (.chain o u a b c) ρ st = kCh1 Γ o u b c ρ (den Γ a ρ st) := by rw [den]; rfl
theorem ev_ch1 {o u b c p} : kCh1 Γ o u b c ρ (.ok p st) = kCh2 Γ o u p c ρ (den Γ b ρ st) := rfl
noncomputable def kCh3 (Γ : Ctx) (u : Cm) (y : D) (c : E) (ρ : Env) (o : Option Bool) (st : Store) : Res PV := (ofO (o.map fun b => PV.d (.bool b)) st).bind fun r st => ifB r st fun k => if k then kCm2 u (.d y) (den Γ c ρ st) else .ok (.d (.bool false)) st
theorem ev_ch2 {o u x c y} : kCh2 Γ o u (.d x) c ρ (.ok (.d y) st) = kCh3 Γ u y c ρ (cmD o x y) st := rfl
theorem ev_ch3 {u y c} {b : Bool} : kCh3 Γ u y c ρ (some b) st = if b = true then kCm2 u (.d y) (den Γ c ρ st) else .ok (.d (.bool false)) st := by cases b <;> rfl
noncomputable def kD3 (Γ : Ctx) (u w : Cm) (y : D) (c d : E) (ρ : Env) (o : Option Bool) (st : Store) : Res PV := (ofO (o.map fun b => PV.d (.bool b)) st).bind fun r st => ifB r st fun k => if k then kCh2 Γ u w (.d y) d ρ (den Γ c ρ st) else .ok (.d (.bool false)) st
noncomputable def kD2 (Γ : Ctx) (o u w : Cm) (p : PV) (c d : E) (ρ : Env) (r : Res PV) : Res PV := r.bind fun q st => (cmR o p q st).bind fun r st => ifB r st fun k => if k then kCh2 Γ u w q d ρ (den Γ c ρ st) else .ok (.d (.bool false)) st
noncomputable def kD1 (Γ : Ctx) (o u w : Cm) (b c d : E) (ρ : Env) (r : Res PV) : Res PV := r.bind fun p st => kD2 Γ o u w p c d ρ (den Γ b ρ st)
theorem ev_dd {o u w a b c d} : den Γ (.chain3 o u w a b c d) ρ st = kD1 Γ o u w b c d ρ (den Γ a ρ st) := by rw [den]; rfl
theorem ev_dd1 {o u w b c d p} : kD1 Γ o u w b c d ρ (.ok p st) = kD2 Γ o u w p c d ρ (den Γ b ρ st) := rfl
theorem ev_dd2 {o u w x c d y} : kD2 Γ o u w (.d x) c d ρ (.ok (.d y) st) = kD3 Γ u w y c d ρ (cmD o x y) st := rfl
theorem ev_dd3 {u w y c d} {b : Bool} : kD3 Γ u w y c d ρ (some b) st = if b = true then kCh2 Γ u w (.d y) d ρ (den Γ c ρ st) else .ok (.d (.bool false)) st := by cases b <;> rfl
theorem ev_var {i} : den Γ (.var i) ρ st = ofO (look ρ i) st := by rw [den]
theorem ev_cI {i} : den Γ (.cI i) ρ st = .ok (.d (.int i)) st := by rw [den]
theorem ev_cS {i} : den Γ (.cS i) ρ st = .ok (.d (.str i)) st := by rw [den]
theorem ev_cB {i} : den Γ (.cB i) ρ st = .ok (.d (.bool i)) st := by rw [den]
theorem ev_cN : den Γ .cN ρ st = .ok (.d .none) st := by rw [den]
theorem ev_glob {g} : den Γ (.glob g) ρ st = .ok (.d (Γ.glob g)) st := by rw [den]
/-- arguments -/
noncomputable def kA2 (p : PV) (r : Res (List PV)) : Res (List PV) := r.bind fun ps st => .ok (p :: ps) st
noncomputable def kA1 (Γ : Ctx) (r : E) (ρ : Env) (x : Res PV) : Res (List PV) := x.bind fun p st => kA2 p (denA Γ r ρ st)
theorem ev_nil : denA Γ .nil ρ st = .ok [] st := by rw [denA]
theorem ev_cons {a r} : denA Γ (.cons a r) ρ st = kA1 Γ r ρ (den Γ a ρ st) := by rw [denA]; rfl
theorem ev_a1 {r p} : kA1 Γ r ρ (.ok p st) = kA2 p (denA Γ r ρ st) := rfl
theorem ev_a2 {p ps} : kA2 p (.ok ps st) = .ok (p :: ps) st := rfl
noncomputable def kTup (r : Res (List PV)) : Res PV := r.bind fun ps st => ofO ((asDs ps).map fun xs => .d (.tuple xs)) st
noncomputable def kLst (r : Res (List PV)) : Res PV := r.bind fun ps st => ofO ((asDs ps).map fun xs => .d (.list xs)) st
theorem ev_tup {es} : den Γ (.tup es) ρ st = kTup (denA Γ es ρ st) := by rw [den]; rfl
theorem ev_tup1 {ps} : kTup (.ok ps st) = ofO ((asDs ps).map fun xs => .d (.tuple xs)) st := rfl
theorem ev_lst {es} : den Γ (.lst es) ρ st = kLst (denA Γ es ρ st) := by rw [den]; rfl
theorem ev_lst1 {ps} : kLst (.ok ps st) = ofO ((asDs ps).map fun xs => .d (.list xs)) st := rfl
theorem asDs_nil : asDs [] = some [] := rfl
theorem asDs_cons {x r} : asDs (.d x :: r) = (asDs r).map (x :: ·) := rfl
noncomputable def kNeg (r : Res PV) : Res PV := r.bind negR
theorem ev_neg {a} : den Γ (.neg a) ρ st = kNeg (den Γ a ρ st) := by rw [den]; rfl
theorem ev_neg1 {i} : kNeg (.ok (.d (.int i)) st) = .ok (.d (.int (-i))) st := rfl
noncomputable def kNot (r : Res PV) : Res PV := r.bind fun p st => ifB p st fun k => .ok (.d (.bool (!k))) st
theorem ev_not {a} : den Γ (.not a) ρ st = kNot (den Γ a ρ st) := by rw [den]; rfl
theorem ev_not1 {b} : kNot (.ok (.d (.bool b)) st) = .ok (.d (.bool (!b))) st := rfl
noncomputable def kAnd (Γ : Ctx) (b : E) (ρ : Env) (r : Res PV) : Res PV := r.bind fun p st => ifB p st fun k => if k then den Γ b ρ st else .ok (.d (.bool false)) st
noncomputable def kOr (Γ : Ctx) (b : E) (ρ : Env) (r : Res PV) : Res PV := r.bind fun p st => ifB p st fun k => if k then .ok (.d (.bool true)) st else den Γ b ρ st
theorem ev_and {a b} : den Γ (.and a b) ρ st = kAnd Γ b ρ (den Γ a ρ st) := by rw [den]; rfl
theorem ev_and1 {b} {k : Bool} : kAnd Γ b ρ (.ok (.d (.bool k)) st) = if k = true then den Γ b ρ st else .ok (.d (.bool false)) st := rfl
theorem ev_or {a b} : den Γ (.or a b) ρ st = kOr Γ b ρ (den Γ a ρ st) := by rw [den]; rfl
theorem ev_or1 {b} {k : Bool} : kOr Γ b ρ (.ok (.d (.bool k)) st) = if k = true then .ok (.d (.bool true)) st else den Γ b ρ st := rfl
noncomputable def kOne (r : Res PV) : Res PV := r.bind fun p st => ifB p st fun k => .ok (.d (.bool k)) st
theorem ev_one {a} : den Γ (.one a) ρ st = kOne (den Γ a ρ st) := by rw [den]; rfl
theorem ev_one1 {b} : kOne (.ok (.d (.bool b)) st) = .ok (.d (.bool b)) st := rfl
noncomputable def kIte (Γ : Ctx) (a b : E) (ρ : Env) (r : Res PV) : Res PV := r.bind fun p st => ifB p st fun k => if k then den Γ a ρ st else den Γ b ρ st
theorem ev_ite {c a b} : den Γ (.ite c a b) ρ st = kIte Γ a b ρ (den Γ c ρ st) := by rw [den]; rfl
theorem ev_ite1 {a b} {k : Bool} : kIte Γ a b ρ (.ok (.d (.bool k)) st) = if k = true then den Γ a ρ st else den Γ b ρ st := rfl
noncomputable def kIx2 (p : PV) (r : Res PV) : Res PV := r.bind fun q st => idxR p q st
noncomputable def kIx1 (Γ : Ctx) (i : E) (ρ : Env) (r : Res PV) : Res PV := r.bind fun p st => kIx2 p (den Γ i ρ st)
theorem ev_ix {a i} : den Γ (.idx a i) ρ st = kIx1 Γ i ρ (den Γ a ρ st) := by rw [den]; rfl
theorem ev_ix1 {i p} : kIx1 Γ i ρ (.ok p st) = kIx2 p (den Γ i ρ st) := rfl
theorem ev_ix2 {x y} : kIx2 (.d x) (.ok (.d y) st) = ofO ((idxD x y).map .d) st := rfl
noncomputable def kSl3 (p : PV) (l : Option Int) (r : Res (Option Int)) : Res PV := r.bind fun h st => slcR p l h st
noncomputable def kSl2 (Γ : Ctx) (hi : E) (p : PV) (ρ : Env) (r : Res (Option Int)) : Res PV := r.bind fun l st => kSl3 p l (denP Γ hi ρ st)
noncomputable def kSl1 (Γ : Ctx) (lo hi : E) (ρ : Env) (r : Res PV) : Res PV := r.bind fun p st => kSl2 Γ hi p ρ (denP Γ lo ρ st)
theorem ev_sl {a lo hi} : den Γ (.slc a lo hi) ρ st = kSl1 Γ lo hi ρ (den Γ a ρ st) := by rw [den]; rfl
theorem ev_sl1 {lo hi p} : kSl1 Γ lo hi ρ (.ok p st) = kSl2 Γ hi p ρ (denP Γ lo ρ st) := rfl
theorem ev_sl2 {hi p l} : kSl2 Γ hi p ρ (.ok l st) = kSl3 p l (denP Γ hi ρ st) := rfl
theorem ev_sl3 {x l h} : kSl3 (.d x) l (.ok h st) = ofO ((slcD x l h).map .d) st := rfl
noncomputable def kP (r : Res PV) : Res (Option Int) := r.bind fun p st => match p with
    | .d (.int i) => .ok (some i) st
    | _ => .stuck
theorem ev_pN : denP Γ .nil ρ st = .ok none st := by rw [denP]
theorem ev_pO {a} : denP Γ (.one a) ρ st = kP (den Γ a ρ st) := by rw [denP]; rfl
theorem ev_p1 {i} : kP (.ok (.d (.int i)) st) = .ok (some i) st := rfl
noncomputable def kEmp (r : Res PV) : Res PV := r.bind fun p st => match p with
    | .d (.list xs) => .ok (.d (.bool xs.isEmpty)) st
    | _ => .stuck
noncomputable def kOrT (Γ : Ctx) (b : E) (ρ : Env) (r : Res PV) : Res PV := r.bind fun p st => match p with
    | .d (.tuple xs) => if xs.isEmpty = true then den Γ b ρ st else .ok (.d (.tuple xs)) st
    | _ => .stuck
theorem ev_orT {a b} : den Γ (.orT a b) ρ st = kOrT Γ b ρ (den Γ a ρ st) := by rw [den]; rfl
theorem ev_orT1 {b xs} : kOrT Γ b ρ (.ok (.d (.tuple xs)) st) = if xs.isEmpty = true then den Γ b ρ st else .ok (.d (.tuple xs)) st := rfl
theorem ev_emp {a} : den Γ (.emp a) ρ st = kEmp (den Γ a ρ st) := by rw [den]; rfl
theorem ev_emp1 {xs} : kEmp (.ok (.d (.list xs)) st) = .ok (.d (.bool xs.isEmpty)) st := rfl
noncomputable def kRev (r : Res PV) : Res PV := r.bind revR
theorem ev_rev {a} : den Γ (.rev a) ρ st = kRev (den Γ a ρ st) := by rw [den]; rfl
theorem ev_rev1 {x} : kRev (.ok (.d x) st) = ofO ((revD x).map .d) st := rfl
noncomputable def kCall (Γ : Ctx) (f : Nat) (r : Res (List PV)) : Res PV := r.bind fun ps st => Γ.call f ps st
theorem ev_call {f es} : den Γ (.call f es) ρ st = kCall Γ f (denA Γ es ρ st) := by rw [den]; rfl
theorem ev_call1 {f ps} : kCall Γ f (.ok ps st) = Γ.call f ps st := rfl
noncomputable def kBlt (b : Bi) (r : Res (List PV)) : Res PV := r.bind fun ps st => biR b ps st
theorem ev_blt {b es} : den Γ (.blt b es) ρ st = kBlt b (denA Γ es ρ st) := by rw [den]; rfl
noncomputable def kBi (b : Bi) (o : Option (List D)) (st : Store) : Res PV := match o with
  | some xs => ofO ((biD b xs).map .d) st
  | none => .stuck
theorem ev_blt1 {b ps} : kBlt b (.ok ps st) = kBi b (asDs ps) st := rfl
theorem ev_bi {b xs} : kBi b (some xs) st = ofO ((biD b xs).map .d) st := rfl
noncomputable def kR1 (r : Res PV) : Res PV := r.bind fun p st => match p with
    | .d (.int j) => rngR 0 j st
    | _ => .stuck
theorem ev_r1 {a} : den Γ (.rng1 a) ρ st = kR1 (den Γ a ρ st) := by rw [den]; rfl
theorem ev_r11 {j} : kR1 (.ok (.d (.int j)) st) = rngR 0 j st := rfl
noncomputable def kR22 (i : Int) (r : Res PV) : Res PV := r.bind fun q st => match q with
    | .d (.int j) => rngR i j st
    | _ => .stuck
noncomputable def kR2 (Γ : Ctx) (b : E) (ρ : Env) (r : Res PV) : Res PV := r.bind fun p st => (den Γ b ρ st).bind fun q st => match p, q with
    | .d (.int i), .d (.int j) => rngR i j st
    | _, _ => .stuck
theorem ev_r2 {a b} : den Γ (.rng2 a b) ρ st = kR2 Γ b ρ (den Γ a ρ st) := by rw [den]; rfl
theorem ev_r21 {b i} : kR2 Γ b ρ (.ok (.d (.int i)) st) = kR22 i (den Γ b ρ st) := by
  show (den Γ b ρ st).bind _ = (den Γ b ρ st).bind _
  congr 1
  funext q st
  cases q with
  | d y => cases y <;> rfl
  | _ => rfl
theorem ev_r22 {i j} : kR22 i (.ok (.d (.int j)) st) = rngR i j st := rfl
/-- a comprehension over items -/
noncomputable def compS (Γ : Ctx) (elt : E) (t : Tg) (cnd : E) (xs : List D) (ρ : Env) (st : Store) : Res PV := (compL (elF t (denC Γ cnd) (den Γ elt) ρ) xs st).nox.bind fun ys st => .ok (.d (.list ys)) st
noncomputable def kComp (Γ : Ctx) (elt : E) (t : Tg) (cnd : E) (ρ : Env) (r : Res PV) : Res PV := r.bind fun p st => match p with
    | .d x => match items x with
      | some xs => compS Γ elt t cnd xs ρ st
      | none => .stuck
    | _ => .stuck
theorem ev_comp {elt t it cnd} : den Γ (.comp elt t it cnd) ρ st = kComp Γ elt t cnd ρ (den Γ it ρ st) := by rw [den]; rfl
theorem ev_compL {elt t cnd xs} : kComp Γ elt t cnd ρ (.ok (.d (.list xs)) st) = compS Γ elt t cnd xs ρ st := rfl
theorem ev_compT {elt t cnd xs} : kComp Γ elt t cnd ρ (.ok (.d (.tuple xs)) st) = compS Γ elt t cnd xs ρ st := rfl
noncomputable def kEnm (r : Res PV) : Res PV := r.bind fun p st => match p with
    | .d (.list xs) => .ok (.d (.list (enumL 0 xs))) st
    | .d (.tuple xs) => .ok (.d (.list (enumL 0 xs))) st
    | _ => .stuck
theorem ev_enm {a} : den Γ (.enm a) ρ st = kEnm (den Γ a ρ st) := by rw [den]; rfl
theorem ev_enm1t {xs} : kEnm (.ok (.d (.tuple xs)) st) = .ok (.d (.list (enumL 0 xs))) st := rfl
theorem ev_enm1 {xs} : kEnm (.ok (.d (.list xs)) st) = .ok (.d (.list (enumL 0 xs))) st := rfl
noncomputable def kZp2 (p : PV) (r : Res PV) : Res PV := r.bind fun q st => match p, q with
    | .d (.list xs), .d (.list ys) => .ok (.d (.list (zipL xs ys))) st
    | .d (.tuple xs), .d (.tuple ys) => .ok (.d (.list (zipL xs ys))) st
    | _, _ => .stuck
noncomputable def kZp1 (Γ : Ctx) (b : E) (ρ : Env) (r : Res PV) : Res PV := r.bind fun p st => kZp2 p (den Γ b ρ st)
theorem ev_zp {a b} : den Γ (.zp a b) ρ st = kZp1 Γ b ρ (den Γ a ρ st) := by rw [den]; rfl
theorem ev_zp1 {b p} : kZp1 Γ b ρ (.ok p st) = kZp2 p (den Γ b ρ st) := rfl
theorem ev_zp2t {xs ys} : kZp2 (.d (.tuple xs)) (.ok (.d (.tuple ys)) st) = .ok (.d (.list (zipL xs ys))) st := rfl
theorem ev_zp2 {xs ys} : kZp2 (.d (.list xs)) (.ok (.d (.list ys)) st) = .ok (.d (.list (zipL xs ys))) st := rfl
noncomputable def kTupR (r : Res PV) : Res PV := r.bind fun p st => match p with
    | .d (.int j) => ofO ((tupRD j).map .d) st
    | _ => .stuck
theorem ev_tupR {a} : den Γ (.tupR a) ρ st = kTupR (den Γ a ρ st) := by rw [den]; rfl
theorem ev_tupR1 {j} : kTupR (.ok (.d (.int j)) st) = ofO ((tupRD j).map .d) st := rfl
noncomputable def kMth2 (m : Me) (xs : List D) (r : Res PV) : Res PV := r.bind fun q st => match q with
      | .d y => ofO ((mthD m xs y).map .d) st
      | _ => .stuck
noncomputable def kMth1 (Γ : Ctx) (m : Me) (b : E) (ρ : Env) (r : Res PV) : Res PV := r.bind fun p st => match p with
    | .d (.list xs) => kMth2 m xs (den Γ b ρ st)
    | .d (.tuple xs) => kMth2 m xs (den Γ b ρ st)
    | _ => .stuck
theorem ev_mth {m a b} : den Γ (.mth m a b) ρ st = kMth1 Γ m b ρ (den Γ a ρ st) := by rw [den]; rfl
theorem ev_mth1 {m b xs} : kMth1 Γ m b ρ (.ok (.d (.list xs)) st) = kMth2 m xs (den Γ b ρ st) := rfl
theorem ev_mth1t {m b xs} : kMth1 Γ m b ρ (.ok (.d (.tuple xs)) st) = kMth2 m xs (den Γ b ρ st) := rfl
theorem ev_mth2 {m xs y} : kMth2 m xs (.ok (.d y) st) = ofO ((mthD m xs y).map .d) st := rfl
theorem ofO_some {α : Type} {a : α} : ofO (some a) st = .ok a st := rfl
/-! the turn of a comprehension -/
noncomputable def kC (r : Res PV) : Res Bool := r.bind fun p st => match p with
    | .d (.bool k) => .ok k st
    | _ => .stuck
theorem ev_cnN : denC Γ .nil ρ st = .ok true st := by rw [denC]
theorem ev_cnO {a} : denC Γ (.one a) ρ st = kC (den Γ a ρ st) := by rw [denC]; rfl
theorem ev_c1 {k} : kC (.ok (.d (.bool k)) st) = .ok k st := rfl
noncomputable def kEl2 (r : Res PV) : Res (Option D) := r.bind fun y st => ofO ((asD y).map some) st
theorem ev_el2 {x} : kEl2 (.ok (.d x) st) = .ok (some x) st := rfl
noncomputable def kEl1 (Γ : Ctx) (elt : E) (ρ : Env) (r : Res Bool) : Res (Option D) := r.bind fun k st => if k then kEl2 (den Γ elt ρ st) else .ok none st
theorem ev_el1 {elt} {k : Bool} : kEl1 Γ elt ρ (.ok k st) = if k = true then kEl2 (den Γ elt ρ st) else .ok none st := rfl
noncomputable def kEl (Γ : Ctx) (elt cnd : E) (o : Option Env) (st : Store) : Res (Option D) := match o with
  | some ρ' => kEl1 Γ elt ρ' (denC Γ cnd ρ' st)
  | none => .stuck
theorem ev_el {elt cnd} : kEl Γ elt cnd (some ρ) st = kEl1 Γ elt ρ (denC Γ cnd ρ st) := rfl
theorem el_eq {elt t cnd x} : elF t (denC Γ cnd) (den Γ elt) ρ x st = kEl Γ elt cnd (setTg ρ t x) st := by
  unfold elF kEl
  cases setTg ρ t x <;> rfl
theorem tg_nm {i x} : setTg ρ (.nm i) x = some (ρ.set i (.sh (.d x))) := rfl
theorem tg_2 {i j : Nat} {x y : D} : setTg ρ (.tp [i, j]) (.tuple [x, y]) = some ((ρ.set i (.sh (.d x))).set j (.sh (.d y))) := rfl
theorem tg_3 {i j k : Nat} {x y z : D} : setTg ρ (.tp [i, j, k]) (.tuple [x, y, z]) = some (((ρ.set i (.sh (.d x))).set j (.sh (.d y))).set k (.sh (.d z))) := rfl
theorem comp_map {α : Type} {L : List α} {emb : α → D} {elt : E} {t : Tg} {cnd : E} (g : α → D) (h : ∀ a ∈ L, kEl Γ elt cnd (setTg ρ t (emb a)) st = .ok (some (g a)) st) : compS Γ elt t cnd (L.map emb) ρ st = .ok (.d (.list (L.map g))) st := by
  have q : compL (elF t (denC Γ cnd) (den Γ elt) ρ) (L.map emb) st = .ok (L.map g) st := by
    induction L with
    | nil => rfl
    | cons a L ih =>
      simp only [List.map_cons, compL, el_eq]
      rw [h a (by simp)]
      simp only [Res.bind]
      rw [ih fun b hb => h b (by simp [hb])]
      rfl
  unfold compS
  rw [q]
  rfl
theorem comp_filter {α : Type} {L : List α} {emb : α → D} {elt : E} {t : Tg} {cnd : E} (p : α → Bool) (g : α → D) (h : ∀ a ∈ L, kEl Γ elt cnd (setTg ρ t (emb a)) st = .ok (if p a = true then some (g a) else none) st) : compS Γ elt t cnd (L.map emb) ρ st = .ok (.d (.list ((L.filter p).map g))) st := by
  have q : compL (elF t (denC Γ cnd) (den Γ elt) ρ) (L.map emb) st = .ok ((L.filter p).map g) st := by
    induction L with
    | nil => rfl
    | cons a L ih =>
      simp only [List.map_cons, compL, el_eq]
      rw [h a (by simp)]
      simp only [Res.bind]
      rw [ih fun b hb => h b (by simp [hb])]
      by_cases z : p a = true
      · rw [if_pos z, List.filter_cons_of_pos z]; rfl
      · rw [if_neg z, List.filter_cons_of_neg z]; rfl
  unfold compS
  rw [q]
  rfl
/-! statements -/
noncomputable def kSeq (Γ : Ctx) (b : S) (r : Res Out) : Res Out := r.bind fun o st => match o with
    | .next ρ' => run Γ b ρ' st
    | .ret p n => .ok (.ret p n) st
theorem ev_seq {a b} : run Γ (.seq a b) ρ st = kSeq Γ b (run Γ a ρ st) := by rw [run]; rfl
theorem ev_seqN {b} : kSeq Γ b (.ok (.next ρ) st) = run Γ b ρ st := rfl
theorem ev_seqR {b p n} : kSeq Γ b (.ok (.ret p n) st) = .ok (.ret p n) st := rfl
theorem ev_seqX {b c fs} : kSeq Γ b (.exc c fs st) = .exc c fs st := rfl
theorem ev_seqI {b} {c : Prop} [Decidable c] {x y : Res Out} : kSeq Γ b (if c then x else y) = if c then kSeq Γ b x else kSeq Γ b y := by split <;> rfl
theorem ev_skip : run Γ .skip ρ st = .ok (.next ρ) st := by rw [run]
noncomputable def kDrop (is : List Nat) (r : Res Out) : Res Out := r.bind fun o st => match o with
    | .next ρ' => .ok (.next (dropE ρ' is)) st
    | .ret p n => .ok (.ret p n) st
theorem ev_drop {is b} : run Γ (.drop is b) ρ st = kDrop is (run Γ b ρ st) := by rw [run]; rfl
theorem ev_dropN {is} : kDrop is (.ok (.next ρ) st) = .ok (.next (dropE ρ is)) st := rfl
theorem ev_dropR {is p n} : kDrop is (.ok (.ret p n) st) = .ok (.ret p n) st := rfl
theorem ev_dropX {is c fs} : kDrop is (.exc c fs st) = .exc c fs st := rfl
theorem ev_dropI {is} {c : Prop} [Decidable c] {x y : Res Out} : kDrop is (if c then x else y) = if c then kDrop is x else kDrop is y := by split <;> rfl
theorem dropE_nil : dropE ρ [] = ρ := rfl
theorem dropE_cons {i is} : dropE ρ (i :: is) = dropE (ρ.set i .no) is := rfl
noncomputable def kSet (Γ : Ctx) (i : Nat) (e : E) (ρ : Env) (r : Res PV) : Res Out := r.bind fun p st => .ok (.next ((settle ρ (keeps (fresh Γ.fresh e) p) (occ e)).set i (.sh p))) st
noncomputable def kSetO (Γ : Ctx) (i : Nat) (e : E) (ρ : Env) (r : Res PV) : Res Out := r.bind fun p st => match p with
        | .d (.list xs) => .ok (.next ((settle ρ (keeps (fresh Γ.fresh e) p) (occ e)).set i (.own (.l xs)))) st
        | _ => .stuck
theorem ev_set {i e} : run Γ (.set i false e) ρ st = kSet Γ i e ρ (den Γ e ρ st) := by rw [run]; rfl
theorem ev_setO {i e} : run Γ (.set i true e) ρ st = kSetO Γ i e ρ (den Γ e ρ st) := by rw [run]; rfl
theorem ev_set1 {i e p} : kSet Γ i e ρ (.ok p st) = .ok (.next ((settle ρ (keeps (fresh Γ.fresh e) p) (occ e)).set i (.sh p))) st := rfl
theorem ev_setO1 {i e xs} : kSetO Γ i e ρ (.ok (.d (.list xs)) st) = .ok (.next ((settle ρ (keeps (fresh Γ.fresh e) (.d (.list xs))) (occ e)).set i (.own (.l xs)))) st := rfl
noncomputable def nextO (o : Option Env) (st : Store) : Res Out := match o with
  | some ρ' => .ok (.next ρ') st
  | none => .stuck
noncomputable def kSetT (Γ : Ctx) (is : List Nat) (e : E) (ρ : Env) (r : Res PV) : Res Out := r.bind fun p st => match p with
      | .d x => nextO (setTg (settle ρ (keeps false p) (occ e)) (.tp is) x) st
      | .two w xs => match is with
        | [i, j] => if fresh Γ.fresh e = true then .ok (.next (((settle ρ (keeps false (.two w xs)) (occ e)).set i (.sh (.d (.str w)))).set j (.own (.l xs)))) st else .stuck
        | _ => .stuck
      | _ => .stuck
theorem ev_setT {is e} : run Γ (.setT is e) ρ st = kSetT Γ is e ρ (den Γ e ρ st) := by rw [run]; rfl
theorem ev_setT2 {i j e w xs} : kSetT Γ [i, j] e ρ (.ok (.two w xs) st) = if fresh Γ.fresh e = true then .ok (.next (((settle ρ (keeps false (.two w xs)) (occ e)).set i (.sh (.d (.str w)))).set j (.own (.l xs)))) st else .stuck := rfl
theorem ev_setT1 {is e x} : kSetT Γ is e ρ (.ok (.d x) st) = nextO (setTg (settle ρ (keeps false (.d x)) (occ e)) (.tp is) x) st := rfl
theorem ev_nextO {ρ' : Env} : nextO (some ρ') st = .ok (.next ρ') st := rfl
noncomputable def kPar2 (i j : Nat) (a b : E) (ρ : Env) (p : PV) (r : Res PV) : Res Out := r.bind fun q st => .ok (.next (((settle (settle ρ (keeps false p) (occ a)) (keeps false q) (occ b)).set i (.sh p)).set j (.sh q))) st
noncomputable def kPar1 (Γ : Ctx) (i j : Nat) (a b : E) (ρ : Env) (r : Res PV) : Res Out := r.bind fun p st => kPar2 i j a b ρ p (den Γ b ρ st)
theorem ev_par {i j a b} : run Γ (.par i j a b) ρ st = kPar1 Γ i j a b ρ (den Γ a ρ st) := by rw [run]; rfl
theorem ev_par1 {i j a b p} : kPar1 Γ i j a b ρ (.ok p st) = kPar2 i j a b ρ p (den Γ b ρ st) := rfl
theorem ev_par2 {i j a b p q} : kPar2 i j a b ρ p (.ok q st) = .ok (.next (((settle (settle ρ (keeps false p) (occ a)) (keeps false q) (occ b)).set i (.sh p)).set j (.sh q))) st := rfl
noncomputable def kPar33 (i j l : Nat) (es : List Nat) (ρ : Env) (p q : PV) (r : Res PV) : Res Out := r.bind fun r st => .ok (.next ((((demote ρ es).set i (.sh p)).set j (.sh q)).set l (.sh r))) st
noncomputable def kPar32 (Γ : Ctx) (i j l : Nat) (es : List Nat) (c : E) (ρ : Env) (p : PV) (r : Res PV) : Res Out := r.bind fun q st => kPar33 i j l es ρ p q (den Γ c ρ st)
noncomputable def kPar31 (Γ : Ctx) (i j l : Nat) (es : List Nat) (b c : E) (ρ : Env) (r : Res PV) : Res Out := r.bind fun p st => kPar32 Γ i j l es c ρ p (den Γ b ρ st)
theorem ev_par3 {i j l a b c} : run Γ (.par3 i j l a b c) ρ st = kPar31 Γ i j l (occ a ++ (occ b ++ occ c)) b c ρ (den Γ a ρ st) := by rw [run]; rfl
theorem ev_par31 {i j l es b c p} : kPar31 Γ i j l es b c ρ (.ok p st) = kPar32 Γ i j l es c ρ p (den Γ b ρ st) := rfl
theorem ev_par32 {i j l es c p q} : kPar32 Γ i j l es c ρ p (.ok q st) = kPar33 i j l es ρ p q (den Γ c ρ st) := rfl
theorem ev_par33 {i j l es p q r} : kPar33 i j l es ρ p q (.ok r st) = .ok (.next ((((demote ρ es).set i (.sh p)).set j (.sh q)).set l (.sh r))) st := rfl
noncomputable def kIfS (Γ : Ctx) (a b : S) (ρ : Env) (r : Res PV) : Res Out := r.bind fun p st => match p with
      | .d (.bool k) => if k then run Γ a ρ st else run Γ b ρ st
      | _ => .stuck
theorem ev_ifS {c a b} : run Γ (.ite c a b) ρ st = kIfS Γ a b ρ (den Γ c ρ st) := by rw [run]; rfl
theorem ev_ifS1 {a b} {k : Bool} : kIfS Γ a b ρ (.ok (.d (.bool k)) st) = if k = true then run Γ a ρ st else run Γ b ρ st := rfl
noncomputable def turn (Γ : Ctx) (b : S) (o : Option Env) (st : Store) : Res Out := match o with
  | some ρ' => run Γ b ρ' st
  | none => .stuck
theorem ev_turn {b} : turn Γ b (some ρ) st = run Γ b ρ st := rfl
noncomputable def forS (Γ : Ctx) (t : Tg) (b : S) (xs : List D) (ρ : Env) (st : Store) : Res Out := forL (fun x ρ st => turn Γ b (setTg ρ t x) st) xs ρ st
noncomputable def kFor (Γ : Ctx) (t : Tg) (it : E) (b : S) (ρ : Env) (r : Res PV) : Res Out := r.bind fun p st => match p with
      | .d x => match items x with
        | some xs => forS Γ t b xs (settle ρ (keeps (fresh Γ.fresh it) p) (occ it)) st
        | none => .stuck
      | _ => .stuck
theorem ev_for {t it b} : run Γ (.for t it b) ρ st = kFor Γ t it b ρ (den Γ it ρ st) := by rw [run]; rfl
noncomputable def kUn2 (j : Nat) (xs : List D) (ρ' : Env) (st : Store) (s : Option Slot) : Res Out := match s with
    | some .pin => .ok (.next (ρ'.set j (.own (.l xs)))) st
    | _ => .stuck
noncomputable def kUn (j : Nat) (xs : List D) (r : Res Out) : Res Out := r.bind (unpin j xs)
noncomputable def kForO (Γ : Ctx) (t : Tg) (j : Nat) (b : S) (ρ : Env) (st : Store) (s : Option Slot) : Res Out := match s with
    | some (.own (.l xs)) => kUn j xs (forS Γ t b xs (ρ.set j .pin) st)
    | _ => .stuck
theorem ev_forO {t j b} : run Γ (.forO t j b) ρ st = kForO Γ t j b ρ st ρ[j]? := by rw [run]; rfl
theorem ev_forO1 {t j b xs} : kForO Γ t j b ρ st (some (.own (.l xs))) = kUn j xs (forS Γ t b xs (ρ.set j .pin) st) := rfl
theorem ev_unN {j xs ρ'} : kUn j xs (.ok (.next ρ') st) = kUn2 j xs ρ' st ρ'[j]? := rfl
theorem ev_un2 {j xs ρ'} : kUn2 j xs ρ' st (some .pin) = .ok (.next (ρ'.set j (.own (.l xs)))) st := rfl
theorem ev_unR {j xs p n} : kUn j xs (.ok (.ret p n) st) = .ok (.ret p n) st := rfl
noncomputable def whlS (Γ : Ctx) (c : E) (b : S) (n : Nat) (ρ : Env) (st : Store) : Res Out := whileL (den Γ c) (run Γ b) n ρ st
theorem ev_whl {n c b} : run Γ (.whl n c b) ρ st = whlS Γ c b n ρ st := by rw [run]; rfl
noncomputable def kWhl2 (Γ : Ctx) (c : E) (b : S) (n : Nat) (r : Res Out) : Res Out := r.bind fun o st => match o with
    | .next ρ' => whlS Γ c b n ρ' st
    | .ret p m => .ok (.ret p m) st
noncomputable def kWhl1 (Γ : Ctx) (c : E) (b : S) (n : Nat) (ρ : Env) (r : Res PV) : Res Out := r.bind fun p st => match p with
    | .d (.bool k) => if k = true then kWhl2 Γ c b n (run Γ b ρ st) else .ok (.next ρ) st
    | _ => .stuck
theorem wh_step {n c b} : whlS Γ c b (n + 1) ρ st = kWhl1 Γ c b n ρ (den Γ c ρ st) := rfl
theorem ev_whl1 {n c b} : kWhl1 Γ c b n ρ (.ok (.d (.bool true)) st) = kWhl2 Γ c b n (run Γ b ρ st) := rfl
theorem ev_whl0 {n c b} : kWhl1 Γ c b n ρ (.ok (.d (.bool false)) st) = .ok (.next ρ) st := rfl
theorem ev_whl2 {n c b ρ'} : kWhl2 Γ c b n (.ok (.next ρ') st) = whlS Γ c b n ρ' st := rfl
theorem ev_whlR {n c b p m} : kWhl2 Γ c b n (.ok (.ret p m) st) = .ok (.ret p m) st := rfl
theorem ev_x_kWhl1 {n : Nat} {c : E} {b : S} {c0 : Nat} {f0 : List (Str × D)} : kWhl1 Γ c b n ρ (.exc c0 f0 st) = .exc c0 f0 st := rfl
theorem ev_x_kWhl2 {n : Nat} {c : E} {b : S} {c0 : Nat} {f0 : List (Str × D)} : kWhl2 Γ c b n (.exc c0 f0 st) = .exc c0 f0 st := rfl
noncomputable def popAO (i j : Nat) (xs : List D) (ρ : Env) (st : Store) (o : Option (D × List D)) : Res Out := match o with
    | some (y, zs) => if xs.length < sizeLine then .ok (.next ((ρ.set j (.own (.l zs))).set i (.own (.l (xs ++ [y]))))) st else .stuck
    | none => .stuck
noncomputable def kPopA1 (i j : Nat) (xs ys : List D) (ρ : Env) (r : Res PV) : Res Out := r.bind fun p st => match p with
    | .d (.int k) => popAO i j xs ρ st (popD ys k)
    | _ => .stuck
noncomputable def kPopA (Γ : Ctx) (i j : Nat) (ix : E) (ρ : Env) (st : Store) (s t : Option Slot) : Res Out := match s, t with
    | some (.own (.l xs)), some (.own (.l ys)) => if i = j then .stuck else kPopA1 i j xs ys ρ (den Γ ix ρ st)
    | _, _ => .stuck
theorem ev_popA {i j ix} : run Γ (.popA i j ix) ρ st = kPopA Γ i j ix ρ st ρ[i]? ρ[j]? := by rw [run]; rfl
theorem ev_popAo {i j ix xs ys} : kPopA Γ i j ix ρ st (some (.own (.l xs))) (some (.own (.l ys))) = if i = j then .stuck else kPopA1 i j xs ys ρ (den Γ ix ρ st) := rfl
theorem ev_popA1 {i j xs ys k} : kPopA1 i j xs ys ρ (.ok (.d (.int k)) st) = popAO i j xs ρ st (popD ys k) := rfl
theorem ev_popA2 {i j xs y zs} (h : xs.length < sizeLine) : popAO i j xs ρ st (some (y, zs)) = .ok (.next ((ρ.set j (.own (.l zs))).set i (.own (.l (xs ++ [y]))))) st  := if_pos h
theorem ev_x_kPopA1 {i j : Nat} {xs ys : List D} {c0 : Nat} {f0 : List (Str × D)} : kPopA1 i j xs ys ρ (.exc c0 f0 st) = .exc c0 f0 st := rfl
noncomputable def popSO (i j : Nat) (ρ : Env) (st : Store) (o : Option (D × List D)) : Res Out := match o with
    | some (y, zs) => .ok (.next ((ρ.set j (.own (.l zs))).set i (.sh (.d y)))) st
    | none => .stuck
noncomputable def kPopS1 (i j : Nat) (ys : List D) (ρ : Env) (r : Res PV) : Res Out := r.bind fun p st => match p with
    | .d (.int k) => popSO i j ρ st (popD ys k)
    | _ => .stuck
noncomputable def kPopS (Γ : Ctx) (i j : Nat) (ix : E) (ρ : Env) (st : Store) (t : Option Slot) : Res Out := match t with
    | some (.own (.l ys)) => if i = j then .stuck else kPopS1 i j ys ρ (den Γ ix ρ st)
    | _ => .stuck
theorem ev_popS {i j ix} : run Γ (.popS i j ix) ρ st = kPopS Γ i j ix ρ st ρ[j]? := by rw [run]; rfl
theorem ev_popSo {i j ix ys} : kPopS Γ i j ix ρ st (some (.own (.l ys))) = if i = j then .stuck else kPopS1 i j ys ρ (den Γ ix ρ st) := rfl
theorem ev_popS1 {i j ys k} : kPopS1 i j ys ρ (.ok (.d (.int k)) st) = popSO i j ρ st (popD ys k) := rfl
theorem ev_popS2 {i j y zs} : popSO i j ρ st (some (y, zs)) = .ok (.next ((ρ.set j (.own (.l zs))).set i (.sh (.d y)))) st := rfl
theorem ev_x_kPopS1 {i j : Nat} {ys : List D} {c0 : Nat} {f0 : List (Str × D)} : kPopS1 i j ys ρ (.exc c0 f0 st) = .exc c0 f0 st := rfl
noncomputable def kExt1 (i : Nat) (xs : List D) (ρ : Env) (r : Res PV) : Res Out := r.bind fun p st => match p with
    | .d (.list ys) => if calmAll ys = true ∧ xs.length + ys.length ≤ sizeLine then .ok (.next (ρ.set i (.own (.l (xs ++ ys))))) st else .stuck
    | _ => .stuck
noncomputable def kExt (Γ : Ctx) (i : Nat) (e : E) (ρ : Env) (st : Store) (s : Option Slot) : Res Out := match s with
    | some (.own (.l xs)) => if fresh Γ.fresh e = true then kExt1 i xs ρ (den Γ e ρ st) else .stuck
    | _ => .stuck
theorem ev_ext {i e} : run Γ (.ext i e) ρ st = kExt Γ i e ρ st ρ[i]? := by rw [run]; rfl
theorem ev_exto {i e xs} : kExt Γ i e ρ st (some (.own (.l xs))) = if fresh Γ.fresh e = true then kExt1 i xs ρ (den Γ e ρ st) else .stuck := rfl
theorem ev_ext1 {i xs ys} (h : calmAll ys = true ∧ xs.length + ys.length ≤ sizeLine) : kExt1 i xs ρ (.ok (.d (.list ys)) st) = .ok (.next (ρ.set i (.own (.l (xs ++ ys))))) st := if_pos h
theorem ev_x_kExt1 {i : Nat} {xs : List D} {c0 : Nat} {f0 : List (Str × D)} : kExt1 i xs ρ (.exc c0 f0 st) = .exc c0 f0 st := rfl
noncomputable def kSetI2 (i : Nat) (ρ2 : Env) (y : D) (k : Int) (st : Store) (s : Option Slot) : Res Out := match s with
    | some (.own (.l xs)) => match L2.ixN xs.length k with
      | some j => .ok (.next (ρ2.set i (.own (.l (xs.set j y))))) st
      | none => .stuck
    | _ => .stuck
noncomputable def kSetI1 (i : Nat) (es : List Nat) (ρ : Env) (p : PV) (r : Res PV) : Res Out := r.bind fun q st => match p, q with
    | .d y, .d (.int k) => kSetI2 i (settle ρ (keeps false (.d y)) es) y k st (settle ρ (keeps false (.d y)) es)[i]?
    | _, _ => .stuck
noncomputable def kSetI0 (Γ : Ctx) (i : Nat) (ix : E) (es : List Nat) (ρ : Env) (r : Res PV) : Res Out := r.bind fun p st => kSetI1 i es ρ p (den Γ ix ρ st)
noncomputable def kSetD2 (i : Nat) (ρ2 : Env) (y k : D) (st : Store) (s : Option Slot) : Res Out := match s with
    | some (.own (.d ks)) => if clsK k ks = true ∧ ks.length < 1000000 then .ok (.next (ρ2.set i (.own (.d (storeD ks k y))))) st else .stuck
    | _ => .stuck
noncomputable def kSetD1 (i : Nat) (es : List Nat) (ρ : Env) (p : PV) (r : Res PV) : Res Out := r.bind fun q st => match p, q with
    | .d y, .d k => kSetD2 i (settle ρ (keeps false (.d y)) es) y k st (settle ρ (keeps false (.d y)) es)[i]?
    | _, _ => .stuck
noncomputable def kSetD0 (Γ : Ctx) (i : Nat) (ix : E) (es : List Nat) (ρ : Env) (r : Res PV) : Res Out := r.bind fun p st => kSetD1 i es ρ p (den Γ ix ρ st)
noncomputable def kSetI (Γ : Ctx) (i : Nat) (ix e : E) (ρ : Env) (st : Store) (s : Option Slot) : Res Out := match s with
    | some (.own (.l _)) => kSetI0 Γ i ix (occ e) ρ (den Γ e ρ st)
    | some (.own (.d _)) => kSetD0 Γ i ix (occ e) ρ (den Γ e ρ st)
    | _ => run Γ (.setI i ix e) ρ st
theorem ev_setI {i ix e} : run Γ (.setI i ix e) ρ st = kSetI Γ i ix e ρ st ρ[i]? := by
  cases h : ρ[i]? with
  | none => rfl
  | some s =>
    cases s with
    | own c =>
      cases c with
      | l xs =>
        show run Γ (.setI i ix e) ρ st = (den Γ e ρ st).bind fun p st => (den Γ ix ρ st).bind fun q st => match p, q with
          | .d y, .d (.int k) => kSetI2 i (settle ρ (keeps false (.d y)) (occ e)) y k st (settle ρ (keeps false (.d y)) (occ e))[i]?
          | _, _ => .stuck
        rw [run]
        simp only [h]
        refine congrArg (Res.bind _) (funext fun p => funext fun st => congrArg (Res.bind _) (funext fun q => funext fun st => ?_))
        cases p with
        | d x => cases q with
          | d y => cases y <;> rfl
          | _ => rfl
        | _ => rfl
      | d ks =>
        show run Γ (.setI i ix e) ρ st = (den Γ e ρ st).bind fun p st => (den Γ ix ρ st).bind fun q st => match p, q with
          | .d y, .d k => kSetD2 i (settle ρ (keeps false (.d y)) (occ e)) y k st (settle ρ (keeps false (.d y)) (occ e))[i]?
          | _, _ => .stuck
        rw [run]
        simp only [h]
        refine congrArg (Res.bind _) (funext fun p => funext fun st => congrArg (Res.bind _) (funext fun q => funext fun st => ?_))
        cases p with
        | d x => cases q with
          | d y => rfl
          | _ => rfl
        | _ => cases q <;> rfl
    | _ => rfl
theorem ev_setId {i ix e ks} : kSetI Γ i ix e ρ st (some (.own (.d ks))) = kSetD0 Γ i ix (occ e) ρ (den Γ e ρ st) := rfl
theorem ev_setD0 {i ix es p} : kSetD0 Γ i ix es ρ (.ok p st) = kSetD1 i es ρ p (den Γ ix ρ st) := rfl
theorem ev_setD1 {i es y k} : kSetD1 i es ρ (.d y) (.ok (.d k) st) = kSetD2 i (settle ρ (keeps false (.d y)) es) y k st (settle ρ (keeps false (.d y)) es)[i]? := rfl
theorem ev_setD2 {i y k ks} : kSetD2 i ρ y k st (some (.own (.d ks))) = if clsK k ks = true ∧ ks.length < 1000000 then .ok (.next (ρ.set i (.own (.d (storeD ks k y))))) st else .stuck := rfl
noncomputable def kExtV (i : Nat) (ρ : Env) (st : Store) (s t : Option Slot) : Res Out := match s, t with
    | some (.own (.l xs)), some (.own (.l ys)) => if calmAll ys = true ∧ xs.length + ys.length ≤ sizeLine then .ok (.next (ρ.set i (.own (.l (xs ++ ys))))) st else .stuck
    | _, _ => .stuck
theorem ev_extV {i j} : run Γ (.extV i j) ρ st = kExtV i ρ st ρ[i]? ρ[j]? := by rw [run]; rfl
theorem ev_extV1 {i xs ys} : kExtV i ρ st (some (.own (.l xs))) (some (.own (.l ys))) = if calmAll ys = true ∧ xs.length + ys.length ≤ sizeLine then .ok (.next (ρ.set i (.own (.l (xs ++ ys))))) st else .stuck := rfl
theorem ev_dNew {i} : run Γ (.dNew i) ρ st = .ok (.next (ρ.set i (.own (.d [])))) st := by rw [run]
noncomputable def kCpy (i : Nat) (ρ : Env) (r : Res PV) : Res Out := r.bind fun p st => match p with
    | .d (.dict ks) => if (ks.all fun q => isI q.1 && calm q.2) = true ∧ ks.length < 1000000 then .ok (.next (ρ.set i (.own (.d ks)))) st else .stuck
    | _ => .stuck
theorem ev_dCpy {i e} : run Γ (.dCpy i e) ρ st = kCpy i ρ (den Γ e ρ st) := by rw [run]; rfl
theorem ev_cpy1 {i ks} : kCpy i ρ (.ok (.d (.dict ks)) st) = if (ks.all fun q => isI q.1 && calm q.2) = true ∧ ks.length < 1000000 then .ok (.next (ρ.set i (.own (.d ks)))) st else .stuck := rfl
theorem ev_setIo {i ix e xs} : kSetI Γ i ix e ρ st (some (.own (.l xs))) = kSetI0 Γ i ix (occ e) ρ (den Γ e ρ st) := rfl
theorem ev_setI0 {i ix es p} : kSetI0 Γ i ix es ρ (.ok p st) = kSetI1 i es ρ p (den Γ ix ρ st) := rfl
theorem ev_setI1 {i es y} {k : Int} : kSetI1 i es ρ (.d y) (.ok (.d (.int k)) st) = kSetI2 i (settle ρ (keeps false (.d y)) es) y k st (settle ρ (keeps false (.d y)) es)[i]? := rfl
theorem ev_setI2 {i y xs} {k : Int} {j : Nat} (h : L2.ixN xs.length k = some j) : kSetI2 i ρ y k st (some (.own (.l xs))) = .ok (.next (ρ.set i (.own (.l (xs.set j y))))) st := by
  unfold kSetI2
  simp only [h]
theorem ev_forL {t it b xs} : kFor Γ t it b ρ (.ok (.d (.list xs)) st) = forS Γ t b xs (settle ρ (keeps (fresh Γ.fresh it) (.d (.list xs))) (occ it)) st := rfl
theorem ev_forT {t it b xs} : kFor Γ t it b ρ (.ok (.d (.tuple xs)) st) = forS Γ t b xs (settle ρ (keeps (fresh Γ.fresh it) (.d (.tuple xs))) (occ it)) st := rfl
noncomputable def kRet (Γ : Ctx) (e : E) (r : Res PV) : Res Out := r.bind fun p st => .ok (.ret p (fresh Γ.fresh e)) st
theorem ev_ret {e} : run Γ (.ret e) ρ st = kRet Γ e (den Γ e ρ st) := by rw [run]; rfl
theorem ev_ret1 {e p} : kRet Γ e (.ok p st) = .ok (.ret p (fresh Γ.fresh e)) st := rfl
theorem ev_retI {e} {c : Prop} [Decidable c] {x y : Res PV} : kRet Γ e (if c then x else y) = if c then kRet Γ e x else kRet Γ e y := by split <;> rfl
noncomputable def retVS (s : Option Slot) (st : Store) : Res Out := match s with
    | some (.sh p) => .ok (.ret p false) st
    | some (.own (.l xs)) => .ok (.ret (.d (.list xs)) true) st
    | some (.own (.d ks)) => .ok (.ret (.d (.dict ks)) false) st
    | _ => .stuck
theorem ev_retVd {ks} : retVS (some (.own (.d ks))) st = .ok (.ret (.d (.dict ks)) false) st := rfl
theorem ev_retV {i} : run Γ (.retV i) ρ st = retVS ρ[i]? st := by rw [run]; rfl
theorem ev_retVs {p} : retVS (some (.sh p)) st = .ok (.ret p false) st := rfl
theorem ev_retVo {xs} : retVS (some (.own (.l xs))) st = .ok (.ret (.d (.list xs)) true) st := rfl
noncomputable def kExp (ρ : Env) (r : Res PV) : Res Out := r.bind fun _ st => .ok (.next ρ) st
theorem ev_exp {e} : run Γ (.exp e) ρ st = kExp ρ (den Γ e ρ st) := by rw [run]; rfl
theorem ev_exp1 {p} : kExp ρ (.ok p st) = .ok (.next ρ) st := rfl
noncomputable def kApp2 (i : Nat) (ρ : Env) (y : D) (s : Option Slot) (st : Store) : Res Out := match s with
        | some (.own (.l xs)) => if xs.length < sizeLine then .ok (.next (ρ.set i (.own (.l (xs ++ [y]))))) st else .stuck
        | _ => .stuck
noncomputable def kApp1 (i : Nat) (e : E) (ρ : Env) (r : Res PV) : Res Out := r.bind fun p st => match p with
      | .d y => kApp2 i (settle ρ (keeps false p) (occ e)) y ((settle ρ (keeps false p) (occ e))[i]?) st
      | _ => .stuck
noncomputable def kApp (Γ : Ctx) (i : Nat) (e : E) (ρ : Env) (s : Option Slot) (st : Store) : Res Out := match s with
    | some (.own (.l _)) => kApp1 i e ρ (den Γ e ρ st)
    | _ => .stuck
theorem ev_app {i e} : run Γ (.app i e) ρ st = kApp Γ i e ρ ρ[i]? st := by rw [run]; rfl
theorem ev_app0 {i e xs} : kApp Γ i e ρ (some (.own (.l xs))) st = kApp1 i e ρ (den Γ e ρ st) := rfl
theorem ev_app1 {i e y} : kApp1 i e ρ (.ok (.d y) st) = kApp2 i (settle ρ (keeps false (.d y)) (occ e)) y ((settle ρ (keeps false (.d y)) (occ e))[i]?) st := rfl
theorem ev_app2 {i y xs} : kApp2 i ρ y (some (.own (.l xs))) st = if xs.length < sizeLine then .ok (.next (ρ.set i (.own (.l (xs ++ [y]))))) st else .stuck := rfl
noncomputable def kIns3 (i : Nat) (ρ : Env) (k : Int) (y : D) (s : Option Slot) (st : Store) : Res Out := match s with
        | some (.own (.l xs)) => if xs.length < sizeLine ∧ 0 ≤ k ∧ k < 1000000 then .ok (.next (ρ.set i (.own (.l (xs.take k.toNat ++ y :: xs.drop k.toNat))))) st else .stuck
        | _ => .stuck
noncomputable def kIns2 (i : Nat) (e : E) (ρ : Env) (q : PV) (r : Res PV) : Res Out := r.bind fun p st => match q, p with
      | .d (.int k), .d y => kIns3 i (settle ρ (keeps false p) (occ e)) k y ((settle ρ (keeps false p) (occ e))[i]?) st
      | _, _ => .stuck
noncomputable def kIns1 (Γ : Ctx) (i : Nat) (e : E) (ρ : Env) (r : Res PV) : Res Out := r.bind fun q st => kIns2 i e ρ q (den Γ e ρ st)
noncomputable def kIns (Γ : Ctx) (i : Nat) (ix e : E) (ρ : Env) (s : Option Slot) (st : Store) : Res Out := match s with
    | some (.own (.l _)) => kIns1 Γ i e ρ (den Γ ix ρ st)
    | _ => .stuck
theorem ev_ins {i ix e} : run Γ (.ins i ix e) ρ st = kIns Γ i ix e ρ ρ[i]? st := by rw [run]; rfl
theorem ev_ins0 {i ix e xs} : kIns Γ i ix e ρ (some (.own (.l xs))) st = kIns1 Γ i e ρ (den Γ ix ρ st) := rfl
theorem ev_ins1 {i e q} : kIns1 Γ i e ρ (.ok q st) = kIns2 i e ρ q (den Γ e ρ st) := rfl
theorem ev_ins2 {i e y} {k : Int} : kIns2 i e ρ (.d (.int k)) (.ok (.d y) st) = kIns3 i (settle ρ (keeps false (.d y)) (occ e)) k y ((settle ρ (keeps false (.d y)) (occ e))[i]?) st := rfl
theorem ev_ins3 {i y xs} {k : Int} : kIns3 i ρ k y (some (.own (.l xs))) st = if xs.length < sizeLine ∧ 0 ≤ k ∧ k < 1000000 then .ok (.next (ρ.set i (.own (.l (xs.take k.toNat ++ y :: xs.drop k.toNat))))) st else .stuck := rfl
noncomputable def kSwp5 (i : Nat) (w : Int) (xs : List D) (ρ : Env) (o : Option Nat) (st : Store) : Res Out := match o with
            | some l => .ok (.next (ρ.set i (.own (.l (xs.set l (.int w)))))) st
            | none => .stuck
noncomputable def kSwp4 (i : Nat) (w : Int) (xs : List D) (ρ : Env) (r : Res PV) : Res Out := r.bind fun y st => match y with
          | .d (.int m) => kSwp5 i w xs ρ (L2.ixN xs.length m) st
          | _ => .stuck
noncomputable def kSwp3 (Γ : Ctx) (i : Nat) (d : E) (u w : Int) (xs : List D) (ρ : Env) (o : Option Nat) (st : Store) : Res Out := match o with
        | some j => kSwp4 i w (xs.set j (.int u)) (ρ.set i (.own (.l (xs.set j (.int u))))) (den Γ d (ρ.set i (.own (.l (xs.set j (.int u))))) st)
        | none => .stuck
noncomputable def kSwp2 (Γ : Ctx) (i : Nat) (d : E) (p q : PV) (xs : List D) (ρ : Env) (r : Res PV) : Res Out := r.bind fun x st => match p, q, x with
      | .d (.int u), .d (.int w), .d (.int k) => kSwp3 Γ i d u w xs ρ (L2.ixN xs.length k) st
      | _, _, _ => .stuck
noncomputable def kSwp1 (Γ : Ctx) (i : Nat) (c d : E) (p : PV) (xs : List D) (ρ : Env) (r : Res PV) : Res Out := r.bind fun q st => kSwp2 Γ i d p q xs ρ (den Γ c ρ st)
noncomputable def kSwp0 (Γ : Ctx) (i : Nat) (c d b : E) (xs : List D) (ρ : Env) (r : Res PV) : Res Out := r.bind fun p st => kSwp1 Γ i c d p xs ρ (den Γ b ρ st)
noncomputable def kSwp (Γ : Ctx) (i : Nat) (c d a b : E) (ρ : Env) (s : Option Slot) (st : Store) : Res Out := match s with
    | some (.own (.l xs)) => kSwp0 Γ i c d b xs ρ (den Γ a ρ st)
    | _ => .stuck
theorem ev_swp {i c d a b} : run Γ (.setI2 i c d a b) ρ st = kSwp Γ i c d a b ρ ρ[i]? st := by rw [run]; rfl
theorem ev_swpS {i c d a b xs} : kSwp Γ i c d a b ρ (some (.own (.l xs))) st = kSwp0 Γ i c d b xs ρ (den Γ a ρ st) := rfl
theorem ev_swp0 {i c d b xs p} : kSwp0 Γ i c d b xs ρ (.ok p st) = kSwp1 Γ i c d p xs ρ (den Γ b ρ st) := rfl
theorem ev_swp1 {i c d xs p q} : kSwp1 Γ i c d p xs ρ (.ok q st) = kSwp2 Γ i d p q xs ρ (den Γ c ρ st) := rfl
theorem ev_swp2 {i d xs} {u w k : Int} : kSwp2 Γ i d (.d (.int u)) (.d (.int w)) xs ρ (.ok (.d (.int k)) st) = kSwp3 Γ i d u w xs ρ (L2.ixN xs.length k) st := rfl
theorem ev_swp3 {i d xs j} {u w : Int} : kSwp3 Γ i d u w xs ρ (some j) st = kSwp4 i w (xs.set j (.int u)) (ρ.set i (.own (.l (xs.set j (.int u))))) (den Γ d (ρ.set i (.own (.l (xs.set j (.int u))))) st) := rfl
theorem ev_swp4 {i xs} {w m : Int} : kSwp4 i w xs ρ (.ok (.d (.int m)) st) = kSwp5 i w xs ρ (L2.ixN xs.length m) st := rfl
theorem ev_swp5 {i xs l} {w : Int} : kSwp5 i w xs ρ (some l) st = .ok (.next (ρ.set i (.own (.l (xs.set l (.int w)))))) st := rfl
noncomputable def kRem3 (i : Nat) (xs : List D) (ρ : Env) (o : Option Nat) (st : Store) : Res Out := match o with
          | some j => .ok (.next (ρ.set i (.own (.l (xs.eraseIdx j))))) st
          | none => .stuck
noncomputable def kRem2 (i : Nat) (ρ : Env) (y : D) (s : Option Slot) (st : Store) : Res Out := match s with
        | some (.own (.l xs)) => if flat y = true ∧ flatAll xs = true then kRem3 i xs ρ (xs.findIdx? fun z => PyData.eqv z y) st else .stuck
        | _ => .stuck
noncomputable def kRem1 (i : Nat) (e : E) (ρ : Env) (r : Res PV) : Res Out := r.bind fun p st => match p with
      | .d y => kRem2 i (settle ρ (keeps false (.d y)) (occ e)) y ((settle ρ (keeps false (.d y)) (occ e))[i]?) st
      | _ => .stuck
noncomputable def kRem (Γ : Ctx) (i : Nat) (e : E) (ρ : Env) (s : Option Slot) (st : Store) : Res Out := match s with
    | some (.own (.l _)) => kRem1 i e ρ (den Γ e ρ st)
    | _ => .stuck
theorem ev_rem {i e} : run Γ (.rem i e) ρ st = kRem Γ i e ρ ρ[i]? st := by rw [run]; rfl
theorem ev_rem0 {i e xs} : kRem Γ i e ρ (some (.own (.l xs))) st = kRem1 i e ρ (den Γ e ρ st) := rfl
theorem ev_rem1 {i e y} : kRem1 i e ρ (.ok (.d y) st) = kRem2 i (settle ρ (keeps false (.d y)) (occ e)) y ((settle ρ (keeps false (.d y)) (occ e))[i]?) st := rfl
theorem ev_rem2 {i y xs} : kRem2 i ρ y (some (.own (.l xs))) st = if flat y = true ∧ flatAll xs = true then kRem3 i xs ρ (xs.findIdx? fun z => PyData.eqv z y) st else .stuck := rfl
theorem ev_rem3 {i xs j} : kRem3 i xs ρ (some j) st = .ok (.next (ρ.set i (.own (.l (xs.eraseIdx j))))) st := rfl
/-! loops -/
theorem forS_nil {t b} : forS Γ t b [] ρ st = .ok (.next ρ) st := rfl
noncomputable def kFor1 (Γ : Ctx) (t : Tg) (b : S) (xs : List D) (r : Res Out) : Res Out := r.bind fun o st => match o with
    | .next ρ' => forS Γ t b xs ρ' st
    | .ret p n => .ok (.ret p n) st
theorem forS_cons {t b x xs} : forS Γ t b (x :: xs) ρ st = kFor1 Γ t b xs (turn Γ b (setTg ρ t x) st) := rfl
theorem for1_N {t b xs} : kFor1 Γ t b xs (.ok (.next ρ) st) = forS Γ t b xs ρ st := rfl
theorem for1_R {t b xs p n} : kFor1 Γ t b xs (.ok (.ret p n) st) = .ok (.ret p n) st := rfl
/-- nothing changes -/
theorem forS_all {α : Type} {L : List α} {emb : α → D} {t b} {v : PV} {n : Bool} (p : α → Bool) (h : ∀ a ∈ L, turn Γ b (setTg ρ t (emb a)) st = if p a = true then .ok (.next ρ) st else .ok (.ret v n) st) :
    forS Γ t b (L.map emb) ρ st = if L.all p = true then .ok (.next ρ) st else .ok (.ret v n) st := by
  induction L with
  | nil => rfl
  | cons a L ih =>
    show (turn Γ b (setTg ρ t (emb a)) st).bind _ = _
    rw [h a (by simp)]
    by_cases z : p a = true
    · rw [if_pos z]
      simp only [Res.bind, List.all_cons, z, Bool.true_and]
      exact ih fun b hb => h b (by simp [hb])
    · rw [if_neg z]
      simp [Res.bind, z]
/-- the first that is such ends it -/
theorem forS_find {α : Type} {L : List α} {emb : α → D} {t b} {v : α → PV} {n : Bool} (p : α → Bool) (h : ∀ a ∈ L, turn Γ b (setTg ρ t (emb a)) st = if p a = true then .ok (.ret (v a) n) st else .ok (.next ρ) st) :
    forS Γ t b (L.map emb) ρ st = match L.find? p with
      | some a => .ok (.ret (v a) n) st
      | none => .ok (.next ρ) st := by
  induction L with
  | nil => rfl
  | cons a L ih =>
    show (turn Γ b (setTg ρ t (emb a)) st).bind _ = _
    rw [h a (by simp)]
    by_cases z : p a = true
    · rw [if_pos z, List.find?_cons_of_pos z]
      rfl
    · rw [if_neg z, List.find?_cons_of_neg z]
      exact ih fun b hb => h b (by simp [hb])
/-- a state is carried along -/
theorem forS_fold {α σ : Type} {L : List α} {emb : α → D} {t b} {env : σ → Env} (step : σ → α → σ) (h : ∀ a ∈ L, ∀ s, turn Γ b (setTg (env s) t (emb a)) st = .ok (.next (env (step s a))) st) (s0 : σ) :
    forS Γ t b (L.map emb) (env s0) st = .ok (.next (env (L.foldl step s0))) st := by
  induction L generalizing s0 with
  | nil => rfl
  | cons a L ih =>
    show (turn Γ b (setTg (env s0) t (emb a)) st).bind _ = _
    rw [h a (by simp)]
    exact ih (fun b hb => h b (by simp [hb])) (step s0 a)
/-- a list grows, by those that are such -/
theorem forS_filter {α : Type} {L : List α} {emb : α → D} {t b} {env : List D → Env} (p : α → Bool) (g : α → D) (hl : L.length ≤ 1000) (h : ∀ a ∈ L, ∀ acc : List D, acc.length < sizeLine → turn Γ b (setTg (env acc) t (emb a)) st = .ok (.next (env (if p a = true then acc ++ [g a] else acc))) st) :
    ∀ acc0 : List D, acc0.length ≤ 1000 → forS Γ t b (L.map emb) (env acc0) st = .ok (.next (env (acc0 ++ (L.filter p).map g))) st := by
  have key : ∀ (L : List α), (∀ a ∈ L, ∀ acc : List D, acc.length < sizeLine → turn Γ b (setTg (env acc) t (emb a)) st = .ok (.next (env (if p a = true then acc ++ [g a] else acc))) st) → ∀ acc0 : List D, acc0.length + L.length ≤ 2000 → forS Γ t b (L.map emb) (env acc0) st = .ok (.next (env (acc0 ++ (L.filter p).map g))) st := by
    intro L
    induction L with
    | nil => intro _ acc0 _; simp [forS_nil]
    | cons a L ih =>
      intro h acc0 ha
      show (turn Γ b (setTg (env acc0) t (emb a)) st).bind _ = _
      have e : sizeLine = 16777216 := rfl
      simp only [List.length_cons] at ha
      rw [h a (by simp) acc0 (by omega)]
      by_cases z : p a = true
      · rw [if_pos z, List.filter_cons_of_pos z]
        have q := ih (fun b hb => h b (by simp [hb])) (acc0 ++ [g a]) (by simp; omega)
        rw [List.append_assoc] at q
        exact q
      · rw [if_neg z, List.filter_cons_of_neg z]
        exact ih (fun b hb => h b (by simp [hb])) acc0 (by omega)
  exact fun acc0 h0 => key L h acc0 (by omega)
/-- each item against the one ahead of it -/
theorem forS_chain {α : Type} {L : List α} {emb : α → D} {t b} {env : D → Env} (R : D → α → Prop) (h : ∀ a ∈ L, ∀ d, R d a → turn Γ b (setTg (env d) t (emb a)) st = .ok (.next (env (emb a))) st) :
    ∀ d0, (∀ a ∈ L, R d0 a) → (L.Pairwise fun a b => R (emb a) b) → ∃ d, forS Γ t b (L.map emb) (env d0) st = .ok (.next (env d)) st := by
  induction L with
  | nil => exact fun d0 _ _ => ⟨d0, rfl⟩
  | cons a L ih =>
    intro d0 h0 hp
    obtain ⟨h1, h2⟩ := List.pairwise_cons.mp hp
    obtain ⟨d, e⟩ := ih (fun b hb => h b (by simp [hb])) (emb a) h1 h2
    refine ⟨d, ?_⟩
    show (turn Γ b (setTg (env d0) t (emb a)) st).bind _ = _
    rw [h a (by simp) d0 (h0 a (by simp))]
    exact e
/-- the same way of things at each turn, the store apart -/
theorem forS_keep {α : Type} {L : List α} {emb : α → D} {t b} (I : Store → Prop) (h : ∀ a ∈ L, ∀ st, I st → ∃ st', I st' ∧ turn Γ b (setTg ρ t (emb a)) st = .ok (.next ρ) st') : ∀ st, I st → ∃ st', I st' ∧ forS Γ t b (L.map emb) ρ st = .ok (.next ρ) st' := by
  induction L with
  | nil => exact fun st hI => ⟨st, hI, rfl⟩
  | cons a L ih =>
    intro st hI
    obtain ⟨s1, h1, e1⟩ := h a (by simp) st hI
    obtain ⟨s2, h2, e2⟩ := ih (fun b hb => h b (by simp [hb])) s1 h1
    refine ⟨s2, h2, ?_⟩
    show (turn Γ b (setTg ρ t (emb a)) st).bind _ = _
    rw [e1]
    exact e2
/-- a comprehension that draws -/
theorem comp_keep {α : Type} {L : List α} {emb : α → D} {elt : E} {t : Tg} {cnd : E} (I : Store → Prop) (g : α → D) (hd : L.Nodup)
    (h : ∀ a ∈ L, ∀ st, I st → ∃ (p : Bool) (st' : Store), I st' ∧ kEl Γ elt cnd (setTg ρ t (emb a)) st = .ok (if p = true then some (g a) else none) st') : ∀ st, I st → ∃ (p : α → Bool) (st' : Store), I st' ∧ compS Γ elt t cnd (L.map emb) ρ st = .ok (.d (.list ((L.filter p).map g))) st' := by
  have key : ∀ st, I st → ∃ (p : α → Bool) (st' : Store), I st' ∧ compL (elF t (denC Γ cnd) (den Γ elt) ρ) (L.map emb) st = .ok ((L.filter p).map g) st' := by
    induction L with
    | nil => exact fun st hI => ⟨fun _ => false, st, hI, rfl⟩
    | cons a L ih =>
      intro st hI
      obtain ⟨pa, s1, h1, e1⟩ := h a (by simp) st hI
      obtain ⟨ha, hd2⟩ := List.nodup_cons.mp hd
      obtain ⟨p, s2, h2, e2⟩ := ih hd2 (fun b hb => h b (by simp [hb])) s1 h1
      have : ∃ p' : α → Bool, (a :: L).filter p' = (if pa = true then [a] else []) ++ L.filter p := by
        classical
        refine ⟨fun x => if x = a then pa else p x, ?_⟩
        have e3 : L.filter (fun x => if x = a then pa else p x) = L.filter p := List.filter_congr fun x hx => by
          have hne : ¬ x = a := fun z => ha (z ▸ hx)
          simp [hne]
        rw [List.filter_cons, e3]
        simp only [if_true]
        split <;> rfl
      obtain ⟨p', e3⟩ := this
      refine ⟨p', s2, h2, ?_⟩
      simp only [List.map_cons, compL, el_eq]
      rw [e1]
      simp only [Res.bind]
      rw [e2, e3]
      cases pa <;> rfl
  intro st hI
  obtain ⟨p, st', h1, h2⟩ := key st hI
  refine ⟨p, st', h1, ?_⟩
  unfold compS
  rw [h2]
  rfl
/-! defs -/
noncomputable def kLeave (f : FD) (r : Res Out) : Res PV := r.bind fun o st => leave f o st
theorem ev_leave {f o} : kLeave f (.ok o st) = leave f o st := rfl
theorem ev_leaveX {f c fs} : kLeave f (.exc c fs st) = .exc c fs st := rfl
theorem ev_leaveI {f} {c : Prop} [Decidable c] {x y : Res Out} : kLeave f (if c then x else y) = if c then kLeave f x else kLeave f y := by split <;> rfl
theorem leave_N {f ρ} : leave f (.next ρ) st = .ok (.d .none) st := rfl
theorem leave_F {f x n} (hc : f.cell = false) (h : isList (.d x) = false) : leave f (.ret (.d x) n) st = .ok (.d x) st := by simp [leave, hc, h]
theorem leave_L {f x} (hc : f.cell = false) : leave f (.ret (.d x) true) st = .ok (.d x) st := by simp [leave, hc]
theorem leave_T {f w xs} (hc : f.cell = false) : leave f (.ret (.two w xs) true) st = .ok (.two w xs) st := by simp [leave, hc]
theorem leave_S {f p n} (hc : f.cell = false) (hf : f.fresh = false) : leave f (.ret p n) st = .ok p st := by simp [leave, hc, hf]
theorem call_at {T : Nat → Option FD} {gl : Nat → D} {L f : Nat} {fd : FD} {ps : List PV} (ht : T f = some fd) (ha : ps.length = fd.ar) : callF T gl (L + 1) f ps st = kLeave fd (run ⟨fun g => callF T gl L g, gl, frOf T, none, fun x g => callX T gl x L g⟩ fd.body (enter fd ps) st) := by
  unfold callF
  rw [ht]
  simp only
  rw [if_pos ha]
  rfl
theorem callX_at {T : Nat → Option FD} {gl : Nat → D} {x : Hx} {L f : Nat} {fd : FD} {ps : List PV} (ht : T f = some fd) (ha : ps.length = fd.ar) : callX T gl x (L + 1) f ps st = kLeave fd (run ⟨fun g => callX T gl x L g, gl, frOf T, some x, fun _ _ _ _ => .stuck⟩ fd.body (enter fd ps) st) := by
  unfold callX
  rw [ht]
  simp only
  rw [if_pos ha]
  rfl
/-! exceptions -/
noncomputable def kXis (h : Option Hx) (C : Nat) (r : Res PV) : Res PV := r.bind fun p st => xisR h C p st
theorem ev_xis {C a} : den Γ (.xis C a) ρ st = kXis Γ.hot C (den Γ a ρ st) := by rw [den]; rfl
theorem ev_xis1 {C a d c fs} : kXis (some (a, d, c)) C (.ok (.exn a d c fs) st) = .ok (.d (.bool (xsub c C))) st := by
  show (if some (a, d, c) = some (a, d, c) then _ else _) = _
  rw [if_pos rfl]
noncomputable def kRaise (h : Option Hx) (c : Nat) (st : Store) : Res Out := if h = none then .exc c [] st else .stuck
theorem ev_raise {c} : run Γ (.raiseS c) ρ st = kRaise Γ.hot c st := by rw [run]; rfl
theorem ev_raise1 {c} : kRaise none c st = .exc c [] st := rfl
/-- the handler, run -/
noncomputable def kAny (Γ : Ctx) (i : Nat) (h : S) (n c : Nat) (fs : List (Str × D)) (st : Store) : Res Out := anyX fun a b => run (Γ.hotter (a, dOf b fs, c)) h ((List.replicate n .no).set i (.sh (.exn a (dOf b fs) c fs))) st
noncomputable def kTry (Γ : Ctx) (i : Nat) (h : S) (n : Nat) (o : Option Hx) (r : Res Out) : Res Out := match o, r with
    | none, .exc c fs st' => kAny Γ i h n c fs st'
    | none, .ok o st' => .ok o st'
    | _, _ => .stuck
theorem ev_try {b i h} : run Γ (.tryR b i h) ρ st = kTry Γ i h ρ.length Γ.hot (run Γ b ρ st) := by rw [run]; rfl
theorem ev_tryN {i h n o} : kTry Γ i h n none (.ok o st) = .ok o st := rfl
theorem ev_tryX {i h n c fs} : kTry Γ i h n none (.exc c fs st) = kAny Γ i h n c fs st := rfl
theorem ev_tryI {i h n} {c : Prop} [Decidable c] {x y : Res Out} : kTry Γ i h n none (if c then x else y) = if c then kTry Γ i h n none x else kTry Γ i h n none y := by split <;> rfl
theorem anyX_ret {f : Nat → Nat → Res Out} {p n} (h : ∀ a b, f a b = .ok (.ret p n) st) : anyX f = .ok (.ret p n) st := by
  unfold anyX
  have e : ∃ p n st, ∀ a b, f a b = .ok (.ret p n) st := ⟨p, n, st, h⟩
  rw [dif_pos e]
  have q := e.choose_spec.choose_spec.choose_spec 0 0
  rw [h 0 0] at q
  exact q.symm
theorem any_ret {i h n c fs p nw} (q : ∀ a d, run (Γ.hotter (a, d, c)) h ((List.replicate n .no).set i (.sh (.exn a d c fs))) st = .ok (.ret p nw) st) : kAny Γ i h n c fs st = .ok (.ret p nw) st := anyX_ret fun a b => q a (dOf b fs)
/-! exceptions with fields -/
noncomputable def kXat (h : Option Hx) (f : Str) (r : Res PV) : Res PV := r.bind fun p st => xatR h f p st
theorem ev_xat {f a} : den Γ (.xat f a) ρ st = kXat Γ.hot f (den Γ a ρ st) := by rw [den]; rfl
theorem ev_xat1 {a d c x} : kXat (some (a, d, c)) "at" (.ok (.exn a d c [("at", x)]) st) = .ok (.d x) st := by
  show (if some (a, d, c) = some (a, d, c) ∧ _ then _ else _) = _
  rw [if_pos ⟨rfl, by decide +kernel⟩]; rfl
theorem ev_xat2 {a d c x} : kXat (some (a, d, c)) "wrong" (.ok (.exn a d c [("wrong", x)]) st) = .ok (.d x) st := by
  show (if some (a, d, c) = some (a, d, c) ∧ _ then _ else _) = _
  rw [if_pos ⟨rfl, by decide +kernel⟩]; rfl
theorem ev_xat3 {a d c x y} : kXat (some (a, d, c)) "many" (.ok (.exn a d c [("most", y), ("many", x)]) st) = .ok (.d x) st := by
  show (if some (a, d, c) = some (a, d, c) ∧ _ then _ else _) = _
  rw [if_pos ⟨rfl, by decide +kernel⟩]; rfl
theorem ev_xat4 {a d c x y} : kXat (some (a, d, c)) "most" (.ok (.exn a d c [("most", y), ("many", x)]) st) = .ok (.d y) st := by
  show (if some (a, d, c) = some (a, d, c) ∧ _ then _ else _) = _
  rw [if_pos ⟨rfl, by decide +kernel⟩]; rfl
noncomputable def kRaiseA (h : Option Hx) (c : Nat) (r : Res (List PV)) : Res Out := r.bind fun ps st => raiseR h c ps st
theorem ev_raiseA {c es} : run Γ (.raiseA c es) ρ st = kRaiseA Γ.hot c (denA Γ es ρ st) := by rw [run]; rfl
theorem ev_raise6m : kRaiseA none 6 (.ok [.d (.int (-1))] st) = .exc 6 [("at", .int (-1))] st := rfl
theorem ev_raise8m : kRaiseA none 8 (.ok [.d (.int (-1))] st) = .exc 8 [("at", .int (-1))] st := rfl
theorem raise_one {c : Nat} {i : Int} (hc : c = 6 ∨ c = 7 ∨ c = 8) (h : -1 ≤ i ∧ i ≤ 100) : kRaiseA none c (.ok [.d (.int i)] st) = .exc c ((xfN c).zip [.int i]).reverse st := by
  have e : strOk (.int i) = true := decide_eq_true h
  show (match (if 6 ≤ c ∧ c ≤ 9 ∧ [PyData.int i].length = (xfN c).length ∧ [PyData.int i].all strOk = true then some ((xfN c).zip [PyData.int i]).reverse else none) with | some fs => Res.exc c fs st | none => Res.stuck) = _
  rw [if_pos ⟨by omega, by omega, by rcases hc with rfl | rfl | rfl <;> rfl, by rw [List.all_cons, e]; rfl⟩]
theorem raise_two {i j : Int} (h : -1 ≤ i ∧ i ≤ 100) (h' : -1 ≤ j ∧ j ≤ 100) : kRaiseA none 9 (.ok [.d (.int i), .d (.int j)] st) = .exc 9 [("most", .int j), ("many", .int i)] st := by
  have e : strOk (.int i) = true := decide_eq_true h
  have e' : strOk (.int j) = true := decide_eq_true h'
  show (match (if 6 ≤ 9 ∧ 9 ≤ 9 ∧ [PyData.int i, .int j].length = (xfN 9).length ∧ [PyData.int i, .int j].all strOk = true then some ((xfN 9).zip [PyData.int i, .int j]).reverse else none) with | some fs => Res.exc 9 fs st | none => Res.stuck) = _
  rw [if_pos ⟨by omega, by omega, rfl, by rw [List.all_cons, e, List.all_cons, e']; rfl⟩]
  rfl
theorem ev_d0 : den Γ .d0 ρ st = .ok (.d emptyD) st := by rw [den]
theorem ev_dI {i b} : den Γ (.dI i b) ρ st = .ok (.d (.dict [(.int i, .bool b)])) st := by rw [den]
noncomputable def kGet3 (ks : List (D × D)) (q : PV) (r : Res PV) : Res PV := r.bind fun r st => dgetR ks q r st
noncomputable def kGet2 (Γ : Ctx) (z : E) (ρ : Env) (ks : List (D × D)) (r : Res PV) : Res PV := r.bind fun q st => kGet3 ks q (den Γ z ρ st)
noncomputable def kGet (Γ : Ctx) (k z : E) (ρ : Env) (r : Res PV) : Res PV := r.bind fun p st => match p with
    | .d (.dict ks) => if clsAll ks then kGet2 Γ z ρ ks (den Γ k ρ st) else .stuck
    | _ => .stuck
theorem ev_dget {a k z} : den Γ (.dget a k z) ρ st = kGet Γ k z ρ (den Γ a ρ st) := by rw [den]; rfl
theorem ev_get1 {k z ks} : kGet Γ k z ρ (.ok (.d (.dict ks)) st) = if clsAll ks = true then kGet2 Γ z ρ ks (den Γ k ρ st) else .stuck := rfl
theorem ev_get2 {z ks q} : kGet2 Γ z ρ ks (.ok q st) = kGet3 ks q (den Γ z ρ st) := rfl
theorem ev_get3 {ks k z} : kGet3 ks (.d k) (.ok (.d z) st) = if clsK k ks = true then .ok (.d ((lookD ks k).getD z)) st else .stuck := rfl
noncomputable def kVals (r : Res PV) : Res PV := r.bind valsR
theorem ev_vals {a} : den Γ (.vals a) ρ st = kVals (den Γ a ρ st) := by rw [den]; rfl
theorem ev_vals1 {ks} : kVals (.ok (.d (.dict ks)) st) = if (clsAll ks && decide (ks.length < 1000000)) = true then .ok (.d (.list (ks.map (·.2)))) st else .stuck := rfl
theorem ev_dA {x i} : den Γ (.dA x i) ρ st = .ok (.d (.dict [(.str x, .int i)])) st := by rw [den]
noncomputable def kLstR (r : Res PV) : Res PV := r.bind fun p st => match p with
    | .d (.int j) => ofO ((lstRD j).map .d) st
    | _ => .stuck
theorem ev_lstR {a} : den Γ (.lstR a) ρ st = kLstR (den Γ a ρ st) := by rw [den]; rfl
theorem ev_lstR1 {j} : kLstR (.ok (.d (.int j)) st) = ofO ((lstRD j).map .d) st := rfl
noncomputable def kJn2 (a : Str) (r : Res PV) : Res PV := r.bind fun q st => ofO ((joinD a q).map .d) st
noncomputable def kJn (Γ : Ctx) (b : E) (ρ : Env) (r : Res PV) : Res PV := r.bind fun p st => match p with
    | .d (.str x) => kJn2 x (den Γ b ρ st)
    | _ => .stuck
theorem ev_jn {a b} : den Γ (.jn a b) ρ st = kJn Γ b ρ (den Γ a ρ st) := by rw [den]; rfl
theorem ev_jn1 {b x} : kJn Γ b ρ (.ok (.d (.str x)) st) = kJn2 x (den Γ b ρ st) := rfl
theorem ev_jn2 {x q} : kJn2 x (.ok q st) = ofO ((joinD x q).map .d) st := rfl
noncomputable def kSpl2 (a : Str) (r : Res PV) : Res PV := r.bind fun q st => ofO ((splitD a q).map .d) st
noncomputable def kSpl (Γ : Ctx) (b : E) (ρ : Env) (r : Res PV) : Res PV := r.bind fun p st => match p with
    | .d (.str x) => kSpl2 x (den Γ b ρ st)
    | _ => .stuck
theorem ev_spl {a b} : den Γ (.spl a b) ρ st = kSpl Γ b ρ (den Γ a ρ st) := by rw [den]; rfl
theorem ev_spl1 {b x} : kSpl Γ b ρ (.ok (.d (.str x)) st) = kSpl2 x (den Γ b ρ st) := rfl
theorem ev_spl2 {x q} : kSpl2 x (.ok q st) = ofO ((splitD x q).map .d) st := rfl
noncomputable def kLr2b (p : PV) (r : Res PV) : Res PV := r.bind fun q st => ofO ((lstR2D p q).map .d) st
noncomputable def kLr2 (Γ : Ctx) (b : E) (ρ : Env) (r : Res PV) : Res PV := r.bind fun p st => kLr2b p (den Γ b ρ st)
theorem ev_lr2 {a b} : den Γ (.lstR2 a b) ρ st = kLr2 Γ b ρ (den Γ a ρ st) := by rw [den]; rfl
theorem ev_lr2a {b p} : kLr2 Γ b ρ (.ok p st) = kLr2b p (den Γ b ρ st) := rfl
theorem ev_lr2b {p q} : kLr2b p (.ok q st) = ofO ((lstR2D p q).map .d) st := rfl
noncomputable def kSset (r : Res PV) : Res PV := r.bind fun p st => match p with
    | .d x => ofO ((ssetD x).map .d) st
    | _ => .stuck
theorem ev_sset {a} : den Γ (.sset a) ρ st = kSset (den Γ a ρ st) := by rw [den]; rfl
theorem ev_sset1 {x} : kSset (.ok (.d x) st) = ofO ((ssetD x).map .d) st := rfl
noncomputable def kTold (f : Bool) (w : Str) (r : Res PV) : Res PV := r.bind fun p st => toldR f w p st
theorem ev_told {w a} : den Γ (.told w a) ρ st = kTold (fresh Γ.fresh a) w (den Γ a ρ st) := by rw [den]; rfl
theorem ev_told1 {w xs} : kTold true w (.ok (.d (.list xs)) st) = .ok (.two w xs) st := rfl
theorem ev_x_kTold {f : Bool} {w : Str} {c0 : Nat} {f0 : List (Str × D)} : kTold f w (.exc c0 f0 st) = .exc c0 f0 st := rfl
noncomputable def kLenS (r : Res PV) : Res PV := r.bind fun p st => match p with
    | .d x => ofO ((lenSD x).map .d) st
    | _ => .stuck
theorem ev_lenS {a} : den Γ (.lenS a) ρ st = kLenS (den Γ a ρ st) := by rw [den]; rfl
theorem ev_lenS1 {x} : kLenS (.ok (.d x) st) = ofO ((lenSD x).map .d) st := rfl
theorem ev_x_kLenS {c0 : Nat} {f0 : List (Str × D)} : kLenS (.exc c0 f0 st) = .exc c0 f0 st := rfl
noncomputable def kInR1 (Γ : Ctx) (neg : Bool) (b : E) (ρ : Env) (r : Res PV) : Res PV := r.bind fun p st => (den Γ b ρ st).bind fun q st => inRR neg p q st
noncomputable def kInR2 (neg : Bool) (p : PV) (r : Res PV) : Res PV := r.bind fun q st => inRR neg p q st
theorem ev_inR {neg a b} : den Γ (.inR neg a b) ρ st = kInR1 Γ neg b ρ (den Γ a ρ st) := by rw [den]; rfl
theorem ev_inR1 {neg b p} : kInR1 Γ neg b ρ (.ok p st) = kInR2 neg p (den Γ b ρ st) := rfl
theorem ev_inR2 {i j : Int} : kInR2 false (.d (.int i)) (.ok (.d (.int j)) st) = .ok (.d (.bool (decide (0 ≤ i ∧ i < j)))) st := rfl
theorem ev_inR3 {i j : Int} : kInR2 true (.d (.int i)) (.ok (.d (.int j)) st) = .ok (.d (.bool (!decide (0 ≤ i ∧ i < j)))) st := rfl
theorem ev_x_kInR1 {neg : Bool} {b : E} {c0 : Nat} {f0 : List (Str × D)} : kInR1 Γ neg b ρ (.exc c0 f0 st) = .exc c0 f0 st := rfl
theorem ev_x_kInR2 {neg : Bool} {p : PV} {c0 : Nat} {f0 : List (Str × D)} : kInR2 neg p (.exc c0 f0 st) = .exc c0 f0 st := rfl
theorem ev_x_kXat {h : Option Hx} {f : Str} {c0 : Nat} {f0 : List (Str × D)} : kXat h f (.exc c0 f0 st) = .exc c0 f0 st := rfl
theorem ev_x_kRaiseA {h : Option Hx} {c : Nat} {c0 : Nat} {f0 : List (Str × D)} : kRaiseA h c (.exc c0 f0 st) = .exc c0 f0 st := rfl
theorem ev_x_kEmp {c0 : Nat} {f0 : List (Str × D)} : kEmp (.exc c0 f0 st) = .exc c0 f0 st := rfl
theorem ev_x_kLstR {c0 : Nat} {f0 : List (Str × D)} : kLstR (.exc c0 f0 st) = .exc c0 f0 st := rfl
theorem ev_x_kSset {c0 : Nat} {f0 : List (Str × D)} : kSset (.exc c0 f0 st) = .exc c0 f0 st := rfl
theorem ev_x_kOp2 {o : Op} {p : PV} {c0 : Nat} {f0 : List (Str × D)} : kOp2 o p (.exc c0 f0 st) = .exc c0 f0 st := rfl
theorem ev_x_kOp1 {o : Op} {b : E} {c0 : Nat} {f0 : List (Str × D)} : kOp1 Γ o b ρ (.exc c0 f0 st) = .exc c0 f0 st := rfl
theorem ev_x_kCm2 {o : Cm} {p : PV} {c0 : Nat} {f0 : List (Str × D)} : kCm2 o p (.exc c0 f0 st) = .exc c0 f0 st := rfl
theorem ev_x_kCm1 {o : Cm} {b : E} {c0 : Nat} {f0 : List (Str × D)} : kCm1 Γ o b ρ (.exc c0 f0 st) = .exc c0 f0 st := rfl
theorem ev_x_kCh2 {o : Cm} {u : Cm} {p : PV} {c : E} {c0 : Nat} {f0 : List (Str × D)} : kCh2 Γ o u p c ρ (.exc c0 f0 st) = .exc c0 f0 st := rfl
theorem ev_x_kCh1 {o : Cm} {u : Cm} {b : E} {c : E} {c0 : Nat} {f0 : List (Str × D)} : kCh1 Γ o u b c ρ (.exc c0 f0 st) = .exc c0 f0 st := rfl
theorem ev_x_kA1 {r : E} {c0 : Nat} {f0 : List (Str × D)} : kA1 Γ r ρ (.exc c0 f0 st) = .exc c0 f0 st := rfl
theorem ev_x_kNeg  {c0 : Nat} {f0 : List (Str × D)} : kNeg (.exc c0 f0 st) = .exc c0 f0 st := rfl
theorem ev_x_kNot  {c0 : Nat} {f0 : List (Str × D)} : kNot (.exc c0 f0 st) = .exc c0 f0 st := rfl
theorem ev_x_kAnd {b : E} {c0 : Nat} {f0 : List (Str × D)} : kAnd Γ b ρ (.exc c0 f0 st) = .exc c0 f0 st := rfl
theorem ev_x_kOr {b : E} {c0 : Nat} {f0 : List (Str × D)} : kOr Γ b ρ (.exc c0 f0 st) = .exc c0 f0 st := rfl
theorem ev_x_kOne  {c0 : Nat} {f0 : List (Str × D)} : kOne (.exc c0 f0 st) = .exc c0 f0 st := rfl
theorem ev_x_kIte {a : E} {b : E} {c0 : Nat} {f0 : List (Str × D)} : kIte Γ a b ρ (.exc c0 f0 st) = .exc c0 f0 st := rfl
theorem ev_x_kIx2 {p : PV} {c0 : Nat} {f0 : List (Str × D)} : kIx2 p (.exc c0 f0 st) = .exc c0 f0 st := rfl
theorem ev_x_kIx1 {i : E} {c0 : Nat} {f0 : List (Str × D)} : kIx1 Γ i ρ (.exc c0 f0 st) = .exc c0 f0 st := rfl
theorem ev_x_kSl1 {lo : E} {hi : E} {c0 : Nat} {f0 : List (Str × D)} : kSl1 Γ lo hi ρ (.exc c0 f0 st) = .exc c0 f0 st := rfl
theorem ev_x_kP  {c0 : Nat} {f0 : List (Str × D)} : kP (.exc c0 f0 st) = .exc c0 f0 st := rfl
theorem ev_x_kRev  {c0 : Nat} {f0 : List (Str × D)} : kRev (.exc c0 f0 st) = .exc c0 f0 st := rfl
theorem ev_x_kR1  {c0 : Nat} {f0 : List (Str × D)} : kR1 (.exc c0 f0 st) = .exc c0 f0 st := rfl
theorem ev_x_kR22 {i : Int} {c0 : Nat} {f0 : List (Str × D)} : kR22 i (.exc c0 f0 st) = .exc c0 f0 st := rfl
theorem ev_x_kR2 {b : E} {c0 : Nat} {f0 : List (Str × D)} : kR2 Γ b ρ (.exc c0 f0 st) = .exc c0 f0 st := rfl
theorem ev_x_kComp {elt : E} {t : Tg} {cnd : E} {c0 : Nat} {f0 : List (Str × D)} : kComp Γ elt t cnd ρ (.exc c0 f0 st) = .exc c0 f0 st := rfl
theorem ev_x_kEnm  {c0 : Nat} {f0 : List (Str × D)} : kEnm (.exc c0 f0 st) = .exc c0 f0 st := rfl
theorem ev_x_kZp2 {p : PV} {c0 : Nat} {f0 : List (Str × D)} : kZp2 p (.exc c0 f0 st) = .exc c0 f0 st := rfl
theorem ev_x_kZp1 {b : E} {c0 : Nat} {f0 : List (Str × D)} : kZp1 Γ b ρ (.exc c0 f0 st) = .exc c0 f0 st := rfl
theorem ev_x_kTupR  {c0 : Nat} {f0 : List (Str × D)} : kTupR (.exc c0 f0 st) = .exc c0 f0 st := rfl
theorem ev_x_kMth2 {m : Me} {xs : List D} {c0 : Nat} {f0 : List (Str × D)} : kMth2 m xs (.exc c0 f0 st) = .exc c0 f0 st := rfl
theorem ev_x_kMth1 {m : Me} {b : E} {c0 : Nat} {f0 : List (Str × D)} : kMth1 Γ m b ρ (.exc c0 f0 st) = .exc c0 f0 st := rfl
theorem ev_x_kC  {c0 : Nat} {f0 : List (Str × D)} : kC (.exc c0 f0 st) = .exc c0 f0 st := rfl
theorem ev_x_kEl2  {c0 : Nat} {f0 : List (Str × D)} : kEl2 (.exc c0 f0 st) = .exc c0 f0 st := rfl
theorem ev_x_kEl1 {elt : E} {c0 : Nat} {f0 : List (Str × D)} : kEl1 Γ elt ρ (.exc c0 f0 st) = .exc c0 f0 st := rfl
theorem ev_x_kSet {i : Nat} {e : E} {c0 : Nat} {f0 : List (Str × D)} : kSet Γ i e ρ (.exc c0 f0 st) = .exc c0 f0 st := rfl
theorem ev_x_kSetO {i : Nat} {e : E} {c0 : Nat} {f0 : List (Str × D)} : kSetO Γ i e ρ (.exc c0 f0 st) = .exc c0 f0 st := rfl
theorem ev_x_kSetT {is : List Nat} {e : E} {c0 : Nat} {f0 : List (Str × D)} : kSetT Γ is e ρ (.exc c0 f0 st) = .exc c0 f0 st := rfl
theorem ev_x_kPar2 {i : Nat} {j : Nat} {a : E} {b : E} {p : PV} {c0 : Nat} {f0 : List (Str × D)} : kPar2 i j a b ρ p (.exc c0 f0 st) = .exc c0 f0 st := rfl
theorem ev_x_kPar1 {i : Nat} {j : Nat} {a : E} {b : E} {c0 : Nat} {f0 : List (Str × D)} : kPar1 Γ i j a b ρ (.exc c0 f0 st) = .exc c0 f0 st := rfl
theorem ev_x_kPar33 {i : Nat} {j : Nat} {l : Nat} {es : List Nat} {p : PV} {q : PV} {c0 : Nat} {f0 : List (Str × D)} : kPar33 i j l es ρ p q (.exc c0 f0 st) = .exc c0 f0 st := rfl
theorem ev_x_kPar32 {i : Nat} {j : Nat} {l : Nat} {es : List Nat} {c : E} {p : PV} {c0 : Nat} {f0 : List (Str × D)} : kPar32 Γ i j l es c ρ p (.exc c0 f0 st) = .exc c0 f0 st := rfl
theorem ev_x_kPar31 {i : Nat} {j : Nat} {l : Nat} {es : List Nat} {b : E} {c : E} {c0 : Nat} {f0 : List (Str × D)} : kPar31 Γ i j l es b c ρ (.exc c0 f0 st) = .exc c0 f0 st := rfl
theorem ev_x_kIfS {a : S} {b : S} {c0 : Nat} {f0 : List (Str × D)} : kIfS Γ a b ρ (.exc c0 f0 st) = .exc c0 f0 st := rfl
theorem ev_x_kFor {t : Tg} {it : E} {b : S} {c0 : Nat} {f0 : List (Str × D)} : kFor Γ t it b ρ (.exc c0 f0 st) = .exc c0 f0 st := rfl
theorem ev_x_kUn {j : Nat} {xs : List D} {c0 : Nat} {f0 : List (Str × D)} : kUn j xs (.exc c0 f0 st) = .exc c0 f0 st := rfl
theorem ev_x_kSetI1 {i : Nat} {es : List Nat} {p : PV} {c0 : Nat} {f0 : List (Str × D)} : kSetI1 i es ρ p (.exc c0 f0 st) = .exc c0 f0 st := rfl
theorem ev_x_kSetI0 {i : Nat} {ix : E} {es : List Nat} {c0 : Nat} {f0 : List (Str × D)} : kSetI0 Γ i ix es ρ (.exc c0 f0 st) = .exc c0 f0 st := rfl
theorem ev_x_kRet {e : E} {c0 : Nat} {f0 : List (Str × D)} : kRet Γ e (.exc c0 f0 st) = .exc c0 f0 st := rfl
theorem ev_x_kExp  {c0 : Nat} {f0 : List (Str × D)} : kExp ρ (.exc c0 f0 st) = .exc c0 f0 st := rfl
theorem ev_x_kApp1 {i : Nat} {e : E} {c0 : Nat} {f0 : List (Str × D)} : kApp1 i e ρ (.exc c0 f0 st) = .exc c0 f0 st := rfl
theorem ev_x_kFor1 {t : Tg} {b : S} {xs : List D} {c0 : Nat} {f0 : List (Str × D)} : kFor1 Γ t b xs (.exc c0 f0 st) = .exc c0 f0 st := rfl
theorem ev_x_kXis {h : Option Hx} {C : Nat} {c0 : Nat} {f0 : List (Str × D)} : kXis h C (.exc c0 f0 st) = .exc c0 f0 st := rfl
theorem ev_x_kA2 {p : PV} {c0 : Nat} {f0 : List (Str × D)} : kA2 p (.exc c0 f0 st) = .exc c0 f0 st := rfl
theorem ev_x_kTup {c0 : Nat} {f0 : List (Str × D)} : kTup (.exc c0 f0 st) = .exc c0 f0 st := rfl
theorem ev_x_kLst {c0 : Nat} {f0 : List (Str × D)} : kLst (.exc c0 f0 st) = .exc c0 f0 st := rfl
theorem ev_x_kCall {f : Nat} {c0 : Nat} {f0 : List (Str × D)} : kCall Γ f (.exc c0 f0 st) = .exc c0 f0 st := rfl
theorem ev_x_kBlt {b : Bi} {c0 : Nat} {f0 : List (Str × D)} : kBlt b (.exc c0 f0 st) = .exc c0 f0 st := rfl
/-! what is settled -/
theorem settle_eq {b : Bool} {is} : settle ρ b is = if b = true then ρ else demote ρ is := by cases b <;> rfl
theorem demote_nil : demote ρ [] = ρ := rfl
noncomputable def dem1 (ρ : Env) (i : Nat) (s : Option Slot) : Env := match s with
  | some (.own c) => ρ.set i (.sh (.d (ocD c)))
  | _ => ρ
theorem demote_cons {i is} : demote ρ (i :: is) = demote (dem1 ρ i ρ[i]?) is := by
  rw [demote]
  unfold dem1
  cases ρ[i]? with
  | none => rfl
  | some s => cases s <;> rfl
theorem dem_ow {i xs} : dem1 ρ i (some (.own (.l xs))) = ρ.set i (.sh (.d (.list xs))) := rfl
theorem dem_od {i ks} : dem1 ρ i (some (.own (.d ks))) = ρ.set i (.sh (.d (.dict ks))) := rfl
theorem dem_sh {i p} : dem1 ρ i (some (.sh p)) = ρ := rfl
theorem dem_no {i} : dem1 ρ i (some .no) = ρ := rfl
theorem dem_none {i} : dem1 ρ i none = ρ := rfl
noncomputable def lookS (s : Option Slot) : Option PV := match s with
  | some (.sh p) => some p
  | some (.own c) => some (.d (ocD c))
  | _ => none
theorem look_eq {i} : look ρ i = lookS ρ[i]? := rfl
theorem look_sh {p} : lookS (some (.sh p)) = some p := rfl
theorem look_od {ks} : lookS (some (.own (.d ks))) = some (.d (.dict ks)) := rfl
theorem look_ow {xs} : lookS (some (.own (.l xs))) = some (.d (.list xs)) := rfl
end
end Sw

set_option linter.all false
set_option maxRecDepth 100000
set_option maxHeartbeats 1000000
/-! Data of this program as plain things: places, ties, webs. -/
namespace Sw
open PySem
abbrev iN (n : Nat) : D := .int (n : Int)
abbrev tN (xs : List Nat) : D := .tuple (xs.map iN)
abbrev pD (p : Nat × Nat) : D := .tuple [.int (p.1 : Int), .int (p.2 : Int)]
abbrev t3 (p : Nat × Nat × Nat) : D := .tuple [.int (p.1 : Int), .int (p.2.1 : Int), .int (p.2.2 : Int)]
def pairs (n : Nat) : List (Nat × Nat) := (List.range n).flatMap fun i => (List.range' (i + 1) (n - (i + 1))).map fun j => (i, j)
def threes (n : Nat) : List (Nat × Nat × Nat) := (pairs n).flatMap fun p => (List.range' (p.2 + 1) (n - (p.2 + 1))).map fun k => (p.1, p.2, k)
abbrev tiesOf (n : Nat) (t : Nat × Nat → Bool) : List (Nat × Nat) := (pairs n).filter t
/-- the web of n places, tied as t says -/
def wP (n : Nat) (t : Nat × Nat → Bool) : D := .tuple [.int (n : Int), .tuple ((tiesOf n t).map pD)]
theorem mem_pairs {n i j : Nat} : (i, j) ∈ pairs n ↔ i < j ∧ j < n := by
  unfold pairs
  simp only [List.mem_flatMap, List.mem_range, List.mem_map, List.mem_range'_1, Prod.mk.injEq]
  constructor
  · rintro ⟨a, ha, b, hb, rfl, rfl⟩; omega
  · rintro ⟨h1, h2⟩; exact ⟨i, by omega, j, by omega, rfl, rfl⟩
theorem mem_ties {n i j : Nat} {t : Nat × Nat → Bool} : (i, j) ∈ tiesOf n t ↔ (i < j ∧ j < n) ∧ t (i, j) = true := by
  rw [List.mem_filter, mem_pairs]
theorem wP_congr {n : Nat} {t u : Nat × Nat → Bool} (h : ∀ i j, i < j → j < n → t (i, j) = u (i, j)) : wP n t = wP n u := by
  unfold wP tiesOf
  rw [List.filter_congr fun p hp => h p.1 p.2 (mem_pairs.mp hp).1 (mem_pairs.mp hp).2]
/-! flat data -/
theorem flat_i (i : Int) : flat (.int i) = true := rfl
theorem plainAll_map {α : Type} {f : α → D} (h : ∀ a, (f a).plain = true) : ∀ L : List α, PyData.plainAll (L.map f) = true
  | [] => rfl
  | a :: L => by simp only [List.map_cons, PyData.plainAll, h a, plainAll_map h L, Bool.and_self]
theorem depthAll_map {α : Type} {f : α → D} {d : Nat} (h : ∀ a, (f a).depth ≤ d) : ∀ L : List α, PyData.depthAll (L.map f) ≤ d
  | [] => Nat.zero_le _
  | a :: L => by
    simp only [List.map_cons, PyData.depthAll]
    exact Nat.max_le.mpr ⟨h a, depthAll_map h L⟩
theorem flatAll_map {α : Type} {f : α → D} (h : ∀ a, (f a).plain = true ∧ (f a).depth ≤ 50) (L : List α) : flatAll (L.map f) = true := by
  unfold flatAll
  rw [plainAll_map (fun a => (h a).1) L]
  exact decide_eq_true (Nat.le_trans (depthAll_map (fun a => (h a).2) L) (by decide))
theorem flat_map {α : Type} {f : α → D} (h : ∀ a, (f a).plain = true ∧ (f a).depth ≤ 50) (L : List α) : flat (.tuple (L.map f)) = true := by
  have e : PyData.depth (.tuple (L.map f)) = PyData.depthAll (L.map f) + 1 := by simp [PyData.depth]
  have e2 : PyData.plain (.tuple (L.map f)) = true := by simp only [PyData.plain]; exact plainAll_map (fun a => (h a).1) L
  unfold flat
  rw [e2]
  have := depthAll_map (fun a => (h a).2) L
  exact decide_eq_true (by rw [e]; omega)
theorem flat_mapL {α : Type} {f : α → D} (h : ∀ a, (f a).plain = true ∧ (f a).depth ≤ 50) (L : List α) : flat (.list (L.map f)) = true := flat_map h L
theorem ok_i (n : Nat) : (iN n).plain = true ∧ (iN n).depth ≤ 50 := ⟨rfl, Nat.zero_le _⟩
theorem ok_p (p : Nat × Nat) : (pD p).plain = true ∧ (pD p).depth ≤ 50 := ⟨rfl, by simp [PyData.depth, PyData.depthAll]⟩
theorem ok_3 (p : Nat × Nat × Nat) : (t3 p).plain = true ∧ (t3 p).depth ≤ 50 := ⟨rfl, by simp [PyData.depth, PyData.depthAll]⟩
theorem dep_t (s : List Nat) : (tN s).plain = true ∧ (tN s).depth ≤ 1 := ⟨by simp only [PyData.plain]; exact plainAll_map (fun a => (ok_i a).1) s, by
  have := depthAll_map (f := iN) (d := 0) (fun a => Nat.le_refl _) s
  simp only [PyData.depth]; omega⟩
theorem ok_t (s : List Nat) : (tN s).plain = true ∧ (tN s).depth ≤ 50 := ⟨(dep_t s).1, Nat.le_trans (dep_t s).2 (by omega)⟩
theorem dep_w (n : Nat) (t : Nat × Nat → Bool) : (wP n t).plain = true ∧ (wP n t).depth ≤ 3 := by
  unfold wP
  have h := depthAll_map (f := pD) (d := 1) (fun a => by simp [PyData.depth, PyData.depthAll]) (tiesOf n t)
  refine ⟨?_, ?_⟩
  · simp only [PyData.plain, PyData.plainAll, plainAll_map (fun a => (ok_p a).1) (tiesOf n t), Bool.and_self]
  · simp only [PyData.depth, PyData.depthAll]; omega
theorem ok_w (n : Nat) (t : Nat × Nat → Bool) : (wP n t).plain = true ∧ (wP n t).depth ≤ 50 := ⟨(dep_w n t).1, Nat.le_trans (dep_w n t).2 (by omega)⟩
theorem flat_of {x : D} (h : x.plain = true ∧ x.depth ≤ 50) : flat x = true := by
  unfold flat
  simp only [h.1, Bool.true_and, decide_eq_true_eq]
  omega
/-! equality -/
mutual
theorem eqv_selfP : ∀ x : D, x.plain = true → PyData.eqv x x = true
  | .none, _ => by simp [PyData.eqv]
  | .bool _, _ => by simp [PyData.eqv]
  | .int _, _ => by simp [PyData.eqv]
  | .str _, _ => by simp [PyData.eqv]
  | .list xs, h => by
    simp only [PyData.eqv]
    exact eqvAll_self xs (by simpa only [PyData.plain] using h)
  | .tuple xs, h => by
    simp only [PyData.eqv]
    exact eqvAll_self xs (by simpa only [PyData.plain] using h)
  | .dict _, h => by simp [PyData.plain] at h
theorem eqvAll_self : ∀ xs : List D, PyData.plainAll xs = true → PyData.eqvAll xs xs = true
  | [], _ => by simp [PyData.eqvAll]
  | x :: xs, h => by
    simp only [PyData.plainAll, Bool.and_eq_true] at h
    simp only [PyData.eqvAll, eqv_selfP x h.1, eqvAll_self xs h.2, Bool.and_self]
end
theorem eqD_self {x : D} (h : flat x = true) : eqD x x = some true := by
  unfold eqD
  rw [h]
  unfold flat at h
  rw [Bool.and_eq_true] at h
  simp [eqv_selfP x h.1]
theorem eqv_i (a b : Nat) : PyData.eqv (iN a) (iN b) = decide (a = b) := by
  simp only [PyData.eqv]
  by_cases h : a = b
  · subst h; simp
  · have : (a : Int) ≠ b := fun z => h (by omega)
    simp [h, this]
theorem eqvAll_map {α : Type} [DecidableEq α] {f : α → D} (h : ∀ a b, PyData.eqv (f a) (f b) = decide (a = b)) : ∀ L M : List α, PyData.eqvAll (L.map f) (M.map f) = decide (L = M)
  | [], [] => by simp [PyData.eqvAll]
  | [], _ :: _ => by simp [PyData.eqvAll]
  | _ :: _, [] => by simp [PyData.eqvAll]
  | a :: L, b :: M => by
    simp only [List.map_cons, PyData.eqvAll, h a b, eqvAll_map h L M]
    by_cases h1 : a = b <;> by_cases h2 : L = M <;> simp [h1, h2]
theorem eqv_p (p q : Nat × Nat) : PyData.eqv (pD p) (pD q) = decide (p = q) := by
  obtain ⟨a, b⟩ := p
  obtain ⟨c, d⟩ := q
  have e1 := eqv_i a c
  have e2 := eqv_i b d
  simp only [PyData.eqv, PyData.eqvAll] at e1 e2 ⊢
  rw [e1, e2]
  by_cases h1 : a = c <;> by_cases h2 : b = d <;> simp [h1, h2]
theorem eqv_3 (p q : Nat × Nat × Nat) : PyData.eqv (t3 p) (t3 q) = decide (p = q) := by
  obtain ⟨a, b, e⟩ := p
  obtain ⟨c, d, f⟩ := q
  have e1 := eqv_i a c
  have e2 := eqv_i b d
  have e3 := eqv_i e f
  simp only [PyData.eqv, PyData.eqvAll] at e1 e2 e3 ⊢
  rw [e1, e2, e3]
  by_cases h1 : a = c <;> by_cases h2 : b = d <;> by_cases h3 : e = f <;> simp [h1, h2, h3]
theorem eqv_t (s u : List Nat) : PyData.eqv (tN s) (tN u) = decide (s = u) := by
  simp only [PyData.eqv]
  exact eqvAll_map eqv_i s u
theorem eqv_tiesP (L M : List (Nat × Nat)) : PyData.eqv (.tuple (L.map pD)) (.tuple (M.map pD)) = decide (L = M) := by
  simp only [PyData.eqv]
  exact eqvAll_map eqv_p L M
theorem filter_eq_iff {α : Type} {p q : α → Bool} : ∀ {L : List α}, L.Nodup → (L.filter p = L.filter q ↔ ∀ a ∈ L, p a = q a) := fun {L} _ => by
  refine ⟨fun h a ha => ?_, fun h => List.filter_congr h⟩
  have h1 : a ∈ L.filter p ↔ a ∈ L.filter q := by rw [h]
  simp only [List.mem_filter, ha, true_and] at h1
  cases hp : p a <;> cases hq : q a <;> simp_all
theorem nodup_pairs (n : Nat) : (pairs n).Nodup := by
  unfold pairs
  rw [List.nodup_iff_pairwise_ne]
  rw [List.pairwise_flatMap]
  refine ⟨fun i hi => ?_, ?_⟩
  · rw [List.pairwise_map]
    refine List.Pairwise.imp ?_ (List.nodup_iff_pairwise_ne.mp (List.nodup_range' (s := i + 1) (n := n - (i + 1))))
    intro a b hab z
    exact hab (Prod.mk.inj z).2
  · refine List.Pairwise.imp ?_ (List.nodup_iff_pairwise_ne.mp (List.nodup_range (n := n)))
    intro a b hab x hx y hy z
    simp only [List.mem_map] at hx hy
    obtain ⟨_, _, rfl⟩ := hx
    obtain ⟨_, _, rfl⟩ := hy
    exact hab (Prod.mk.inj z).1
/-- the same web -/
def same (n : Nat) (t u : Nat × Nat → Bool) : Bool := (pairs n).all fun p => t p == u p
theorem same_iff {n : Nat} {t u : Nat × Nat → Bool} : same n t u = true ↔ ∀ i j, i < j → j < n → t (i, j) = u (i, j) := by
  unfold same
  rw [List.all_eq_true]
  exact ⟨fun h i j h1 h2 => by simpa using h (i, j) (mem_pairs.mpr ⟨h1, h2⟩), fun h p hp => by simpa using h p.1 p.2 (mem_pairs.mp hp).1 (mem_pairs.mp hp).2⟩
theorem eqv_w {n : Nat} (t u : Nat × Nat → Bool) : PyData.eqv (wP n t) (wP n u) = same n t u := by
  unfold wP
  have h1 := eqv_i n n
  have h2 := eqv_tiesP (tiesOf n t) (tiesOf n u)
  rw [PyData.eqv, PyData.eqvAll, PyData.eqvAll, PyData.eqvAll]
  rw [show PyData.eqv (.int (n : Int)) (.int (n : Int)) = decide (n = n) from h1, h2]
  simp only [decide_true, Bool.true_and, Bool.and_true]
  rw [Bool.eq_iff_iff, decide_eq_true_iff, filter_eq_iff (nodup_pairs n), same_iff]
  exact ⟨fun h i j h1 h2 => h (i, j) (mem_pairs.mpr ⟨h1, h2⟩), fun h p hp => h p.1 p.2 (mem_pairs.mp hp).1 (mem_pairs.mp hp).2⟩
theorem eqD_w {n : Nat} {t u : Nat × Nat → Bool} : eqD (wP n t) (wP n u) = some (same n t u) := by
  unfold eqD
  rw [flat_of (ok_w n t), flat_of (ok_w n u), eqv_w]
  rfl
/-! what operators do to such data -/
theorem any_map {α : Type} [DecidableEq α] {f : α → D} (h : ∀ a b, PyData.eqv (f a) (f b) = decide (a = b)) (L : List α) (x : α) {inst : Decidable (x ∈ L)} : (L.map f).any (fun y => PyData.eqv y (f x)) = @decide (x ∈ L) inst := by
  rw [Bool.eq_iff_iff, decide_eq_true_iff, List.any_eq_true]
  constructor
  · rintro ⟨y, hy, e⟩
    obtain ⟨a, ha, rfl⟩ := List.mem_map.mp hy
    rw [h, decide_eq_true_iff] at e
    exact e ▸ ha
  · exact fun hx => ⟨f x, List.mem_map.mpr ⟨x, hx, rfl⟩, by rw [h]; simp⟩
theorem inD_tup {α : Type} [DecidableEq α] {f : α → D} (ok : ∀ a, (f a).plain = true ∧ (f a).depth ≤ 50) (h : ∀ a b, PyData.eqv (f a) (f b) = decide (a = b)) (L : List α) (x : α) {inst : Decidable (x ∈ L)} : inD (f x) (.tuple (L.map f)) = some (@decide (x ∈ L) inst) := by
  show (if flat (f x) && flatAll (L.map f) then some ((L.map f).any fun y => PyData.eqv y (f x)) else none) = _
  rw [flat_of (ok x), flatAll_map ok, any_map h]
  rfl
theorem inD_lst {α : Type} [DecidableEq α] {f : α → D} (ok : ∀ a, (f a).plain = true ∧ (f a).depth ≤ 50) (h : ∀ a b, PyData.eqv (f a) (f b) = decide (a = b)) (L : List α) (x : α) {inst : Decidable (x ∈ L)} : inD (f x) (.list (L.map f)) = some (@decide (x ∈ L) inst) := inD_tup ok h L x
theorem in_i (s : List Nat) (x : Nat) : inD (.int (x : Int)) (.tuple (s.map iN)) = some (decide (x ∈ s)) := inD_tup ok_i eqv_i s x
theorem in_0 (s : List Nat) : inD (.int 0) (.tuple (s.map iN)) = some (decide (0 ∈ s)) := inD_tup ok_i eqv_i s 0
theorem in_iL (s : List Nat) (x : Nat) : inD (.int (x : Int)) (.list (s.map iN)) = some (decide (x ∈ s)) := inD_lst ok_i eqv_i s x
theorem in_p (L : List (Nat × Nat)) (i j : Nat) : inD (.tuple [.int (i : Int), .int (j : Int)]) (.tuple (L.map pD)) = some (decide ((i, j) ∈ L)) := inD_tup ok_p eqv_p L (i, j)
theorem in_p0 (L : List (Nat × Nat)) (j : Nat) : inD (.tuple [.int 0, .int (j : Int)]) (.tuple (L.map pD)) = some (decide ((0, j) ∈ L)) := inD_tup ok_p eqv_p L (0, j)
theorem in_pL (L : List (Nat × Nat)) (i j : Nat) : inD (.tuple [.int (i : Int), .int (j : Int)]) (.list (L.map pD)) = some (decide ((i, j) ∈ L)) := inD_lst ok_p eqv_p L (i, j)
theorem in_3L (L : List (Nat × Nat × Nat)) (i j k : Nat) : inD (.tuple [.int (i : Int), .int (j : Int), .int (k : Int)]) (.list (L.map t3)) = some (decide ((i, j, k) ∈ L)) := inD_lst ok_3 eqv_3 L (i, j, k)
theorem in_tL (L : List (List Nat)) (s : List Nat) : inD (.tuple (s.map iN)) (.list (L.map tN)) = some (decide (s ∈ L)) := inD_lst ok_t eqv_t L s
/-- a dict of threes -/
abbrev z3 (p : Nat × Nat × Nat) : List Int := [(p.1 : Int), (p.2.1 : Int), (p.2.2 : Int)]
def dict3 (L : List (Nat × Nat × Nat)) : D := dictI (L.map z3)
theorem z3_inj {p q : Nat × Nat × Nat} (h : z3 p = z3 q) : p = q := by
  obtain ⟨a, b, c⟩ := p
  obtain ⟨d, e, f⟩ := q
  simp only [z3, List.cons.injEq, Int.natCast_inj, and_true] at h
  obtain ⟨rfl, rfl, rfl⟩ := h
  rfl
theorem pairsD_3 : ∀ L : List (Nat × Nat × Nat), pairsD (L.map fun p => .tuple [t3 p, .bool true]) = some (L.map fun p => (t3 p, .bool true))
  | [] => rfl
  | p :: L => by
    rw [List.map_cons, pairsD, pairsD_3 L]
    rfl
theorem freshK_of {α : Type} {f : α → D} {g : α → D} (inj : ∀ a b, PyData.eqv (f a) (f b) = true → a = b) : ∀ {L : List α}, L.Nodup → freshK (L.map fun a => (f a, g a)) = true
  | [], _ => rfl
  | a :: L, h => by
    rw [List.nodup_cons] at h
    rw [List.map_cons, freshK, freshK_of inj h.2, Bool.and_true, List.all_eq_true]
    intro q hq
    obtain ⟨b, hb, rfl⟩ := List.mem_map.mp hq
    rw [Bool.not_eq_true']
    cases e : PyData.eqv (f b) (f a) with
    | false => rfl
    | true => exact absurd (inj b a e ▸ hb) h.1
theorem isT_3 (p : Nat × Nat × Nat) : isT (t3 p) = true := rfl
theorem bi_dict3 {L : List (Nat × Nat × Nat)} (h : L.Nodup) : biD .dictOf [.list (L.map fun p => .tuple [t3 p, .bool true])] = some (dict3 L) := by
  have e : biD .dictOf = biDict := rfl
  have f : freshK (L.map fun p => (t3 p, PyData.bool true)) = true := freshK_of (f := t3) (g := fun _ => .bool true) (fun a b z => by rw [eqv_3] at z; exact of_decide_eq_true z) h
  have c : clsAll (L.map fun p => (t3 p, PyData.bool true)) = true := by
    unfold clsAll
    rw [Bool.or_eq_true]
    exact .inr (List.all_eq_true.mpr fun q hq => by obtain ⟨p, _, rfl⟩ := List.mem_map.mp hq; exact isT_3 p)
  rw [e]
  unfold biDict
  simp only [pairsD_3, dkOk, c, f, Bool.and_self, if_true]
  unfold dict3 dictI
  rw [List.map_map]
  rfl
theorem keysOf_I : ∀ ks : List (List Int), keysOf (ks.map fun a => ((.tuple (a.map .int), .bool true) : D × D)) = some ks
  | [] => rfl
  | k :: ks => by
    rw [List.map_cons, keysOf, keysOf_I ks]
    show (match intsOf (k.map PyData.int), some ks with | some a, some b => some (a :: b) | _, _ => none) = _
    rw [intsOf_map]
theorem in_d3 (L : List (Nat × Nat × Nat)) (i j k : Nat) : inD (.tuple [.int (i : Int), .int (j : Int), .int (k : Int)]) (dict3 L) = some (decide ((i, j, k) ∈ L)) := by
  have e : rowOf (.tuple [.int (i : Int), .int (j : Int), .int (k : Int)]) = some (z3 (i, j, k)) := rfl
  show (match rowOf _, keysOf _ with | some r, some ks => some (decide (r ∈ ks)) | _, _ => if clsK _ _ then some _ else none) = _
  rw [e, keysOf_I]
  simp only [Option.some.injEq, decide_eq_decide, List.mem_map]
  exact ⟨fun ⟨p, hp, e⟩ => z3_inj e ▸ hp, fun h => ⟨_, h, rfl⟩⟩
theorem eqD_of {α : Type} [DecidableEq α] {f : α → D} (ok : ∀ a, (f a).plain = true ∧ (f a).depth ≤ 50) (h : ∀ a b, PyData.eqv (f a) (f b) = decide (a = b)) (x y : α) {inst : Decidable (x = y)} : eqD (f x) (f y) = some (@decide (x = y) inst) := by
  unfold eqD
  rw [flat_of (ok x), flat_of (ok y), h]
  simp only [Bool.and_self, if_true, Option.some.injEq]
  exact decide_eq_decide.mpr Iff.rfl
theorem eq_int (b c : Int) : eqD (.int b) (.int c) = some (decide (b = c)) := by
  unfold eqD
  simp only [flat_i, Bool.and_self, if_true, PyData.eqv, Option.some.injEq]
  by_cases h : b = c <;> simp [h]
theorem eq_bool (b c : Bool) : eqD (.bool b) (.bool c) = some (b == c) := by cases b <;> cases c <;> rfl
theorem eq_t (s u : List Nat) : eqD (.tuple (s.map iN)) (.tuple (u.map iN)) = some (decide (s = u)) := eqD_of ok_t eqv_t s u
theorem eq_p (i j k l : Nat) : eqD (.tuple [.int (i : Int), .int (j : Int)]) (.tuple [.int (k : Int), .int (l : Int)]) = some (decide ((i, j) = (k, l))) := eqD_of ok_p eqv_p (i, j) (k, l)
theorem eq_ps (L M : List (Nat × Nat)) {inst : Decidable (L = M)} : eqD (.tuple (L.map pD)) (.tuple (M.map pD)) = some (@decide (L = M) inst) := by
  unfold eqD
  rw [flat_map ok_p, flat_map ok_p, eqv_tiesP]
  simp only [Bool.and_self, if_true, Option.some.injEq, decide_eq_decide]
/-! order -/
def ltZ : List Int → List Int → Bool
  | [], [] => false
  | [], _ :: _ => true
  | _ :: _, [] => false
  | x :: r, y :: t => decide (x < y) || (decide (x = y) && ltZ r t)
theorem lt_ints : ∀ xs ys : List Int, PyProof.Rows.lexLt PyProof.Rows.itemOrd (W.keyToksAll (xs.map .int)) (W.keyToksAll (ys.map .int)) = ltZ xs ys
  | [], [] => by decide
  | [], y :: ys => by rw [List.map_cons, W.toks_all_cons]; rfl
  | x :: xs, [] => by rw [List.map_cons, W.toks_all_cons]; rfl
  | x :: xs, y :: ys => by
    rw [List.map_cons, List.map_cons, W.dataLt_cons (by simp [W.alike]), lt_ints xs ys, W.dataLt_int]
    simp only [PyData.eqv, ltZ]
    by_cases h : x = y
    · subst h; simp
    · simp [h]
theorem alike_ints : ∀ xs ys : List Int, W.alikeAll (xs.map .int) (ys.map .int) = true
  | [], _ => by simp [W.alikeAll]
  | _ :: _, [] => by simp [W.alikeAll]
  | _ :: xs, _ :: ys => by simp [W.alikeAll, W.alike, alike_ints xs ys]
theorem plain_ints (xs : List Int) : flat (.tuple (xs.map .int)) = true := flat_map (fun a => ⟨rfl, Nat.zero_le _⟩) xs
theorem lt_Z (xs ys : List Int) : ltD (.tuple (xs.map .int)) (.tuple (ys.map .int)) = some (ltZ xs ys) := by
  show (if flat (.tuple (xs.map .int)) && flat (.tuple (ys.map .int)) && W.alike (.tuple (xs.map .int)) (.tuple (ys.map .int)) && !isNone (.tuple (xs.map .int)) then some (W.dataLt (.tuple (xs.map .int)) (.tuple (ys.map .int))) else none) = _
  rw [plain_ints, plain_ints, W.alike, alike_ints, W.dataLt_tuple, lt_ints]
  rfl
theorem le_Z (xs ys : List Int) : leD (.tuple (xs.map .int)) (.tuple (ys.map .int)) = some (!ltZ ys xs) := by
  show (if flat (.tuple (xs.map .int)) && flat (.tuple (ys.map .int)) && W.alike (.tuple (ys.map .int)) (.tuple (xs.map .int)) && !isNone (.tuple (ys.map .int)) then some (!W.dataLt (.tuple (ys.map .int)) (.tuple (xs.map .int))) else none) = _
  rw [plain_ints, plain_ints, W.alike, alike_ints, W.dataLt_tuple, lt_ints]
  rfl
theorem cm_le2 (a b c d : Int) : cmD .le (.tuple [.int a, .int b]) (.tuple [.int c, .int d]) = some (!ltZ [c, d] [a, b]) := le_Z [a, b] [c, d]
theorem cm_lt2 (a b c d : Int) : cmD .lt (.tuple [.int a, .int b]) (.tuple [.int c, .int d]) = some (ltZ [a, b] [c, d]) := lt_Z [a, b] [c, d]
theorem cm_le3 (a b c d e f : Int) : cmD .le (.tuple [.int a, .int b, .int c]) (.tuple [.int d, .int e, .int f]) = some (!ltZ [d, e, f] [a, b, c]) := le_Z [a, b, c] [d, e, f]
/-! operators, by kind -/
theorem op_add (i j : Int) : opD .add (.int i) (.int j) = some (.int (i + j)) := rfl
theorem op_sub (i j : Int) : opD .sub (.int i) (.int j) = some (.int (i - j)) := rfl
theorem op_mod {i j : Int} : opD .mod (.int i) (.int j) = if 0 < j then some (.int (i % j)) else none := rfl
theorem op_mul {i j : Int} : opD .mul (.int i) (.int j) = if (-(2 ^ 64) < i ∧ i < 2 ^ 64) ∨ (-(2 ^ 64) < j ∧ j < 2 ^ 64) then some (.int (i * j)) else none := rfl
theorem op_fdiv {i j : Int} : opD .fdiv (.int i) (.int j) = if 0 < j ∧ j < 1073741824 then some (.int (i / j)) else none := rfl
theorem op_cat {xs ys : List D} (h : xs.length + ys.length ≤ sizeLine) : opD .add (.list xs) (.list ys) = some (.list (xs ++ ys)) := if_pos h
theorem op_catT {xs ys : List D} (h : xs.length + ys.length ≤ sizeLine) : opD .add (.tuple xs) (.tuple ys) = some (.tuple (xs ++ ys)) := if_pos h
theorem cm_lt (i j : Int) : cmD .lt (.int i) (.int j) = some (decide (i < j)) := rfl
theorem cm_le (i j : Int) : cmD .le (.int i) (.int j) = some (decide (i ≤ j)) := rfl
theorem cm_gt (i j : Int) : cmD .gt (.int i) (.int j) = some (decide (j < i)) := rfl
theorem cm_ge (i j : Int) : cmD .ge (.int i) (.int j) = some (decide (j ≤ i)) := rfl
theorem cm_eqq (x y : D) : cmD .eq x y = eqD x y := rfl
theorem cm_ne (x y : D) : cmD .ne x y = (eqD x y).map (!·) := rfl
theorem cm_in (x y : D) : cmD .isIn x y = inD x y := rfl
theorem cm_nin (x y : D) : cmD .notIn x y = (inD x y).map (!·) := rfl
theorem cm_is (x : D) : cmD .isN x .none = some (isNone x) := rfl
theorem cm_isn (x : D) : cmD .notN x .none = some (!isNone x) := rfl
theorem cm_isb (a b : Bool) : cmD .isN (.bool a) (.bool b) = some (decide (a = b)) := rfl
theorem cm_isnb (a b : Bool) : cmD .notN (.bool a) (.bool b) = some (!decide (a = b)) := rfl
theorem none_y : isNone .none = true := rfl
theorem none_t (xs) : isNone (.tuple xs) = false := rfl
theorem none_l (xs) : isNone (.list xs) = false := rfl
theorem none_i (i) : isNone (.int i) = false := rfl
theorem none_w (n t) : isNone (wP n t) = false := rfl
theorem ix_w0 (n t) : idxD (wP n t) (.int 0) = some (.int n) := rfl
theorem ix_w1 (n t) : idxD (wP n t) (.int 1) = some (.tuple ((tiesOf n t).map pD)) := rfl
theorem ix_20 (a b : D) : idxD (.tuple [a, b]) (.int 0) = some a := rfl
theorem ix_21 (a b : D) : idxD (.tuple [a, b]) (.int 1) = some b := rfl
theorem ix_30 (a b c : D) : idxD (.tuple [a, b, c]) (.int 0) = some a := rfl
theorem ix_31 (a b c : D) : idxD (.tuple [a, b, c]) (.int 1) = some b := rfl
theorem ix_32 (a b c : D) : idxD (.tuple [a, b, c]) (.int 2) = some c := rfl
theorem ix_L {α : Type} {f : α → D} {L : List α} {i : Nat} {a : α} (h : L[i]? = some a) : idxD (.list (L.map f)) (.int i) = some (f a) := by
  show L2.atI _ _ = _
  unfold L2.atI L2.ixN
  have hl : i < L.length := (List.getElem?_eq_some_iff.mp h).1
  rw [if_pos (by omega), if_pos (by simp; omega)]
  simp [h]
theorem ix_T {α : Type} {f : α → D} {L : List α} {i : Nat} {a : α} (h : L[i]? = some a) : idxD (.tuple (L.map f)) (.int i) = some (f a) := ix_L h
theorem rng_0 {st : Store} {n : Nat} (h : n ≤ 1000) : rngR 0 (n : Int) st = .ok (.d (.list ((List.range n).map iN))) st := by
  have e : sizeLine = 16777216 := rfl
  unfold rngR rangeL
  rw [if_pos (by omega)]
  simp
theorem rng_n {st : Store} {a n : Nat} (ha : a ≤ 1000) (h : n ≤ 1000) : rngR (a : Int) (n : Int) st = .ok (.d (.list ((List.range' a (n - a)).map iN))) st := by
  have e : sizeLine = 16777216 := rfl
  unfold rngR rangeL
  rw [if_pos (by omega)]
  congr 3
  rw [List.range'_eq_map_range, List.map_map, show ((n : Int) - a).toNat = n - a by omega]
  refine List.map_congr_left fun i _ => ?_
  simp [iN]
theorem rng_s {st : Store} {a n : Nat} (ha : a < 1000) (h : n ≤ 1000) : rngR ((a : Int) + 1) (n : Int) st = .ok (.d (.list ((List.range' (a + 1) (n - (a + 1))).map iN))) st := by
  have := rng_n (st := st) (a := a + 1) ha h
  simpa using this
theorem rng_1 {st : Store} {n : Nat} (h : n ≤ 1000) : rngR 1 (n : Int) st = .ok (.d (.list ((List.range' 1 (n - 1)).map iN))) st := rng_n (a := 1) (by omega) h
theorem tupR_n {n : Nat} (h : n ≤ 1000) : tupRD (n : Int) = some (.tuple ((List.range n).map iN)) := by
  have e : sizeLine = 16777216 := rfl
  unfold tupRD rangeL
  rw [if_pos (by omega)]
  simp
/-! built-ins -/
theorem bi_lenL (xs) : biD .len [.list xs] = some (.int (xs.length : Int)) := rfl
theorem bi_lenT (xs) : biD .len [.tuple xs] = some (.int (xs.length : Int)) := rfl
theorem bi_tupL (xs) : biD .tupleOf [.list xs] = some (.tuple xs) := rfl
theorem bi_tupT (xs) : biD .tupleOf [.tuple xs] = some (.tuple xs) := rfl
theorem bi_lstL (xs) : biD .listOf [.list xs] = some (.list xs) := rfl
theorem bi_lstT (xs) : biD .listOf [.tuple xs] = some (.list xs) := rfl
theorem bi_mn2 (i j : Int) : biD .min2 [.int i, .int j] = some (.int (if j < i then j else i)) := rfl
theorem bi_mx2 (i j : Int) : biD .max2 [.int i, .int j] = some (.int (if j > i then j else i)) := rfl
def isDict : D → Bool
  | .dict _ => true
  | _ => false
theorem ty_dI (i) : isDict (.int i) = false := rfl
theorem ty_dB (i) : isDict (.bool i) = false := rfl
theorem ty_dS (i) : isDict (.str i) = false := rfl
theorem ty_dT (i) : isDict (.tuple i) = false := rfl
theorem ty_dL (i) : isDict (.list i) = false := rfl
theorem ty_dN : isDict .none = false := rfl
theorem ty_dW (n t) : isDict (wP n t) = false := rfl
theorem bi_isT (t) {x : D} (h : isDict x = false) : biD (.isI t) [x] = some (.bool (tyD t x)) := by
  cases x <;> first | rfl | (cases h; done)
theorem bi_intB (b : Bool) : biD .int [.bool b] = some (.int (if b = true then 1 else 0)) := rfl
theorem ty_ii (i) : tyD .int (.int i) = true := rfl
theorem ty_bi (i) : tyD .bool (.int i) = false := rfl
theorem ty_tt (xs) : tyD .tup (.tuple xs) = true := rfl
theorem ty_ll (xs) : tyD .lst (.list xs) = true := rfl
theorem ty_tw (n t) : tyD .tup (wP n t) = true := rfl
theorem calm_i (i) : calm (.int i) = true := rfl
theorem calm_b (i) : calm (.bool i) = true := rfl
theorem calm_s (i) : calm (.str i) = true := rfl
theorem calm_L (xs) : calm (.list xs) = false := by simp [calm]
theorem calm_n : calm .none = true := rfl
theorem calm_T (xs) : calm (.tuple xs) = calmAll xs := by rw [calm]
theorem calmA_nil : calmAll [] = true := rfl
theorem calmA_cons (x xs) : calmAll (x :: xs) = (calm x && calmAll xs) := by rw [calmAll]
theorem calmA_map {α : Type} {f : α → D} (h : ∀ a, calm (f a) = true) : ∀ L : List α, calmAll (L.map f) = true
  | [] => rfl
  | a :: L => by simp only [List.map_cons, calmAll, h a, calmA_map h L, Bool.and_self]
theorem calm_ti (L : List Nat) : calmAll (L.map iN) = true := calmA_map (fun a => rfl) L
theorem calm_tp (L : List (Nat × Nat)) : calmAll (L.map pD) = true := calmA_map (fun a => rfl) L
theorem calm_tt (L : List (List Nat)) : calmAll (L.map tN) = true := calmA_map (fun a => by rw [calm_T]; exact calm_ti a) L
theorem calm_t3 (L : List (Nat × Nat × Nat)) : calmAll (L.map t3) = true := calmA_map (fun a => rfl) L
theorem calm_w (n t) : calm (wP n t) = true := by unfold wP; rw [calm_T, calmA_cons, calm_i, calmA_cons, calm_T, calm_tp]; rfl
theorem calm_ws (n : Nat) (L : List (Nat × Nat → Bool)) : calmAll (L.map (wP n)) = true := calmA_map (fun a => calm_w n a) L
theorem keep_L (f xs) : keeps f (.d (.list xs)) = (f && calmAll xs) := rfl
theorem keep_T (f xs) : keeps f (.d (.tuple xs)) = calm (.tuple xs) := rfl
theorem keep_i (f i) : keeps f (.d (.int i)) = true := rfl
theorem keep_b (f i) : keeps f (.d (.bool i)) = true := rfl
theorem keep_n (f) : keeps f (.d .none) = true := rfl
theorem keep_c (f k) : keeps f (.cell k) = true := rfl
theorem keep_w (f n t) : keeps f (.d (wP n t)) = calm (wP n t) := rfl
theorem isL_i (i) : isList (.d (.int i)) = false := rfl
theorem isL_s (x) : isList (.d (.str x)) = false := rfl
theorem isL_b (i) : isList (.d (.bool i)) = false := rfl
theorem isL_T (i) : isList (.d (.tuple i)) = false := rfl
theorem isL_n : isList (.d .none) = false := rfl
theorem isL_w (n t) : isList (.d (wP n t)) = false := rfl
end Sw

set_option linter.all false
set_option maxRecDepth 100000
set_option maxHeartbeats 4000000
namespace Sw.Lw
open PySem
/-! 965 ring_rows -/
def q965_l2 : S := (.seq (.drop [6] (.app 3 (.op .add (.var 4) (.tup (.cons (.var 6) .nil)))))
  .skip)
def q965_l1 : S := (.seq (.set 5 false (.op .sub (.var 0) (.blt .sum (.cons (.var 4) .nil))))
  (.seq (.ite (.cmp .eq (.var 5) (.cI 0)) (.seq (.app 2 (.var 4))
  .skip) .skip)
  (.seq (.drop [4, 5, 6] (.for (.nm 6) (.rng2 (.cI 1) (.op .add (.blt .min2 (.cons (.idx (.op .add (.var 4) (.tup (.cons (.var 0) .nil))) (.blt .max2 (.cons (.cI 0) (.cons (.op .sub (.blt .len (.cons (.var 4) .nil)) (.cI 1)) .nil)))) (.cons (.var 5) .nil))) (.cI 1))) q965_l2))
  .skip)))
def q965_l0 : S := (.seq (.set 3 true (.lst .nil))
  (.seq (.drop [1, 4, 5, 6] (.for (.nm 4) (.var 1) q965_l1))
  (.seq (.drop [3] (.set 1 false (.var 3)))
  .skip)))
def b965 : S :=
  (.seq (.set 1 false (.lst (.cons (.tup .nil) .nil)))
  (.seq (.set 2 true (.lst .nil))
  (.seq (.drop [1, 3, 4, 5, 6] (.whl 1000 (.cmp .ne (.var 1) (.lst .nil)) q965_l0))
  (.seq (.ret (.blt .sorted (.cons (.var 2) .nil)))
  .skip))))
def n965 : List Str := ["many", "rows", "found", "more", "row", "left", "one"]
def p965 : List Str := ["many"]
def F965 : FD := { ar := 1, sl := 7, body := b965, fresh := true, cell := false }
/-! 292 all_orders -/
def q292_l0 : S := (.seq (.drop [2] (.set 1 false (.op .mul (.var 1) (.var 2))))
  .skip)
def b292 : S :=
  (.seq (.set 1 false (.cI 1))
  (.seq (.drop [2] (.for (.nm 2) (.rng2 (.cI 2) (.op .add (.var 0) (.cI 1))) q292_l0))
  (.seq (.retV 1)
  .skip)))
def n292 : List Str := ["many", "found", "one"]
def p292 : List Str := ["many"]
def F292 : FD := { ar := 1, sl := 3, body := b292, fresh := false, cell := false }
/-! 549 maps_with -/
def q549_l0 : S := (.seq (.drop [2] (.set 1 false (.op .mul (.var 1) (.call 292 (.cons (.mth .cnt (.var 0) (.var 2)) .nil)))))
  .skip)
def q549_l1 : S := (.seq (.drop [2] (.set 1 false (.op .mul (.var 1) (.var 2))))
  .skip)
def b549 : S :=
  (.seq (.set 1 false (.cI 1))
  (.seq (.drop [2] (.for (.nm 2) (.var 0) q549_l1))
  (.seq (.drop [2] (.for (.nm 2) (.rng2 (.cI 1) (.op .add (.blt .max1 (.cons (.var 0) .nil)) (.cI 1))) q549_l0))
  (.seq (.ret (.op .fdiv (.call 292 (.cons (.blt .sum (.cons (.var 0) .nil)) .nil)) (.var 1)))
  .skip))))
def n549 : List Str := ["row", "under", "one"]
def p549 : List Str := ["row"]
def F549 : FD := { ar := 1, sl := 3, body := b549, fresh := true, cell := false }
/-! 966 greatest_part -/
def q966_l0 : S := (.seq (.par 0 1 (.var 1) (.op .mod (.var 0) (.var 1)))
  .skip)
def b966 : S :=
  (.seq (.drop [1] (.whl 1000 (.cmp .gt (.var 1) (.cI 0)) q966_l0))
  (.seq (.retV 0)
  .skip))
def n966 : List Str := ["one", "other"]
def p966 : List Str := ["one", "other"]
def F966 : FD := { ar := 2, sl := 2, body := b966, fresh := false, cell := false }
/-! 967 pair_rings -/
def q967_e0 : E := (.call 966 (.cons (.var 3) (.cons (.var 4) .nil)))
def q967_l0 : S := (.seq (.set 1 false (.op .add (.var 1) (.op .fdiv (.var 3) (.cI 2))))
  (.seq (.drop [2, 3] (.set 1 false (.op .add (.var 1) (.blt .sum (.cons (.comp q967_e0 (.nm 4) (.slc (.var 0) .nil (.one (.var 2))) .nil) .nil)))))
  .skip))
def b967 : S :=
  (.seq (.set 1 false (.cI 0))
  (.seq (.drop [2, 3] (.for (.tp [2, 3]) (.enm (.var 0)) q967_l0))
  (.seq (.retV 1)
  .skip)))
def n967 : List Str := ["row", "found", "at", "one", "other"]
def p967 : List Str := ["row"]
def F967 : FD := { ar := 1, sl := 5, body := b967, fresh := false, cell := false }
/-! 968 kept_power -/
def q968_e0 : E := (.cmp .eq (.op .mod (.var 1) (.cI 2)) (.cI 1))
def b968 : S :=
  (.seq (.ret (.op .add (.op .sub (.call 967 (.cons (.var 0) .nil)) (.blt .len (.cons (.var 0) .nil))) (.blt .int (.cons (.blt .any (.cons (.comp q968_e0 (.nm 1) (.var 0) .nil) .nil)) .nil))))
  .skip)
def n968 : List Str := ["row", "one"]
def p968 : List Str := ["row"]
def F968 : FD := { ar := 1, sl := 2, body := b968, fresh := true, cell := false }
/-! 969 alike_many -/
def q969_e0 : E := (.op .mul (.call 549 (.cons (.var 2) .nil)) (.op .shl (.cI 1) (.call 968 (.cons (.var 2) .nil))))
def b969 : S :=
  (.seq (.set 1 false (.blt .sum (.cons (.comp q969_e0 (.nm 2) (.call 965 (.cons (.var 0) .nil)) .nil) .nil)))
  (.seq (.ret (.op .fdiv (.var 1) (.call 292 (.cons (.var 0) .nil))))
  .skip))
def n969 : List Str := ["many", "total", "row"]
def p969 : List Str := ["many"]
def F969 : FD := { ar := 1, sl := 3, body := b969, fresh := true, cell := false }
/-! 5 _law_cell -/
def b5 : S :=
  (.seq (.ite (.cmp .lt (.var 1) (.blt .len (.cons (.var 0) .nil))) (.seq (.ret (.idx (.var 0) (.var 1)))
  .skip) .skip)
  (.seq (.ret (.cI 0))
  .skip))
def n5 : List Str := ["_law_script", "_law_k"]
def p5 : List Str := ["_law_script", "_law_k"]
def F5 : FD := { ar := 2, sl := 2, body := b5, fresh := false, cell := false }
/-! 6 _law_pen -/
def b6 : S :=
  (.seq (.set 1 false (.blt .max2 (.cons (.var 0) (.cons (.op .sub (.cI 0) (.var 0)) .nil))))
  (.seq (.ret (.lst (.cons (.var 1) (.cons (.blt .int (.cons (.cmp .ge (.var 1) (.op .pow (.cI 10) (.cI 18))) .nil)) .nil))))
  .skip))
def n6 : List Str := ["_law_cell_here", "_law_left"]
def p6 : List Str := ["_law_cell_here"]
def F6 : FD := { ar := 1, sl := 2, body := b6, fresh := false, cell := true }
/-! 7 _law_draw -/
def b7 : S :=
  (.seq (.drop [3, 4] (.ite (.cmp .eq (.idx (.var 0) (.cI 1)) (.cI 1)) (.seq (.setT [3, 4] (.blt .divmod (.cons (.idx (.var 0) (.cI 0)) (.cons (.var 1) .nil))))
  (.seq (.drop [3] (.setI 0 (.cI 0) (.var 3)))
  (.seq (.retV 4)
  .skip))) .skip))
  (.seq (.set 2 false (.op .mod (.op .mul (.op .add (.op .mod (.idx (.var 0) (.cI 0)) (.cI 2147483647)) (.cI 40503)) (.cI 69621)) (.cI 2147483629)))
  (.seq (.set 2 false (.op .mod (.op .add (.op .mul (.var 2) (.var 2)) (.cI 7817)) (.cI 2147483587)))
  (.seq (.drop [2] (.setI 0 (.cI 0) (.op .mod (.op .add (.op .mul (.var 2) (.cI 48271)) (.cI 11)) (.cI 2147483629))))
  (.seq (.ret (.op .mod (.op .fdiv (.idx (.var 0) (.cI 0)) (.cI 32)) (.var 1)))
  .skip)))))
def n7 : List Str := ["_law_pen_here", "_law_many", "_law_stir", "_law_left", "_law_found"]
def p7 : List Str := ["_law_pen_here", "_law_many"]
def F7 : FD := { ar := 2, sl := 5, body := b7, fresh := false, cell := false }
/-! 8 _law_whole -/
def b8 : S :=
  (.seq (.ret (.and (.blt (.isI .int) (.cons (.var 0) .nil)) (.one (.not (.blt (.isI .bool) (.cons (.var 0) .nil))))))
  .skip)
def n8 : List Str := ["_law_thing"]
def p8 : List Str := ["_law_thing"]
def F8 : FD := { ar := 1, sl := 1, body := b8, fresh := true, cell := false }
/-! 83 _law_threes -/
def q83_e0 : E := (.tup (.cons (.var 2) (.cons (.var 3) (.cons (.var 4) .nil))))
def q83_l1 : S := (.seq (.drop [3] (.set 1 false (.op .add (.var 1) (.comp q83_e0 (.nm 4) (.rng2 (.op .add (.var 3) (.cI 1)) (.var 0)) .nil))))
  .skip)
def q83_l0 : S := (.seq (.drop [2, 3] (.for (.nm 3) (.rng2 (.op .add (.var 2) (.cI 1)) (.var 0)) q83_l1))
  .skip)
def b83 : S :=
  (.seq (.set 1 false (.lst .nil))
  (.seq (.drop [2, 3] (.for (.nm 2) (.rng1 (.var 0)) q83_l0))
  (.seq (.retV 1)
  .skip)))
def n83 : List Str := ["_law_many", "_law_found", "_law_one", "_law_other", "_law_third"]
def p83 : List Str := ["_law_many"]
def F83 : FD := { ar := 1, sl := 5, body := b83, fresh := false, cell := false }
/-! 308 _law_odd_threes -/
def q308_e0 : E := (.var 6)
def q308_c0 : E := (.one (.cmp .isIn (.var 6) (.idx (.var 0) (.cI 1))))
def q308_l0 : S := (.seq (.set 5 false (.lst (.cons (.tup (.cons (.var 2) (.cons (.var 3) .nil))) (.cons (.tup (.cons (.var 2) (.cons (.var 4) .nil))) (.cons (.tup (.cons (.var 3) (.cons (.var 4) .nil))) .nil)))))
  (.seq (.drop [2, 3, 4, 5] (.ite (.cmp .eq (.op .mod (.blt .len (.cons (.comp q308_e0 (.nm 6) (.var 5) q308_c0) .nil)) (.cI 2)) (.cI 1)) (.seq (.drop [2, 3, 4] (.app 1 (.tup (.cons (.var 2) (.cons (.var 3) (.cons (.var 4) .nil))))))
  .skip) .skip))
  .skip))
def b308 : S :=
  (.seq (.set 1 true (.lst .nil))
  (.seq (.drop [2, 3, 4, 5] (.for (.tp [2, 3, 4]) (.call 83 (.cons (.idx (.var 0) (.cI 0)) .nil)) q308_l0))
  (.seq (.retV 1)
  .skip)))
def n308 : List Str := ["_law_web", "_law_found", "_law_one", "_law_other", "_law_third", "_law_pairs", "_law_pair"]
def p308 : List Str := ["_law_web"]
def F308 : FD := { ar := 1, sl := 7, body := b308, fresh := true, cell := false }
/-! 297 _law_maps -/
def q297_e0 : E := (.op .add (.var 4) (.tup (.cons (.var 5) .nil)))
def q297_c0 : E := (.one (.cmp .notIn (.var 5) (.var 4)))
def q297_l1 : S := (.seq (.drop [4] (.set 3 false (.op .add (.var 3) (.comp q297_e0 (.nm 5) (.rng1 (.var 0)) q297_c0))))
  .skip)
def q297_l0 : S := (.drop [2] (.seq (.set 3 false (.lst .nil))
  (.seq (.drop [1, 4] (.for (.nm 4) (.var 1) q297_l1))
  (.seq (.drop [3] (.set 1 false (.var 3)))
  .skip))))
def b297 : S :=
  (.seq (.set 1 false (.lst (.cons (.tup .nil) .nil)))
  (.seq (.drop [2, 3, 4] (.for (.nm 2) (.rng1 (.var 0)) q297_l0))
  (.seq (.retV 1)
  .skip)))
def n297 : List Str := ["_law_many", "_law_found", "_law_turn", "_law_more", "_law_row", "_law_one"]
def p297 : List Str := ["_law_many"]
def F297 : FD := { ar := 1, sl := 6, body := b297, fresh := false, cell := false }
/-! 298 _law_rows -/
def q298_e0 : E := (.op .add (.tup (.cons (.var 3) .nil)) (.var 4))
def q298_l0 : S := (.seq (.drop [3] (.set 2 false (.op .add (.var 2) (.comp q298_e0 (.nm 4) (.call 298 (.cons (.op .sub (.var 0) (.var 3)) (.cons (.var 3) .nil))) .nil))))
  .skip)
def b298 : S :=
  (.seq (.ite (.cmp .eq (.var 0) (.cI 0)) (.seq (.ret (.lst (.cons (.tup .nil) .nil)))
  .skip) .skip)
  (.seq (.set 2 false (.lst .nil))
  (.seq (.drop [3] (.for (.nm 3) (.rng2 (.cI 1) (.op .add (.blt .min2 (.cons (.var 0) (.cons (.var 1) .nil))) (.cI 1))) q298_l0))
  (.seq (.ret (.blt .sorted (.cons (.var 2) .nil)))
  .skip))))
def n298 : List Str := ["_law_many", "_law_most", "_law_found", "_law_one", "_law_row"]
def p298 : List Str := ["_law_many", "_law_most"]
def F298 : FD := { ar := 2, sl := 5, body := b298, fresh := true, cell := false }
/-! 1080 _law_plain_map -/
def q1080_l0 : S := (.seq (.set 3 false (.blt .len (.cons (.var 1) .nil)))
  (.seq (.drop [2, 3] (.set 1 false (.op .add (.op .add (.var 1) (.lstR2 (.op .add (.var 3) (.cI 1)) (.op .add (.var 3) (.var 2)))) (.lst (.cons (.var 3) .nil)))))
  .skip))
def b1080 : S :=
  (.seq (.set 1 false (.lst .nil))
  (.seq (.drop [2, 3] (.for (.nm 2) (.var 0) q1080_l0))
  (.seq (.retV 1)
  .skip)))
def n1080 : List Str := ["_law_row", "_law_found", "_law_one", "_law_first"]
def p1080 : List Str := ["_law_row"]
def F1080 : FD := { ar := 1, sl := 4, body := b1080, fresh := false, cell := false }
/-! 1081 _law_pair_lengths -/
def q1081_l1 : S := (.seq (.rem 2 (.var 5))
  (.seq (.set 5 false (.blt .tupleOf (.cons (.blt .sorted (.cons (.lst (.cons (.idx (.var 1) (.idx (.var 5) (.cI 0))) (.cons (.idx (.var 1) (.idx (.var 5) (.cI 1))) .nil))) .nil)) .nil)))
  (.seq (.set 6 false (.op .add (.var 6) (.cI 1)))
  .skip)))
def q1081_l0 : S := (.seq (.set 5 false (.idx (.var 2) (.cI 0)))
  (.seq (.set 6 false (.cI 0))
  (.seq (.drop [5] (.whl 1000 (.cmp .isIn (.var 5) (.var 2)) q1081_l1))
  (.seq (.drop [6] (.app 4 (.var 6)))
  .skip))))
def q1081_e0 : E := (.tup (.cons (.var 3) (.cons (.var 7) .nil)))
def q1081_l2 : S := (.seq (.drop [3] (.set 2 true (.op .add (.var 2) (.comp q1081_e0 (.nm 7) (.rng2 (.op .add (.var 3) (.cI 1)) (.blt .len (.cons (.var 1) .nil))) .nil))))
  .skip)
def b1081 : S :=
  (.seq (.set 1 false (.call 1080 (.cons (.var 0) .nil)))
  (.seq (.set 2 true (.lst .nil))
  (.seq (.drop [3] (.for (.nm 3) (.rng1 (.blt .len (.cons (.var 1) .nil))) q1081_l2))
  (.seq (.set 4 true (.lst .nil))
  (.seq (.drop [1, 2, 5, 6] (.whl 1000 (.cmp .ne (.var 2) (.lst .nil)) q1081_l0))
  (.seq (.retV 4)
  .skip))))))
def n1081 : List Str := ["_law_row", "_law_moved", "_law_left", "_law_one", "_law_found", "_law_pair", "_law_many", "_law_other"]
def p1081 : List Str := ["_law_row"]
def F1081 : FD := { ar := 1, sl := 8, body := b1081, fresh := true, cell := false }
/-! 309 _law_all -/
def q309_e0 : E := (.var 7)
def q309_c0 : E := (.one (.cmp .eq (.op .band (.op .shr (.var 4) (.var 6)) (.cI 1)) (.cI 1)))
def q309_l0 : S := (.seq (.drop [4] (.app 3 (.tup (.cons (.var 0) (.cons (.blt .tupleOf (.cons (.comp q309_e0 (.tp [6, 7]) (.enm (.var 1)) q309_c0) .nil)) .nil)))))
  .skip)
def q309_e1 : E := (.tup (.cons (.var 2) (.cons (.var 5) .nil)))
def q309_l1 : S := (.seq (.drop [2] (.set 1 false (.op .add (.var 1) (.comp q309_e1 (.nm 5) (.rng2 (.op .add (.var 2) (.cI 1)) (.var 0)) .nil))))
  .skip)
def b309 : S :=
  (.seq (.set 1 false (.lst .nil))
  (.seq (.drop [2] (.for (.nm 2) (.rng2 (.cI 1) (.var 0)) q309_l1))
  (.seq (.set 3 true (.lst .nil))
  (.seq (.drop [1, 4] (.for (.nm 4) (.rng1 (.op .shl (.cI 1) (.blt .len (.cons (.var 1) .nil)))) q309_l0))
  (.seq (.retV 3)
  .skip)))))
def n309 : List Str := ["_law_many", "_law_pairs", "_law_one", "_law_found", "_law_lot", "_law_other", "_law_at", "_law_pair"]
def p309 : List Str := ["_law_many"]
def F309 : FD := { ar := 1, sl := 8, body := b309, fresh := true, cell := false }
/-! 1148 _law_by_maps -/
def q1148_e1 : E := (.idx (.var 6) (.var 8))
def q1148_e0 : E := (.blt .tupleOf (.cons (.blt .sorted (.cons (.comp q1148_e1 (.nm 8) (.var 7) .nil) .nil)) .nil))
def q1148_l1 : S := (.seq (.drop [6, 7, 8] (.setI 2 (.blt .tupleOf (.cons (.blt .sorted (.cons (.comp q1148_e0 (.nm 7) (.var 5) .nil) .nil)) .nil)) (.cB true)))
  .skip)
def q1148_l0 : S := (.seq (.drop [4] (.set 5 false (.blt .tupleOf (.cons (.call 308 (.cons (.var 4) .nil)) .nil))))
  (.seq (.drop [5, 6, 7, 8] (.ite (.cmp .notIn (.var 5) (.var 2)) (.seq (.set 3 false (.op .add (.var 3) (.cI 1)))
  (.seq (.drop [5, 6, 7, 8] (.for (.nm 6) (.var 1) q1148_l1))
  .skip)) .skip))
  .skip))
def b1148 : S :=
  (.seq (.set 1 false (.call 297 (.cons (.var 0) .nil)))
  (.seq (.dNew 2)
  (.seq (.set 3 false (.cI 0))
  (.seq (.drop [1, 2, 4, 5, 6, 7, 8] (.for (.nm 4) (.call 309 (.cons (.var 0) .nil)) q1148_l0))
  (.seq (.retV 3)
  .skip)))))
def n1148 : List Str := ["_law_many", "_law_rows_here", "_law_seen", "_law_found", "_law_web", "_law_threes_here", "_law_row", "_law_three", "_law_place"]
def p1148 : List Str := ["_law_many"]
def F1148 : FD := { ar := 1, sl := 9, body := b1148, fresh := false, cell := false }
/-! 1085 _law_by_rings -/
def q1085_e0 : E := (.var 3)
def q1085_c0 : E := (.one (.cmp .eq (.op .mod (.var 3) (.cI 2)) (.cI 1)))
def q1085_l1 : S := (.seq (.drop [3, 8] (.set 5 false (.op .mul (.op .mul (.var 5) (.var 3)) (.op .add (.cI 1) (.mth .cnt (.slc (.var 4) .nil (.one (.var 8))) (.var 3))))))
  .skip)
def q1085_l0 : S := (.seq (.set 5 false (.cI 1))
  (.seq (.drop [3, 8] (.for (.tp [8, 3]) (.enm (.var 4)) q1085_l1))
  (.seq (.set 6 false (.comp q1085_e0 (.nm 3) (.var 4) q1085_c0))
  (.seq (.drop [4, 6] (.set 7 false (.op .add (.op .sub (.blt .len (.cons (.call 1081 (.cons (.var 4) .nil)) .nil)) (.blt .len (.cons (.var 4) .nil))) (.blt .int (.cons (.cmp .ne (.var 6) (.lst .nil)) .nil)))))
  (.seq (.drop [5, 7] (.set 1 false (.op .add (.var 1) (.op .mul (.op .fdiv (.var 2) (.var 5)) (.op .shl (.cI 1) (.var 7))))))
  .skip)))))
def q1085_l2 : S := (.seq (.drop [3] (.set 2 false (.op .mul (.var 2) (.var 3))))
  .skip)
def b1085 : S :=
  (.seq (.set 1 false (.cI 0))
  (.seq (.set 2 false (.cI 1))
  (.seq (.drop [3] (.for (.nm 3) (.rng2 (.cI 2) (.op .add (.var 0) (.cI 1))) q1085_l2))
  (.seq (.drop [3, 4, 5, 6, 7, 8] (.for (.nm 4) (.call 298 (.cons (.var 0) (.cons (.var 0) .nil))) q1085_l0))
  (.seq (.ret (.op .fdiv (.var 1) (.var 2)))
  .skip)))))
def n1085 : List Str := ["_law_many", "_law_total", "_law_orders", "_law_one", "_law_row", "_law_under", "_law_odd", "_law_power", "_law_at"]
def p1085 : List Str := ["_law_many"]
def F1085 : FD := { ar := 1, sl := 9, body := b1085, fresh := true, cell := false }
/-! 1031 _law_right -/
def b1031 : S :=
  (.seq (.set 2 false (.call 969 (.cons (.var 0) .nil)))
  (.seq (.ret (.and (.call 8 (.cons (.var 2) .nil)) (.and (.cmp .eq (.var 2) (.var 1)) (.one (.cmp .eq (.call 969 (.cons (.var 0) .nil)) (.var 2))))))
  .skip))
def n1031 : List Str := ["_law_many", "_law_due", "_law_found"]
def p1031 : List Str := ["_law_many", "_law_due"]
def F1031 : FD := { ar := 2, sl := 3, body := b1031, fresh := true, cell := false }
/-! 1149 law -/
def q1149_l0 : S := (.seq (.drop [2] (.set 3 false (.call 6 (.cons (.var 2) .nil))))
  (.seq (.set 1 false (.op .add (.cI 1) (.call 7 (.cons (.var 3) (.cons (.cI 9) .nil)))))
  (.seq (.drop [1] (.ite (.not (.call 1031 (.cons (.var 1) (.cons (.call 1085 (.cons (.var 1) .nil)) .nil)))) (.seq (.ret (.cB false))
  .skip) .skip))
  (.seq (.drop [3] (.set 4 false (.op .add (.cI 4) (.blt .int (.cons (.cmp .eq (.call 7 (.cons (.var 3) (.cons (.cI 8) .nil))) (.cI 0)) .nil)))))
  (.seq (.drop [4] (.ite (.not (.call 1031 (.cons (.var 4) (.cons (.call 1148 (.cons (.var 4) .nil)) .nil)))) (.seq (.ret (.cB false))
  .skip) .skip))
  .skip)))))
def q1149_l1 : S := (.seq (.drop [1] (.ite (.not (.call 1031 (.cons (.var 1) (.cons (.call 1148 (.cons (.var 1) .nil)) .nil)))) (.seq (.ret (.cB false))
  .skip) .skip))
  .skip)
def b1149 : S :=
  (.seq (.drop [1] (.for (.nm 1) (.rng2 (.cI 1) (.cI 4)) q1149_l1))
  (.seq (.drop [1, 2, 3, 4] (.for (.nm 2) (.op .add (.lst (.cons (.call 5 (.cons (.var 0) (.cons (.cI 0) .nil))) .nil)) (.slc (.var 0) (.one (.cI 1)) (.one (.cI 3)))) q1149_l0))
  (.seq (.ret (.cB true))
  .skip)))
def n1149 : List Str := ["_law_script", "_law_many", "_law_cell_here", "_law_pen_here", "_law_small"]
def p1149 : List Str := ["_law_script"]
def F1149 : FD := { ar := 1, sl := 5, body := b1149, fresh := true, cell := false }
def fnN : List (Nat × Str) := [(965, ("ring_rows" : Str)), (292, ("all_orders" : Str)), (549, ("maps_with" : Str)), (966, ("greatest_part" : Str)), (967, ("pair_rings" : Str)), (968, ("kept_power" : Str)), (969, ("alike_many" : Str)), (5, ("_law_cell" : Str)), (6, ("_law_pen" : Str)), (7, ("_law_draw" : Str)), (8, ("_law_whole" : Str)), (83, ("_law_threes" : Str)), (308, ("_law_odd_threes" : Str)), (297, ("_law_maps" : Str)), (298, ("_law_rows" : Str)), (1080, ("_law_plain_map" : Str)), (1081, ("_law_pair_lengths" : Str)), (309, ("_law_all" : Str)), (1148, ("_law_by_maps" : Str)), (1085, ("_law_by_rings" : Str)), (1031, ("_law_right" : Str)), (1149, ("law" : Str))]
def hotN : List (Nat × Str) := []
def rzN : List Nat := []
def glN : List (Nat × Str) := []
def tab : List (Nat × FD) := [(965, F965), (292, F292), (549, F549), (966, F966), (967, F967), (968, F968), (969, F969), (5, F5), (6, F6), (7, F7), (8, F8), (83, F83), (308, F308), (297, F297), (298, F298), (1080, F1080), (1081, F1081), (309, F309), (1148, F1148), (1085, F1085), (1031, F1031), (1149, F1149)]
def pns : List (Nat × List Str) := [(965, p965), (292, p292), (549, p549), (966, p966), (967, p967), (968, p968), (969, p969), (5, p5), (6, p6), (7, p7), (8, p8), (83, p83), (308, p308), (297, p297), (298, p298), (1080, p1080), (1081, p1081), (309, p309), (1148, p1148), (1085, p1085), (1031, p1031), (1149, p1149)]
def T : Nat → Option FD := fun i => tab.lookup i
def pn : Nat → List Str := fun i => (pns.lookup i).getD []
def glD : List (Nat × D) := []
def gl : Nat → D := fun i => (glD.lookup i).getD .none
def nm : Nm := ⟨fun i => fnN.lookup i, fun g => glN.lookup g, false, fun _ => none, fun c => rzN.contains c, fun i => hotN.lookup i⟩
noncomputable abbrev G (k : Nat) : Ctx := ⟨fun g => callF T gl k g, gl, frOf T, none, fun x g => callX T gl x k g⟩
noncomputable abbrev GX (x : Hx) (k : Nat) : Ctx := ⟨fun g => callX T gl x k g, gl, frOf T, some x, fun _ _ _ _ => .stuck⟩
theorem T965 : T 965 = some F965 := rfl
theorem fr965 : frOf T 965 = true := rfl
theorem T292 : T 292 = some F292 := rfl
theorem fr292 : frOf T 292 = false := rfl
theorem T549 : T 549 = some F549 := rfl
theorem fr549 : frOf T 549 = true := rfl
theorem T966 : T 966 = some F966 := rfl
theorem fr966 : frOf T 966 = false := rfl
theorem T967 : T 967 = some F967 := rfl
theorem fr967 : frOf T 967 = false := rfl
theorem T968 : T 968 = some F968 := rfl
theorem fr968 : frOf T 968 = true := rfl
theorem T969 : T 969 = some F969 := rfl
theorem fr969 : frOf T 969 = true := rfl
theorem T5 : T 5 = some F5 := rfl
theorem fr5 : frOf T 5 = false := rfl
theorem T6 : T 6 = some F6 := rfl
theorem fr6 : frOf T 6 = false := rfl
theorem T7 : T 7 = some F7 := rfl
theorem fr7 : frOf T 7 = false := rfl
theorem T8 : T 8 = some F8 := rfl
theorem fr8 : frOf T 8 = true := rfl
theorem T83 : T 83 = some F83 := rfl
theorem fr83 : frOf T 83 = false := rfl
theorem T308 : T 308 = some F308 := rfl
theorem fr308 : frOf T 308 = true := rfl
theorem T297 : T 297 = some F297 := rfl
theorem fr297 : frOf T 297 = false := rfl
theorem T298 : T 298 = some F298 := rfl
theorem fr298 : frOf T 298 = true := rfl
theorem T1080 : T 1080 = some F1080 := rfl
theorem fr1080 : frOf T 1080 = false := rfl
theorem T1081 : T 1081 = some F1081 := rfl
theorem fr1081 : frOf T 1081 = true := rfl
theorem T309 : T 309 = some F309 := rfl
theorem fr309 : frOf T 309 = true := rfl
theorem T1148 : T 1148 = some F1148 := rfl
theorem fr1148 : frOf T 1148 = false := rfl
theorem T1085 : T 1085 = some F1085 := rfl
theorem fr1085 : frOf T 1085 = true := rfl
theorem T1031 : T 1031 = some F1031 := rfl
theorem fr1031 : frOf T 1031 = true := rfl
theorem T1149 : T 1149 = some F1149 := rfl
theorem fr1149 : frOf T 1149 = true := rfl
theorem oc_q967_e0 : occ q967_e0 = [3, 4] := rfl
theorem oc_q968_e0 : occ q968_e0 = [1] := rfl
theorem oc_q969_e0 : occ q969_e0 = [2, 2] := rfl
theorem oc_q83_e0 : occ q83_e0 = [2, 3, 4] := rfl
theorem oc_q308_e0 : occ q308_e0 = [6] := rfl
theorem oc_q308_c0 : occ q308_c0 = [6, 0] := rfl
theorem oc_q297_e0 : occ q297_e0 = [4, 5] := rfl
theorem oc_q297_c0 : occ q297_c0 = [5, 4] := rfl
theorem oc_q298_e0 : occ q298_e0 = [3, 4] := rfl
theorem oc_q1081_e0 : occ q1081_e0 = [3, 7] := rfl
theorem oc_q309_e0 : occ q309_e0 = [7] := rfl
theorem oc_q309_c0 : occ q309_c0 = [4, 6] := rfl
theorem oc_q309_e1 : occ q309_e1 = [2, 5] := rfl
theorem oc_q1148_e1 : occ q1148_e1 = [6, 8] := rfl
theorem oc_q1148_e0 : occ q1148_e0 = [6, 8, 7] := rfl
theorem oc_q1085_e0 : occ q1085_e0 = [3] := rfl
theorem oc_q1085_c0 : occ q1085_c0 = [3] := rfl
theorem c965 {k : Nat} {st : Store} {x0 : PV} : callF T gl (k + 1) 965 [x0] st = kLeave F965 (run (G k) b965 [.sh x0, .no, .no, .no, .no, .no, .no] st) := call_at T965 rfl
theorem v965 {st : Store} {x : D} {n : Bool} (h : isList (.d x) = false) : leave F965 (.ret (.d x) n) st = .ok (.d x) st := leave_F rfl h
theorem w965 {st : Store} {x : D} : leave F965 (.ret (.d x) true) st = .ok (.d x) st := leave_L rfl
theorem c292 {k : Nat} {st : Store} {x0 : PV} : callF T gl (k + 1) 292 [x0] st = kLeave F292 (run (G k) b292 [.sh x0, .no, .no] st) := call_at T292 rfl
theorem v292 {st : Store} {p : PV} {n : Bool} : leave F292 (.ret p n) st = .ok p st := leave_S rfl rfl
theorem c549 {k : Nat} {st : Store} {x0 : PV} : callF T gl (k + 1) 549 [x0] st = kLeave F549 (run (G k) b549 [.sh x0, .no, .no] st) := call_at T549 rfl
theorem v549 {st : Store} {x : D} {n : Bool} (h : isList (.d x) = false) : leave F549 (.ret (.d x) n) st = .ok (.d x) st := leave_F rfl h
theorem w549 {st : Store} {x : D} : leave F549 (.ret (.d x) true) st = .ok (.d x) st := leave_L rfl
theorem c966 {k : Nat} {st : Store} {x0 x1 : PV} : callF T gl (k + 1) 966 [x0, x1] st = kLeave F966 (run (G k) b966 [.sh x0, .sh x1] st) := call_at T966 rfl
theorem v966 {st : Store} {p : PV} {n : Bool} : leave F966 (.ret p n) st = .ok p st := leave_S rfl rfl
theorem c967 {k : Nat} {st : Store} {x0 : PV} : callF T gl (k + 1) 967 [x0] st = kLeave F967 (run (G k) b967 [.sh x0, .no, .no, .no, .no] st) := call_at T967 rfl
theorem v967 {st : Store} {p : PV} {n : Bool} : leave F967 (.ret p n) st = .ok p st := leave_S rfl rfl
theorem c968 {k : Nat} {st : Store} {x0 : PV} : callF T gl (k + 1) 968 [x0] st = kLeave F968 (run (G k) b968 [.sh x0, .no] st) := call_at T968 rfl
theorem v968 {st : Store} {x : D} {n : Bool} (h : isList (.d x) = false) : leave F968 (.ret (.d x) n) st = .ok (.d x) st := leave_F rfl h
theorem w968 {st : Store} {x : D} : leave F968 (.ret (.d x) true) st = .ok (.d x) st := leave_L rfl
theorem c969 {k : Nat} {st : Store} {x0 : PV} : callF T gl (k + 1) 969 [x0] st = kLeave F969 (run (G k) b969 [.sh x0, .no, .no] st) := call_at T969 rfl
theorem v969 {st : Store} {x : D} {n : Bool} (h : isList (.d x) = false) : leave F969 (.ret (.d x) n) st = .ok (.d x) st := leave_F rfl h
theorem w969 {st : Store} {x : D} : leave F969 (.ret (.d x) true) st = .ok (.d x) st := leave_L rfl
theorem c5 {k : Nat} {st : Store} {x0 x1 : PV} : callF T gl (k + 1) 5 [x0, x1] st = kLeave F5 (run (G k) b5 [.sh x0, .sh x1] st) := call_at T5 rfl
theorem v5 {st : Store} {p : PV} {n : Bool} : leave F5 (.ret p n) st = .ok p st := leave_S rfl rfl
theorem c6 {k : Nat} {st : Store} {x0 : PV} : callF T gl (k + 1) 6 [x0] st = kLeave F6 (run (G k) b6 [.sh x0, .no] st) := call_at T6 rfl
theorem c7 {k : Nat} {st : Store} {x0 x1 : PV} : callF T gl (k + 1) 7 [x0, x1] st = kLeave F7 (run (G k) b7 [.sh x0, .sh x1, .no, .no, .no] st) := call_at T7 rfl
theorem v7 {st : Store} {p : PV} {n : Bool} : leave F7 (.ret p n) st = .ok p st := leave_S rfl rfl
theorem c8 {k : Nat} {st : Store} {x0 : PV} : callF T gl (k + 1) 8 [x0] st = kLeave F8 (run (G k) b8 [.sh x0] st) := call_at T8 rfl
theorem v8 {st : Store} {x : D} {n : Bool} (h : isList (.d x) = false) : leave F8 (.ret (.d x) n) st = .ok (.d x) st := leave_F rfl h
theorem w8 {st : Store} {x : D} : leave F8 (.ret (.d x) true) st = .ok (.d x) st := leave_L rfl
theorem c83 {k : Nat} {st : Store} {x0 : PV} : callF T gl (k + 1) 83 [x0] st = kLeave F83 (run (G k) b83 [.sh x0, .no, .no, .no, .no] st) := call_at T83 rfl
theorem v83 {st : Store} {p : PV} {n : Bool} : leave F83 (.ret p n) st = .ok p st := leave_S rfl rfl
theorem c308 {k : Nat} {st : Store} {x0 : PV} : callF T gl (k + 1) 308 [x0] st = kLeave F308 (run (G k) b308 [.sh x0, .no, .no, .no, .no, .no, .no] st) := call_at T308 rfl
theorem v308 {st : Store} {x : D} {n : Bool} (h : isList (.d x) = false) : leave F308 (.ret (.d x) n) st = .ok (.d x) st := leave_F rfl h
theorem w308 {st : Store} {x : D} : leave F308 (.ret (.d x) true) st = .ok (.d x) st := leave_L rfl
theorem c297 {k : Nat} {st : Store} {x0 : PV} : callF T gl (k + 1) 297 [x0] st = kLeave F297 (run (G k) b297 [.sh x0, .no, .no, .no, .no, .no] st) := call_at T297 rfl
theorem v297 {st : Store} {p : PV} {n : Bool} : leave F297 (.ret p n) st = .ok p st := leave_S rfl rfl
theorem c298 {k : Nat} {st : Store} {x0 x1 : PV} : callF T gl (k + 1) 298 [x0, x1] st = kLeave F298 (run (G k) b298 [.sh x0, .sh x1, .no, .no, .no] st) := call_at T298 rfl
theorem v298 {st : Store} {x : D} {n : Bool} (h : isList (.d x) = false) : leave F298 (.ret (.d x) n) st = .ok (.d x) st := leave_F rfl h
theorem w298 {st : Store} {x : D} : leave F298 (.ret (.d x) true) st = .ok (.d x) st := leave_L rfl
theorem c1080 {k : Nat} {st : Store} {x0 : PV} : callF T gl (k + 1) 1080 [x0] st = kLeave F1080 (run (G k) b1080 [.sh x0, .no, .no, .no] st) := call_at T1080 rfl
theorem v1080 {st : Store} {p : PV} {n : Bool} : leave F1080 (.ret p n) st = .ok p st := leave_S rfl rfl
theorem c1081 {k : Nat} {st : Store} {x0 : PV} : callF T gl (k + 1) 1081 [x0] st = kLeave F1081 (run (G k) b1081 [.sh x0, .no, .no, .no, .no, .no, .no, .no] st) := call_at T1081 rfl
theorem v1081 {st : Store} {x : D} {n : Bool} (h : isList (.d x) = false) : leave F1081 (.ret (.d x) n) st = .ok (.d x) st := leave_F rfl h
theorem w1081 {st : Store} {x : D} : leave F1081 (.ret (.d x) true) st = .ok (.d x) st := leave_L rfl
theorem c309 {k : Nat} {st : Store} {x0 : PV} : callF T gl (k + 1) 309 [x0] st = kLeave F309 (run (G k) b309 [.sh x0, .no, .no, .no, .no, .no, .no, .no] st) := call_at T309 rfl
theorem v309 {st : Store} {x : D} {n : Bool} (h : isList (.d x) = false) : leave F309 (.ret (.d x) n) st = .ok (.d x) st := leave_F rfl h
theorem w309 {st : Store} {x : D} : leave F309 (.ret (.d x) true) st = .ok (.d x) st := leave_L rfl
theorem c1148 {k : Nat} {st : Store} {x0 : PV} : callF T gl (k + 1) 1148 [x0] st = kLeave F1148 (run (G k) b1148 [.sh x0, .no, .no, .no, .no, .no, .no, .no, .no] st) := call_at T1148 rfl
theorem v1148 {st : Store} {p : PV} {n : Bool} : leave F1148 (.ret p n) st = .ok p st := leave_S rfl rfl
theorem c1085 {k : Nat} {st : Store} {x0 : PV} : callF T gl (k + 1) 1085 [x0] st = kLeave F1085 (run (G k) b1085 [.sh x0, .no, .no, .no, .no, .no, .no, .no, .no] st) := call_at T1085 rfl
theorem v1085 {st : Store} {x : D} {n : Bool} (h : isList (.d x) = false) : leave F1085 (.ret (.d x) n) st = .ok (.d x) st := leave_F rfl h
theorem w1085 {st : Store} {x : D} : leave F1085 (.ret (.d x) true) st = .ok (.d x) st := leave_L rfl
theorem c1031 {k : Nat} {st : Store} {x0 x1 : PV} : callF T gl (k + 1) 1031 [x0, x1] st = kLeave F1031 (run (G k) b1031 [.sh x0, .sh x1, .no] st) := call_at T1031 rfl
theorem v1031 {st : Store} {x : D} {n : Bool} (h : isList (.d x) = false) : leave F1031 (.ret (.d x) n) st = .ok (.d x) st := leave_F rfl h
theorem w1031 {st : Store} {x : D} : leave F1031 (.ret (.d x) true) st = .ok (.d x) st := leave_L rfl
theorem c1149 {k : Nat} {st : Store} {x0 : PV} : callF T gl (k + 1) 1149 [x0] st = kLeave F1149 (run (G k) b1149 [.sh x0, .no, .no, .no, .no] st) := call_at T1149 rfl
theorem v1149 {st : Store} {x : D} {n : Bool} (h : isList (.d x) = false) : leave F1149 (.ret (.d x) n) st = .ok (.d x) st := leave_F rfl h
theorem w1149 {st : Store} {x : D} : leave F1149 (.ret (.d x) true) st = .ok (.d x) st := leave_L rfl
end Sw.Lw
set_option linter.all false
set_option maxRecDepth 100000
set_option maxHeartbeats 4000000
namespace Sw.Lw
open PySem
/-! what laws share -/
theorem all_whole {k : Nat} {st : Store} {ρ : Env} {e : E} {i : Nat} (s : List Nat) (h : ∀ x : Nat, kEl (G k) e .nil (setTg ρ (.nm i) (iN x)) st = .ok (some (.bool true)) st) : compS (G k) e (.nm i) .nil (s.map iN) ρ st = .ok (.d (.list (s.map fun _ => .bool true))) st := comp_map (fun _ => .bool true) fun x _ => h x
theorem bi_all_true {α : Type} (s : List α) : biD .all [.list (s.map fun _ => .bool true)] = some (.bool true) := by
  show (boolsOf _).map _ = _
  have : boolsOf (s.map fun _ => PyData.bool true) = some (s.map fun _ => true) := by
    induction s with
    | nil => rfl
    | cons a s ih => simp [boolsOf, ih]
  rw [this]
  simp
def row0 {α : Type} (r : List α) (k : Nat) : List α := (r.drop (HT.sIx r.length 0 (some 1))).take (HT.sIx r.length r.length (some (k : Int)) - HT.sIx r.length 0 (some 1))
theorem row0_cut (ns : List Int) (k : Nat) : slcD (.list (ns.map PyData.int)) (some 1) (some (k : Int)) = some (.list ((row0 ns k).map PyData.int)) := by
  show some (PyData.list (cutL _ _ _)) = _
  unfold cutL row0
  rw [List.length_map, ← List.map_drop, ← List.map_take]
theorem row0_len (ns : List Int) (k : Nat) (h : ns.length ≤ 63) : (row0 ns k).length ≤ 63 := by
  unfold row0
  rw [List.length_take, List.length_drop]
  omega
theorem row0_cat (c : Int) (ns : List Int) (k : Nat) (h : ns.length ≤ 63) : opD .add (.list [.int c]) (.list ((row0 ns k).map PyData.int)) = some (.list ((c :: row0 ns k).map PyData.int)) := by
  have := row0_len ns k h
  have e : sizeLine = 16777216 := rfl
  rw [op_cat (by simp; omega)]
  rfl
theorem rng_2 {st : Store} : rngR 0 2 st = .ok (.d (.list ((List.range 2).map iN))) st := rng_0 (n := 2) (by omega)
theorem all_2 : (List.range 2).all (fun _ => true) = true := rfl
/-- a turn of two that changes nothing -/
theorem twice {Γ : Ctx} {ρ : Env} {st : Store} {t : Tg} {b : S} (h : ∀ i : Nat, turn Γ b (setTg ρ t (iN i)) st = .ok (.next ρ) st) : forS Γ t b ((List.range 2).map iN) ρ st = .ok (.next ρ) st := by
  have := forS_all (Γ := Γ) (ρ := ρ) (st := st) (t := t) (b := b) (L := List.range 2) (emb := iN) (v := .d .none) (n := false) (fun _ => true) fun i _ => by rw [h i]; rfl
  rw [this]
  rfl
theorem all_turns {Γ : Ctx} {ρ : Env} {st : Store} {t : Tg} {b : S} {α : Type} {L : List α} {emb : α → D} (h : ∀ a ∈ L, turn Γ b (setTg ρ t (emb a)) st = .ok (.next ρ) st) : forS Γ t b (L.map emb) ρ st = .ok (.next ρ) st := by
  have := forS_all (Γ := Γ) (ρ := ρ) (st := st) (t := t) (b := b) (L := L) (emb := emb) (v := .d .none) (n := false) (fun _ => true) fun a ha => by rw [h a ha]; rfl
  rw [this]
  simp

/-! _law_pen, _law_draw, _law_cell -/
/-- every cell is a pen -/
def Good (m : Nat) (st : Store) : Prop := m ≤ st.length ∧ ∀ (i : Nat) (x : D), st[i]? = some x → ∃ a b : Int, x = .list [.int a, .int b]
theorem Good.le {m m' : Nat} {st : Store} (h : Good m st) (l : m' ≤ m) : Good m' st := ⟨Nat.le_trans l h.1, h.2⟩
theorem Good.set {m i : Nat} {st : Store} {a b : Int} (h : Good m st) : Good m (st.set i (.list [.int a, .int b])) := ⟨by simpa using h.1, fun j x e => by
  by_cases z : i = j
  · subst z
    rw [List.getElem?_set] at e
    simp only [if_true] at e
    split at e
    · cases e; exact ⟨a, b, rfl⟩
    · cases e
  · rw [List.getElem?_set_ne z] at e
    exact h.2 j x e⟩
theorem at0 (a b : D) : L2.atI [a, b] 0 = some a := rfl
theorem at1 (a b : D) : L2.atI [a, b] 1 = some b := rfl
theorem ix20 : L2.ixN 2 0 = some 0 := rfl
theorem s_pen {k m : Nat} {st : Store} (c : Int) (h : Good m st) : ∃ st', Good (st.length + 1) st' ∧ callF T gl (k + 1) 6 [.d (.int c)] st = .ok (.cell st.length) st' := by
  have run : ∃ (a b : Int), run (G k) b6 [.sh (.d (.int c)), .no] st = .ok (.ret (.d (.list [.int a, .int b])) true) st := by
    refine ⟨if 0 - c > c then 0 - c else c, if (if 0 - c > c then 0 - c else c) ≥ 10 ^ 18 then 1 else 0, ?_⟩
    have ep : opD .pow (.int 10) (.int 18) = some (.int (10 ^ 18)) := rfl
    have eb : ∀ b : Bool, biD .int [.bool b] = some (.int (if b = true then 1 else 0)) := fun _ => rfl
    simp -implicitDefEqProofs only [b6, ev_op, ev_op1, ev_op2, ev_cm, ev_cm1, ev_cm2, ev_if, ev_ch, ev_ch1, ev_ch2, ev_ch3, ev_dd, ev_dd1, ev_dd2, ev_dd3, ev_var, ev_cI, ev_cS, ev_cB, ev_cN, ev_glob, ev_nil, ev_cons, ev_a1, ev_a2, ev_tup, ev_tup1, ev_lst, ev_lst1, asDs_nil, asDs_cons, ev_neg, ev_neg1, ev_not, ev_not1, ev_and, ev_and1, ev_or, ev_or1, ev_one, ev_one1, ev_ite, ev_ite1, ev_ix, ev_ix1, ev_ix2, ev_sl, ev_sl1, ev_sl2, ev_sl3, ev_pN, ev_pO, ev_p1, ev_orT, ev_orT1, ev_emp, ev_emp1, ev_rev, ev_rev1, ev_call, ev_call1, ev_blt, ev_blt1, ev_bi, ev_r1, ev_r11, ev_r2, ev_r21, ev_r22, ev_comp, ev_compL, ev_compT, ev_enm, ev_enm1t, ev_enm1, ev_zp, ev_zp1, ev_zp2t, ev_zp2, ev_tupR, ev_tupR1, ev_mth, ev_mth1, ev_mth1t, ev_mth2, ofO_some, ev_cnN, ev_cnO, ev_c1, ev_el2, ev_el1, ev_el, tg_nm, tg_2, tg_3, ev_seq, ev_seqN, ev_seqR, ev_seqX, ev_seqI, ev_skip, ev_drop, ev_dropN, ev_dropR, ev_dropX, ev_dropI, dropE_nil, dropE_cons, ev_set, ev_setO, ev_set1, ev_setO1, ev_setT, ev_setT2, ev_setT1, ev_nextO, ev_par, ev_par1, ev_par2, ev_par3, ev_par31, ev_par32, ev_par33, ev_ifS, ev_ifS1, ev_turn, ev_for, ev_forO, ev_forO1, ev_unN, ev_un2, ev_unR, ev_whl, ev_whl1, ev_whl0, ev_whl2, ev_whlR, ev_x_kWhl1, ev_x_kWhl2, ev_popA, ev_popAo, ev_popA1, ev_popA2, ev_x_kPopA1, ev_popS, ev_popSo, ev_popS1, ev_popS2, ev_x_kPopS1, ev_ext, ev_exto, ev_ext1, ev_x_kExt1, ev_setI, ev_setId, ev_setD0, ev_setD1, ev_setD2, ev_extV, ev_extV1, ev_dNew, ev_dCpy, ev_cpy1, ev_setIo, ev_setI0, ev_setI1, ev_setI2, ev_forL, ev_forT, ev_ret, ev_ret1, ev_retI, ev_retVd, ev_retV, ev_retVs, ev_retVo, ev_exp, ev_exp1, ev_app, ev_app0, ev_app1, ev_app2, ev_ins, ev_ins0, ev_ins1, ev_ins2, ev_ins3, ev_swp, ev_swpS, ev_swp0, ev_swp1, ev_swp2, ev_swp3, ev_swp4, ev_swp5, ev_rem, ev_rem0, ev_rem1, ev_rem2, ev_rem3, ev_leave, ev_leaveX, ev_leaveI, leave_N, ev_xis, ev_xis1, ev_raise, ev_raise1, ev_try, ev_tryN, ev_tryX, ev_tryI, ev_xat, ev_xat1, ev_xat2, ev_xat3, ev_xat4, ev_raiseA, ev_raise6m, ev_raise8m, ev_d0, ev_dI, ev_dget, ev_get1, ev_get2, ev_get3, ev_vals, ev_vals1, ev_dA, ev_lstR, ev_lstR1, ev_jn, ev_jn1, ev_jn2, ev_spl, ev_spl1, ev_spl2, ev_lr2, ev_lr2a, ev_lr2b, ev_sset, ev_sset1, ev_told, ev_told1, ev_x_kTold, ev_lenS, ev_lenS1, ev_x_kLenS, ev_inR, ev_inR1, ev_inR2, ev_inR3, ev_x_kInR1, ev_x_kInR2, ev_x_kXat, ev_x_kRaiseA, ev_x_kEmp, ev_x_kLstR, ev_x_kSset, ev_x_kOp2, ev_x_kOp1, ev_x_kCm2, ev_x_kCm1, ev_x_kCh2, ev_x_kCh1, ev_x_kA1, ev_x_kNeg, ev_x_kNot, ev_x_kAnd, ev_x_kOr, ev_x_kOne, ev_x_kIte, ev_x_kIx2, ev_x_kIx1, ev_x_kSl1, ev_x_kP, ev_x_kRev, ev_x_kR1, ev_x_kR22, ev_x_kR2, ev_x_kComp, ev_x_kEnm, ev_x_kZp2, ev_x_kZp1, ev_x_kTupR, ev_x_kMth2, ev_x_kMth1, ev_x_kC, ev_x_kEl2, ev_x_kEl1, ev_x_kSet, ev_x_kSetO, ev_x_kSetT, ev_x_kPar2, ev_x_kPar1, ev_x_kPar33, ev_x_kPar32, ev_x_kPar31, ev_x_kIfS, ev_x_kFor, ev_x_kUn, ev_x_kSetI1, ev_x_kSetI0, ev_x_kRet, ev_x_kExp, ev_x_kApp1, ev_x_kFor1, ev_x_kXis, ev_x_kA2, ev_x_kTup, ev_x_kLst, ev_x_kCall, ev_x_kBlt, settle_eq, demote_nil, demote_cons, dem_ow, dem_od, dem_sh, dem_no, dem_none, look_eq, look_sh, look_od, look_ow, fresh, occ, List.set_cons_zero, List.set_cons_succ, List.set_nil, List.getElem?_cons_zero, List.getElem?_cons_succ, List.getElem?_nil, Option.map_some, Option.map_none, List.cons_append, List.nil_append, List.append_nil, ite_self, if_true, if_false, Bool.not_true, Bool.not_false, Bool.true_and, Bool.false_and, Bool.and_true, Bool.and_false, Bool.false_or, Bool.true_or, Bool.or_false, Bool.or_true, Bool.and_self, Bool.false_eq_true, reduceIte, decide_true, decide_false, Bool.decide_eq_true, eq_self, fr965, fr292, fr549, fr966, fr967, fr968, fr969, fr5, fr6, fr7, fr8, fr83, fr308, fr297, fr298, fr1080, fr1081, fr309, fr1148, fr1085, fr1031, fr1149, oc_q967_e0, oc_q968_e0, oc_q969_e0, oc_q83_e0, oc_q308_e0, oc_q308_c0, oc_q297_e0, oc_q297_c0, oc_q298_e0, oc_q1081_e0, oc_q309_e0, oc_q309_c0, oc_q309_e1, oc_q1148_e1, oc_q1148_e0, oc_q1085_e0, oc_q1085_c0, eqD_w, in_i, in_0, in_iL, in_p, in_p0, in_pL, in_3L, in_tL, bi_dict3, in_d3, eq_int, eq_bool, eq_t, eq_p, eq_ps, cm_le2, cm_lt2, cm_le3, op_add, op_sub, cm_lt, cm_le, cm_gt, cm_ge, cm_eqq, cm_ne, cm_in, cm_nin, cm_is, cm_isn, cm_isb, cm_isnb, none_y, none_t, none_l, none_i, none_w, ix_w0, ix_w1, ix_20, ix_21, ix_30, ix_31, ix_32, rng_0, rng_n, rng_s, rng_1, bi_lenL, bi_lenT, bi_tupL, bi_tupT, bi_lstL, bi_lstT, bi_mn2, bi_mx2, ty_dI, ty_dB, ty_dS, ty_dT, ty_dL, ty_dN, ty_dW, bi_isT, bi_intB, ty_ii, ty_bi, ty_tt, ty_ll, ty_tw, calm_i, calm_b, calm_s, calm_L, calm_n, calm_T, calmA_nil, calmA_cons, calm_ti, calm_tp, calm_tt, calm_t3, calm_w, calm_ws, keep_L, keep_T, keep_i, keep_b, keep_n, keep_c, keep_w, isL_i, isL_s, isL_b, isL_T, isL_n, isL_w, ep, eb, decide_eq_true_eq]
  obtain ⟨a, b, e⟩ := run
  refine ⟨st ++ [.list [.int a, .int b]], ⟨by simp, fun i x q => ?_⟩, ?_⟩
  · rw [List.getElem?_append] at q
    split at q
    · exact h.2 i x q
    · rw [List.getElem?_singleton] at q
      split at q
      · cases q; exact ⟨a, b, rfl⟩
      · cases q
  · rw [c6, e]
    rfl
theorem s_draw {k m j : Nat} {st : Store} (n : Int) (h : Good m st) (hj : j < m) (h0 : 0 < n) (h1 : n ≤ 1000) : ∃ (r : Nat) (st' : Store), (r : Int) < n ∧ Good m st' ∧ st'.length = st.length ∧ callF T gl (k + 1) 7 [.cell j, .d (.int n)] st = .ok (.d (.int (r : Int))) st' := by
  obtain ⟨x, ex⟩ : ∃ x, st[j]? = some x := ⟨_, List.getElem?_eq_getElem (by have := h.1; omega)⟩
  obtain ⟨a, b, rfl⟩ := h.2 j x ex
  have hn : (0 : Int) < n := h0
  have hn2 : n < 1073741824 := by omega
  by_cases hb : b = 1
  · subst hb
    have hr : 0 ≤ a % n ∧ a % n < n := ⟨Int.emod_nonneg _ (by omega), Int.emod_lt_of_pos _ hn⟩
    refine ⟨(a % n).toNat, st.set j (.list [.int (a / n), .int 1]), by omega, h.set, by simp, ?_⟩
    rw [Int.toNat_of_nonneg hr.1, c7]
    simp [b7, run, den, denA, look, Res.bind, ofO, idxR, ex, idxD, at0, at1, ix20, calm, cmR, cmD, eq_int, biR, asDs, biD, biDivmod, h0, hn, hn2, setTg, settle, keeps, fresh, occ, demote, calmAll, dropE, kLeave, v7]
  · let s1 := (a % 2147483647 + 40503) * 69621 % 2147483629
    let s2 := (s1 * s1 + 7817) % 2147483587
    let s3 := (s2 * 48271 + 11) % 2147483629
    have b1 : 0 ≤ s1 ∧ s1 < 2147483629 := ⟨Int.emod_nonneg _ (by omega), Int.emod_lt_of_pos _ (by omega)⟩
    have b2 : 0 ≤ s2 ∧ s2 < 2147483587 := ⟨Int.emod_nonneg _ (by omega), Int.emod_lt_of_pos _ (by omega)⟩
    have hr : 0 ≤ s3 / 32 % n ∧ s3 / 32 % n < n := ⟨Int.emod_nonneg _ (by omega), Int.emod_lt_of_pos _ hn⟩
    refine ⟨(s3 / 32 % n).toNat, st.set j (.list [.int s3, .int b]), by omega, h.set, by simp, ?_⟩
    have c1 : -18446744073709551616 < s1 := by omega
    have c2 : s1 < 18446744073709551616 := by omega
    have c3 : -18446744073709551616 < s2 := by omega
    have c4 : s2 < 18446744073709551616 := by omega
    have hk : j < st.length := by have := h.1; omega
    rw [Int.toNat_of_nonneg hr.1, c7]
    simp [b7, run, den, denA, look, Res.bind, ofO, idxR, ex, idxD, at0, at1, ix20, calm, cmR, cmD, eq_int, hb, biR, asDs, biD, h0, hn, hn2, settle, keeps, fresh, occ, demote, calmAll, opR, opD, dropE, kLeave, v7, List.getElem?_set_self hk, show (a % 2147483647 + 40503) * 69621 % 2147483629 = s1 from rfl, show (s1 * s1 + 7817) % 2147483587 = s2 from rfl, show (s2 * 48271 + 11) % 2147483629 = s3 from rfl, c1, c2, c3, c4]
theorem s_cell0 {k : Nat} {st : Store} (ns : List Int) : ∃ c : Int, callF T gl (k + 1) 5 [.d (.list (ns.map PyData.int)), .d (.int 0)] st = .ok (.d (.int c)) st := by
  cases ns with
  | nil => exact ⟨0, by kernel_rfl⟩
  | cons n r =>
    refine ⟨n, ?_⟩
    have e1 : idxD (.list ((n :: r).map PyData.int)) (.int 0) = some (.int n) := by
      show L2.atI _ 0 = _
      unfold L2.atI L2.ixN
      simp
    have e2 : decide ((0 : Int) < (((n :: r).map PyData.int).length : Int)) = true := by simp
    simp -implicitDefEqProofs only [c5, b5, v5, ev_op, ev_op1, ev_op2, ev_cm, ev_cm1, ev_cm2, ev_if, ev_ch, ev_ch1, ev_ch2, ev_ch3, ev_dd, ev_dd1, ev_dd2, ev_dd3, ev_var, ev_cI, ev_cS, ev_cB, ev_cN, ev_glob, ev_nil, ev_cons, ev_a1, ev_a2, ev_tup, ev_tup1, ev_lst, ev_lst1, asDs_nil, asDs_cons, ev_neg, ev_neg1, ev_not, ev_not1, ev_and, ev_and1, ev_or, ev_or1, ev_one, ev_one1, ev_ite, ev_ite1, ev_ix, ev_ix1, ev_ix2, ev_sl, ev_sl1, ev_sl2, ev_sl3, ev_pN, ev_pO, ev_p1, ev_orT, ev_orT1, ev_emp, ev_emp1, ev_rev, ev_rev1, ev_call, ev_call1, ev_blt, ev_blt1, ev_bi, ev_r1, ev_r11, ev_r2, ev_r21, ev_r22, ev_comp, ev_compL, ev_compT, ev_enm, ev_enm1t, ev_enm1, ev_zp, ev_zp1, ev_zp2t, ev_zp2, ev_tupR, ev_tupR1, ev_mth, ev_mth1, ev_mth1t, ev_mth2, ofO_some, ev_cnN, ev_cnO, ev_c1, ev_el2, ev_el1, ev_el, tg_nm, tg_2, tg_3, ev_seq, ev_seqN, ev_seqR, ev_seqX, ev_seqI, ev_skip, ev_drop, ev_dropN, ev_dropR, ev_dropX, ev_dropI, dropE_nil, dropE_cons, ev_set, ev_setO, ev_set1, ev_setO1, ev_setT, ev_setT2, ev_setT1, ev_nextO, ev_par, ev_par1, ev_par2, ev_par3, ev_par31, ev_par32, ev_par33, ev_ifS, ev_ifS1, ev_turn, ev_for, ev_forO, ev_forO1, ev_unN, ev_un2, ev_unR, ev_whl, ev_whl1, ev_whl0, ev_whl2, ev_whlR, ev_x_kWhl1, ev_x_kWhl2, ev_popA, ev_popAo, ev_popA1, ev_popA2, ev_x_kPopA1, ev_popS, ev_popSo, ev_popS1, ev_popS2, ev_x_kPopS1, ev_ext, ev_exto, ev_ext1, ev_x_kExt1, ev_setI, ev_setId, ev_setD0, ev_setD1, ev_setD2, ev_extV, ev_extV1, ev_dNew, ev_dCpy, ev_cpy1, ev_setIo, ev_setI0, ev_setI1, ev_setI2, ev_forL, ev_forT, ev_ret, ev_ret1, ev_retI, ev_retVd, ev_retV, ev_retVs, ev_retVo, ev_exp, ev_exp1, ev_app, ev_app0, ev_app1, ev_app2, ev_ins, ev_ins0, ev_ins1, ev_ins2, ev_ins3, ev_swp, ev_swpS, ev_swp0, ev_swp1, ev_swp2, ev_swp3, ev_swp4, ev_swp5, ev_rem, ev_rem0, ev_rem1, ev_rem2, ev_rem3, ev_leave, ev_leaveX, ev_leaveI, leave_N, ev_xis, ev_xis1, ev_raise, ev_raise1, ev_try, ev_tryN, ev_tryX, ev_tryI, ev_xat, ev_xat1, ev_xat2, ev_xat3, ev_xat4, ev_raiseA, ev_raise6m, ev_raise8m, ev_d0, ev_dI, ev_dget, ev_get1, ev_get2, ev_get3, ev_vals, ev_vals1, ev_dA, ev_lstR, ev_lstR1, ev_jn, ev_jn1, ev_jn2, ev_spl, ev_spl1, ev_spl2, ev_lr2, ev_lr2a, ev_lr2b, ev_sset, ev_sset1, ev_told, ev_told1, ev_x_kTold, ev_lenS, ev_lenS1, ev_x_kLenS, ev_inR, ev_inR1, ev_inR2, ev_inR3, ev_x_kInR1, ev_x_kInR2, ev_x_kXat, ev_x_kRaiseA, ev_x_kEmp, ev_x_kLstR, ev_x_kSset, ev_x_kOp2, ev_x_kOp1, ev_x_kCm2, ev_x_kCm1, ev_x_kCh2, ev_x_kCh1, ev_x_kA1, ev_x_kNeg, ev_x_kNot, ev_x_kAnd, ev_x_kOr, ev_x_kOne, ev_x_kIte, ev_x_kIx2, ev_x_kIx1, ev_x_kSl1, ev_x_kP, ev_x_kRev, ev_x_kR1, ev_x_kR22, ev_x_kR2, ev_x_kComp, ev_x_kEnm, ev_x_kZp2, ev_x_kZp1, ev_x_kTupR, ev_x_kMth2, ev_x_kMth1, ev_x_kC, ev_x_kEl2, ev_x_kEl1, ev_x_kSet, ev_x_kSetO, ev_x_kSetT, ev_x_kPar2, ev_x_kPar1, ev_x_kPar33, ev_x_kPar32, ev_x_kPar31, ev_x_kIfS, ev_x_kFor, ev_x_kUn, ev_x_kSetI1, ev_x_kSetI0, ev_x_kRet, ev_x_kExp, ev_x_kApp1, ev_x_kFor1, ev_x_kXis, ev_x_kA2, ev_x_kTup, ev_x_kLst, ev_x_kCall, ev_x_kBlt, settle_eq, demote_nil, demote_cons, dem_ow, dem_od, dem_sh, dem_no, dem_none, look_eq, look_sh, look_od, look_ow, fresh, occ, List.set_cons_zero, List.set_cons_succ, List.set_nil, List.getElem?_cons_zero, List.getElem?_cons_succ, List.getElem?_nil, Option.map_some, Option.map_none, List.cons_append, List.nil_append, List.append_nil, ite_self, if_true, if_false, Bool.not_true, Bool.not_false, Bool.true_and, Bool.false_and, Bool.and_true, Bool.and_false, Bool.false_or, Bool.true_or, Bool.or_false, Bool.or_true, Bool.and_self, Bool.false_eq_true, reduceIte, decide_true, decide_false, Bool.decide_eq_true, eq_self, fr965, fr292, fr549, fr966, fr967, fr968, fr969, fr5, fr6, fr7, fr8, fr83, fr308, fr297, fr298, fr1080, fr1081, fr309, fr1148, fr1085, fr1031, fr1149, oc_q967_e0, oc_q968_e0, oc_q969_e0, oc_q83_e0, oc_q308_e0, oc_q308_c0, oc_q297_e0, oc_q297_c0, oc_q298_e0, oc_q1081_e0, oc_q309_e0, oc_q309_c0, oc_q309_e1, oc_q1148_e1, oc_q1148_e0, oc_q1085_e0, oc_q1085_c0, eqD_w, in_i, in_0, in_iL, in_p, in_p0, in_pL, in_3L, in_tL, bi_dict3, in_d3, eq_int, eq_bool, eq_t, eq_p, eq_ps, cm_le2, cm_lt2, cm_le3, op_add, op_sub, cm_lt, cm_le, cm_gt, cm_ge, cm_eqq, cm_ne, cm_in, cm_nin, cm_is, cm_isn, cm_isb, cm_isnb, none_y, none_t, none_l, none_i, none_w, ix_w0, ix_w1, ix_20, ix_21, ix_30, ix_31, ix_32, rng_0, rng_n, rng_s, rng_1, bi_lenL, bi_lenT, bi_tupL, bi_tupT, bi_lstL, bi_lstT, bi_mn2, bi_mx2, ty_dI, ty_dB, ty_dS, ty_dT, ty_dL, ty_dN, ty_dW, bi_isT, bi_intB, ty_ii, ty_bi, ty_tt, ty_ll, ty_tw, calm_i, calm_b, calm_s, calm_L, calm_n, calm_T, calmA_nil, calmA_cons, calm_ti, calm_tp, calm_tt, calm_t3, calm_w, calm_ws, keep_L, keep_T, keep_i, keep_b, keep_n, keep_c, keep_w, isL_i, isL_s, isL_b, isL_T, isL_n, isL_w, e1, e2]

/-! _law_whole -/
theorem s_law_whole {k : Nat} {st : Store} (i : Int) : callF T gl (k + 1) 8 [.d (.int i)] st = .ok (.d (.bool true)) st := by kernel_rfl

/-! comprehensions that draw; walks over things that are told -/
theorem comp_draw {Γ : Ctx} {ρ : Env} {L : List D} {elt : E} {t : Tg} {cnd : E} (I : Store → Prop) (P : D → Prop) (h : ∀ x ∈ L, ∀ st, I st → ∃ y st', P y ∧ I st' ∧ kEl Γ elt cnd (setTg ρ t x) st = .ok (some y) st') :
    ∀ st, I st → ∃ ys st', (∀ y ∈ ys, P y) ∧ I st' ∧ ys.length = L.length ∧ compS Γ elt t cnd L ρ st = .ok (.d (.list ys)) st' := by
  have key : ∀ st, I st → ∃ ys st', (∀ y ∈ ys, P y) ∧ I st' ∧ ys.length = L.length ∧ compL (elF t (denC Γ cnd) (den Γ elt) ρ) L st = .ok ys st' := by
    induction L with
    | nil => exact fun st hI => ⟨[], st, fun y z => (by cases z), hI, rfl, rfl⟩
    | cons a L ih =>
      intro st hI
      obtain ⟨y, s1, h1, g1, e1⟩ := h a (by simp) st hI
      obtain ⟨ys, s2, h2, g2, l2, e2⟩ := ih (fun b hb => h b (by simp [hb])) s1 g1
      refine ⟨y :: ys, s2, fun z hz => ?_, g2, by simp [l2], ?_⟩
      · rcases List.mem_cons.mp hz with rfl | hz
        · exact h1
        · exact h2 z hz
      · simp only [compL, el_eq]
        rw [e1]
        simp only [Res.bind]
        rw [e2]
        rfl
  intro st hI
  obtain ⟨ys, st', h1, h2, h3, h4⟩ := key st hI
  refine ⟨ys, st', h1, h2, h3, ?_⟩
  unfold compS
  rw [h4]
  rfl
theorem all_turnsD {Γ : Ctx} {ρ : Env} {st : Store} {t : Tg} {b : S} {L : List D} (h : ∀ a ∈ L, turn Γ b (setTg ρ t a) st = .ok (.next ρ) st) : forS Γ t b L ρ st = .ok (.next ρ) st := by
  have := all_turns (Γ := Γ) (ρ := ρ) (st := st) (t := t) (b := b) (L := L) (emb := fun x => x) h
  simpa using this
theorem forS_keepD {Γ : Ctx} {ρ : Env} {L : List D} {t : Tg} {b : S} (I : Store → Prop) (h : ∀ a ∈ L, ∀ st, I st → ∃ st', I st' ∧ turn Γ b (setTg ρ t a) st = .ok (.next ρ) st') : ∀ st, I st → ∃ st', I st' ∧ forS Γ t b L ρ st = .ok (.next ρ) st' := by
  intro st hI
  have := forS_keep (Γ := Γ) (ρ := ρ) (L := L) (emb := fun x => x) (t := t) (b := b) I h st hI
  simpa using this
theorem rng_3 {st : Store} : rngR 0 3 st = .ok (.d (.list ((List.range 3).map iN))) st := rng_0 (n := 3) (by omega)
theorem flat_told (s : Str) {x : D} (h : x.plain = true ∧ x.depth ≤ 50) : flat (.tuple [.str s, x]) = true := by
  have e1 : PyData.plain (.tuple [.str s, x]) = true := by
    simp only [PyData.plain, PyData.plainAll, h.1, Bool.and_self]
  have e2 : PyData.depth (.tuple [.str s, x]) ≤ 51 := by
    have := h.2
    simp only [PyData.depth, PyData.depthAll]
    simp only [Nat.max_def]
    split <;> split <;> omega
  unfold flat
  rw [e1]
  exact decide_eq_true (by omega)
theorem eqD_told (s : Str) {x : D} (h : x.plain = true ∧ x.depth ≤ 50) : eqD (.tuple [.str s, x]) (.tuple [.str s, x]) = some true := eqD_self (flat_told s h)

/-! alike_many -/
theorem am_1 {k : Nat} {st : Store} : callF T gl (k + 5) 969 [.d (.int 1)] st = .ok (.d (.int 1)) st := by kernel_rfl
theorem am_2 {k : Nat} {st : Store} : callF T gl (k + 5) 969 [.d (.int 2)] st = .ok (.d (.int 1)) st := by kernel_rfl
theorem am_3 {k : Nat} {st : Store} : callF T gl (k + 5) 969 [.d (.int 3)] st = .ok (.d (.int 2)) st := by kernel_rfl
theorem am_4 {k : Nat} {st : Store} : callF T gl (k + 5) 969 [.d (.int 4)] st = .ok (.d (.int 3)) st := by kernel_rfl
theorem am_5 {k : Nat} {st : Store} : callF T gl (k + 5) 969 [.d (.int 5)] st = .ok (.d (.int 7)) st := by kernel_rfl
theorem am_6 {k : Nat} {st : Store} : callF T gl (k + 5) 969 [.d (.int 6)] st = .ok (.d (.int 16)) st := by kernel_rfl
theorem am_7 {k : Nat} {st : Store} : callF T gl (k + 5) 969 [.d (.int 7)] st = .ok (.d (.int 54)) st := by kernel_rfl
theorem am_8 {k : Nat} {st : Store} : callF T gl (k + 5) 969 [.d (.int 8)] st = .ok (.d (.int 243)) st := by kernel_rfl
theorem am_9 {k : Nat} {st : Store} : callF T gl (k + 5) 969 [.d (.int 9)] st = .ok (.d (.int 2038)) st := by kernel_rfl
theorem bm_1 {k : Nat} {st : Store} : callF T gl (k + 5) 1148 [.d (.int 1)] st = .ok (.d (.int 1)) st := by kernel_rfl
theorem bm_2 {k : Nat} {st : Store} : callF T gl (k + 5) 1148 [.d (.int 2)] st = .ok (.d (.int 1)) st := by kernel_rfl
theorem bm_3 {k : Nat} {st : Store} : callF T gl (k + 5) 1148 [.d (.int 3)] st = .ok (.d (.int 2)) st := by kernel_rfl
theorem bm_4 {k : Nat} {st : Store} : callF T gl (k + 5) 1148 [.d (.int 4)] st = .ok (.d (.int 3)) st := by kernel_rfl

/-! _law_by_rings -/
theorem br_1 {k : Nat} {st : Store} : callF T gl (k + 12) 1085 [.d (.int 1)] st = .ok (.d (.int 1)) st := by kernel_rfl
theorem br_2 {k : Nat} {st : Store} : callF T gl (k + 12) 1085 [.d (.int 2)] st = .ok (.d (.int 1)) st := by kernel_rfl
theorem br_3 {k : Nat} {st : Store} : callF T gl (k + 12) 1085 [.d (.int 3)] st = .ok (.d (.int 2)) st := by kernel_rfl
theorem br_4 {k : Nat} {st : Store} : callF T gl (k + 12) 1085 [.d (.int 4)] st = .ok (.d (.int 3)) st := by kernel_rfl
theorem br_5 {k : Nat} {st : Store} : callF T gl (k + 12) 1085 [.d (.int 5)] st = .ok (.d (.int 7)) st := by kernel_rfl
theorem br_6 {k : Nat} {st : Store} : callF T gl (k + 12) 1085 [.d (.int 6)] st = .ok (.d (.int 16)) st := by kernel_rfl
theorem br_7 {k : Nat} {st : Store} : callF T gl (k + 12) 1085 [.d (.int 7)] st = .ok (.d (.int 54)) st := by kernel_rfl
theorem br_8 {k : Nat} {st : Store} : callF T gl (k + 12) 1085 [.d (.int 8)] st = .ok (.d (.int 243)) st := by kernel_rfl
theorem br_9 {k : Nat} {st : Store} : callF T gl (k + 12) 1085 [.d (.int 9)] st = .ok (.d (.int 2038)) st := by kernel_rfl

/-! _law_by_maps(5), class by class -/
def mapsL (n : Nat) : List (List Nat) := (List.range n).foldl (fun F _ => F.flatMap fun r => ((List.range n).filter fun x => !r.contains x).map fun x => r ++ [x]) [[]]
def prs5 : List (Nat × Nat) := [(1, 2), (1, 3), (1, 4), (2, 3), (2, 4), (3, 4)]
def webs5 (a m : Nat) : List D := (List.range' a m).map fun lot => .tuple [.int 5, .tuple ((prs5.zipIdx.filter fun x => lot.testBit x.2).map fun x => pD x.1)]
def dk5 (L : List (List (Nat × Nat × Nat))) : List (D × D) := L.map fun T => (.tuple (T.map t3), .bool true)
def sn0 : List (List (Nat × Nat × Nat)) := []
def sn1 : List (List (Nat × Nat × Nat)) := [[]]
def sn2 : List (List (Nat × Nat × Nat)) := [[], [(0, 1, 2), (1, 2, 3), (1, 2, 4)], [(0, 1, 3), (1, 2, 3), (1, 3, 4)], [(0, 1, 4), (1, 2, 4), (1, 3, 4)], [(0, 2, 3), (1, 2, 3), (2, 3, 4)], [(0, 2, 4), (1, 2, 4), (2, 3, 4)], [(0, 3, 4), (1, 3, 4), (2, 3, 4)], [(0, 1, 2), (0, 2, 3), (0, 2, 4)], [(0, 1, 3), (0, 2, 3), (0, 3, 4)], [(0, 1, 4), (0, 2, 4), (0, 3, 4)], [(0, 1, 2), (0, 1, 3), (0, 1, 4)]]
def sn3 : List (List (Nat × Nat × Nat)) := [[], [(0, 1, 2), (1, 2, 3), (1, 2, 4)], [(0, 1, 3), (1, 2, 3), (1, 3, 4)], [(0, 1, 4), (1, 2, 4), (1, 3, 4)], [(0, 2, 3), (1, 2, 3), (2, 3, 4)], [(0, 2, 4), (1, 2, 4), (2, 3, 4)], [(0, 3, 4), (1, 3, 4), (2, 3, 4)], [(0, 1, 2), (0, 2, 3), (0, 2, 4)], [(0, 1, 3), (0, 2, 3), (0, 3, 4)], [(0, 1, 4), (0, 2, 4), (0, 3, 4)], [(0, 1, 2), (0, 1, 3), (0, 1, 4)], [(0, 1, 2), (0, 1, 3), (1, 2, 4), (1, 3, 4)], [(0, 1, 2), (0, 1, 4), (1, 2, 3), (1, 3, 4)], [(0, 1, 3), (0, 1, 4), (1, 2, 3), (1, 2, 4)], [(0, 1, 2), (0, 2, 3), (1, 2, 4), (2, 3, 4)], [(0, 1, 2), (0, 2, 4), (1, 2, 3), (2, 3, 4)], [(0, 2, 3), (0, 2, 4), (1, 2, 3), (1, 2, 4)], [(0, 1, 3), (0, 2, 3), (1, 3, 4), (2, 3, 4)], [(0, 1, 3), (0, 3, 4), (1, 2, 3), (2, 3, 4)], [(0, 2, 3), (0, 3, 4), (1, 2, 3), (1, 3, 4)], [(0, 1, 4), (0, 2, 4), (1, 3, 4), (2, 3, 4)], [(0, 1, 4), (0, 3, 4), (1, 2, 4), (2, 3, 4)], [(0, 2, 4), (0, 3, 4), (1, 2, 4), (1, 3, 4)], [(0, 1, 2), (0, 1, 3), (0, 2, 4), (0, 3, 4)], [(0, 1, 2), (0, 1, 4), (0, 2, 3), (0, 3, 4)], [(0, 1, 3), (0, 1, 4), (0, 2, 3), (0, 2, 4)]]
def sn4 : List (List (Nat × Nat × Nat)) := [[], [(0, 1, 2), (1, 2, 3), (1, 2, 4)], [(0, 1, 3), (1, 2, 3), (1, 3, 4)], [(0, 1, 4), (1, 2, 4), (1, 3, 4)], [(0, 2, 3), (1, 2, 3), (2, 3, 4)], [(0, 2, 4), (1, 2, 4), (2, 3, 4)], [(0, 3, 4), (1, 3, 4), (2, 3, 4)], [(0, 1, 2), (0, 2, 3), (0, 2, 4)], [(0, 1, 3), (0, 2, 3), (0, 3, 4)], [(0, 1, 4), (0, 2, 4), (0, 3, 4)], [(0, 1, 2), (0, 1, 3), (0, 1, 4)], [(0, 1, 2), (0, 1, 3), (1, 2, 4), (1, 3, 4)], [(0, 1, 2), (0, 1, 4), (1, 2, 3), (1, 3, 4)], [(0, 1, 3), (0, 1, 4), (1, 2, 3), (1, 2, 4)], [(0, 1, 2), (0, 2, 3), (1, 2, 4), (2, 3, 4)], [(0, 1, 2), (0, 2, 4), (1, 2, 3), (2, 3, 4)], [(0, 2, 3), (0, 2, 4), (1, 2, 3), (1, 2, 4)], [(0, 1, 3), (0, 2, 3), (1, 3, 4), (2, 3, 4)], [(0, 1, 3), (0, 3, 4), (1, 2, 3), (2, 3, 4)], [(0, 2, 3), (0, 3, 4), (1, 2, 3), (1, 3, 4)], [(0, 1, 4), (0, 2, 4), (1, 3, 4), (2, 3, 4)], [(0, 1, 4), (0, 3, 4), (1, 2, 4), (2, 3, 4)], [(0, 2, 4), (0, 3, 4), (1, 2, 4), (1, 3, 4)], [(0, 1, 2), (0, 1, 3), (0, 2, 4), (0, 3, 4)], [(0, 1, 2), (0, 1, 4), (0, 2, 3), (0, 3, 4)], [(0, 1, 3), (0, 1, 4), (0, 2, 3), (0, 2, 4)], [(0, 1, 2), (0, 1, 3), (0, 2, 3), (1, 2, 3), (1, 2, 4), (1, 3, 4), (2, 3, 4)], [(0, 1, 2), (0, 1, 4), (0, 2, 4), (1, 2, 3), (1, 2, 4), (1, 3, 4), (2, 3, 4)], [(0, 1, 3), (0, 1, 4), (0, 3, 4), (1, 2, 3), (1, 2, 4), (1, 3, 4), (2, 3, 4)], [(0, 2, 3), (0, 2, 4), (0, 3, 4), (1, 2, 3), (1, 2, 4), (1, 3, 4), (2, 3, 4)], [(0, 1, 2), (0, 1, 3), (0, 2, 3), (0, 2, 4), (0, 3, 4), (1, 2, 3), (2, 3, 4)], [(0, 1, 2), (0, 1, 4), (0, 2, 3), (0, 2, 4), (0, 3, 4), (1, 2, 4), (2, 3, 4)], [(0, 1, 3), (0, 1, 4), (0, 2, 3), (0, 2, 4), (0, 3, 4), (1, 3, 4), (2, 3, 4)], [(0, 1, 2), (0, 1, 3), (0, 1, 4), (0, 2, 3), (0, 3, 4), (1, 2, 3), (1, 3, 4)], [(0, 1, 2), (0, 1, 3), (0, 1, 4), (0, 2, 4), (0, 3, 4), (1, 2, 4), (1, 3, 4)], [(0, 1, 2), (0, 1, 3), (0, 1, 4), (0, 2, 3), (0, 2, 4), (1, 2, 3), (1, 2, 4)]]
def sn5 : List (List (Nat × Nat × Nat)) := [[], [(0, 1, 2), (1, 2, 3), (1, 2, 4)], [(0, 1, 3), (1, 2, 3), (1, 3, 4)], [(0, 1, 4), (1, 2, 4), (1, 3, 4)], [(0, 2, 3), (1, 2, 3), (2, 3, 4)], [(0, 2, 4), (1, 2, 4), (2, 3, 4)], [(0, 3, 4), (1, 3, 4), (2, 3, 4)], [(0, 1, 2), (0, 2, 3), (0, 2, 4)], [(0, 1, 3), (0, 2, 3), (0, 3, 4)], [(0, 1, 4), (0, 2, 4), (0, 3, 4)], [(0, 1, 2), (0, 1, 3), (0, 1, 4)], [(0, 1, 2), (0, 1, 3), (1, 2, 4), (1, 3, 4)], [(0, 1, 2), (0, 1, 4), (1, 2, 3), (1, 3, 4)], [(0, 1, 3), (0, 1, 4), (1, 2, 3), (1, 2, 4)], [(0, 1, 2), (0, 2, 3), (1, 2, 4), (2, 3, 4)], [(0, 1, 2), (0, 2, 4), (1, 2, 3), (2, 3, 4)], [(0, 2, 3), (0, 2, 4), (1, 2, 3), (1, 2, 4)], [(0, 1, 3), (0, 2, 3), (1, 3, 4), (2, 3, 4)], [(0, 1, 3), (0, 3, 4), (1, 2, 3), (2, 3, 4)], [(0, 2, 3), (0, 3, 4), (1, 2, 3), (1, 3, 4)], [(0, 1, 4), (0, 2, 4), (1, 3, 4), (2, 3, 4)], [(0, 1, 4), (0, 3, 4), (1, 2, 4), (2, 3, 4)], [(0, 2, 4), (0, 3, 4), (1, 2, 4), (1, 3, 4)], [(0, 1, 2), (0, 1, 3), (0, 2, 4), (0, 3, 4)], [(0, 1, 2), (0, 1, 4), (0, 2, 3), (0, 3, 4)], [(0, 1, 3), (0, 1, 4), (0, 2, 3), (0, 2, 4)], [(0, 1, 2), (0, 1, 3), (0, 2, 3), (1, 2, 3), (1, 2, 4), (1, 3, 4), (2, 3, 4)], [(0, 1, 2), (0, 1, 4), (0, 2, 4), (1, 2, 3), (1, 2, 4), (1, 3, 4), (2, 3, 4)], [(0, 1, 3), (0, 1, 4), (0, 3, 4), (1, 2, 3), (1, 2, 4), (1, 3, 4), (2, 3, 4)], [(0, 2, 3), (0, 2, 4), (0, 3, 4), (1, 2, 3), (1, 2, 4), (1, 3, 4), (2, 3, 4)], [(0, 1, 2), (0, 1, 3), (0, 2, 3), (0, 2, 4), (0, 3, 4), (1, 2, 3), (2, 3, 4)], [(0, 1, 2), (0, 1, 4), (0, 2, 3), (0, 2, 4), (0, 3, 4), (1, 2, 4), (2, 3, 4)], [(0, 1, 3), (0, 1, 4), (0, 2, 3), (0, 2, 4), (0, 3, 4), (1, 3, 4), (2, 3, 4)], [(0, 1, 2), (0, 1, 3), (0, 1, 4), (0, 2, 3), (0, 3, 4), (1, 2, 3), (1, 3, 4)], [(0, 1, 2), (0, 1, 3), (0, 1, 4), (0, 2, 4), (0, 3, 4), (1, 2, 4), (1, 3, 4)], [(0, 1, 2), (0, 1, 3), (0, 1, 4), (0, 2, 3), (0, 2, 4), (1, 2, 3), (1, 2, 4)], [(0, 1, 4), (0, 2, 3), (1, 2, 3), (1, 2, 4), (1, 3, 4), (2, 3, 4)], [(0, 1, 3), (0, 2, 4), (1, 2, 3), (1, 2, 4), (1, 3, 4), (2, 3, 4)], [(0, 1, 2), (0, 3, 4), (1, 2, 3), (1, 2, 4), (1, 3, 4), (2, 3, 4)], [(0, 1, 4), (0, 2, 3), (0, 2, 4), (0, 3, 4), (1, 2, 3), (2, 3, 4)], [(0, 1, 3), (0, 2, 3), (0, 2, 4), (0, 3, 4), (1, 2, 4), (2, 3, 4)], [(0, 1, 2), (0, 2, 3), (0, 2, 4), (0, 3, 4), (1, 3, 4), (2, 3, 4)], [(0, 1, 3), (0, 1, 4), (0, 2, 4), (0, 3, 4), (1, 2, 3), (1, 3, 4)], [(0, 1, 3), (0, 1, 4), (0, 2, 3), (0, 3, 4), (1, 2, 4), (1, 3, 4)], [(0, 1, 2), (0, 1, 3), (0, 1, 4), (0, 3, 4), (1, 3, 4), (2, 3, 4)], [(0, 1, 2), (0, 1, 4), (0, 2, 4), (0, 3, 4), (1, 2, 3), (1, 2, 4)], [(0, 1, 2), (0, 1, 4), (0, 2, 3), (0, 2, 4), (1, 2, 4), (1, 3, 4)], [(0, 1, 2), (0, 1, 3), (0, 1, 4), (0, 2, 4), (1, 2, 4), (2, 3, 4)], [(0, 1, 2), (0, 1, 3), (0, 2, 3), (0, 3, 4), (1, 2, 3), (1, 2, 4)], [(0, 1, 2), (0, 1, 3), (0, 2, 3), (0, 2, 4), (1, 2, 3), (1, 3, 4)], [(0, 1, 2), (0, 1, 3), (0, 1, 4), (0, 2, 3), (1, 2, 3), (2, 3, 4)]]
def sn6 : List (List (Nat × Nat × Nat)) := [[], [(0, 1, 2), (1, 2, 3), (1, 2, 4)], [(0, 1, 3), (1, 2, 3), (1, 3, 4)], [(0, 1, 4), (1, 2, 4), (1, 3, 4)], [(0, 2, 3), (1, 2, 3), (2, 3, 4)], [(0, 2, 4), (1, 2, 4), (2, 3, 4)], [(0, 3, 4), (1, 3, 4), (2, 3, 4)], [(0, 1, 2), (0, 2, 3), (0, 2, 4)], [(0, 1, 3), (0, 2, 3), (0, 3, 4)], [(0, 1, 4), (0, 2, 4), (0, 3, 4)], [(0, 1, 2), (0, 1, 3), (0, 1, 4)], [(0, 1, 2), (0, 1, 3), (1, 2, 4), (1, 3, 4)], [(0, 1, 2), (0, 1, 4), (1, 2, 3), (1, 3, 4)], [(0, 1, 3), (0, 1, 4), (1, 2, 3), (1, 2, 4)], [(0, 1, 2), (0, 2, 3), (1, 2, 4), (2, 3, 4)], [(0, 1, 2), (0, 2, 4), (1, 2, 3), (2, 3, 4)], [(0, 2, 3), (0, 2, 4), (1, 2, 3), (1, 2, 4)], [(0, 1, 3), (0, 2, 3), (1, 3, 4), (2, 3, 4)], [(0, 1, 3), (0, 3, 4), (1, 2, 3), (2, 3, 4)], [(0, 2, 3), (0, 3, 4), (1, 2, 3), (1, 3, 4)], [(0, 1, 4), (0, 2, 4), (1, 3, 4), (2, 3, 4)], [(0, 1, 4), (0, 3, 4), (1, 2, 4), (2, 3, 4)], [(0, 2, 4), (0, 3, 4), (1, 2, 4), (1, 3, 4)], [(0, 1, 2), (0, 1, 3), (0, 2, 4), (0, 3, 4)], [(0, 1, 2), (0, 1, 4), (0, 2, 3), (0, 3, 4)], [(0, 1, 3), (0, 1, 4), (0, 2, 3), (0, 2, 4)], [(0, 1, 2), (0, 1, 3), (0, 2, 3), (1, 2, 3), (1, 2, 4), (1, 3, 4), (2, 3, 4)], [(0, 1, 2), (0, 1, 4), (0, 2, 4), (1, 2, 3), (1, 2, 4), (1, 3, 4), (2, 3, 4)], [(0, 1, 3), (0, 1, 4), (0, 3, 4), (1, 2, 3), (1, 2, 4), (1, 3, 4), (2, 3, 4)], [(0, 2, 3), (0, 2, 4), (0, 3, 4), (1, 2, 3), (1, 2, 4), (1, 3, 4), (2, 3, 4)], [(0, 1, 2), (0, 1, 3), (0, 2, 3), (0, 2, 4), (0, 3, 4), (1, 2, 3), (2, 3, 4)], [(0, 1, 2), (0, 1, 4), (0, 2, 3), (0, 2, 4), (0, 3, 4), (1, 2, 4), (2, 3, 4)], [(0, 1, 3), (0, 1, 4), (0, 2, 3), (0, 2, 4), (0, 3, 4), (1, 3, 4), (2, 3, 4)], [(0, 1, 2), (0, 1, 3), (0, 1, 4), (0, 2, 3), (0, 3, 4), (1, 2, 3), (1, 3, 4)], [(0, 1, 2), (0, 1, 3), (0, 1, 4), (0, 2, 4), (0, 3, 4), (1, 2, 4), (1, 3, 4)], [(0, 1, 2), (0, 1, 3), (0, 1, 4), (0, 2, 3), (0, 2, 4), (1, 2, 3), (1, 2, 4)], [(0, 1, 4), (0, 2, 3), (1, 2, 3), (1, 2, 4), (1, 3, 4), (2, 3, 4)], [(0, 1, 3), (0, 2, 4), (1, 2, 3), (1, 2, 4), (1, 3, 4), (2, 3, 4)], [(0, 1, 2), (0, 3, 4), (1, 2, 3), (1, 2, 4), (1, 3, 4), (2, 3, 4)], [(0, 1, 4), (0, 2, 3), (0, 2, 4), (0, 3, 4), (1, 2, 3), (2, 3, 4)], [(0, 1, 3), (0, 2, 3), (0, 2, 4), (0, 3, 4), (1, 2, 4), (2, 3, 4)], [(0, 1, 2), (0, 2, 3), (0, 2, 4), (0, 3, 4), (1, 3, 4), (2, 3, 4)], [(0, 1, 3), (0, 1, 4), (0, 2, 4), (0, 3, 4), (1, 2, 3), (1, 3, 4)], [(0, 1, 3), (0, 1, 4), (0, 2, 3), (0, 3, 4), (1, 2, 4), (1, 3, 4)], [(0, 1, 2), (0, 1, 3), (0, 1, 4), (0, 3, 4), (1, 3, 4), (2, 3, 4)], [(0, 1, 2), (0, 1, 4), (0, 2, 4), (0, 3, 4), (1, 2, 3), (1, 2, 4)], [(0, 1, 2), (0, 1, 4), (0, 2, 3), (0, 2, 4), (1, 2, 4), (1, 3, 4)], [(0, 1, 2), (0, 1, 3), (0, 1, 4), (0, 2, 4), (1, 2, 4), (2, 3, 4)], [(0, 1, 2), (0, 1, 3), (0, 2, 3), (0, 3, 4), (1, 2, 3), (1, 2, 4)], [(0, 1, 2), (0, 1, 3), (0, 2, 3), (0, 2, 4), (1, 2, 3), (1, 3, 4)], [(0, 1, 2), (0, 1, 3), (0, 1, 4), (0, 2, 3), (1, 2, 3), (2, 3, 4)], [(0, 1, 2), (0, 1, 4), (0, 2, 3), (1, 3, 4), (2, 3, 4)], [(0, 1, 2), (0, 1, 3), (0, 2, 4), (1, 3, 4), (2, 3, 4)], [(0, 1, 3), (0, 1, 4), (0, 2, 3), (1, 2, 4), (2, 3, 4)], [(0, 1, 2), (0, 1, 3), (0, 3, 4), (1, 2, 4), (2, 3, 4)], [(0, 1, 3), (0, 1, 4), (0, 2, 4), (1, 2, 3), (2, 3, 4)], [(0, 1, 2), (0, 1, 4), (0, 3, 4), (1, 2, 3), (2, 3, 4)], [(0, 1, 3), (0, 2, 3), (0, 2, 4), (1, 2, 4), (1, 3, 4)], [(0, 1, 2), (0, 2, 3), (0, 3, 4), (1, 2, 4), (1, 3, 4)], [(0, 1, 4), (0, 2, 3), (0, 2, 4), (1, 2, 3), (1, 3, 4)], [(0, 1, 2), (0, 2, 4), (0, 3, 4), (1, 2, 3), (1, 3, 4)], [(0, 1, 4), (0, 2, 3), (0, 3, 4), (1, 2, 3), (1, 2, 4)], [(0, 1, 3), (0, 2, 4), (0, 3, 4), (1, 2, 3), (1, 2, 4)]]
def sn7 : List (List (Nat × Nat × Nat)) := [[], [(0, 1, 2), (1, 2, 3), (1, 2, 4)], [(0, 1, 3), (1, 2, 3), (1, 3, 4)], [(0, 1, 4), (1, 2, 4), (1, 3, 4)], [(0, 2, 3), (1, 2, 3), (2, 3, 4)], [(0, 2, 4), (1, 2, 4), (2, 3, 4)], [(0, 3, 4), (1, 3, 4), (2, 3, 4)], [(0, 1, 2), (0, 2, 3), (0, 2, 4)], [(0, 1, 3), (0, 2, 3), (0, 3, 4)], [(0, 1, 4), (0, 2, 4), (0, 3, 4)], [(0, 1, 2), (0, 1, 3), (0, 1, 4)], [(0, 1, 2), (0, 1, 3), (1, 2, 4), (1, 3, 4)], [(0, 1, 2), (0, 1, 4), (1, 2, 3), (1, 3, 4)], [(0, 1, 3), (0, 1, 4), (1, 2, 3), (1, 2, 4)], [(0, 1, 2), (0, 2, 3), (1, 2, 4), (2, 3, 4)], [(0, 1, 2), (0, 2, 4), (1, 2, 3), (2, 3, 4)], [(0, 2, 3), (0, 2, 4), (1, 2, 3), (1, 2, 4)], [(0, 1, 3), (0, 2, 3), (1, 3, 4), (2, 3, 4)], [(0, 1, 3), (0, 3, 4), (1, 2, 3), (2, 3, 4)], [(0, 2, 3), (0, 3, 4), (1, 2, 3), (1, 3, 4)], [(0, 1, 4), (0, 2, 4), (1, 3, 4), (2, 3, 4)], [(0, 1, 4), (0, 3, 4), (1, 2, 4), (2, 3, 4)], [(0, 2, 4), (0, 3, 4), (1, 2, 4), (1, 3, 4)], [(0, 1, 2), (0, 1, 3), (0, 2, 4), (0, 3, 4)], [(0, 1, 2), (0, 1, 4), (0, 2, 3), (0, 3, 4)], [(0, 1, 3), (0, 1, 4), (0, 2, 3), (0, 2, 4)], [(0, 1, 2), (0, 1, 3), (0, 2, 3), (1, 2, 3), (1, 2, 4), (1, 3, 4), (2, 3, 4)], [(0, 1, 2), (0, 1, 4), (0, 2, 4), (1, 2, 3), (1, 2, 4), (1, 3, 4), (2, 3, 4)], [(0, 1, 3), (0, 1, 4), (0, 3, 4), (1, 2, 3), (1, 2, 4), (1, 3, 4), (2, 3, 4)], [(0, 2, 3), (0, 2, 4), (0, 3, 4), (1, 2, 3), (1, 2, 4), (1, 3, 4), (2, 3, 4)], [(0, 1, 2), (0, 1, 3), (0, 2, 3), (0, 2, 4), (0, 3, 4), (1, 2, 3), (2, 3, 4)], [(0, 1, 2), (0, 1, 4), (0, 2, 3), (0, 2, 4), (0, 3, 4), (1, 2, 4), (2, 3, 4)], [(0, 1, 3), (0, 1, 4), (0, 2, 3), (0, 2, 4), (0, 3, 4), (1, 3, 4), (2, 3, 4)], [(0, 1, 2), (0, 1, 3), (0, 1, 4), (0, 2, 3), (0, 3, 4), (1, 2, 3), (1, 3, 4)], [(0, 1, 2), (0, 1, 3), (0, 1, 4), (0, 2, 4), (0, 3, 4), (1, 2, 4), (1, 3, 4)], [(0, 1, 2), (0, 1, 3), (0, 1, 4), (0, 2, 3), (0, 2, 4), (1, 2, 3), (1, 2, 4)], [(0, 1, 4), (0, 2, 3), (1, 2, 3), (1, 2, 4), (1, 3, 4), (2, 3, 4)], [(0, 1, 3), (0, 2, 4), (1, 2, 3), (1, 2, 4), (1, 3, 4), (2, 3, 4)], [(0, 1, 2), (0, 3, 4), (1, 2, 3), (1, 2, 4), (1, 3, 4), (2, 3, 4)], [(0, 1, 4), (0, 2, 3), (0, 2, 4), (0, 3, 4), (1, 2, 3), (2, 3, 4)], [(0, 1, 3), (0, 2, 3), (0, 2, 4), (0, 3, 4), (1, 2, 4), (2, 3, 4)], [(0, 1, 2), (0, 2, 3), (0, 2, 4), (0, 3, 4), (1, 3, 4), (2, 3, 4)], [(0, 1, 3), (0, 1, 4), (0, 2, 4), (0, 3, 4), (1, 2, 3), (1, 3, 4)], [(0, 1, 3), (0, 1, 4), (0, 2, 3), (0, 3, 4), (1, 2, 4), (1, 3, 4)], [(0, 1, 2), (0, 1, 3), (0, 1, 4), (0, 3, 4), (1, 3, 4), (2, 3, 4)], [(0, 1, 2), (0, 1, 4), (0, 2, 4), (0, 3, 4), (1, 2, 3), (1, 2, 4)], [(0, 1, 2), (0, 1, 4), (0, 2, 3), (0, 2, 4), (1, 2, 4), (1, 3, 4)], [(0, 1, 2), (0, 1, 3), (0, 1, 4), (0, 2, 4), (1, 2, 4), (2, 3, 4)], [(0, 1, 2), (0, 1, 3), (0, 2, 3), (0, 3, 4), (1, 2, 3), (1, 2, 4)], [(0, 1, 2), (0, 1, 3), (0, 2, 3), (0, 2, 4), (1, 2, 3), (1, 3, 4)], [(0, 1, 2), (0, 1, 3), (0, 1, 4), (0, 2, 3), (1, 2, 3), (2, 3, 4)], [(0, 1, 2), (0, 1, 4), (0, 2, 3), (1, 3, 4), (2, 3, 4)], [(0, 1, 2), (0, 1, 3), (0, 2, 4), (1, 3, 4), (2, 3, 4)], [(0, 1, 3), (0, 1, 4), (0, 2, 3), (1, 2, 4), (2, 3, 4)], [(0, 1, 2), (0, 1, 3), (0, 3, 4), (1, 2, 4), (2, 3, 4)], [(0, 1, 3), (0, 1, 4), (0, 2, 4), (1, 2, 3), (2, 3, 4)], [(0, 1, 2), (0, 1, 4), (0, 3, 4), (1, 2, 3), (2, 3, 4)], [(0, 1, 3), (0, 2, 3), (0, 2, 4), (1, 2, 4), (1, 3, 4)], [(0, 1, 2), (0, 2, 3), (0, 3, 4), (1, 2, 4), (1, 3, 4)], [(0, 1, 4), (0, 2, 3), (0, 2, 4), (1, 2, 3), (1, 3, 4)], [(0, 1, 2), (0, 2, 4), (0, 3, 4), (1, 2, 3), (1, 3, 4)], [(0, 1, 4), (0, 2, 3), (0, 3, 4), (1, 2, 3), (1, 2, 4)], [(0, 1, 3), (0, 2, 4), (0, 3, 4), (1, 2, 3), (1, 2, 4)], [(0, 1, 2), (0, 1, 3), (0, 1, 4), (0, 2, 3), (0, 2, 4), (0, 3, 4), (1, 2, 3), (1, 2, 4), (1, 3, 4), (2, 3, 4)]]
section
variable {k : Nat} {st : Store}
theorem maps5 : callF T gl (k + 1) 297 [.d (.int 5)] st = .ok (.d (.list ((mapsL 5).map tN))) st := by kernel_rfl
theorem all5 : callF T gl (k + 1) 309 [.d (.int 5)] st = .ok (.d (.list (webs5 0 64))) st := by kernel_rfl
theorem seg0 : forS (G (k + 4)) (.nm 4) q1148_l0 (webs5 0 1) [.sh (.d (.int 5)), .sh (.d (.list ((mapsL 5).map tN))), .own (.d (dk5 sn0)), .sh (.d (.int 0)), .no, .no, .no, .no, .no] st = .ok (.next [.sh (.d (.int 5)), .sh (.d (.list ((mapsL 5).map tN))), .own (.d (dk5 sn1)), .sh (.d (.int 1)), .no, .no, .no, .no, .no]) st := by kernel_rfl
theorem seg1 : forS (G (k + 4)) (.nm 4) q1148_l0 (webs5 1 2) [.sh (.d (.int 5)), .sh (.d (.list ((mapsL 5).map tN))), .own (.d (dk5 sn1)), .sh (.d (.int 1)), .no, .no, .no, .no, .no] st = .ok (.next [.sh (.d (.int 5)), .sh (.d (.list ((mapsL 5).map tN))), .own (.d (dk5 sn2)), .sh (.d (.int 2)), .no, .no, .no, .no, .no]) st := by kernel_rfl
theorem seg2 : forS (G (k + 4)) (.nm 4) q1148_l0 (webs5 3 8) [.sh (.d (.int 5)), .sh (.d (.list ((mapsL 5).map tN))), .own (.d (dk5 sn2)), .sh (.d (.int 2)), .no, .no, .no, .no, .no] st = .ok (.next [.sh (.d (.int 5)), .sh (.d (.list ((mapsL 5).map tN))), .own (.d (dk5 sn3)), .sh (.d (.int 3)), .no, .no, .no, .no, .no]) st := by kernel_rfl
theorem seg3 : forS (G (k + 4)) (.nm 4) q1148_l0 (webs5 11 1) [.sh (.d (.int 5)), .sh (.d (.list ((mapsL 5).map tN))), .own (.d (dk5 sn3)), .sh (.d (.int 3)), .no, .no, .no, .no, .no] st = .ok (.next [.sh (.d (.int 5)), .sh (.d (.list ((mapsL 5).map tN))), .own (.d (dk5 sn4)), .sh (.d (.int 4)), .no, .no, .no, .no, .no]) st := by kernel_rfl
theorem seg4 : forS (G (k + 4)) (.nm 4) q1148_l0 (webs5 12 1) [.sh (.d (.int 5)), .sh (.d (.list ((mapsL 5).map tN))), .own (.d (dk5 sn4)), .sh (.d (.int 4)), .no, .no, .no, .no, .no] st = .ok (.next [.sh (.d (.int 5)), .sh (.d (.list ((mapsL 5).map tN))), .own (.d (dk5 sn5)), .sh (.d (.int 5)), .no, .no, .no, .no, .no]) st := by kernel_rfl
theorem seg5 : forS (G (k + 4)) (.nm 4) q1148_l0 (webs5 13 50) [.sh (.d (.int 5)), .sh (.d (.list ((mapsL 5).map tN))), .own (.d (dk5 sn5)), .sh (.d (.int 5)), .no, .no, .no, .no, .no] st = .ok (.next [.sh (.d (.int 5)), .sh (.d (.list ((mapsL 5).map tN))), .own (.d (dk5 sn6)), .sh (.d (.int 6)), .no, .no, .no, .no, .no]) st := by kernel_rfl
theorem seg6 : forS (G (k + 4)) (.nm 4) q1148_l0 (webs5 63 1) [.sh (.d (.int 5)), .sh (.d (.list ((mapsL 5).map tN))), .own (.d (dk5 sn6)), .sh (.d (.int 6)), .no, .no, .no, .no, .no] st = .ok (.next [.sh (.d (.int 5)), .sh (.d (.list ((mapsL 5).map tN))), .own (.d (dk5 sn7)), .sh (.d (.int 7)), .no, .no, .no, .no, .no]) st := by kernel_rfl
end
theorem forS_app {Γ : Ctx} {t : Tg} {b : S} {ys : List D} : ∀ (xs : List D) {ρ ρ' : Env} {st st' : Store}, forS Γ t b xs ρ st = .ok (.next ρ') st' → forS Γ t b (xs ++ ys) ρ st = forS Γ t b ys ρ' st'
  | [], _, _, _, _, h => by cases h; rfl
  | x :: xs, ρ, ρ', st, st', h => by
    rw [List.cons_append, forS_cons]
    rw [forS_cons] at h
    cases q : turn Γ b (setTg ρ t x) st with
    | ok o s1 =>
      rw [q] at h
      cases o with
      | next ρ1 => exact forS_app xs h
      | ret v nw => cases h
    | exc c fs s1 => rw [q] at h; cases h
    | stuck => rw [q] at h; cases h
theorem webs_cut : webs5 0 64 = webs5 0 1 ++ (webs5 1 2 ++ (webs5 3 8 ++ (webs5 11 1 ++ (webs5 12 1 ++ (webs5 13 50 ++ (webs5 63 1)))))) := by rfl
theorem bm_5 {k : Nat} {st : Store} : callF T gl (k + 5) 1148 [.d (.int 5)] st = .ok (.d (.int 7)) st := by
  have loop : forS (G (k + 4)) (.nm 4) q1148_l0 (webs5 0 64) [.sh (.d (.int 5)), .sh (.d (.list ((mapsL 5).map tN))), .own (.d (dk5 sn0)), .sh (.d (.int 0)), .no, .no, .no, .no, .no] st = .ok (.next [.sh (.d (.int 5)), .sh (.d (.list ((mapsL 5).map tN))), .own (.d (dk5 sn7)), .sh (.d (.int 7)), .no, .no, .no, .no, .no]) st := by
    rw [webs_cut, forS_app _ seg0, forS_app _ seg1, forS_app _ seg2, forS_app _ seg3, forS_app _ seg4, forS_app _ seg5, seg6]
  have e0 : dk5 sn0 = [] := rfl
  rw [e0] at loop
  generalize dk5 sn7 = E at loop
  simp -implicitDefEqProofs only [c1148, b1148, v1148, ev_op, ev_op1, ev_op2, ev_cm, ev_cm1, ev_cm2, ev_if, ev_ch, ev_ch1, ev_ch2, ev_ch3, ev_dd, ev_dd1, ev_dd2, ev_dd3, ev_var, ev_cI, ev_cS, ev_cB, ev_cN, ev_glob, ev_nil, ev_cons, ev_a1, ev_a2, ev_tup, ev_tup1, ev_lst, ev_lst1, asDs_nil, asDs_cons, ev_neg, ev_neg1, ev_not, ev_not1, ev_and, ev_and1, ev_or, ev_or1, ev_one, ev_one1, ev_ite, ev_ite1, ev_ix, ev_ix1, ev_ix2, ev_sl, ev_sl1, ev_sl2, ev_sl3, ev_pN, ev_pO, ev_p1, ev_orT, ev_orT1, ev_emp, ev_emp1, ev_rev, ev_rev1, ev_call, ev_call1, ev_blt, ev_blt1, ev_bi, ev_r1, ev_r11, ev_r2, ev_r21, ev_r22, ev_comp, ev_compL, ev_compT, ev_enm, ev_enm1t, ev_enm1, ev_zp, ev_zp1, ev_zp2t, ev_zp2, ev_tupR, ev_tupR1, ev_mth, ev_mth1, ev_mth1t, ev_mth2, ofO_some, ev_cnN, ev_cnO, ev_c1, ev_el2, ev_el1, ev_el, tg_nm, tg_2, tg_3, ev_seq, ev_seqN, ev_seqR, ev_seqX, ev_seqI, ev_skip, ev_drop, ev_dropN, ev_dropR, ev_dropX, ev_dropI, dropE_nil, dropE_cons, ev_set, ev_setO, ev_set1, ev_setO1, ev_setT, ev_setT2, ev_setT1, ev_nextO, ev_par, ev_par1, ev_par2, ev_par3, ev_par31, ev_par32, ev_par33, ev_ifS, ev_ifS1, ev_turn, ev_for, ev_forO, ev_forO1, ev_unN, ev_un2, ev_unR, ev_whl, ev_whl1, ev_whl0, ev_whl2, ev_whlR, ev_x_kWhl1, ev_x_kWhl2, ev_popA, ev_popAo, ev_popA1, ev_popA2, ev_x_kPopA1, ev_popS, ev_popSo, ev_popS1, ev_popS2, ev_x_kPopS1, ev_ext, ev_exto, ev_ext1, ev_x_kExt1, ev_setI, ev_setId, ev_setD0, ev_setD1, ev_setD2, ev_extV, ev_extV1, ev_dNew, ev_dCpy, ev_cpy1, ev_setIo, ev_setI0, ev_setI1, ev_setI2, ev_forL, ev_forT, ev_ret, ev_ret1, ev_retI, ev_retVd, ev_retV, ev_retVs, ev_retVo, ev_exp, ev_exp1, ev_app, ev_app0, ev_app1, ev_app2, ev_ins, ev_ins0, ev_ins1, ev_ins2, ev_ins3, ev_swp, ev_swpS, ev_swp0, ev_swp1, ev_swp2, ev_swp3, ev_swp4, ev_swp5, ev_rem, ev_rem0, ev_rem1, ev_rem2, ev_rem3, ev_leave, ev_leaveX, ev_leaveI, leave_N, ev_xis, ev_xis1, ev_raise, ev_raise1, ev_try, ev_tryN, ev_tryX, ev_tryI, ev_xat, ev_xat1, ev_xat2, ev_xat3, ev_xat4, ev_raiseA, ev_raise6m, ev_raise8m, ev_d0, ev_dI, ev_dget, ev_get1, ev_get2, ev_get3, ev_vals, ev_vals1, ev_dA, ev_lstR, ev_lstR1, ev_jn, ev_jn1, ev_jn2, ev_spl, ev_spl1, ev_spl2, ev_lr2, ev_lr2a, ev_lr2b, ev_sset, ev_sset1, ev_told, ev_told1, ev_x_kTold, ev_lenS, ev_lenS1, ev_x_kLenS, ev_inR, ev_inR1, ev_inR2, ev_inR3, ev_x_kInR1, ev_x_kInR2, ev_x_kXat, ev_x_kRaiseA, ev_x_kEmp, ev_x_kLstR, ev_x_kSset, ev_x_kOp2, ev_x_kOp1, ev_x_kCm2, ev_x_kCm1, ev_x_kCh2, ev_x_kCh1, ev_x_kA1, ev_x_kNeg, ev_x_kNot, ev_x_kAnd, ev_x_kOr, ev_x_kOne, ev_x_kIte, ev_x_kIx2, ev_x_kIx1, ev_x_kSl1, ev_x_kP, ev_x_kRev, ev_x_kR1, ev_x_kR22, ev_x_kR2, ev_x_kComp, ev_x_kEnm, ev_x_kZp2, ev_x_kZp1, ev_x_kTupR, ev_x_kMth2, ev_x_kMth1, ev_x_kC, ev_x_kEl2, ev_x_kEl1, ev_x_kSet, ev_x_kSetO, ev_x_kSetT, ev_x_kPar2, ev_x_kPar1, ev_x_kPar33, ev_x_kPar32, ev_x_kPar31, ev_x_kIfS, ev_x_kFor, ev_x_kUn, ev_x_kSetI1, ev_x_kSetI0, ev_x_kRet, ev_x_kExp, ev_x_kApp1, ev_x_kFor1, ev_x_kXis, ev_x_kA2, ev_x_kTup, ev_x_kLst, ev_x_kCall, ev_x_kBlt, settle_eq, demote_nil, demote_cons, dem_ow, dem_od, dem_sh, dem_no, dem_none, look_eq, look_sh, look_od, look_ow, fresh, occ, List.set_cons_zero, List.set_cons_succ, List.set_nil, List.getElem?_cons_zero, List.getElem?_cons_succ, List.getElem?_nil, Option.map_some, Option.map_none, List.cons_append, List.nil_append, List.append_nil, ite_self, if_true, if_false, Bool.not_true, Bool.not_false, Bool.true_and, Bool.false_and, Bool.and_true, Bool.and_false, Bool.false_or, Bool.true_or, Bool.or_false, Bool.or_true, Bool.and_self, Bool.false_eq_true, reduceIte, decide_true, decide_false, Bool.decide_eq_true, eq_self, fr965, fr292, fr549, fr966, fr967, fr968, fr969, fr5, fr6, fr7, fr8, fr83, fr308, fr297, fr298, fr1080, fr1081, fr309, fr1148, fr1085, fr1031, fr1149, oc_q967_e0, oc_q968_e0, oc_q969_e0, oc_q83_e0, oc_q308_e0, oc_q308_c0, oc_q297_e0, oc_q297_c0, oc_q298_e0, oc_q1081_e0, oc_q309_e0, oc_q309_c0, oc_q309_e1, oc_q1148_e1, oc_q1148_e0, oc_q1085_e0, oc_q1085_c0, eqD_w, in_i, in_0, in_iL, in_p, in_p0, in_pL, in_3L, in_tL, bi_dict3, in_d3, eq_int, eq_bool, eq_t, eq_p, eq_ps, cm_le2, cm_lt2, cm_le3, op_add, op_sub, cm_lt, cm_le, cm_gt, cm_ge, cm_eqq, cm_ne, cm_in, cm_nin, cm_is, cm_isn, cm_isb, cm_isnb, none_y, none_t, none_l, none_i, none_w, ix_w0, ix_w1, ix_20, ix_21, ix_30, ix_31, ix_32, rng_0, rng_n, rng_s, rng_1, bi_lenL, bi_lenT, bi_tupL, bi_tupT, bi_lstL, bi_lstT, bi_mn2, bi_mx2, ty_dI, ty_dB, ty_dS, ty_dT, ty_dL, ty_dN, ty_dW, bi_isT, bi_intB, ty_ii, ty_bi, ty_tt, ty_ll, ty_tw, calm_i, calm_b, calm_s, calm_L, calm_n, calm_T, calmA_nil, calmA_cons, calm_ti, calm_tp, calm_tt, calm_t3, calm_w, calm_ws, keep_L, keep_T, keep_i, keep_b, keep_n, keep_c, keep_w, isL_i, isL_s, isL_b, isL_T, isL_n, isL_w, maps5, all5, loop]

/-! the law of how many kinds there are, numbered anew -/
def alk : Nat → Nat
  | 1 => 1 | 2 => 1 | 3 => 2 | 4 => 3 | 5 => 7 | 6 => 16 | 7 => 54 | 8 => 243 | _ => 2038
section
variable {k n : Nat} {st : Store}
theorem s_alike_many (h0 : 1 ≤ n) (h : n ≤ 9) : callF T gl (k + 5) 969 [.d (.int (n : Int))] st = .ok (.d (.int (alk n : Int))) st := by
  have hc : n = 1 ∨ n = 2 ∨ n = 3 ∨ n = 4 ∨ n = 5 ∨ n = 6 ∨ n = 7 ∨ n = 8 ∨ n = 9 := by omega
  rcases hc with rfl | rfl | rfl | rfl | rfl | rfl | rfl | rfl | rfl
  · exact am_1
  · exact am_2
  · exact am_3
  · exact am_4
  · exact am_5
  · exact am_6
  · exact am_7
  · exact am_8
  · exact am_9
theorem s_by_rings (h0 : 1 ≤ n) (h : n ≤ 9) : callF T gl (k + 12) 1085 [.d (.int (n : Int))] st = .ok (.d (.int (alk n : Int))) st := by
  have hc : n = 1 ∨ n = 2 ∨ n = 3 ∨ n = 4 ∨ n = 5 ∨ n = 6 ∨ n = 7 ∨ n = 8 ∨ n = 9 := by omega
  rcases hc with rfl | rfl | rfl | rfl | rfl | rfl | rfl | rfl | rfl
  · exact br_1
  · exact br_2
  · exact br_3
  · exact br_4
  · exact br_5
  · exact br_6
  · exact br_7
  · exact br_8
  · exact br_9
theorem s_by_maps (h0 : 1 ≤ n) (h : n ≤ 5) : callF T gl (k + 5) 1148 [.d (.int (n : Int))] st = .ok (.d (.int (alk n : Int))) st := by
  have hc : n = 1 ∨ n = 2 ∨ n = 3 ∨ n = 4 ∨ n = 5 := by omega
  rcases hc with rfl | rfl | rfl | rfl | rfl
  · exact bm_1
  · exact bm_2
  · exact bm_3
  · exact bm_4
  · exact bm_5
theorem s_law_right (h0 : 1 ≤ n) (h : n ≤ 9) : callF T gl (k + 6) 1031 [.d (.int (n : Int)), .d (.int (alk n : Int))] st = .ok (.d (.bool true)) st := by
  simp -implicitDefEqProofs only [c1031, b1031, v1031, w1031, ev_op, ev_op1, ev_op2, ev_cm, ev_cm1, ev_cm2, ev_if, ev_ch, ev_ch1, ev_ch2, ev_ch3, ev_dd, ev_dd1, ev_dd2, ev_dd3, ev_var, ev_cI, ev_cS, ev_cB, ev_cN, ev_glob, ev_nil, ev_cons, ev_a1, ev_a2, ev_tup, ev_tup1, ev_lst, ev_lst1, asDs_nil, asDs_cons, ev_neg, ev_neg1, ev_not, ev_not1, ev_and, ev_and1, ev_or, ev_or1, ev_one, ev_one1, ev_ite, ev_ite1, ev_ix, ev_ix1, ev_ix2, ev_sl, ev_sl1, ev_sl2, ev_sl3, ev_pN, ev_pO, ev_p1, ev_orT, ev_orT1, ev_emp, ev_emp1, ev_rev, ev_rev1, ev_call, ev_call1, ev_blt, ev_blt1, ev_bi, ev_r1, ev_r11, ev_r2, ev_r21, ev_r22, ev_comp, ev_compL, ev_compT, ev_enm, ev_enm1t, ev_enm1, ev_zp, ev_zp1, ev_zp2t, ev_zp2, ev_tupR, ev_tupR1, ev_mth, ev_mth1, ev_mth1t, ev_mth2, ofO_some, ev_cnN, ev_cnO, ev_c1, ev_el2, ev_el1, ev_el, tg_nm, tg_2, tg_3, ev_seq, ev_seqN, ev_seqR, ev_seqX, ev_seqI, ev_skip, ev_drop, ev_dropN, ev_dropR, ev_dropX, ev_dropI, dropE_nil, dropE_cons, ev_set, ev_setO, ev_set1, ev_setO1, ev_setT, ev_setT2, ev_setT1, ev_nextO, ev_par, ev_par1, ev_par2, ev_par3, ev_par31, ev_par32, ev_par33, ev_ifS, ev_ifS1, ev_turn, ev_for, ev_forO, ev_forO1, ev_unN, ev_un2, ev_unR, ev_whl, ev_whl1, ev_whl0, ev_whl2, ev_whlR, ev_x_kWhl1, ev_x_kWhl2, ev_popA, ev_popAo, ev_popA1, ev_popA2, ev_x_kPopA1, ev_popS, ev_popSo, ev_popS1, ev_popS2, ev_x_kPopS1, ev_ext, ev_exto, ev_ext1, ev_x_kExt1, ev_setI, ev_setId, ev_setD0, ev_setD1, ev_setD2, ev_extV, ev_extV1, ev_dNew, ev_dCpy, ev_cpy1, ev_setIo, ev_setI0, ev_setI1, ev_setI2, ev_forL, ev_forT, ev_ret, ev_ret1, ev_retI, ev_retVd, ev_retV, ev_retVs, ev_retVo, ev_exp, ev_exp1, ev_app, ev_app0, ev_app1, ev_app2, ev_ins, ev_ins0, ev_ins1, ev_ins2, ev_ins3, ev_swp, ev_swpS, ev_swp0, ev_swp1, ev_swp2, ev_swp3, ev_swp4, ev_swp5, ev_rem, ev_rem0, ev_rem1, ev_rem2, ev_rem3, ev_leave, ev_leaveX, ev_leaveI, leave_N, ev_xis, ev_xis1, ev_raise, ev_raise1, ev_try, ev_tryN, ev_tryX, ev_tryI, ev_xat, ev_xat1, ev_xat2, ev_xat3, ev_xat4, ev_raiseA, ev_raise6m, ev_raise8m, ev_d0, ev_dI, ev_dget, ev_get1, ev_get2, ev_get3, ev_vals, ev_vals1, ev_dA, ev_lstR, ev_lstR1, ev_jn, ev_jn1, ev_jn2, ev_spl, ev_spl1, ev_spl2, ev_lr2, ev_lr2a, ev_lr2b, ev_sset, ev_sset1, ev_told, ev_told1, ev_x_kTold, ev_lenS, ev_lenS1, ev_x_kLenS, ev_inR, ev_inR1, ev_inR2, ev_inR3, ev_x_kInR1, ev_x_kInR2, ev_x_kXat, ev_x_kRaiseA, ev_x_kEmp, ev_x_kLstR, ev_x_kSset, ev_x_kOp2, ev_x_kOp1, ev_x_kCm2, ev_x_kCm1, ev_x_kCh2, ev_x_kCh1, ev_x_kA1, ev_x_kNeg, ev_x_kNot, ev_x_kAnd, ev_x_kOr, ev_x_kOne, ev_x_kIte, ev_x_kIx2, ev_x_kIx1, ev_x_kSl1, ev_x_kP, ev_x_kRev, ev_x_kR1, ev_x_kR22, ev_x_kR2, ev_x_kComp, ev_x_kEnm, ev_x_kZp2, ev_x_kZp1, ev_x_kTupR, ev_x_kMth2, ev_x_kMth1, ev_x_kC, ev_x_kEl2, ev_x_kEl1, ev_x_kSet, ev_x_kSetO, ev_x_kSetT, ev_x_kPar2, ev_x_kPar1, ev_x_kPar33, ev_x_kPar32, ev_x_kPar31, ev_x_kIfS, ev_x_kFor, ev_x_kUn, ev_x_kSetI1, ev_x_kSetI0, ev_x_kRet, ev_x_kExp, ev_x_kApp1, ev_x_kFor1, ev_x_kXis, ev_x_kA2, ev_x_kTup, ev_x_kLst, ev_x_kCall, ev_x_kBlt, settle_eq, demote_nil, demote_cons, dem_ow, dem_od, dem_sh, dem_no, dem_none, look_eq, look_sh, look_od, look_ow, fresh, occ, List.set_cons_zero, List.set_cons_succ, List.set_nil, List.getElem?_cons_zero, List.getElem?_cons_succ, List.getElem?_nil, Option.map_some, Option.map_none, List.cons_append, List.nil_append, List.append_nil, ite_self, if_true, if_false, Bool.not_true, Bool.not_false, Bool.true_and, Bool.false_and, Bool.and_true, Bool.and_false, Bool.false_or, Bool.true_or, Bool.or_false, Bool.or_true, Bool.and_self, Bool.false_eq_true, reduceIte, decide_true, decide_false, Bool.decide_eq_true, eq_self, fr965, fr292, fr549, fr966, fr967, fr968, fr969, fr5, fr6, fr7, fr8, fr83, fr308, fr297, fr298, fr1080, fr1081, fr309, fr1148, fr1085, fr1031, fr1149, oc_q967_e0, oc_q968_e0, oc_q969_e0, oc_q83_e0, oc_q308_e0, oc_q308_c0, oc_q297_e0, oc_q297_c0, oc_q298_e0, oc_q1081_e0, oc_q309_e0, oc_q309_c0, oc_q309_e1, oc_q1148_e1, oc_q1148_e0, oc_q1085_e0, oc_q1085_c0, eqD_w, in_i, in_0, in_iL, in_p, in_p0, in_pL, in_3L, in_tL, bi_dict3, in_d3, eq_int, eq_bool, eq_t, eq_p, eq_ps, cm_le2, cm_lt2, cm_le3, op_add, op_sub, cm_lt, cm_le, cm_gt, cm_ge, cm_eqq, cm_ne, cm_in, cm_nin, cm_is, cm_isn, cm_isb, cm_isnb, none_y, none_t, none_l, none_i, none_w, ix_w0, ix_w1, ix_20, ix_21, ix_30, ix_31, ix_32, rng_0, rng_n, rng_s, rng_1, bi_lenL, bi_lenT, bi_tupL, bi_tupT, bi_lstL, bi_lstT, bi_mn2, bi_mx2, ty_dI, ty_dB, ty_dS, ty_dT, ty_dL, ty_dN, ty_dW, bi_isT, bi_intB, ty_ii, ty_bi, ty_tt, ty_ll, ty_tw, calm_i, calm_b, calm_s, calm_L, calm_n, calm_T, calmA_nil, calmA_cons, calm_ti, calm_tp, calm_tt, calm_t3, calm_w, calm_ws, keep_L, keep_T, keep_i, keep_b, keep_n, keep_c, keep_w, isL_i, isL_s, isL_b, isL_T, isL_n, isL_w, s_alike_many h0 h, s_law_whole]
end
theorem law_turn {k m : Nat} {st : Store} {c : Int} {x : D} (hg : Good m st) : ∃ st', Good m st' ∧ turn (G (k + 12)) q1149_l0 (setTg [.sh (.d x), .no, .no, .no, .no] (.nm 2) (.int c)) st = .ok (.next [.sh (.d x), .no, .no, .no, .no]) st' := by
  obtain ⟨s1, g1, e1⟩ := s_pen (k := k + 11) c hg
  have hj : st.length < st.length + 1 := Nat.lt_succ_self _
  obtain ⟨r, s2, hr, g2, _, e2⟩ := s_draw (k := k + 11) 9 g1 hj (by omega) (by omega)
  obtain ⟨n, hn⟩ : ∃ n : Nat, n = r + 1 := ⟨_, rfl⟩
  have en : (1 : Int) + (r : Int) = (n : Int) := by omega
  obtain ⟨q, s3, hq, g3, _, e3⟩ := s_draw (k := k + 11) 8 g2 hj (by omega) (by omega)
  refine ⟨s3, g3.le (Nat.le_succ_of_le hg.1), ?_⟩
  have w1 := s_law_right (k := k + 6) (st := s2) (n := n) (by omega) (by omega)
  have b1 := s_by_rings (k := k) (st := s2) (n := n) (by omega) (by omega)
  by_cases z : (q : Int) = 0
  · have d0 : decide ((q : Int) = 0) = true := decide_eq_true z
    have b2 := s_by_maps (k := k + 7) (st := s3) (n := 5) (by omega) (by omega)
    have w2 := s_law_right (k := k + 6) (st := s3) (n := 5) (by omega) (by omega)
    have e5 : ((5 : Nat) : Int) = 4 + 1 := rfl
    have ib : biD .int [.bool true] = some (.int 1) := rfl
    rw [e5] at b2 w2
    simp -implicitDefEqProofs only [q1149_l0, ev_op, ev_op1, ev_op2, ev_cm, ev_cm1, ev_cm2, ev_if, ev_ch, ev_ch1, ev_ch2, ev_ch3, ev_dd, ev_dd1, ev_dd2, ev_dd3, ev_var, ev_cI, ev_cS, ev_cB, ev_cN, ev_glob, ev_nil, ev_cons, ev_a1, ev_a2, ev_tup, ev_tup1, ev_lst, ev_lst1, asDs_nil, asDs_cons, ev_neg, ev_neg1, ev_not, ev_not1, ev_and, ev_and1, ev_or, ev_or1, ev_one, ev_one1, ev_ite, ev_ite1, ev_ix, ev_ix1, ev_ix2, ev_sl, ev_sl1, ev_sl2, ev_sl3, ev_pN, ev_pO, ev_p1, ev_orT, ev_orT1, ev_emp, ev_emp1, ev_rev, ev_rev1, ev_call, ev_call1, ev_blt, ev_blt1, ev_bi, ev_r1, ev_r11, ev_r2, ev_r21, ev_r22, ev_comp, ev_compL, ev_compT, ev_enm, ev_enm1t, ev_enm1, ev_zp, ev_zp1, ev_zp2t, ev_zp2, ev_tupR, ev_tupR1, ev_mth, ev_mth1, ev_mth1t, ev_mth2, ofO_some, ev_cnN, ev_cnO, ev_c1, ev_el2, ev_el1, ev_el, tg_nm, tg_2, tg_3, ev_seq, ev_seqN, ev_seqR, ev_seqX, ev_seqI, ev_skip, ev_drop, ev_dropN, ev_dropR, ev_dropX, ev_dropI, dropE_nil, dropE_cons, ev_set, ev_setO, ev_set1, ev_setO1, ev_setT, ev_setT2, ev_setT1, ev_nextO, ev_par, ev_par1, ev_par2, ev_par3, ev_par31, ev_par32, ev_par33, ev_ifS, ev_ifS1, ev_turn, ev_for, ev_forO, ev_forO1, ev_unN, ev_un2, ev_unR, ev_whl, ev_whl1, ev_whl0, ev_whl2, ev_whlR, ev_x_kWhl1, ev_x_kWhl2, ev_popA, ev_popAo, ev_popA1, ev_popA2, ev_x_kPopA1, ev_popS, ev_popSo, ev_popS1, ev_popS2, ev_x_kPopS1, ev_ext, ev_exto, ev_ext1, ev_x_kExt1, ev_setI, ev_setId, ev_setD0, ev_setD1, ev_setD2, ev_extV, ev_extV1, ev_dNew, ev_dCpy, ev_cpy1, ev_setIo, ev_setI0, ev_setI1, ev_setI2, ev_forL, ev_forT, ev_ret, ev_ret1, ev_retI, ev_retVd, ev_retV, ev_retVs, ev_retVo, ev_exp, ev_exp1, ev_app, ev_app0, ev_app1, ev_app2, ev_ins, ev_ins0, ev_ins1, ev_ins2, ev_ins3, ev_swp, ev_swpS, ev_swp0, ev_swp1, ev_swp2, ev_swp3, ev_swp4, ev_swp5, ev_rem, ev_rem0, ev_rem1, ev_rem2, ev_rem3, ev_leave, ev_leaveX, ev_leaveI, leave_N, ev_xis, ev_xis1, ev_raise, ev_raise1, ev_try, ev_tryN, ev_tryX, ev_tryI, ev_xat, ev_xat1, ev_xat2, ev_xat3, ev_xat4, ev_raiseA, ev_raise6m, ev_raise8m, ev_d0, ev_dI, ev_dget, ev_get1, ev_get2, ev_get3, ev_vals, ev_vals1, ev_dA, ev_lstR, ev_lstR1, ev_jn, ev_jn1, ev_jn2, ev_spl, ev_spl1, ev_spl2, ev_lr2, ev_lr2a, ev_lr2b, ev_sset, ev_sset1, ev_told, ev_told1, ev_x_kTold, ev_lenS, ev_lenS1, ev_x_kLenS, ev_inR, ev_inR1, ev_inR2, ev_inR3, ev_x_kInR1, ev_x_kInR2, ev_x_kXat, ev_x_kRaiseA, ev_x_kEmp, ev_x_kLstR, ev_x_kSset, ev_x_kOp2, ev_x_kOp1, ev_x_kCm2, ev_x_kCm1, ev_x_kCh2, ev_x_kCh1, ev_x_kA1, ev_x_kNeg, ev_x_kNot, ev_x_kAnd, ev_x_kOr, ev_x_kOne, ev_x_kIte, ev_x_kIx2, ev_x_kIx1, ev_x_kSl1, ev_x_kP, ev_x_kRev, ev_x_kR1, ev_x_kR22, ev_x_kR2, ev_x_kComp, ev_x_kEnm, ev_x_kZp2, ev_x_kZp1, ev_x_kTupR, ev_x_kMth2, ev_x_kMth1, ev_x_kC, ev_x_kEl2, ev_x_kEl1, ev_x_kSet, ev_x_kSetO, ev_x_kSetT, ev_x_kPar2, ev_x_kPar1, ev_x_kPar33, ev_x_kPar32, ev_x_kPar31, ev_x_kIfS, ev_x_kFor, ev_x_kUn, ev_x_kSetI1, ev_x_kSetI0, ev_x_kRet, ev_x_kExp, ev_x_kApp1, ev_x_kFor1, ev_x_kXis, ev_x_kA2, ev_x_kTup, ev_x_kLst, ev_x_kCall, ev_x_kBlt, settle_eq, demote_nil, demote_cons, dem_ow, dem_od, dem_sh, dem_no, dem_none, look_eq, look_sh, look_od, look_ow, fresh, occ, List.set_cons_zero, List.set_cons_succ, List.set_nil, List.getElem?_cons_zero, List.getElem?_cons_succ, List.getElem?_nil, Option.map_some, Option.map_none, List.cons_append, List.nil_append, List.append_nil, ite_self, if_true, if_false, Bool.not_true, Bool.not_false, Bool.true_and, Bool.false_and, Bool.and_true, Bool.and_false, Bool.false_or, Bool.true_or, Bool.or_false, Bool.or_true, Bool.and_self, Bool.false_eq_true, reduceIte, decide_true, decide_false, Bool.decide_eq_true, eq_self, fr965, fr292, fr549, fr966, fr967, fr968, fr969, fr5, fr6, fr7, fr8, fr83, fr308, fr297, fr298, fr1080, fr1081, fr309, fr1148, fr1085, fr1031, fr1149, oc_q967_e0, oc_q968_e0, oc_q969_e0, oc_q83_e0, oc_q308_e0, oc_q308_c0, oc_q297_e0, oc_q297_c0, oc_q298_e0, oc_q1081_e0, oc_q309_e0, oc_q309_c0, oc_q309_e1, oc_q1148_e1, oc_q1148_e0, oc_q1085_e0, oc_q1085_c0, eqD_w, in_i, in_0, in_iL, in_p, in_p0, in_pL, in_3L, in_tL, bi_dict3, in_d3, eq_int, eq_bool, eq_t, eq_p, eq_ps, cm_le2, cm_lt2, cm_le3, op_add, op_sub, cm_lt, cm_le, cm_gt, cm_ge, cm_eqq, cm_ne, cm_in, cm_nin, cm_is, cm_isn, cm_isb, cm_isnb, none_y, none_t, none_l, none_i, none_w, ix_w0, ix_w1, ix_20, ix_21, ix_30, ix_31, ix_32, rng_0, rng_n, rng_s, rng_1, bi_lenL, bi_lenT, bi_tupL, bi_tupT, bi_lstL, bi_lstT, bi_mn2, bi_mx2, ty_dI, ty_dB, ty_dS, ty_dT, ty_dL, ty_dN, ty_dW, bi_isT, bi_intB, ty_ii, ty_bi, ty_tt, ty_ll, ty_tw, calm_i, calm_b, calm_s, calm_L, calm_n, calm_T, calmA_nil, calmA_cons, calm_ti, calm_tp, calm_tt, calm_t3, calm_w, calm_ws, keep_L, keep_T, keep_i, keep_b, keep_n, keep_c, keep_w, isL_i, isL_s, isL_b, isL_T, isL_n, isL_w, e1, e2, en, b1, w1, e3, d0, ib, b2, w2]
  · have d0 : decide ((q : Int) = 0) = false := decide_eq_false z
    have b2 := s_by_maps (k := k + 7) (st := s3) (n := 4) (by omega) (by omega)
    have w2 := s_law_right (k := k + 6) (st := s3) (n := 4) (by omega) (by omega)
    have e5 : ((4 : Nat) : Int) = 4 + 0 := rfl
    have ib : biD .int [.bool false] = some (.int 0) := rfl
    rw [e5] at b2 w2
    simp -implicitDefEqProofs only [q1149_l0, ev_op, ev_op1, ev_op2, ev_cm, ev_cm1, ev_cm2, ev_if, ev_ch, ev_ch1, ev_ch2, ev_ch3, ev_dd, ev_dd1, ev_dd2, ev_dd3, ev_var, ev_cI, ev_cS, ev_cB, ev_cN, ev_glob, ev_nil, ev_cons, ev_a1, ev_a2, ev_tup, ev_tup1, ev_lst, ev_lst1, asDs_nil, asDs_cons, ev_neg, ev_neg1, ev_not, ev_not1, ev_and, ev_and1, ev_or, ev_or1, ev_one, ev_one1, ev_ite, ev_ite1, ev_ix, ev_ix1, ev_ix2, ev_sl, ev_sl1, ev_sl2, ev_sl3, ev_pN, ev_pO, ev_p1, ev_orT, ev_orT1, ev_emp, ev_emp1, ev_rev, ev_rev1, ev_call, ev_call1, ev_blt, ev_blt1, ev_bi, ev_r1, ev_r11, ev_r2, ev_r21, ev_r22, ev_comp, ev_compL, ev_compT, ev_enm, ev_enm1t, ev_enm1, ev_zp, ev_zp1, ev_zp2t, ev_zp2, ev_tupR, ev_tupR1, ev_mth, ev_mth1, ev_mth1t, ev_mth2, ofO_some, ev_cnN, ev_cnO, ev_c1, ev_el2, ev_el1, ev_el, tg_nm, tg_2, tg_3, ev_seq, ev_seqN, ev_seqR, ev_seqX, ev_seqI, ev_skip, ev_drop, ev_dropN, ev_dropR, ev_dropX, ev_dropI, dropE_nil, dropE_cons, ev_set, ev_setO, ev_set1, ev_setO1, ev_setT, ev_setT2, ev_setT1, ev_nextO, ev_par, ev_par1, ev_par2, ev_par3, ev_par31, ev_par32, ev_par33, ev_ifS, ev_ifS1, ev_turn, ev_for, ev_forO, ev_forO1, ev_unN, ev_un2, ev_unR, ev_whl, ev_whl1, ev_whl0, ev_whl2, ev_whlR, ev_x_kWhl1, ev_x_kWhl2, ev_popA, ev_popAo, ev_popA1, ev_popA2, ev_x_kPopA1, ev_popS, ev_popSo, ev_popS1, ev_popS2, ev_x_kPopS1, ev_ext, ev_exto, ev_ext1, ev_x_kExt1, ev_setI, ev_setId, ev_setD0, ev_setD1, ev_setD2, ev_extV, ev_extV1, ev_dNew, ev_dCpy, ev_cpy1, ev_setIo, ev_setI0, ev_setI1, ev_setI2, ev_forL, ev_forT, ev_ret, ev_ret1, ev_retI, ev_retVd, ev_retV, ev_retVs, ev_retVo, ev_exp, ev_exp1, ev_app, ev_app0, ev_app1, ev_app2, ev_ins, ev_ins0, ev_ins1, ev_ins2, ev_ins3, ev_swp, ev_swpS, ev_swp0, ev_swp1, ev_swp2, ev_swp3, ev_swp4, ev_swp5, ev_rem, ev_rem0, ev_rem1, ev_rem2, ev_rem3, ev_leave, ev_leaveX, ev_leaveI, leave_N, ev_xis, ev_xis1, ev_raise, ev_raise1, ev_try, ev_tryN, ev_tryX, ev_tryI, ev_xat, ev_xat1, ev_xat2, ev_xat3, ev_xat4, ev_raiseA, ev_raise6m, ev_raise8m, ev_d0, ev_dI, ev_dget, ev_get1, ev_get2, ev_get3, ev_vals, ev_vals1, ev_dA, ev_lstR, ev_lstR1, ev_jn, ev_jn1, ev_jn2, ev_spl, ev_spl1, ev_spl2, ev_lr2, ev_lr2a, ev_lr2b, ev_sset, ev_sset1, ev_told, ev_told1, ev_x_kTold, ev_lenS, ev_lenS1, ev_x_kLenS, ev_inR, ev_inR1, ev_inR2, ev_inR3, ev_x_kInR1, ev_x_kInR2, ev_x_kXat, ev_x_kRaiseA, ev_x_kEmp, ev_x_kLstR, ev_x_kSset, ev_x_kOp2, ev_x_kOp1, ev_x_kCm2, ev_x_kCm1, ev_x_kCh2, ev_x_kCh1, ev_x_kA1, ev_x_kNeg, ev_x_kNot, ev_x_kAnd, ev_x_kOr, ev_x_kOne, ev_x_kIte, ev_x_kIx2, ev_x_kIx1, ev_x_kSl1, ev_x_kP, ev_x_kRev, ev_x_kR1, ev_x_kR22, ev_x_kR2, ev_x_kComp, ev_x_kEnm, ev_x_kZp2, ev_x_kZp1, ev_x_kTupR, ev_x_kMth2, ev_x_kMth1, ev_x_kC, ev_x_kEl2, ev_x_kEl1, ev_x_kSet, ev_x_kSetO, ev_x_kSetT, ev_x_kPar2, ev_x_kPar1, ev_x_kPar33, ev_x_kPar32, ev_x_kPar31, ev_x_kIfS, ev_x_kFor, ev_x_kUn, ev_x_kSetI1, ev_x_kSetI0, ev_x_kRet, ev_x_kExp, ev_x_kApp1, ev_x_kFor1, ev_x_kXis, ev_x_kA2, ev_x_kTup, ev_x_kLst, ev_x_kCall, ev_x_kBlt, settle_eq, demote_nil, demote_cons, dem_ow, dem_od, dem_sh, dem_no, dem_none, look_eq, look_sh, look_od, look_ow, fresh, occ, List.set_cons_zero, List.set_cons_succ, List.set_nil, List.getElem?_cons_zero, List.getElem?_cons_succ, List.getElem?_nil, Option.map_some, Option.map_none, List.cons_append, List.nil_append, List.append_nil, ite_self, if_true, if_false, Bool.not_true, Bool.not_false, Bool.true_and, Bool.false_and, Bool.and_true, Bool.and_false, Bool.false_or, Bool.true_or, Bool.or_false, Bool.or_true, Bool.and_self, Bool.false_eq_true, reduceIte, decide_true, decide_false, Bool.decide_eq_true, eq_self, fr965, fr292, fr549, fr966, fr967, fr968, fr969, fr5, fr6, fr7, fr8, fr83, fr308, fr297, fr298, fr1080, fr1081, fr309, fr1148, fr1085, fr1031, fr1149, oc_q967_e0, oc_q968_e0, oc_q969_e0, oc_q83_e0, oc_q308_e0, oc_q308_c0, oc_q297_e0, oc_q297_c0, oc_q298_e0, oc_q1081_e0, oc_q309_e0, oc_q309_c0, oc_q309_e1, oc_q1148_e1, oc_q1148_e0, oc_q1085_e0, oc_q1085_c0, eqD_w, in_i, in_0, in_iL, in_p, in_p0, in_pL, in_3L, in_tL, bi_dict3, in_d3, eq_int, eq_bool, eq_t, eq_p, eq_ps, cm_le2, cm_lt2, cm_le3, op_add, op_sub, cm_lt, cm_le, cm_gt, cm_ge, cm_eqq, cm_ne, cm_in, cm_nin, cm_is, cm_isn, cm_isb, cm_isnb, none_y, none_t, none_l, none_i, none_w, ix_w0, ix_w1, ix_20, ix_21, ix_30, ix_31, ix_32, rng_0, rng_n, rng_s, rng_1, bi_lenL, bi_lenT, bi_tupL, bi_tupT, bi_lstL, bi_lstT, bi_mn2, bi_mx2, ty_dI, ty_dB, ty_dS, ty_dT, ty_dL, ty_dN, ty_dW, bi_isT, bi_intB, ty_ii, ty_bi, ty_tt, ty_ll, ty_tw, calm_i, calm_b, calm_s, calm_L, calm_n, calm_T, calmA_nil, calmA_cons, calm_ti, calm_tp, calm_tt, calm_t3, calm_w, calm_ws, keep_L, keep_T, keep_i, keep_b, keep_n, keep_c, keep_w, isL_i, isL_s, isL_b, isL_T, isL_n, isL_w, e1, e2, en, b1, w1, e3, d0, ib, b2, w2]
theorem s_law (ns : List Int) (hl : ns.length ≤ 63) : ∃ st', callF T gl 64 1149 [.d (.list (ns.map PyData.int))] [] = .ok (.d (.bool true)) st' := by
  obtain ⟨c, hc⟩ := s_cell0 (k := 62) (st := []) ns
  have hcut : slcD (.list (ns.map PyData.int)) (some 1) (some 3) = some (.list ((row0 ns 3).map PyData.int)) := row0_cut ns 3
  obtain ⟨st', g, e⟩ := forS_keep (Γ := G 63) (ρ := [.sh (.d (.list (ns.map PyData.int))), .no, .no, .no, .no]) (L := c :: row0 ns 3) (emb := PyData.int) (t := .nm 2) (b := q1149_l0) (Good 0) (fun a _ st hg => law_turn (k := 51) hg) [] ⟨by simp, by simp⟩
  refine ⟨st', ?_⟩
  have hz := row0_cat c ns 3 hl
  have rg : rngR 1 4 [] = .ok (.d (.list ((List.range' 1 3).map iN))) [] := rng_1 (n := 4) (by omega)
  have loop1 := all_turns (Γ := G 63) (ρ := [.sh (.d (.list (ns.map PyData.int))), .no, .no, .no, .no]) (st := []) (t := .nm 1) (b := q1149_l1) (L := List.range' 1 3) (emb := iN) fun i hi => by
    have hi' := List.mem_range'_1.mp hi
    simp -implicitDefEqProofs only [q1149_l1, ev_op, ev_op1, ev_op2, ev_cm, ev_cm1, ev_cm2, ev_if, ev_ch, ev_ch1, ev_ch2, ev_ch3, ev_dd, ev_dd1, ev_dd2, ev_dd3, ev_var, ev_cI, ev_cS, ev_cB, ev_cN, ev_glob, ev_nil, ev_cons, ev_a1, ev_a2, ev_tup, ev_tup1, ev_lst, ev_lst1, asDs_nil, asDs_cons, ev_neg, ev_neg1, ev_not, ev_not1, ev_and, ev_and1, ev_or, ev_or1, ev_one, ev_one1, ev_ite, ev_ite1, ev_ix, ev_ix1, ev_ix2, ev_sl, ev_sl1, ev_sl2, ev_sl3, ev_pN, ev_pO, ev_p1, ev_orT, ev_orT1, ev_emp, ev_emp1, ev_rev, ev_rev1, ev_call, ev_call1, ev_blt, ev_blt1, ev_bi, ev_r1, ev_r11, ev_r2, ev_r21, ev_r22, ev_comp, ev_compL, ev_compT, ev_enm, ev_enm1t, ev_enm1, ev_zp, ev_zp1, ev_zp2t, ev_zp2, ev_tupR, ev_tupR1, ev_mth, ev_mth1, ev_mth1t, ev_mth2, ofO_some, ev_cnN, ev_cnO, ev_c1, ev_el2, ev_el1, ev_el, tg_nm, tg_2, tg_3, ev_seq, ev_seqN, ev_seqR, ev_seqX, ev_seqI, ev_skip, ev_drop, ev_dropN, ev_dropR, ev_dropX, ev_dropI, dropE_nil, dropE_cons, ev_set, ev_setO, ev_set1, ev_setO1, ev_setT, ev_setT2, ev_setT1, ev_nextO, ev_par, ev_par1, ev_par2, ev_par3, ev_par31, ev_par32, ev_par33, ev_ifS, ev_ifS1, ev_turn, ev_for, ev_forO, ev_forO1, ev_unN, ev_un2, ev_unR, ev_whl, ev_whl1, ev_whl0, ev_whl2, ev_whlR, ev_x_kWhl1, ev_x_kWhl2, ev_popA, ev_popAo, ev_popA1, ev_popA2, ev_x_kPopA1, ev_popS, ev_popSo, ev_popS1, ev_popS2, ev_x_kPopS1, ev_ext, ev_exto, ev_ext1, ev_x_kExt1, ev_setI, ev_setId, ev_setD0, ev_setD1, ev_setD2, ev_extV, ev_extV1, ev_dNew, ev_dCpy, ev_cpy1, ev_setIo, ev_setI0, ev_setI1, ev_setI2, ev_forL, ev_forT, ev_ret, ev_ret1, ev_retI, ev_retVd, ev_retV, ev_retVs, ev_retVo, ev_exp, ev_exp1, ev_app, ev_app0, ev_app1, ev_app2, ev_ins, ev_ins0, ev_ins1, ev_ins2, ev_ins3, ev_swp, ev_swpS, ev_swp0, ev_swp1, ev_swp2, ev_swp3, ev_swp4, ev_swp5, ev_rem, ev_rem0, ev_rem1, ev_rem2, ev_rem3, ev_leave, ev_leaveX, ev_leaveI, leave_N, ev_xis, ev_xis1, ev_raise, ev_raise1, ev_try, ev_tryN, ev_tryX, ev_tryI, ev_xat, ev_xat1, ev_xat2, ev_xat3, ev_xat4, ev_raiseA, ev_raise6m, ev_raise8m, ev_d0, ev_dI, ev_dget, ev_get1, ev_get2, ev_get3, ev_vals, ev_vals1, ev_dA, ev_lstR, ev_lstR1, ev_jn, ev_jn1, ev_jn2, ev_spl, ev_spl1, ev_spl2, ev_lr2, ev_lr2a, ev_lr2b, ev_sset, ev_sset1, ev_told, ev_told1, ev_x_kTold, ev_lenS, ev_lenS1, ev_x_kLenS, ev_inR, ev_inR1, ev_inR2, ev_inR3, ev_x_kInR1, ev_x_kInR2, ev_x_kXat, ev_x_kRaiseA, ev_x_kEmp, ev_x_kLstR, ev_x_kSset, ev_x_kOp2, ev_x_kOp1, ev_x_kCm2, ev_x_kCm1, ev_x_kCh2, ev_x_kCh1, ev_x_kA1, ev_x_kNeg, ev_x_kNot, ev_x_kAnd, ev_x_kOr, ev_x_kOne, ev_x_kIte, ev_x_kIx2, ev_x_kIx1, ev_x_kSl1, ev_x_kP, ev_x_kRev, ev_x_kR1, ev_x_kR22, ev_x_kR2, ev_x_kComp, ev_x_kEnm, ev_x_kZp2, ev_x_kZp1, ev_x_kTupR, ev_x_kMth2, ev_x_kMth1, ev_x_kC, ev_x_kEl2, ev_x_kEl1, ev_x_kSet, ev_x_kSetO, ev_x_kSetT, ev_x_kPar2, ev_x_kPar1, ev_x_kPar33, ev_x_kPar32, ev_x_kPar31, ev_x_kIfS, ev_x_kFor, ev_x_kUn, ev_x_kSetI1, ev_x_kSetI0, ev_x_kRet, ev_x_kExp, ev_x_kApp1, ev_x_kFor1, ev_x_kXis, ev_x_kA2, ev_x_kTup, ev_x_kLst, ev_x_kCall, ev_x_kBlt, settle_eq, demote_nil, demote_cons, dem_ow, dem_od, dem_sh, dem_no, dem_none, look_eq, look_sh, look_od, look_ow, fresh, occ, List.set_cons_zero, List.set_cons_succ, List.set_nil, List.getElem?_cons_zero, List.getElem?_cons_succ, List.getElem?_nil, Option.map_some, Option.map_none, List.cons_append, List.nil_append, List.append_nil, ite_self, if_true, if_false, Bool.not_true, Bool.not_false, Bool.true_and, Bool.false_and, Bool.and_true, Bool.and_false, Bool.false_or, Bool.true_or, Bool.or_false, Bool.or_true, Bool.and_self, Bool.false_eq_true, reduceIte, decide_true, decide_false, Bool.decide_eq_true, eq_self, fr965, fr292, fr549, fr966, fr967, fr968, fr969, fr5, fr6, fr7, fr8, fr83, fr308, fr297, fr298, fr1080, fr1081, fr309, fr1148, fr1085, fr1031, fr1149, oc_q967_e0, oc_q968_e0, oc_q969_e0, oc_q83_e0, oc_q308_e0, oc_q308_c0, oc_q297_e0, oc_q297_c0, oc_q298_e0, oc_q1081_e0, oc_q309_e0, oc_q309_c0, oc_q309_e1, oc_q1148_e1, oc_q1148_e0, oc_q1085_e0, oc_q1085_c0, eqD_w, in_i, in_0, in_iL, in_p, in_p0, in_pL, in_3L, in_tL, bi_dict3, in_d3, eq_int, eq_bool, eq_t, eq_p, eq_ps, cm_le2, cm_lt2, cm_le3, op_add, op_sub, cm_lt, cm_le, cm_gt, cm_ge, cm_eqq, cm_ne, cm_in, cm_nin, cm_is, cm_isn, cm_isb, cm_isnb, none_y, none_t, none_l, none_i, none_w, ix_w0, ix_w1, ix_20, ix_21, ix_30, ix_31, ix_32, rng_0, rng_n, rng_s, rng_1, bi_lenL, bi_lenT, bi_tupL, bi_tupT, bi_lstL, bi_lstT, bi_mn2, bi_mx2, ty_dI, ty_dB, ty_dS, ty_dT, ty_dL, ty_dN, ty_dW, bi_isT, bi_intB, ty_ii, ty_bi, ty_tt, ty_ll, ty_tw, calm_i, calm_b, calm_s, calm_L, calm_n, calm_T, calmA_nil, calmA_cons, calm_ti, calm_tp, calm_tt, calm_t3, calm_w, calm_ws, keep_L, keep_T, keep_i, keep_b, keep_n, keep_c, keep_w, isL_i, isL_s, isL_b, isL_T, isL_n, isL_w, s_by_maps (k := 58) (show 1 ≤ i by omega) (show i ≤ 5 by omega), s_law_right (k := 57) (show 1 ≤ i by omega) (show i ≤ 9 by omega)]
  simp -implicitDefEqProofs only [c1149, b1149, v1149, w1149, ev_op, ev_op1, ev_op2, ev_cm, ev_cm1, ev_cm2, ev_if, ev_ch, ev_ch1, ev_ch2, ev_ch3, ev_dd, ev_dd1, ev_dd2, ev_dd3, ev_var, ev_cI, ev_cS, ev_cB, ev_cN, ev_glob, ev_nil, ev_cons, ev_a1, ev_a2, ev_tup, ev_tup1, ev_lst, ev_lst1, asDs_nil, asDs_cons, ev_neg, ev_neg1, ev_not, ev_not1, ev_and, ev_and1, ev_or, ev_or1, ev_one, ev_one1, ev_ite, ev_ite1, ev_ix, ev_ix1, ev_ix2, ev_sl, ev_sl1, ev_sl2, ev_sl3, ev_pN, ev_pO, ev_p1, ev_orT, ev_orT1, ev_emp, ev_emp1, ev_rev, ev_rev1, ev_call, ev_call1, ev_blt, ev_blt1, ev_bi, ev_r1, ev_r11, ev_r2, ev_r21, ev_r22, ev_comp, ev_compL, ev_compT, ev_enm, ev_enm1t, ev_enm1, ev_zp, ev_zp1, ev_zp2t, ev_zp2, ev_tupR, ev_tupR1, ev_mth, ev_mth1, ev_mth1t, ev_mth2, ofO_some, ev_cnN, ev_cnO, ev_c1, ev_el2, ev_el1, ev_el, tg_nm, tg_2, tg_3, ev_seq, ev_seqN, ev_seqR, ev_seqX, ev_seqI, ev_skip, ev_drop, ev_dropN, ev_dropR, ev_dropX, ev_dropI, dropE_nil, dropE_cons, ev_set, ev_setO, ev_set1, ev_setO1, ev_setT, ev_setT2, ev_setT1, ev_nextO, ev_par, ev_par1, ev_par2, ev_par3, ev_par31, ev_par32, ev_par33, ev_ifS, ev_ifS1, ev_turn, ev_for, ev_forO, ev_forO1, ev_unN, ev_un2, ev_unR, ev_whl, ev_whl1, ev_whl0, ev_whl2, ev_whlR, ev_x_kWhl1, ev_x_kWhl2, ev_popA, ev_popAo, ev_popA1, ev_popA2, ev_x_kPopA1, ev_popS, ev_popSo, ev_popS1, ev_popS2, ev_x_kPopS1, ev_ext, ev_exto, ev_ext1, ev_x_kExt1, ev_setI, ev_setId, ev_setD0, ev_setD1, ev_setD2, ev_extV, ev_extV1, ev_dNew, ev_dCpy, ev_cpy1, ev_setIo, ev_setI0, ev_setI1, ev_setI2, ev_forL, ev_forT, ev_ret, ev_ret1, ev_retI, ev_retVd, ev_retV, ev_retVs, ev_retVo, ev_exp, ev_exp1, ev_app, ev_app0, ev_app1, ev_app2, ev_ins, ev_ins0, ev_ins1, ev_ins2, ev_ins3, ev_swp, ev_swpS, ev_swp0, ev_swp1, ev_swp2, ev_swp3, ev_swp4, ev_swp5, ev_rem, ev_rem0, ev_rem1, ev_rem2, ev_rem3, ev_leave, ev_leaveX, ev_leaveI, leave_N, ev_xis, ev_xis1, ev_raise, ev_raise1, ev_try, ev_tryN, ev_tryX, ev_tryI, ev_xat, ev_xat1, ev_xat2, ev_xat3, ev_xat4, ev_raiseA, ev_raise6m, ev_raise8m, ev_d0, ev_dI, ev_dget, ev_get1, ev_get2, ev_get3, ev_vals, ev_vals1, ev_dA, ev_lstR, ev_lstR1, ev_jn, ev_jn1, ev_jn2, ev_spl, ev_spl1, ev_spl2, ev_lr2, ev_lr2a, ev_lr2b, ev_sset, ev_sset1, ev_told, ev_told1, ev_x_kTold, ev_lenS, ev_lenS1, ev_x_kLenS, ev_inR, ev_inR1, ev_inR2, ev_inR3, ev_x_kInR1, ev_x_kInR2, ev_x_kXat, ev_x_kRaiseA, ev_x_kEmp, ev_x_kLstR, ev_x_kSset, ev_x_kOp2, ev_x_kOp1, ev_x_kCm2, ev_x_kCm1, ev_x_kCh2, ev_x_kCh1, ev_x_kA1, ev_x_kNeg, ev_x_kNot, ev_x_kAnd, ev_x_kOr, ev_x_kOne, ev_x_kIte, ev_x_kIx2, ev_x_kIx1, ev_x_kSl1, ev_x_kP, ev_x_kRev, ev_x_kR1, ev_x_kR22, ev_x_kR2, ev_x_kComp, ev_x_kEnm, ev_x_kZp2, ev_x_kZp1, ev_x_kTupR, ev_x_kMth2, ev_x_kMth1, ev_x_kC, ev_x_kEl2, ev_x_kEl1, ev_x_kSet, ev_x_kSetO, ev_x_kSetT, ev_x_kPar2, ev_x_kPar1, ev_x_kPar33, ev_x_kPar32, ev_x_kPar31, ev_x_kIfS, ev_x_kFor, ev_x_kUn, ev_x_kSetI1, ev_x_kSetI0, ev_x_kRet, ev_x_kExp, ev_x_kApp1, ev_x_kFor1, ev_x_kXis, ev_x_kA2, ev_x_kTup, ev_x_kLst, ev_x_kCall, ev_x_kBlt, settle_eq, demote_nil, demote_cons, dem_ow, dem_od, dem_sh, dem_no, dem_none, look_eq, look_sh, look_od, look_ow, fresh, occ, List.set_cons_zero, List.set_cons_succ, List.set_nil, List.getElem?_cons_zero, List.getElem?_cons_succ, List.getElem?_nil, Option.map_some, Option.map_none, List.cons_append, List.nil_append, List.append_nil, ite_self, if_true, if_false, Bool.not_true, Bool.not_false, Bool.true_and, Bool.false_and, Bool.and_true, Bool.and_false, Bool.false_or, Bool.true_or, Bool.or_false, Bool.or_true, Bool.and_self, Bool.false_eq_true, reduceIte, decide_true, decide_false, Bool.decide_eq_true, eq_self, fr965, fr292, fr549, fr966, fr967, fr968, fr969, fr5, fr6, fr7, fr8, fr83, fr308, fr297, fr298, fr1080, fr1081, fr309, fr1148, fr1085, fr1031, fr1149, oc_q967_e0, oc_q968_e0, oc_q969_e0, oc_q83_e0, oc_q308_e0, oc_q308_c0, oc_q297_e0, oc_q297_c0, oc_q298_e0, oc_q1081_e0, oc_q309_e0, oc_q309_c0, oc_q309_e1, oc_q1148_e1, oc_q1148_e0, oc_q1085_e0, oc_q1085_c0, eqD_w, in_i, in_0, in_iL, in_p, in_p0, in_pL, in_3L, in_tL, bi_dict3, in_d3, eq_int, eq_bool, eq_t, eq_p, eq_ps, cm_le2, cm_lt2, cm_le3, op_add, op_sub, cm_lt, cm_le, cm_gt, cm_ge, cm_eqq, cm_ne, cm_in, cm_nin, cm_is, cm_isn, cm_isb, cm_isnb, none_y, none_t, none_l, none_i, none_w, ix_w0, ix_w1, ix_20, ix_21, ix_30, ix_31, ix_32, rng_0, rng_n, rng_s, rng_1, bi_lenL, bi_lenT, bi_tupL, bi_tupT, bi_lstL, bi_lstT, bi_mn2, bi_mx2, ty_dI, ty_dB, ty_dS, ty_dT, ty_dL, ty_dN, ty_dW, bi_isT, bi_intB, ty_ii, ty_bi, ty_tt, ty_ll, ty_tw, calm_i, calm_b, calm_s, calm_L, calm_n, calm_T, calmA_nil, calmA_cons, calm_ti, calm_tp, calm_tt, calm_t3, calm_w, calm_ws, keep_L, keep_T, keep_i, keep_b, keep_n, keep_c, keep_w, isL_i, isL_s, isL_b, isL_T, isL_n, isL_w, rg, loop1, hc, hcut, hz, e]
theorem law_true : ∀ ns : List Int, ns.length ≤ 63 → (∀ z ∈ ns, Builtin.Int.intBits z ≤ 1048576) → ∃ st, callF T gl 64 1149 [.d (.list (ns.map PyData.int))] [] = .ok (.d (.bool true)) st := fun ns hn _ => s_law ns hn


end Sw.Lw
open PySem PySem.W PyProof.Rows
set_option maxRecDepth 100000 in
set_option maxHeartbeats 0 in
theorem PySem.Challenge.cw_switchwebs_k54_kinds_numbered_anew_holds : PySem.Challenge.rw_switchwebs_k54_kinds_numbered_anew.Holds := by
  w_on; o_law; k_head; (case hw => w_witness2)
  k_fill
  refine Sw.walk (l := PySem.Challenge.rw_switchwebs_k54_kinds_numbered_anew) (n := 63) (k := 64) (i0 := 1149) (nm := Sw.Lw.nm) (T := Sw.Lw.T) (pn := Sw.Lw.pn) (gl := Sw.Lw.gl) (x := "_law_script") rfl (by decide) rfl ⟨rfl, by decide, by decide⟩ (fun w h Y => PySem.W.kIn_of Y) (by decide +kernel) (by decide +kernel) ?F Sw.Lw.law_true
  case F =>
    intro w mg fa h KX G hmg
    refine' ⟨fun _ => 0, rfl, Sw.bl_of ?swZ0 ?swZ1 ?swZ2 ?swZ3 ?swZ4 ?swZ5 ?swZ6 ?swZ7 ?swZ8 ?swZ9 ?swZ10 ?swZ11 ?swZ12 ?swZ13 ?swZ14 ?swZ15 ?swZ16 ?swZ17 ?swZ18 ?swZ19 ?swZ20, Sw.eachP_of (L := Sw.Lw.fnN) (.cons ?swD965 (.cons ?swD292 (.cons ?swD549 (.cons ?swD966 (.cons ?swD967 (.cons ?swD968 (.cons ?swD969 (.cons ?swD5 (.cons ?swD6 (.cons ?swD7 (.cons ?swD8 (.cons ?swD83 (.cons ?swD308 (.cons ?swD297 (.cons ?swD298 (.cons ?swD1080 (.cons ?swD1081 (.cons ?swD309 (.cons ?swD1148 (.cons ?swD1085 (.cons ?swD1031 (.cons ?swD1149 .nil)))))))))))))))))))))), Sw.eachP_of (L := Sw.Lw.glN) .nil, Sw.eachP_of (L := Sw.Lw.hotN) .nil, fun _ _ z => (nomatch z), Sw.eachN_of (L := Sw.Lw.rzN) .nil⟩
    case swZ0 =>
      refine' PySem.W.mg_none_of KX G ?_
      k_is
    case swZ1 =>
      refine' PySem.W.mg_none_of KX G ?_
      k_is
    case swZ2 =>
      refine' PySem.W.mg_none_of KX G ?_
      k_is
    case swZ3 =>
      refine' PySem.W.mg_none_of KX G ?_
      k_is
    case swZ4 =>
      refine' PySem.W.mg_none_of KX G ?_
      k_is
    case swZ5 =>
      refine' PySem.W.mg_none_of KX G ?_
      k_is
    case swZ6 =>
      refine' PySem.W.mg_none_of KX G ?_
      k_is
    case swZ7 =>
      refine' PySem.W.mg_none_of KX G ?_
      k_is
    case swZ8 =>
      refine' PySem.W.mg_none_of KX G ?_
      k_is
    case swZ9 =>
      refine' PySem.W.mg_none_of KX G ?_
      k_is
    case swZ10 =>
      refine' PySem.W.mg_none_of KX G ?_
      k_is
    case swZ11 =>
      refine' PySem.W.mg_none_of KX G ?_
      k_is
    case swZ12 =>
      refine' PySem.W.mg_none_of KX G ?_
      k_is
    case swZ13 =>
      refine' PySem.W.mg_none_of KX G ?_
      k_is
    case swZ14 =>
      refine' PySem.W.mg_none_of KX G ?_
      k_is
    case swZ15 =>
      refine' PySem.W.mg_none_of KX G ?_
      k_is
    case swZ16 =>
      refine' PySem.W.mg_none_of KX G ?_
      k_is
    case swZ17 =>
      refine' PySem.W.mg_none_of KX G ?_
      k_is
    case swZ18 =>
      refine' PySem.W.mg_none_of KX G ?_
      k_is
    case swZ19 =>
      refine' PySem.W.mg_none_of KX G ?_
      k_is
    case swZ20 =>
      refine' PySem.W.mg_none_of KX G ?_
      k_is
    case swD965 =>
      refine' Sw.DefOk.mk (x := "ring_rows") (fd := Sw.Lw.F965) (N := Sw.Lw.n965) (ps := Sw.Lw.p965) KX G rfl rfl ?swA965 ?swL965 ?swC965 ?swK965 ?swB965 ?swH965
      (case swA965 => k_is); (case swL965 => k_is); (case swC965 => k_is); (case swK965 => k_is)
      · exact Sw.bind_1 rfl fun _ => rfl
      · decide +kernel
    case swD292 =>
      refine' Sw.DefOk.mk (x := "all_orders") (fd := Sw.Lw.F292) (N := Sw.Lw.n292) (ps := Sw.Lw.p292) KX G rfl rfl ?swA292 ?swL292 ?swC292 ?swK292 ?swB292 ?swH292
      (case swA292 => k_is); (case swL292 => k_is); (case swC292 => k_is); (case swK292 => k_is)
      · exact Sw.bind_1 rfl fun _ => rfl
      · decide +kernel
    case swD549 =>
      refine' Sw.DefOk.mk (x := "maps_with") (fd := Sw.Lw.F549) (N := Sw.Lw.n549) (ps := Sw.Lw.p549) KX G rfl rfl ?swA549 ?swL549 ?swC549 ?swK549 ?swB549 ?swH549
      (case swA549 => k_is); (case swL549 => k_is); (case swC549 => k_is); (case swK549 => k_is)
      · exact Sw.bind_1 rfl fun _ => rfl
      · decide +kernel
    case swD966 =>
      refine' Sw.DefOk.mk (x := "greatest_part") (fd := Sw.Lw.F966) (N := Sw.Lw.n966) (ps := Sw.Lw.p966) KX G rfl rfl ?swA966 ?swL966 ?swC966 ?swK966 ?swB966 ?swH966
      (case swA966 => k_is); (case swL966 => k_is); (case swC966 => k_is); (case swK966 => k_is)
      · exact Sw.bind_2 rfl fun _ _ => rfl
      · decide +kernel
    case swD967 =>
      refine' Sw.DefOk.mk (x := "pair_rings") (fd := Sw.Lw.F967) (N := Sw.Lw.n967) (ps := Sw.Lw.p967) KX G rfl rfl ?swA967 ?swL967 ?swC967 ?swK967 ?swB967 ?swH967
      (case swA967 => k_is); (case swL967 => k_is); (case swC967 => k_is); (case swK967 => k_is)
      · exact Sw.bind_1 rfl fun _ => rfl
      · decide +kernel
    case swD968 =>
      refine' Sw.DefOk.mk (x := "kept_power") (fd := Sw.Lw.F968) (N := Sw.Lw.n968) (ps := Sw.Lw.p968) KX G rfl rfl ?swA968 ?swL968 ?swC968 ?swK968 ?swB968 ?swH968
      (case swA968 => k_is); (case swL968 => k_is); (case swC968 => k_is); (case swK968 => k_is)
      · exact Sw.bind_1 rfl fun _ => rfl
      · decide +kernel
    case swD969 =>
      refine' Sw.DefOk.mk (x := "alike_many") (fd := Sw.Lw.F969) (N := Sw.Lw.n969) (ps := Sw.Lw.p969) KX G rfl rfl ?swA969 ?swL969 ?swC969 ?swK969 ?swB969 ?swH969
      (case swA969 => k_is); (case swL969 => k_is); (case swC969 => k_is); (case swK969 => k_is)
      · exact Sw.bind_1 rfl fun _ => rfl
      · decide +kernel
    case swD5 =>
      refine' Sw.DefOk.mk (x := "_law_cell") (fd := Sw.Lw.F5) (N := Sw.Lw.n5) (ps := Sw.Lw.p5) KX G rfl rfl ?swA5 ?swL5 ?swC5 ?swK5 ?swB5 ?swH5
      (case swA5 => k_is); (case swL5 => k_is); (case swC5 => k_is); (case swK5 => k_is)
      · exact Sw.bind_2 rfl fun _ _ => rfl
      · decide +kernel
    case swD6 =>
      refine' Sw.DefOk.mk (x := "_law_pen") (fd := Sw.Lw.F6) (N := Sw.Lw.n6) (ps := Sw.Lw.p6) KX G rfl rfl ?swA6 ?swL6 ?swC6 ?swK6 ?swB6 ?swH6
      (case swA6 => k_is); (case swL6 => k_is); (case swC6 => k_is); (case swK6 => k_is)
      · exact Sw.bind_1 rfl fun _ => rfl
      · decide +kernel
    case swD7 =>
      refine' Sw.DefOk.mk (x := "_law_draw") (fd := Sw.Lw.F7) (N := Sw.Lw.n7) (ps := Sw.Lw.p7) KX G rfl rfl ?swA7 ?swL7 ?swC7 ?swK7 ?swB7 ?swH7
      (case swA7 => k_is); (case swL7 => k_is); (case swC7 => k_is); (case swK7 => k_is)
      · exact Sw.bind_2 rfl fun _ _ => rfl
      · decide +kernel
    case swD8 =>
      refine' Sw.DefOk.mk (x := "_law_whole") (fd := Sw.Lw.F8) (N := Sw.Lw.n8) (ps := Sw.Lw.p8) KX G rfl rfl ?swA8 ?swL8 ?swC8 ?swK8 ?swB8 ?swH8
      (case swA8 => k_is); (case swL8 => k_is); (case swC8 => k_is); (case swK8 => k_is)
      · exact Sw.bind_1 rfl fun _ => rfl
      · decide +kernel
    case swD83 =>
      refine' Sw.DefOk.mk (x := "_law_threes") (fd := Sw.Lw.F83) (N := Sw.Lw.n83) (ps := Sw.Lw.p83) KX G rfl rfl ?swA83 ?swL83 ?swC83 ?swK83 ?swB83 ?swH83
      (case swA83 => k_is); (case swL83 => k_is); (case swC83 => k_is); (case swK83 => k_is)
      · exact Sw.bind_1 rfl fun _ => rfl
      · decide +kernel
    case swD308 =>
      refine' Sw.DefOk.mk (x := "_law_odd_threes") (fd := Sw.Lw.F308) (N := Sw.Lw.n308) (ps := Sw.Lw.p308) KX G rfl rfl ?swA308 ?swL308 ?swC308 ?swK308 ?swB308 ?swH308
      (case swA308 => k_is); (case swL308 => k_is); (case swC308 => k_is); (case swK308 => k_is)
      · exact Sw.bind_1 rfl fun _ => rfl
      · decide +kernel
    case swD297 =>
      refine' Sw.DefOk.mk (x := "_law_maps") (fd := Sw.Lw.F297) (N := Sw.Lw.n297) (ps := Sw.Lw.p297) KX G rfl rfl ?swA297 ?swL297 ?swC297 ?swK297 ?swB297 ?swH297
      (case swA297 => k_is); (case swL297 => k_is); (case swC297 => k_is); (case swK297 => k_is)
      · exact Sw.bind_1 rfl fun _ => rfl
      · decide +kernel
    case swD298 =>
      refine' Sw.DefOk.mk (x := "_law_rows") (fd := Sw.Lw.F298) (N := Sw.Lw.n298) (ps := Sw.Lw.p298) KX G rfl rfl ?swA298 ?swL298 ?swC298 ?swK298 ?swB298 ?swH298
      (case swA298 => k_is); (case swL298 => k_is); (case swC298 => k_is); (case swK298 => k_is)
      · exact Sw.bind_2 rfl fun _ _ => rfl
      · decide +kernel
    case swD1080 =>
      refine' Sw.DefOk.mk (x := "_law_plain_map") (fd := Sw.Lw.F1080) (N := Sw.Lw.n1080) (ps := Sw.Lw.p1080) KX G rfl rfl ?swA1080 ?swL1080 ?swC1080 ?swK1080 ?swB1080 ?swH1080
      (case swA1080 => k_is); (case swL1080 => k_is); (case swC1080 => k_is); (case swK1080 => k_is)
      · exact Sw.bind_1 rfl fun _ => rfl
      · decide +kernel
    case swD1081 =>
      refine' Sw.DefOk.mk (x := "_law_pair_lengths") (fd := Sw.Lw.F1081) (N := Sw.Lw.n1081) (ps := Sw.Lw.p1081) KX G rfl rfl ?swA1081 ?swL1081 ?swC1081 ?swK1081 ?swB1081 ?swH1081
      (case swA1081 => k_is); (case swL1081 => k_is); (case swC1081 => k_is); (case swK1081 => k_is)
      · exact Sw.bind_1 rfl fun _ => rfl
      · decide +kernel
    case swD309 =>
      refine' Sw.DefOk.mk (x := "_law_all") (fd := Sw.Lw.F309) (N := Sw.Lw.n309) (ps := Sw.Lw.p309) KX G rfl rfl ?swA309 ?swL309 ?swC309 ?swK309 ?swB309 ?swH309
      (case swA309 => k_is); (case swL309 => k_is); (case swC309 => k_is); (case swK309 => k_is)
      · exact Sw.bind_1 rfl fun _ => rfl
      · decide +kernel
    case swD1148 =>
      refine' Sw.DefOk.mk (x := "_law_by_maps") (fd := Sw.Lw.F1148) (N := Sw.Lw.n1148) (ps := Sw.Lw.p1148) KX G rfl rfl ?swA1148 ?swL1148 ?swC1148 ?swK1148 ?swB1148 ?swH1148
      (case swA1148 => k_is); (case swL1148 => k_is); (case swC1148 => k_is); (case swK1148 => k_is)
      · exact Sw.bind_1 rfl fun _ => rfl
      · decide +kernel
    case swD1085 =>
      refine' Sw.DefOk.mk (x := "_law_by_rings") (fd := Sw.Lw.F1085) (N := Sw.Lw.n1085) (ps := Sw.Lw.p1085) KX G rfl rfl ?swA1085 ?swL1085 ?swC1085 ?swK1085 ?swB1085 ?swH1085
      (case swA1085 => k_is); (case swL1085 => k_is); (case swC1085 => k_is); (case swK1085 => k_is)
      · exact Sw.bind_1 rfl fun _ => rfl
      · decide +kernel
    case swD1031 =>
      refine' Sw.DefOk.mk (x := "_law_right") (fd := Sw.Lw.F1031) (N := Sw.Lw.n1031) (ps := Sw.Lw.p1031) KX G rfl rfl ?swA1031 ?swL1031 ?swC1031 ?swK1031 ?swB1031 ?swH1031
      (case swA1031 => k_is); (case swL1031 => k_is); (case swC1031 => k_is); (case swK1031 => k_is)
      · exact Sw.bind_2 rfl fun _ _ => rfl
      · decide +kernel
    case swD1149 =>
      refine' Sw.DefOk.mk (x := "law") (fd := Sw.Lw.F1149) (N := Sw.Lw.n1149) (ps := Sw.Lw.p1149) KX G rfl rfl ?swA1149 ?swL1149 ?swC1149 ?swK1149 ?swB1149 ?swH1149
      (case swA1149 => k_is); (case swL1149 => k_is); (case swC1149 => k_is); (case swK1149 => k_is)
      · exact Sw.bind_1 rfl fun _ => rfl
      · decide +kernel
