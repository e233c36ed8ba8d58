import PyProof.Rows.All
import KE.DataEq
import KE.DataIsa
import PyProof.ReprReads
import Wide.All
import OpenK.AllK
import Wide.FinOn
import PyProof.EqAt
import PyProof.EqKinds
import PyProof.TupleCall
import KE.DataAny
import HandS.ForMost
import HandS.ForExc
import HandS.TupAny
import HandS.TupMul
import HandS.Wide
import HandS.Flow
import HandS.Zip
import HandS.Style
import HandS.IsInst
import HandS.Defaults
import HandS.WordsExc
import PyProof.ListMulRoad
import PyProof.FactsAll.tuple_2
import HandS.Ends
import PyProof.CallFns
import HandS.Iter
import KE.KStateDown
import HandS.More
import HandS.Head0
import HandS.Head1
import HandS.Head2
import HandS.HeadEnd
import HandS.HeadHook1
import HandS.HeadHook2
import PyProof.ReprLen
import PyProof.FitsInt
import Lean
import PySem.Challenge.RW_makesmore_k21_whole_numbers
set_option autoImplicit false
set_option Elab.async false
set_option linter.all false
set_option maxRecDepth 100000
set_option maxHeartbeats 0
/-! Mk1: values, store, the evaluator's combinators. -/
namespace Mk
open PySem (PyData Str)
abbrev D := PyData

/-- a value: data; the script (a list that is only read); the i-th object of the store; a def; a tuple that holds no mere data -/
inductive Vl where
  | d (x : D)
  | sc (xs : List D)
  | r (i : Nat)
  | fn (f : Nat)
  | tv (xs : List Vl)
/-- an object that may change -/
inductive Ob where
  | lst (xs : List D)
abbrev Store := List Ob
abbrev Env := List (Option Vl)
inductive R (α : Type) where
  | ok (a : α) (S : Store)
  | er (c : Nat) (x : D) (S : Store)
  | stuck
inductive RS where
  | nx (γ : Env) (S : Store)
  | rt (v : Vl) (S : Store)
  | bk (γ : Env) (S : Store)
  | ct (γ : Env) (S : Store)
  | er (c : Nat) (x : D) (γ : Env) (S : Store)
  | stuck
structure Cl where
  call : Nat → List Vl → Store → R Vl
abbrev TEx := Cl → Env → Store → R Vl
abbrev TTs := Cl → Env → Store → R Bool
abbrev TSt := Cl → Env → Store → RS
abbrev TAr := Cl → Env → Store → R (List Vl)

def R.bind {α β : Type} (m : R α) (f : α → Store → R β) : R β := match m with
  | .ok a S => f a S
  | .er c x S => .er c x S
  | .stuck => .stuck
/-- an expression's outcome goes on as a statement -/
def R.next {α : Type} (m : R α) (γ : Env) (f : α → Store → RS) : RS := match m with
  | .ok a S => f a S
  | .er c x S => .er c x γ S
  | .stuck => .stuck

/-! ### data -/
def I (i : Int) : Vl := .d (.int i)
def B (b : Bool) : Vl := .d (.bool b)
def LINE : Nat := 16777216
/-- all are data -/
def allD : List Vl → Option (List D)
  | [] => some []
  | .d x :: r => match allD r with
    | some xs => some (x :: xs)
    | none => none
  | _ :: _ => none
/-- a tuple of values -/
def mkTup (xs : List Vl) : Vl := match allD xs with
  | some ds => .d (.tuple ds)
  | none => .tv xs
/-- a new list: data, or an object of the store (m) -/
def mkLst (m : Bool) (xs : List D) (S : Store) : R Vl := match m with
  | true => .ok (.r S.length) (S ++ [.lst xs])
  | false => .ok (.d (.list xs)) S
/-- what is held now: data as it stands -/
def dat (S : Store) : Vl → Option D
  | .d x => some x
  | .r i => match S[i]? with
    | some (.lst xs) => some (.list xs)
    | none => none
  | _ => none
def okD (x : D) : Bool := x.plain && decide (x.depth ≤ 60)

/-! ### operators -/
inductive BO where | add | sub | mul | fdiv | mod | pow
inductive CO where | eq | ne | lt | le | gt | ge | isN | isNotN | inn | notIn
def mulOk (i j : Int) : Bool := decide (i.natAbs < 18446744073709551616) || decide (j.natAbs < 18446744073709551616) || decide (i.natAbs.log2 + j.natAbs.log2 < 1000000)
def divOk (j : Int) : Bool := decide (0 < j) && decide (j.natAbs.log2 < 9000)
def powOk (i j : Int) : Bool := decide (0 ≤ j) && decide (j ≤ 1000) && decide (i.natAbs.log2 ≤ 1000)
def bin (o : BO) (m : Bool) (x y : Vl) (S : Store) : R Vl := match o with
  | .add => match dat S x, dat S y with
    | some (.int i), some (.int j) => .ok (I (i + j)) S
    | some (.str a), some (.str b) => if a.length + b.length ≤ LINE then .ok (.d (.str (a ++ b))) S else .stuck
    | some (.tuple xs), some (.tuple ys) => if xs.length + ys.length ≤ LINE then .ok (.d (.tuple (xs ++ ys))) S else .stuck
    | some (.list xs), some (.list ys) => if xs.length + ys.length ≤ LINE then mkLst m (xs ++ ys) S else .stuck
    | _, _ => .stuck
  | .sub => match x, y with
    | .d (.int i), .d (.int j) => .ok (I (i - j)) S
    | _, _ => .stuck
  | .mul => match dat S x, y with
    | some (.int i), .d (.int j) => if mulOk i j then .ok (I (i * j)) S else .stuck
    | some (.tuple xs), .d (.int j) => if 0 ≤ j ∧ j ≤ 1000 ∧ xs.length ≤ 1000 then .ok (.d (.tuple (List.replicate j.toNat xs).flatten)) S else .stuck
    | some (.list xs), .d (.int j) => if 0 ≤ j ∧ xs.length * j.toNat ≤ LINE ∧ j ≤ LINE then mkLst m (List.replicate j.toNat xs).flatten S else .stuck
    | _, _ => .stuck
  | .fdiv => match x, y with
    | .d (.int i), .d (.int j) => if divOk j then .ok (I (i / j)) S else .stuck
    | _, _ => .stuck
  | .mod => match x, y with
    | .d (.int i), .d (.int j) => if 0 < j then .ok (I (i % j)) S else .stuck
    | _, _ => .stuck
  | .pow => match x, y with
    | .d (.int i), .d (.int j) => if powOk i j then .ok (I (i ^ j.toNat)) S else .stuck
    | _, _ => .stuck
def cmp (o : CO) (x y : Vl) (S : Store) : Option Bool := match o with
  | .isN => match y with
    | .d .none => match x with
      | .d .none => some true
      | _ => some false
    | _ => none
  | .isNotN => match y with
    | .d .none => match x with
      | .d .none => some false
      | _ => some true
    | _ => none
  | .eq => match dat S x, dat S y with
    | some a, some b => if okD a && okD b then some (PyData.eqv a b) else none
    | _, _ => none
  | .ne => match dat S x, dat S y with
    | some a, some b => if okD a && okD b then some (!PyData.eqv a b) else none
    | _, _ => none
  | .lt => match x, y with
    | .d (.int i), .d (.int j) => some (decide (i < j))
    | _, _ => none
  | .le => match x, y with
    | .d (.int i), .d (.int j) => some (decide (i ≤ j))
    | _, _ => none
  | .gt => match x, y with
    | .d (.int i), .d (.int j) => some (decide (j < i))
    | _, _ => none
  | .ge => match x, y with
    | .d (.int i), .d (.int j) => some (decide (j ≤ i))
    | _, _ => none
  | .inn => match dat S x, dat S y with
    | some a, some (.list ys) => if okD a && okD (.list ys) then some (ys.any fun y => PyData.eqv y a) else none
    | some a, some (.tuple ys) => if okD a && okD (.tuple ys) then some (ys.any fun y => PyData.eqv y a) else none
    | _, _ => none
  | .notIn => match dat S x, dat S y with
    | some a, some (.list ys) => if okD a && okD (.list ys) then some (!ys.any fun y => PyData.eqv y a) else none
    | some a, some (.tuple ys) => if okD a && okD (.tuple ys) then some (!ys.any fun y => PyData.eqv y a) else none
    | _, _ => none
/-- a value's truth -/
def tru (S : Store) (x : Vl) : Option Bool := match dat S x with
  | some (.bool b) => some b
  | some .none => some false
  | some (.int i) => some (i != 0)
  | some (.list xs) => some (!xs.isEmpty)
  | some (.tuple xs) => some (!xs.isEmpty)
  | _ => none
/-- a place that may count from behind -/
def at? {α : Type} (xs : List α) (i : Int) : Option α :=
  if 0 ≤ i then xs[i.toNat]? else if -(xs.length : Int) ≤ i then xs[(i + xs.length).toNat]? else none
def ixS (x y : Vl) (S : Store) : R Vl := match x, y with
  | .sc xs, .d (.int i) => match at? xs i with
    | some v => .ok (.d v) S
    | none => .stuck
  | _, _ => .stuck
def ix (x y : Vl) (S : Store) : R Vl := match dat S x, y with
  | some (.list xs), .d (.int i) => match at? xs i with
    | some v => .ok (.d v) S
    | none => .stuck
  | some (.tuple xs), .d (.int i) => match at? xs i with
    | some v => .ok (.d v) S
    | none => .stuck
  | _, _ => ixS x y S
/-- a bound of a slice -/
def sIx (n dflt : Nat) : Option Int → Nat
  | none => dflt
  | some v => if v < 0 then (max (v + n) 0).toNat else (min v n).toNat
def cut {α : Type} (xs : List α) (lo hi : Option Int) : List α := (xs.drop (sIx xs.length 0 lo)).take (sIx xs.length xs.length hi - sIx xs.length 0 lo)
def sl (m : Bool) (x : Vl) (lo hi : Option Int) (S : Store) : R Vl := match dat S x with
  | some (.list xs) => mkLst m (cut xs lo hi) S
  | some (.tuple xs) => .ok (.d (.tuple (cut xs lo hi))) S
  | _ => .stuck

/-! ### built-ins -/
inductive Ty where | int | bool | str | tuple | list | dict | none
def isA : Ty → D → Bool
  | .int, x => x.isInt
  | .bool, x => x.isBool
  | .str, x => x.isStr
  | .tuple, x => x.isTuple
  | .list, x => x.isList
  | .dict, x => x.isDict
  | .none, x => x.isNoneType
def truD : D → Option Bool
  | .bool b => some b
  | _ => none
def allT : List D → Option Bool
  | [] => some true
  | x :: xs => match truD x with
    | some true => allT xs
    | some false => match allT xs with
      | some _ => some false
      | none => none
    | none => none
def anyT : List D → Option Bool
  | [] => some false
  | x :: xs => match truD x with
    | some false => anyT xs
    | some true => match anyT xs with
      | some _ => some true
      | none => none
    | none => none
def reprOk (x : D) : Bool := x.showable && !x.hasDict && decide (x.depth ≤ 60) && decide (x.shown.length ≤ LINE)
def sumI : List D → Option Int
  | [] => some 0
  | .int i :: xs => match sumI xs with
    | some s => some (i + s)
    | none => none
  | _ :: _ => none
def bLen (xs : List Vl) (S : Store) : R Vl := match xs with
  | [.sc xs] => .ok (I xs.length) S
  | [x] => match dat S x with
    | some (.list xs) => .ok (I xs.length) S
    | some (.tuple xs) => .ok (I xs.length) S
    | some (.str a) => if a.length ≤ LINE then .ok (I a.length) S else .stuck
    | _ => .stuck
  | _ => .stuck
def bAbs (xs : List Vl) (S : Store) : R Vl := match xs with
  | [.d (.int i)] => .ok (I (if i < 0 then -i else i)) S
  | _ => .stuck
def bMax (xs : List Vl) (S : Store) : R Vl := match xs with
  | [.d (.int i), .d (.int j)] => .ok (I (if j > i then j else i)) S
  | _ => .stuck
def bMin (xs : List Vl) (S : Store) : R Vl := match xs with
  | [.d (.int i), .d (.int j)] => .ok (I (if j < i then j else i)) S
  | _ => .stuck
def bInt (xs : List Vl) (S : Store) : R Vl := match xs with
  | [.d (.int i)] => .ok (I i) S
  | [.d (.bool b)] => .ok (I (if b then 1 else 0)) S
  | _ => .stuck
def bRepr (xs : List Vl) (S : Store) : R Vl := match xs with
  | [x] => match dat S x with
    | some a => if reprOk a then .ok (.d (.str a.shown)) S else .stuck
    | none => .stuck
  | _ => .stuck
def bTuple (xs : List Vl) (S : Store) : R Vl := match xs with
  | [x] => match dat S x with
    | some (.list xs) => .ok (.d (.tuple xs)) S
    | some (.tuple xs) => .ok (.d (.tuple xs)) S
    | _ => .stuck
  | _ => .stuck
def bList (m : Bool) (xs : List Vl) (S : Store) : R Vl := match xs with
  | [x] => match dat S x with
    | some (.list xs) => mkLst m xs S
    | some (.tuple xs) => mkLst m xs S
    | _ => .stuck
  | _ => .stuck
def bAll (xs : List Vl) (S : Store) : R Vl := match xs with
  | [x] => match dat S x with
    | some (.list xs) => match allT xs with
      | some b => .ok (B b) S
      | none => .stuck
    | _ => .stuck
  | _ => .stuck
def bAny (xs : List Vl) (S : Store) : R Vl := match xs with
  | [x] => match dat S x with
    | some (.list xs) => match anyT xs with
      | some b => .ok (B b) S
      | none => .stuck
    | _ => .stuck
  | _ => .stuck
def bSum (xs : List Vl) (S : Store) : R Vl := match xs with
  | [x] => match dat S x with
    | some (.list xs) => match sumI xs with
      | some s => .ok (I s) S
      | none => .stuck
    | _ => .stuck
  | _ => .stuck

/-! ### expressions -/
def xV (i : Nat) : TEx := fun _ γ S => match γ[i]? with
  | some (some v) => .ok v S
  | _ => .stuck
def xC (v : Vl) : TEx := fun _ _ S => .ok v S
def xBin (o : BO) (m : Bool) (a b : TEx) : TEx := fun c γ S => (a c γ S).bind fun x S1 => (b c γ S1).bind fun y S2 => bin o m x y S2
def xCmp (o : CO) (a b : TEx) : TEx := fun c γ S => (a c γ S).bind fun x S1 => (b c γ S1).bind fun y S2 => match cmp o x y S2 with
  | some k => .ok (B k) S2
  | none => .stuck
/-- a o b p c -/
def xCmp2 (o p : CO) (a b e : TEx) : TEx := fun c γ S => (a c γ S).bind fun x S1 => (b c γ S1).bind fun y S2 => match cmp o x y S2 with
  | some true => (e c γ S2).bind fun z S3 => match cmp p y z S3 with
    | some k => .ok (B k) S3
    | none => .stuck
  | some false => .ok (B false) S2
  | none => .stuck
def xNeg (a : TEx) : TEx := fun c γ S => (a c γ S).bind fun x S1 => match x with
  | .d (.int i) => .ok (I (-i)) S1
  | _ => .stuck
/-- not, and, or as values: bools -/
def xNot (a : TEx) : TEx := fun c γ S => (a c γ S).bind fun x S1 => match x with
  | .d (.bool k) => .ok (B (!k)) S1
  | _ => .stuck
def xAnd (a b : TEx) : TEx := fun c γ S => (a c γ S).bind fun x S1 => match x with
  | .d (.bool true) => b c γ S1
  | .d (.bool false) => .ok (B false) S1
  | _ => .stuck
def xOr (a b : TEx) : TEx := fun c γ S => (a c γ S).bind fun x S1 => match x with
  | .d (.bool false) => b c γ S1
  | .d (.bool true) => .ok (B true) S1
  | _ => .stuck
def xIf (t : TTs) (a b : TEx) : TEx := fun c γ S => (t c γ S).bind fun k S1 => match k with
  | true => a c γ S1
  | false => b c γ S1
def aNil : TAr := fun _ _ S => .ok [] S
def aCons (a : TEx) (r : TAr) : TAr := fun c γ S => (a c γ S).bind fun x S1 => (r c γ S1).bind fun xs S2 => .ok (x :: xs) S2
def xTup (a : TAr) : TEx := fun c γ S => (a c γ S).bind fun xs S1 => .ok (mkTup xs) S1
def xLst (m : Bool) (a : TAr) : TEx := fun c γ S => (a c γ S).bind fun xs S1 => match allD xs with
  | some ds => mkLst m ds S1
  | none => .stuck
def xIx (a b : TEx) : TEx := fun c γ S => (a c γ S).bind fun x S1 => (b c γ S1).bind fun y S2 => ix x y S2
/-- a part of a slice -/
abbrev TPt := Cl → Env → Store → R (Option Int)
def pNo : TPt := fun _ _ S => .ok none S
def pSome (a : TEx) : TPt := fun c γ S => (a c γ S).bind fun x S1 => match x with
  | .d (.int i) => .ok (some i) S1
  | _ => .stuck
def xSl (m : Bool) (a : TEx) (l h : TPt) : TEx := fun c γ S => (a c γ S).bind fun x S1 => (l c γ S1).bind fun lo S2 => (h c γ S2).bind fun hi S3 => sl m x lo hi S3
/-- xs[::-1] -/
def xRev (m : Bool) (a : TEx) : TEx := fun c γ S => (a c γ S).bind fun x S1 => match dat S1 x with
  | some (.list xs) => mkLst m xs.reverse S1
  | _ => .stuck
def xB (f : List Vl → Store → R Vl) (a : TAr) : TEx := fun c γ S => (a c γ S).bind fun xs S1 => f xs S1
def xIs (a : TEx) (t : Ty) : TEx := fun c γ S => (a c γ S).bind fun x S1 => match dat S1 x with
  | some v => .ok (B (isA t v)) S1
  | none => .stuck
def xCall (f : Nat) (a : TAr) (dflt : List Vl) : TEx := fun c γ S => (a c γ S).bind fun xs S1 => c.call f (xs ++ dflt) S1

/-! ### tests -/
/-- the truth of a value -/
def tV (a : TEx) : TTs := fun c γ S => (a c γ S).bind fun x S1 => match tru S1 x with
  | some k => .ok k S1
  | none => .stuck
def tNot (t : TTs) : TTs := fun c γ S => (t c γ S).bind fun k S1 => .ok (!k) S1
def tAnd (t u : TTs) : TTs := fun c γ S => (t c γ S).bind fun k S1 => match k with
  | true => u c γ S1
  | false => .ok false S1
def tOr (t u : TTs) : TTs := fun c γ S => (t c γ S).bind fun k S1 => match k with
  | true => .ok true S1
  | false => u c γ S1
def tCmp (o : CO) (a b : TEx) : TTs := fun c γ S => (a c γ S).bind fun x S1 => (b c γ S1).bind fun y S2 => match cmp o x y S2 with
  | some k => .ok k S2
  | none => .stuck
def tCmp2 (o p : CO) (a b e : TEx) : TTs := fun c γ S => (a c γ S).bind fun x S1 => (b c γ S1).bind fun y S2 => match cmp o x y S2 with
  | some true => (e c γ S2).bind fun z S3 => match cmp p y z S3 with
    | some k => .ok k S3
    | none => .stuck
  | some false => .ok false S2
  | none => .stuck

/-! ### targets, what is walked -/
abbrev TTg := Vl → Env → Option Env
def gV (i : Nat) : TTg := fun v γ => some (γ.set i (some v))
def gNil : List Vl → Env → Option Env := fun vs γ => match vs with
  | [] => some γ
  | _ => none
def gCons (g : TTg) (r : List Vl → Env → Option Env) : List Vl → Env → Option Env := fun vs γ => match vs with
  | v :: ws => match g v γ with
    | some γ' => r ws γ'
    | none => none
  | [] => none
def gTup (g : List Vl → Env → Option Env) : TTg := fun v γ => match v with
  | .d (.tuple ds) => g (ds.map .d) γ
  | .tv xs => g xs γ
  | _ => none
/-- what is walked: its items; or an object of the store, place by place as it stands -/
inductive Itr where
  | its (xs : List Vl)
  | ref (i : Nat)
abbrev TIt := Cl → Env → Store → R Itr
def iV (a : TEx) : TIt := fun c γ S => (a c γ S).bind fun x S1 => match x with
  | .d (.list xs) => .ok (.its (xs.map .d)) S1
  | .d (.tuple xs) => .ok (.its (xs.map .d)) S1
  | .tv xs => .ok (.its xs) S1
  | .r i => .ok (.ref i) S1
  | _ => .stuck
def rngOk (i : Int) : Bool := decide (i.natAbs < 4611686018427387904)
def rng (lo hi : Int) : List Vl := (List.range (hi - lo).toNat).map fun (k : Nat) => I (lo + k)
def iRng1 (a : TEx) : TIt := fun c γ S => (a c γ S).bind fun x S1 => match x with
  | .d (.int j) => if rngOk j then .ok (.its (rng 0 j)) S1 else .stuck
  | _ => .stuck
def iRng2 (a b : TEx) : TIt := fun c γ S => (a c γ S).bind fun x S1 => (b c γ S1).bind fun y S2 => match x, y with
  | .d (.int i), .d (.int j) => if rngOk i && rngOk j then .ok (.its (rng i j)) S2 else .stuck
  | _, _ => .stuck
/-- a list's or a tuple's data -/
def dItems : Vl → Option (List D)
  | .d (.list xs) => some xs
  | .d (.tuple xs) => some xs
  | _ => none
def pairs (xs ys : List D) : List Vl := (xs.zip ys).map fun p => .d (.tuple [p.1, p.2])
def iZip (a b : TEx) : TIt := fun c γ S => (a c γ S).bind fun x S1 => (b c γ S1).bind fun y S2 => match x, y with
  | .d (.list xs), .d (.list ys) => .ok (.its (pairs xs ys)) S2
  | .d (.tuple xs), .d (.tuple ys) => .ok (.its (pairs xs ys)) S2
  | _, _ => .stuck
def enumD (xs : List D) : List Vl := (List.range xs.length).zip xs |>.map fun p => .d (.tuple [.int (p.1 : Nat), p.2])
def iEnum (a : TEx) : TIt := fun c γ S => (a c γ S).bind fun x S1 => match x with
  | .d (.list xs) => .ok (.its (enumD xs)) S1
  | _ => .stuck

/-! ### comprehensions -/
/-- one clause: the target's slots are the block's own; the n-th object is the list that is made -/
def lcLoop (g : TTg) (t : TTs) (e : TEx) (c : Cl) (γ : Env) (n : Nat) : List Vl → Store → R Unit
  | [], S => .ok () S
  | x :: xs, S => match g x γ with
    | none => .stuck
    | some γ1 => match t c γ1 S with
      | .ok true S1 => match e c γ1 S1 with
        | .ok (.d d) S2 => match S2[n]? with
          | some (.lst out) => if out.length < LINE then lcLoop g t e c γ n xs (S2.set n (.lst (out ++ [d]))) else .stuck
          | none => .stuck
        | _ => .stuck
      | .ok false S1 => lcLoop g t e c γ n xs S1
      | _ => .stuck
def lcRef (g : TTg) (t : TTs) (e : TEx) (c : Cl) (γ : Env) (n : Nat) (i : Nat) : Nat → Nat → Store → R Unit
  | 0, _, _ => .stuck
  | f + 1, k, S => match S[i]? with
    | some (.lst xs) => match xs[k]? with
      | none => .ok () S
      | some x => match g (.d x) γ with
        | none => .stuck
        | some γ1 => match t c γ1 S with
          | .ok true S1 => match e c γ1 S1 with
            | .ok (.d d) S2 => match S2[n]? with
              | some (.lst out) => if out.length < LINE then lcRef g t e c γ n i f (k + 1) (S2.set n (.lst (out ++ [d]))) else .stuck
              | none => .stuck
            | _ => .stuck
          | .ok false S1 => lcRef g t e c γ n i f (k + 1) S1
          | _ => .stuck
    | none => .stuck
def tYes : TTs := fun _ _ S => .ok true S
/-- the block's own slots are forgotten -/
def wipeE (γ : Env) : List Nat → Env
  | [] => γ
  | i :: r => wipeE (γ.set i none) r
def lcEnd (m : Bool) (n : Nat) (S : Store) : R Vl := if S.length = n + 1 then match S[n]? with
    | some (.lst out) => match m with
      | true => .ok (.r n) S
      | false => .ok (.d (.list out)) (S.take n)
    | none => .stuck
  else .stuck
def lcFin (m : Bool) (n : Nat) (r : R Unit) : R Vl := match r with
  | .ok _ S => lcEnd m n S
  | _ => .stuck
def lcRun (g : TTg) (t : TTs) (e : TEx) (c : Cl) (γ : Env) (n : Nat) (J : Itr) (S : Store) : R Unit := match J with
  | .its xs => lcLoop g t e c γ n xs S
  | .ref i => lcRef g t e c γ n i (LINE + 1) 0 S
def xLc (m : Bool) (w : List Nat) (it : TIt) (g : TTg) (t : TTs) (e : TEx) : TEx := fun c γ S => (it c γ S).bind fun J S1 => lcFin m S1.length (lcRun g t e c (wipeE γ w) S1.length J (S1 ++ [.lst []]))

/-! ### statements -/
def sPass : TSt := fun _ γ S => .nx γ S
def sSeq (s : TSt) (r : TSt) : TSt := fun c γ S => match s c γ S with
  | .nx γ' S' => r c γ' S'
  | o => o
def sSet (i : Nat) (e : TEx) : TSt := fun c γ S => (e c γ S).next γ fun x S1 => .nx (γ.set i (some x)) S1
def sAsg (g : TTg) (e : TEx) : TSt := fun c γ S => (e c γ S).next γ fun x S1 => match g x γ with
  | some γ' => .nx γ' S1
  | none => .stuck
/-- a, b = x, y: plain local names -/
def sPar (i j : Nat) (a b : TEx) : TSt := fun c γ S => (a c γ S).next γ fun x S1 => (b c γ S1).next γ fun y S2 => .nx ((γ.set i (some x)).set j (some y)) S2
def sPar3 (i j l : Nat) (a b e : TEx) : TSt := fun c γ S => (a c γ S).next γ fun x S1 => (b c γ S1).next γ fun y S2 => (e c γ S2).next γ fun z S3 => .nx (((γ.set i (some x)).set j (some y)).set l (some z)) S3
/-- o[i] = e -/
def setAt (v : Vl) (k : Vl) (x : Vl) (S : Store) : Option Store := match v, k, x with
  | .r i, .d (.int j), .d y => match S[i]? with
    | some (.lst xs) => if 0 ≤ j ∧ j < xs.length then some (S.set i (.lst (xs.set j.toNat y))) else if j < 0 ∧ -(xs.length : Int) ≤ j then some (S.set i (.lst (xs.set (j + xs.length).toNat y))) else none
    | none => none
  | _, _, _ => none
def sSetIx (o i e : TEx) : TSt := fun c γ S => (e c γ S).next γ fun x S1 => (o c γ S1).next γ fun v S2 => (i c γ S2).next γ fun k S3 => match setAt v k x S3 with
  | some S4 => .nx γ S4
  | none => .stuck
def sAug (i : Nat) (o : BO) (e : TEx) : TSt := fun c γ S => match γ[i]? with
  | some (some (.d (.int x))) => (e c γ S).next γ fun y S1 => match o, y with
    | .add, .d (.int k) => .nx (γ.set i (some (I (x + k)))) S1
    | _, _ => .stuck
  | _ => .stuck
def sRet (e : TEx) : TSt := fun c γ S => (e c γ S).next γ fun x S1 => .rt x S1
def sExpr (e : TEx) : TSt := fun c γ S => (e c γ S).next γ fun _ S1 => .nx γ S1
def sIf (t : TTs) (a b : TSt) : TSt := fun c γ S => (t c γ S).next γ fun k S1 => match k with
  | true => a c γ S1
  | false => b c γ S1
def sBrk : TSt := fun _ γ S => .bk γ S
def sCnt : TSt := fun _ γ S => .ct γ S
def sNo : TSt := fun _ _ _ => .stuck
def fLoop (g : TTg) (b : TSt) (c : Cl) : List Vl → Env → Store → RS
  | [], γ, S => .nx γ S
  | x :: xs, γ, S => match g x γ with
    | none => .stuck
    | some γ1 => match b c γ1 S with
      | .nx γ' S' => fLoop g b c xs γ' S'
      | .ct γ' S' => fLoop g b c xs γ' S'
      | .bk γ' S' => .nx γ' S'
      | o => o
def rLoop (g : TTg) (b : TSt) (c : Cl) (i : Nat) : Nat → Nat → Env → Store → RS
  | 0, _, _, _ => .stuck
  | n + 1, k, γ, S => match S[i]? with
    | some (.lst xs) => match xs[k]? with
      | none => .nx γ S
      | some x => match g (.d x) γ with
        | none => .stuck
        | some γ1 => match b c γ1 S with
          | .nx γ' S' => rLoop g b c i n (k + 1) γ' S'
          | .ct γ' S' => rLoop g b c i n (k + 1) γ' S'
          | .bk γ' S' => .nx γ' S'
          | o => o
    | _ => .stuck
def sFor (it : TIt) (g : TTg) (b : TSt) : TSt := fun c γ S => (it c γ S).next γ fun J S1 => match J with
  | .its xs => fLoop g b c xs γ S1
  | .ref i => rLoop g b c i (LINE + 1) 0 γ S1
/-- turns that a while may take: more than any int at hand -/
def fuelOf (γ : Env) : Nat := match γ with
  | [] => 1099511627776
  | some (.d (.int i)) :: r => fuelOf r + i.natAbs
  | _ :: r => fuelOf r
def wLoop (t : TTs) (b : TSt) (c : Cl) : Nat → Env → Store → RS
  | 0, _, _ => .stuck
  | n + 1, γ, S => (t c γ S).next γ fun k S1 => match k with
    | false => .nx γ S1
    | true => match b c γ S1 with
      | .nx γ' S' => wLoop t b c n γ' S'
      | .ct γ' S' => wLoop t b c n γ' S'
      | .bk γ' S' => .nx γ' S'
      | o => o
def sWhile (t : TTs) (b : TSt) : TSt := fun c γ S => wLoop t b c (fuelOf γ) γ S
/-- o.append(e) -/
def app1 (v x : Vl) (S : Store) : Option Store := match v, x with
  | .r i, .d y => match S[i]? with
    | some (.lst xs) => if xs.length < LINE then some (S.set i (.lst (xs ++ [y]))) else none
    | none => none
  | _, _ => none
def sApp (o e : TEx) : TSt := fun c γ S => (o c γ S).next γ fun v S1 => match v with
  | .r i => (e c γ S1).next γ fun x S2 => match app1 (.r i) x S2 with
    | some S3 => .nx γ S3
    | none => .stuck
  | _ => .stuck

/-! ### defs -/
/-- np parameters, ns slots; keep: what is handed back may be a new object that changes on -/
structure Fn where
  np : Nat
  ns : Nat
  body : TSt
  keep : Bool := false
/-- what a def hands back: objects of its own are data from now on (or stay objects, keep), the rest is forgotten -/
def fin (keep : Bool) (n : Nat) (v : Vl) (S : Store) : R Vl := match v with
  | .r i => if i < n then .ok (.r i) (S.take n) else match S[i]? with
    | some (.lst xs) => if keep then .ok (.r n) (S.take n ++ [.lst xs]) else .ok (.d (.list xs)) (S.take n)
    | _ => .stuck
  | .d x => .ok (.d x) (S.take n)
  | _ => .stuck
def runFn (fd : Fn) (c : Cl) (args : List Vl) (S : Store) : R Vl := if args.length = fd.np then
    match fd.body c (args.map some ++ List.replicate (fd.ns - fd.np) none) S with
    | .rt v S' => fin fd.keep S.length v S'
    | .nx _ S' => fin fd.keep S.length (.d .none) S'
    | .er k x _ S' => .er k x (S'.take S.length)
    | _ => .stuck
  else .stuck
def run (tab : Nat → Option Fn) : Nat → Nat → List Vl → Store → R Vl
  | 0, _, _, _ => .stuck
  | k + 1, f, args, S => match tab f with
    | some fd => runFn fd ⟨run tab k⟩ args S
    | none => .stuck
end Mk
/-! Mk2: what the evaluator says is what the model does: relations, readings. -/
namespace Mk
open PySem PySem.Spec PyProof.Rows L2

/-! ### data and values in the abstract heap; ρ: the store's objects, by address -/
mutual
def RepD (K : PySem.W.Frag) (ρ : List Addr) (H : Hp) : PyData → L2.V → Prop
  | .none, v => v = .non
  | .bool b, v => v = .bl b
  | .int i, v => v = .int i
  | .str s, v => v = .str s
  | .tuple xs, v => ∃ a vs, v = .ref a ∧ SqT K H a vs ∧ RepDs K ρ H xs vs
  | .list xs, v => ∃ a vs, v = .ref a ∧ a ∉ ρ ∧ H a = some (.lst vs) ∧ RepDs K ρ H xs vs
  | .dict _, _ => False
def RepDs (K : PySem.W.Frag) (ρ : List Addr) (H : Hp) : List PyData → List L2.V → Prop
  | [], vs => vs = []
  | x :: xs, vs => ∃ v r, vs = v :: r ∧ RepD K ρ H x v ∧ RepDs K ρ H xs r
end
/-- a list that does not change: tracked or known, and no object of the store; or one of the module's -/
def ImL (K : PySem.W.Frag) (ρ : List Addr) (H : Hp) (a : Addr) (vs : List L2.V) : Prop := (a ∉ ρ ∧ Rd H a (.lst vs)) ∨ SqL K (fun _ => none) a vs
/-- the tables of a program: where defs, classes stand -/
structure Tb where
  fa : Nat → Option Addr
mutual
def RepV (T : Tb) (K : PySem.W.Frag) (ρ : List Addr) (H : Hp) : Vl → L2.V → Prop
  | .d x, v => RepD K ρ H x v
  | .sc xs, v => ∃ a vs, v = .ref a ∧ ImL K ρ H a vs ∧ RepDs K ρ H xs vs
  | .r i, v => ∃ a, ρ[i]? = some a ∧ v = .ref a
  | .fn f, v => ∃ a, T.fa f = some a ∧ v = .ref a
  | .tv xs, v => ∃ a vs, v = .ref a ∧ SqT K H a vs ∧ RepVs T K ρ H xs vs
def RepVs (T : Tb) (K : PySem.W.Frag) (ρ : List Addr) (H : Hp) : List Vl → List L2.V → Prop
  | [], vs => vs = []
  | x :: xs, vs => ∃ v r, vs = v :: r ∧ RepV T K ρ H x v ∧ RepVs T K ρ H xs r
end
structure Ext (ρ ρ' : List Addr) (H H' : Hp) : Prop where
  pre : ∃ t, ρ' = ρ ++ t ∧ ∀ a ∈ t, H a = none
  keep : ∀ b o, H b = some o → b ∉ ρ → H' b = some o
  stay : ∀ b, b ∈ ρ → H b ≠ none → H' b ≠ none
structure RepE (T : Tb) (K : PySem.W.Frag) (ρ : List Addr) (H : Hp) (γ : Env) (σ : L2.St) : Prop where
  len : γ.length = σ.length
  at_ : ∀ (i : Nat) (v : Vl), γ[i]? = some (some v) → ∃ x, σ[i]? = some (some x) ∧ RepV T K ρ H v x
/-- the store's objects are lists -/
def TupOut (ρ : List Addr) (H : Hp) : Prop := ∀ a ∈ ρ, ∃ vs, H a = some (.lst vs)
structure RepS (K : PySem.W.Frag) (ρ : List Addr) (H : Hp) (S : Store) : Prop where
  len : ρ.length = S.length
  nd : ρ.Nodup
  out : TupOut ρ H
  at_ : ∀ (i : Nat) (xs : List D), S[i]? = some (Ob.lst xs) → ∃ a vs, ρ[i]? = some a ∧ H a = some (.lst vs) ∧ RepDs K ρ H xs vs

section
variable {T : Tb} {K : PySem.W.Frag} {ρ ρ' ρ1 ρ2 : List Addr} {H H' H1 H2 : Hp} {γ : Env} {σ : L2.St} {S : Store}
theorem Ext.refl (ρ : List Addr) (H : Hp) : Ext ρ ρ H H := ⟨⟨[], by simp, by simp⟩, fun _ _ h _ => h, fun _ _ h => h⟩
theorem Ext.none_of (e : Ext ρ ρ' H H') {a : Addr} (h : H' a = none) : H a = none := by
  cases q : H a with
  | none => rfl
  | some o =>
    by_cases m : a ∈ ρ
    · exact absurd h (e.stay a m (by rw [q]; exact fun z => nomatch z))
    · rw [e.keep a o q m] at h; cases h
theorem Ext.trans (e : Ext ρ ρ1 H H1) (e' : Ext ρ1 ρ2 H1 H2) : Ext ρ ρ2 H H2 := by
  obtain ⟨⟨t, ht, hn⟩, k, s⟩ := e
  obtain ⟨⟨t', ht', hn'⟩, k', s'⟩ := id e'
  have e0 : Ext ρ ρ1 H H1 := ⟨⟨t, ht, hn⟩, k, s⟩
  refine ⟨⟨t ++ t', by rw [ht', ht, List.append_assoc], fun a ha => ?_⟩, fun b o h m => ?_, fun b m h => ?_⟩
  · rcases List.mem_append.mp ha with q | q
    · exact hn a q
    · exact e0.none_of (hn' a q)
  · refine k' b o (k b o h m) fun z => ?_
    rw [ht] at z
    rcases List.mem_append.mp z with q | q
    · exact m q
    · rw [hn b q] at h; cases h
  · exact s' b (by rw [ht]; exact List.mem_append_left _ m) (s b m h)
theorem Ext.notin (e : Ext ρ ρ' H H') {a : Addr} {o : HO} (h : H a = some o) (m : a ∉ ρ) : a ∉ ρ' := by
  obtain ⟨⟨t, ht, hn⟩, _, _⟩ := e
  intro z
  rw [ht] at z
  rcases List.mem_append.mp z with q | q
  · exact m q
  · rw [hn a q] at h; cases h
theorem Ext.get (e : Ext ρ ρ' H H') {i : Nat} {a : Addr} (h : ρ[i]? = some a) : ρ'[i]? = some a := by
  obtain ⟨⟨t, ht, _⟩, _, _⟩ := e
  rw [ht, List.getElem?_append_left (List.getElem?_eq_some_iff.mp h).1]
  exact h
theorem SqT.ext (o : TupOut ρ H) (e : Ext ρ ρ' H H') {a : Addr} {vs : List L2.V} (h : SqT K H a vs) : SqT K H' a vs := by
  rcases h with (h | ⟨ob, h⟩) | h
  · refine .inl (.inl (e.keep _ _ h fun m => ?_))
    obtain ⟨ws, q⟩ := o a m
    rw [h] at q; cases q
  · refine .inl (.inr ⟨ob, e.keep _ _ h fun m => ?_⟩)
    obtain ⟨ws, q⟩ := o a m
    rw [h] at q; cases q
  · exact .inr h
theorem ImL.sq {a : Addr} {vs : List L2.V} (h : ImL K ρ H a vs) : SqL K H a vs := by
  rcases h with ⟨_, h⟩ | (h | ⟨ob, h⟩) | h
  · exact .inl h
  · cases h
  · cases h
  · exact .inr h
theorem ImL.mono (e : Ext ρ ρ' H H') {a : Addr} {vs : List L2.V} (h : ImL K ρ H a vs) : ImL K ρ' H' a vs := by
  rcases h with ⟨m, h | ⟨ob, h⟩⟩ | h
  · exact .inl ⟨e.notin h m, .inl (e.keep _ _ h m)⟩
  · exact .inl ⟨e.notin h m, .inr ⟨ob, e.keep _ _ h m⟩⟩
  · exact .inr h
mutual
theorem RepD.mono (o : TupOut ρ H) (e : Ext ρ ρ' H H') : ∀ {x : PyData} {v : L2.V}, RepD K ρ H x v → RepD K ρ' H' x v
  | .none, v, h => by unfold RepD at *; exact h
  | .bool b, v, h => by unfold RepD at *; exact h
  | .int i, v, h => by unfold RepD at *; exact h
  | .str s, v, h => by unfold RepD at *; exact h
  | .tuple xs, v, h => by
    unfold RepD at *
    obtain ⟨a, vs, h1, h2, h3⟩ := h
    exact ⟨a, vs, h1, SqT.ext o e h2, RepDs.mono o e h3⟩
  | .list xs, v, h => by
    unfold RepD at *
    obtain ⟨a, vs, h1, h2, h3, h4⟩ := h
    exact ⟨a, vs, h1, e.notin h3 h2, e.keep _ _ h3 h2, RepDs.mono o e h4⟩
  | .dict _, v, h => by unfold RepD at *; exact h
theorem RepDs.mono (o : TupOut ρ H) (e : Ext ρ ρ' H H') : ∀ {xs : List PyData} {vs : List L2.V}, RepDs K ρ H xs vs → RepDs K ρ' H' xs vs
  | [], vs, h => by unfold RepDs at *; exact h
  | x :: xs, vs, h => by
    unfold RepDs at *
    obtain ⟨v, r, h1, h2, h3⟩ := h
    exact ⟨v, r, h1, RepD.mono o e h2, RepDs.mono o e h3⟩
end
mutual
theorem RepV.mono (o : TupOut ρ H) (e : Ext ρ ρ' H H') : ∀ {x : Vl} {v : L2.V}, RepV T K ρ H x v → RepV T K ρ' H' x v
  | .d x, v, h => by unfold RepV at *; exact RepD.mono o e h
  | .sc xs, v, h => by
    unfold RepV at *
    obtain ⟨a, vs, h1, h2, h3⟩ := h
    exact ⟨a, vs, h1, h2.mono e, RepDs.mono o e h3⟩
  | .r i, v, h => by
    unfold RepV at *
    obtain ⟨a, h1, h2⟩ := h
    exact ⟨a, e.get h1, h2⟩
  | .fn f, v, h => by unfold RepV at *; exact h
  | .tv xs, v, h => by
    unfold RepV at *
    obtain ⟨a, vs, h1, h2, h3⟩ := h
    exact ⟨a, vs, h1, SqT.ext o e h2, RepVs.mono o e h3⟩
theorem RepVs.mono (o : TupOut ρ H) (e : Ext ρ ρ' H H') : ∀ {xs : List Vl} {vs : List L2.V}, RepVs T K ρ H xs vs → RepVs T K ρ' H' xs vs
  | [], vs, h => by unfold RepVs at *; exact h
  | x :: xs, vs, h => by
    unfold RepVs at *
    obtain ⟨v, r, h1, h2, h3⟩ := h
    exact ⟨v, r, h1, RepV.mono o e h2, RepVs.mono o e h3⟩
end
theorem RepE.mono (o : TupOut ρ H) (e : Ext ρ ρ' H H') (h : RepE T K ρ H γ σ) : RepE T K ρ' H' γ σ :=
  ⟨h.len, fun i v q => let ⟨x, h1, h2⟩ := h.at_ i v q; ⟨x, h1, h2.mono o e⟩⟩
theorem RepE.set {i : Nat} {v : Vl} {x : L2.V} (h : RepE T K ρ H γ σ) (r : RepV T K ρ H v x) : RepE T K ρ H (γ.set i (some v)) (σ.set i (some x)) := by
  refine ⟨by simp [h.len], fun j w q => ?_⟩
  by_cases e : i = j
  · subst e
    by_cases l : i < γ.length
    · rw [List.getElem?_set_self l] at q
      cases q
      exact ⟨x, by rw [List.getElem?_set_self (by rw [← h.len]; exact l)], r⟩
    · rw [List.getElem?_eq_none (by simpa using l)] at q; cases q
  · rw [List.getElem?_set_ne e] at q
    obtain ⟨y, h1, h2⟩ := h.at_ j w q
    exact ⟨y, by rw [List.getElem?_set_ne e]; exact h1, h2⟩
theorem RepDs.length : ∀ {xs : List PyData} {vs : List L2.V}, RepDs K ρ H xs vs → vs.length = xs.length
  | [], vs, h => by unfold RepDs at h; rw [h]; rfl
  | x :: xs, vs, h => by
    unfold RepDs at h
    obtain ⟨v, r, rfl, _, h3⟩ := h
    simp [RepDs.length h3]
theorem RepVs.length : ∀ {xs : List Vl} {vs : List L2.V}, RepVs T K ρ H xs vs → vs.length = xs.length
  | [], vs, h => by unfold RepVs at h; rw [h]; rfl
  | x :: xs, vs, h => by
    unfold RepVs at h
    obtain ⟨v, r, rfl, _, h3⟩ := h
    simp [RepVs.length h3]
theorem RepDs.nil : RepDs K ρ H [] [] := by unfold RepDs; rfl
theorem RepDs.cons {x : PyData} {xs : List PyData} {v : L2.V} {vs : List L2.V} (h : RepD K ρ H x v) (hs : RepDs K ρ H xs vs) : RepDs K ρ H (x :: xs) (v :: vs) := by
  unfold RepDs; exact ⟨v, vs, rfl, h, hs⟩
theorem RepDs.get : ∀ {xs : List PyData} {vs : List L2.V} {i : Nat} {x : PyData}, RepDs K ρ H xs vs → xs[i]? = some x → ∃ v, vs[i]? = some v ∧ RepD K ρ H x v
  | [], _, _, _, _, e => by simp at e
  | y :: ys, vs, i, x, h, e => by
    unfold RepDs at h
    obtain ⟨v, r, rfl, h1, h2⟩ := h
    cases i with
    | zero => simp at e; subst e; exact ⟨v, by simp, h1⟩
    | succ i => obtain ⟨w, a, b⟩ := RepDs.get (i := i) h2 (by simpa using e); exact ⟨w, by simpa using a, b⟩
theorem RepDs.get' : ∀ {xs : List PyData} {vs : List L2.V} {i : Nat} {v : L2.V}, RepDs K ρ H xs vs → vs[i]? = some v → ∃ x, xs[i]? = some x ∧ RepD K ρ H x v
  | [], vs, _, _, h, e => by unfold RepDs at h; subst h; simp at e
  | y :: ys, vs, i, x, h, e => by
    unfold RepDs at h
    obtain ⟨v, r, rfl, h1, h2⟩ := h
    cases i with
    | zero => simp at e; subst e; exact ⟨y, by simp, h1⟩
    | succ i => obtain ⟨w, a, b⟩ := RepDs.get' (i := i) h2 (by simpa using e); exact ⟨w, by simpa using a, b⟩
theorem RepDs.append : ∀ {xs ys : List PyData} {vs ws : List L2.V}, RepDs K ρ H xs vs → RepDs K ρ H ys ws → RepDs K ρ H (xs ++ ys) (vs ++ ws)
  | [], _, vs, _, h, k => by unfold RepDs at h; subst h; exact k
  | x :: xs, _, vs, _, h, k => by
    unfold RepDs at h
    obtain ⟨v, r, rfl, h1, h2⟩ := h
    exact RepDs.cons h1 (RepDs.append h2 k)
theorem RepDs.drop : ∀ {xs : List PyData} {vs : List L2.V} (n : Nat), RepDs K ρ H xs vs → RepDs K ρ H (xs.drop n) (vs.drop n)
  | xs, vs, 0, h => h
  | [], vs, n + 1, h => by unfold RepDs at h; subst h; exact RepDs.nil
  | x :: xs, vs, n + 1, h => by
    unfold RepDs at h
    obtain ⟨v, r, rfl, h1, h2⟩ := h
    exact RepDs.drop n h2
theorem RepDs.take : ∀ {xs : List PyData} {vs : List L2.V} (n : Nat), RepDs K ρ H xs vs → RepDs K ρ H (xs.take n) (vs.take n)
  | xs, vs, 0, h => RepDs.nil
  | [], vs, n + 1, h => by unfold RepDs at h; subst h; exact RepDs.nil
  | x :: xs, vs, n + 1, h => by
    unfold RepDs at h
    obtain ⟨v, r, rfl, h1, h2⟩ := h
    exact RepDs.cons h1 (RepDs.take n h2)
theorem RepDs.reverse {xs : List PyData} {vs : List L2.V} (h : RepDs K ρ H xs vs) : RepDs K ρ H xs.reverse vs.reverse := by
  induction xs generalizing vs with
  | nil => unfold RepDs at h; subst h; exact RepDs.nil
  | cons x xs ih =>
    unfold RepDs at h
    obtain ⟨v, r, rfl, h1, h2⟩ := h
    rw [List.reverse_cons, List.reverse_cons]
    exact RepDs.append (ih h2) (RepDs.cons h1 RepDs.nil)
theorem RepDs.set : ∀ {xs : List PyData} {vs : List L2.V} {y : PyData} {w : L2.V} (i : Nat), RepDs K ρ H xs vs → RepD K ρ H y w → RepDs K ρ H (xs.set i y) (vs.set i w)
  | [], vs, _, _, _, h, _ => by unfold RepDs at h; subst h; exact RepDs.nil
  | x :: xs, vs, y, w, i, h, k => by
    unfold RepDs at h
    obtain ⟨v, r, rfl, h1, h2⟩ := h
    cases i with
    | zero => exact RepDs.cons k h2
    | succ i => exact RepDs.cons h1 (RepDs.set i h2 k)
theorem RepDs.rep {xs : List PyData} {vs : List L2.V} (h : RepDs K ρ H xs vs) : ∀ n, RepDs K ρ H (List.replicate n xs).flatten (List.replicate n vs).flatten
  | 0 => RepDs.nil
  | n + 1 => by
    rw [List.replicate_succ, List.replicate_succ, List.flatten_cons, List.flatten_cons]
    exact RepDs.append h (RepDs.rep h n)
/-- all data -/
theorem RepVs.data : ∀ {xs : List Vl} {ds : List D} {vs : List L2.V}, allD xs = some ds → RepVs T K ρ H xs vs → RepDs K ρ H ds vs
  | [], ds, vs, e, h => by
    unfold allD at e; cases e
    unfold RepVs at h; subst h; exact RepDs.nil
  | .d x :: xs, ds, vs, e, h => by
    unfold allD at e
    cases q : allD xs with
    | none => rw [q] at e; cases e
    | some es =>
      rw [q] at e; cases e
      unfold RepVs at h
      obtain ⟨v, r, rfl, h1, h2⟩ := h
      unfold RepV at h1
      exact RepDs.cons h1 (RepVs.data q h2)
  | .r _ :: _, _, _, e, _ => by unfold allD at e; cases e
  | .sc _ :: _, _, _, e, _ => by unfold allD at e; cases e
  | .fn _ :: _, _, _, e, _ => by unfold allD at e; cases e
  | .tv _ :: _, _, _, e, _ => by unfold allD at e; cases e
end
end Mk
/-! Mk3: readings of the evaluator, expressions. -/
namespace Mk
open PySem PySem.Spec PyProof.Rows L2

/-- what else the tables tell: the classes of errors, the field that each keeps -/
structure Tx extends Tb where
  ca : Nat → Option Addr
  cf : Nat → Option Str
def RepX (T : Tx) (K : PySem.W.Frag) (ρ : List Addr) (H : Hp) (k : Nat) (x : D) (cls : Value) (dd : Option Addr) : Prop :=
  ∃ C, T.ca k = some C ∧ cls = .ref C ∧ match T.cf k with
    | none => dd = none
    | some f => ∃ a v, dd = some a ∧ a ∉ ρ ∧ H a = some (.xd [(f, v)]) ∧ RepD K ρ H x v

abbrev Rl (α β : Type) := List Addr → Hp → α → β → Prop
section
variable (T : Tx) (X : Cx) (W : WX)
def Po {α β : Type} (rel : Rl α β) (σ : L2.St) (ρ : List Addr) (H : Hp) (m : R α) (Q : β → Hp → Prop) : Prop := match m with
  | .ok d S' => ∀ v H' ρ', Ext ρ ρ' H H' → rel ρ' H' d v → RepS X.K ρ' H' S' → Q v H'
  | .er k x S' => ∀ cls dd H' ρ', Ext ρ ρ' H H' → RepS X.K ρ' H' S' → RepX T X.K ρ' H' k x cls dd → W cls dd σ H'
  | .stuck => False
abbrev rV : Rl Vl L2.V := RepV T.toTb X.K
abbrev rVs : Rl (List Vl) (List L2.V) := RepVs T.toTb X.K
abbrev rB : Rl Bool Bool := fun _ _ k b => b = k
/-- a reading: some environment and store stand for the slots and the heap, and what is told of them is enough -/
def rdG {α β : Type} (rel : Rl α β) (c : Cl) (x : Cl → Env → Store → R α) : L2.St → Hp → (β → Hp → Prop) → Prop := fun σ H Q =>
  ∃ (γ : Env) (S : Store) (ρ : List Addr), RepE T.toTb X.K ρ H γ σ ∧ RepS X.K ρ H S ∧ Po T X W rel σ ρ H (x c γ S) Q
abbrev rdE (c : Cl) (x : TEx) : TE := rdG T X W (rV T X) c x
abbrev rdT (c : Cl) (x : TTs) : TT := rdG T X W rB c x
abbrev rdA (c : Cl) (x : TAr) : TA := rdG T X W (rVs T X) c x
end

section
variable {T : Tx} {X : Cx} {W : WX} {α α' β β' : Type} {rel : Rl α β} {rel' : Rl α' β'} {σ : L2.St} {ρ ρ' : List Addr} {H H' : Hp} {γ : Env} {S : Store} {c : Cl}
theorem Po.imp {m : R α} {Q Q' : β → Hp → Prop} (h : Po T X W rel σ ρ H m Q) (hq : ∀ v H', Q v H' → Q' v H') : Po T X W rel σ ρ H m Q' := by
  cases m with
  | ok d S' => exact fun v H' ρ' e r s => hq _ _ (h v H' ρ' e r s)
  | er k x S' => exact h
  | stuck => exact h
theorem Po.later {m : R α} {Q : β → Hp → Prop} (e : Ext ρ ρ' H H') (h : Po T X W rel σ ρ H m Q) : Po T X W rel σ ρ' H' m Q := by
  cases m with
  | ok d S' => exact fun v H2 ρ2 e2 r s => h v H2 ρ2 (e.trans e2) r s
  | er k x S' => exact fun cls dd H2 ρ2 e2 s r => h cls dd H2 ρ2 (e.trans e2) s r
  | stuck => exact h
theorem Po.bind {m : R α} {f : α → Store → R α'} {Q : β' → Hp → Prop} (h : Po T X W rel' σ ρ H (m.bind f) Q) :
    Po T X W rel σ ρ H m fun v H1 => ∃ (d : α) (S1 : Store) (ρ1 : List Addr), Ext ρ ρ1 H H1 ∧ rel ρ1 H1 d v ∧ RepS X.K ρ1 H1 S1 ∧ m = .ok d S1 ∧ Po T X W rel' σ ρ1 H1 (f d S1) Q := by
  cases m with
  | ok d S' => exact fun v H' ρ' e r s => ⟨d, S', ρ', e, r, s, rfl, Po.later e h⟩
  | er k x S' => exact h
  | stuck => exact h
/-- the heart: a reading of the first part, and what follows -/
theorem rd_bind {x : Cl → Env → Store → R α} {f : α → Store → R α'} {Q : β' → Hp → Prop} (hE : RepE T.toTb X.K ρ H γ σ) (hS : RepS X.K ρ H S) (h : Po T X W rel' σ ρ H ((x c γ S).bind f) Q)
    {Q1 : β → Hp → Prop} (k : ∀ v H1 d S1 ρ1, Ext ρ ρ1 H H1 → rel ρ1 H1 d v → RepE T.toTb X.K ρ1 H1 γ σ → RepS X.K ρ1 H1 S1 → Po T X W rel' σ ρ1 H1 (f d S1) Q → Q1 v H1) : rdG T X W rel c x σ H Q1 :=
  ⟨γ, S, ρ, hE, hS, (Po.bind h).imp fun v H1 ⟨d, S1, ρ1, e, r, s, _, p⟩ => k v H1 d S1 ρ1 e r (hE.mono hS.out e) s p⟩
theorem _root_.L2.PE.imp {X : Cx} {e : Expr} {t t' : TE} (h : PE X e t) (k : ∀ σ H Q, t' σ H Q → t σ H Q) : PE X e t' := ⟨fun pins s σ H Q I q => h.run pins s σ H Q I (k σ H Q q)⟩
theorem _root_.L2.PT.imp {X : Cx} {e : Expr} {t t' : TT} (h : PT X e t) (k : ∀ σ H Q, t' σ H Q → t σ H Q) : PT X e t' := ⟨fun pins s σ H Q I q => h.run pins s σ H Q I (k σ H Q q)⟩
theorem _root_.L2.PW.imp {X : Cx} {e : Expr} {t t' : TT} (h : PW X e t) (k : ∀ σ H Q, t' σ H Q → t σ H Q) : PW X e t' := ⟨fun wh pins s σ H Q I q => h.run wh pins s σ H Q I (k σ H Q q)⟩
theorem _root_.L2.PA.imp {X : Cx} {es : List Expr} {t t' : TA} (h : PA X es t) (k : ∀ σ H Q, t' σ H Q → t σ H Q) : PA X es t' := ⟨fun pos pins s σ H Q I q => h.run pos pins s σ H Q I (k σ H Q q)⟩

/-! ### heaps that grow -/
theorem Ext.new {p : Addr} {o : HO} (h : H p = none) : Ext ρ ρ H (upd H p o) :=
  ⟨⟨[], by simp, by simp⟩, fun b u q _ => by rw [upd_ne (ne_of_none q h)]; exact q, fun b _ q => by
    by_cases e : b = p
    · subst e; rw [upd_same]; exact fun z => nomatch z
    · rw [upd_ne e]; exact q⟩
theorem Ext.newMem {p : Addr} {o : HO} (h : H p = none) : Ext ρ (ρ ++ [p]) H (upd H p o) :=
  ⟨⟨[p], rfl, by simp [h]⟩, fun b u q _ => by rw [upd_ne (ne_of_none q h)]; exact q, fun b _ q => by
    by_cases e : b = p
    · subst e; rw [upd_same]; exact fun z => nomatch z
    · rw [upd_ne e]; exact q⟩
/-- an object of the store is changed -/
theorem Ext.chg {p : Addr} {o : HO} (h : p ∈ ρ) : Ext ρ ρ H (upd H p o) :=
  ⟨⟨[], by simp, by simp⟩, fun b u q m => by rw [upd_ne (fun e => m (by rw [e]; exact h))]; exact q, fun b _ q => by
    by_cases e : b = p
    · subst e; rw [upd_same]; exact fun z => nomatch z
    · rw [upd_ne e]; exact q⟩
theorem TupOut.notin (o : TupOut ρ H) {p : Addr} (h : H p = none) : p ∉ ρ := fun m => by
  obtain ⟨vs, q⟩ := o p m
  rw [h] at q; cases q
theorem TupOut.new {p : Addr} {o : HO} (s : TupOut ρ H) (h : H p = none) : TupOut ρ (upd H p o) := fun a m => by
  obtain ⟨vs, q⟩ := s a m
  exact ⟨vs, by rw [upd_ne (ne_of_none q h)]; exact q⟩
theorem RepS.new {p : Addr} {o : HO} (s : RepS X.K ρ H S) (h : H p = none) : RepS X.K ρ (upd H p o) S :=
  ⟨s.len, s.nd, s.out.new h, fun i xs q => by
    obtain ⟨a, vs, h1, h2, h3⟩ := s.at_ i xs q
    exact ⟨a, vs, h1, by rw [upd_ne (ne_of_none h2 h)]; exact h2, h3.mono s.out (Ext.new h)⟩⟩
theorem RepS.newMem {p : Addr} {xs : List D} {vs : List L2.V} (s : RepS X.K ρ H S) (h : H p = none) (r : RepDs X.K ρ H xs vs) : RepS X.K (ρ ++ [p]) (upd H p (.lst vs)) (S ++ [.lst xs]) := by
  have e : Ext ρ (ρ ++ [p]) H (upd H p (.lst vs)) := Ext.newMem h
  refine ⟨by simp [s.len], List.nodup_append.mpr ⟨s.nd, by simp, fun a ha b hb => ?_⟩, fun a ha => ?_, fun i ys q => ?_⟩
  rotate_left
  · rcases List.mem_append.mp ha with z | z
    · exact s.out.new h a z
    · have : a = p := by simpa using z
      subst this
      exact ⟨vs, upd_same⟩
  rotate_left
  · have : b = p := by simpa using hb
    subst this
    intro z
    subst z
    exact s.out.notin h ha
  · by_cases l : i < S.length
    · rw [List.getElem?_append_left l] at q
      obtain ⟨a, ws, h1, h2, h3⟩ := s.at_ i ys q
      exact ⟨a, ws, e.get h1, by rw [upd_ne (ne_of_none h2 h)]; exact h2, h3.mono s.out e⟩
    · rw [List.getElem?_append_right (Nat.le_of_not_lt l)] at q
      have : i - S.length = 0 := by
        cases z : i - S.length with
        | zero => rfl
        | succ n => rw [z] at q; simp at q
      rw [this] at q
      have q' : Ob.lst xs = Ob.lst ys := by simpa using q
      injection q' with q'
      subst q'
      refine ⟨p, vs, ?_, upd_same, r.mono s.out e⟩
      rw [List.getElem?_append_right (by rw [s.len]; omega), s.len, this]
      rfl
theorem RepS.chg {i : Nat} {p : Addr} {xs : List D} {vs : List L2.V} (s : RepS X.K ρ H S) (hi : ρ[i]? = some p) (r : RepDs X.K ρ H xs vs) : RepS X.K ρ (upd H p (.lst vs)) (S.set i (.lst xs)) := by
  have m : p ∈ ρ := List.mem_of_getElem? hi
  have e : Ext ρ ρ H (upd H p (.lst vs)) := Ext.chg m
  have li : i < ρ.length := (List.getElem?_eq_some_iff.mp hi).1
  refine ⟨by simp [s.len], s.nd, fun b hb => ?_, fun j ys q => ?_⟩
  · by_cases e : b = p
    · subst e; exact ⟨vs, upd_same⟩
    · obtain ⟨ws, q⟩ := s.out b hb
      exact ⟨ws, by rw [upd_ne e]; exact q⟩
  by_cases ij : i = j
  · subst ij
    rw [List.getElem?_set_self (by rw [← s.len]; exact li)] at q
    have q' : Ob.lst xs = Ob.lst ys := by simpa using q
    injection q' with q'
    subst q'
    exact ⟨p, vs, hi, upd_same, r.mono s.out e⟩
  · rw [List.getElem?_set_ne ij] at q
    obtain ⟨a, ws, h1, h2, h3⟩ := s.at_ j ys q
    refine ⟨a, ws, h1, ?_, h3.mono s.out e⟩
    rw [upd_ne ?_]
    · exact h2
    · intro z
      subst z
      have h1' := (List.getElem?_eq_some_iff.mp h1)
      have hi' := (List.getElem?_eq_some_iff.mp hi)
      obtain ⟨l1, e1⟩ := h1'
      obtain ⟨l2, e2⟩ := hi'
      exact ij ((List.getElem_inj s.nd).mp (e2.trans e1.symm))

/-! ### what is held now -/
def NowD (K : PySem.W.Frag) (ρ : List Addr) (H : Hp) : PyData → L2.V → Prop
  | .list xs, v => ∃ a vs, v = .ref a ∧ H a = some (.lst vs) ∧ RepDs K ρ H xs vs
  | d, v => RepD K ρ H d v
theorem RepD.now {d : D} {v : L2.V} (r : RepD X.K ρ H d v) : NowD X.K ρ H d v := by
  cases d with
  | list xs =>
    unfold RepD at r
    obtain ⟨a, vs, h1, _, h3, h4⟩ := r
    exact ⟨a, vs, h1, h3, h4⟩
  | _ => exact r
theorem dat_rep {x : Vl} {d : D} {v : L2.V} (s : RepS X.K ρ H S) (r : RepV T.toTb X.K ρ H x v) (e : dat S x = some d) : NowD X.K ρ H d v := by
  cases x with
  | d y =>
    have e' : some y = some d := e
    cases e'
    unfold RepV at r
    exact r.now
  | r i =>
    unfold RepV at r
    obtain ⟨a, h1, rfl⟩ := r
    unfold dat at e
    dsimp only at e
    cases q : S[i]? with
    | none => rw [q] at e; cases e
    | some o =>
      cases o with
      | lst xs =>
        rw [q] at e
        cases e
        obtain ⟨b, vs, h2, h3, h4⟩ := s.at_ i xs q
        rw [h1] at h2; cases h2
        exact ⟨a, vs, rfl, h3, h4⟩
  | fn f => cases e
  | sc xs => cases e
  | tv xs => cases e
/-! data of the heap as the library reads it -/
mutual
theorem RepD.reads {pins : List (Addr × Obj)} {s : Shared} (I : Inv X pins σ H s) : ∀ {d : D} {v : L2.V} {u : Value}, RepD X.K ρ H d v → RelV v u → ∃ as, Reads s.heap u d as
  | .none, v, u, r, rv => by unfold RepD at r; subst r; cases rv; exact ⟨_, .none⟩
  | .bool b, v, u, r, rv => by unfold RepD at r; subst r; cases rv; exact ⟨_, .bool b⟩
  | .int i, v, u, r, rv => by unfold RepD at r; subst r; obtain ⟨t, rfl⟩ := rv; exact ⟨_, .int i t⟩
  | .str z, v, u, r, rv => by unfold RepD at r; subst r; obtain ⟨t, rfl⟩ := rv; exact ⟨_, .str z t⟩
  | .tuple xs, v, u, r, rv => by
    unfold RepD at r
    obtain ⟨a, vs, rfl, h2, h3⟩ := r
    cases rv
    obtain ⟨its, r1, ⟨ob, e1, e2, n, e3⟩, _⟩ := I.tuple h2
    obtain ⟨as, q⟩ := RepDs.reads I h3 r1
    exact ⟨_, .tuple e1 e2 e3 (by simpa using q)⟩
  | .list xs, v, u, r, rv => by
    unfold RepD at r
    obtain ⟨a, vs, rfl, _, h2, h3⟩ := r
    cases rv
    obtain ⟨its, r1, ⟨ob, n, e1, e2, _, e3⟩, _⟩ := I.list (SqL.of h2)
    obtain ⟨as, q⟩ := RepDs.reads I h3 r1
    exact ⟨_, .list e1 e2 e3 (by simpa using q)⟩
  | .dict _, v, u, r, rv => by unfold RepD at r; exact r.elim
theorem RepDs.reads {pins : List (Addr × Obj)} {s : Shared} (I : Inv X pins σ H s) : ∀ {ds : List D} {vs : List L2.V} {us : List Value}, RepDs X.K ρ H ds vs → Vals vs us → ∃ as, ReadsAll s.heap us ds as
  | [], vs, us, r, rv => by unfold RepDs at r; subst r; cases rv; exact ⟨_, .nil⟩
  | d :: ds, vs, us, r, rv => by
    unfold RepDs at r
    obtain ⟨v, w, rfl, h1, h2⟩ := r
    cases rv with
    | cons r1 r2 =>
      obtain ⟨as, q1⟩ := RepD.reads I h1 r1
      obtain ⟨bs, q2⟩ := RepDs.reads I h2 r2
      exact ⟨_, .cons q1 q2⟩
end
theorem NowD.reads {pins : List (Addr × Obj)} {s : Shared} (I : Inv X pins σ H s) {d : D} {v : L2.V} {u : Value} (r : NowD X.K ρ H d v) (rv : RelV v u) : ∃ as, Reads s.heap u d as := by
  cases d with
  | list xs =>
    obtain ⟨a, vs, rfl, h2, h3⟩ := r
    cases rv
    obtain ⟨its, r1, ⟨ob, n, e1, e2, _, e3⟩, _⟩ := I.list (SqL.of h2)
    obtain ⟨as, q⟩ := RepDs.reads I h3 r1
    exact ⟨_, .list e1 e2 e3 (by simpa using q)⟩
  | none => exact RepD.reads (ρ := ρ) I r rv
  | bool b => exact RepD.reads (ρ := ρ) I r rv
  | int i => exact RepD.reads (ρ := ρ) I r rv
  | str z => exact RepD.reads (ρ := ρ) I r rv
  | tuple xs => exact RepD.reads (ρ := ρ) I r rv
  | dict k => exact RepD.reads (ρ := ρ) I r rv

/-! ### new lists, new tuples -/
theorem new_lst {m : Bool} {xs : List D} {vs : List L2.V} {Q : L2.V → Hp → Prop} (s : RepS X.K ρ H S) (r : RepDs X.K ρ H xs vs) (h : Po T X W (rV T X) σ ρ H (mkLst m xs S) Q) {p : Addr} (hp : H p = none) : Q (.ref p) (upd H p (.lst vs)) := by
  cases m with
  | false =>
    refine h _ _ ρ (Ext.new hp) ?_ (s.new hp)
    unfold rV RepV RepD
    exact ⟨p, vs, rfl, s.out.notin hp, upd_same, r.mono s.out (Ext.new hp)⟩
  | true =>
    refine h _ _ (ρ ++ [p]) (Ext.newMem hp) ?_ (s.newMem hp r)
    unfold rV RepV
    exact ⟨p, by rw [← s.len, List.getElem?_append_right (Nat.le_refl _), Nat.sub_self] <;> rfl, rfl⟩
theorem new_tup {xs : List D} {vs : List L2.V} {Q : L2.V → Hp → Prop} (s : RepS X.K ρ H S) (r : RepDs X.K ρ H xs vs) (h : Po T X W (rV T X) σ ρ H (.ok (.d (.tuple xs)) S) Q) {p : Addr} (hp : H p = none) : Q (.ref p) (upd H p (.tup vs)) := by
  refine h _ _ ρ (Ext.new hp) ?_ (s.new hp)
  unfold rV RepV RepD
  exact ⟨p, vs, rfl, SqT.of upd_same, r.mono s.out (Ext.new hp)⟩
theorem old_val {x : Vl} {v : L2.V} {Q : L2.V → Hp → Prop} (s : RepS X.K ρ H S) (r : RepV T.toTb X.K ρ H x v) (h : Po T X W (rV T X) σ ρ H (.ok x S) Q) : Q v H := h _ _ ρ (Ext.refl ρ H) r s
theorem rep_int {i : Int} : RepV T.toTb X.K ρ H (I i) (.int i) := by unfold I RepV RepD; rfl
theorem rep_bl {b : Bool} : RepV T.toTb X.K ρ H (B b) (.bl b) := by unfold B RepV RepD; rfl
theorem rep_str {z : Str} : RepV T.toTb X.K ρ H (.d (.str z)) (.str z) := by unfold RepV RepD; rfl
end
end Mk
/-! Mk4: operators by values. -/
namespace Mk
open PySem PySem.Spec PyProof.Rows L2
section
variable (T : Tx) (X : Cx) (W : WX)
/-- an operation on two values does what the evaluator's does -/
def OpV (f : Value → Value → Sem Value) (o : Vl → Vl → Store → R Vl) : Prop :=
  ∀ (pins : List (Addr × Obj)) (s : Shared) (σ : L2.St) (H : Hp) (ρ : List Addr) (S : Store) (x y : Vl) (v w : L2.V) (vv ww : Value) (Q : VK), Inv X pins σ H s → RelV v vv → RelV w ww →
    RepV T.toTb X.K ρ H x v → RepV T.toTb X.K ρ H y w → RepS X.K ρ H S → Po T X W (rV T X) σ ρ H (o x y S) Q → wpAny (model X.prog X.w) X.A (f vv ww) (EP X pins σ Q) X.xe s
/-- the like, a bool -/
def CmV (f : Value → Value → Sem Value) (o : Vl → Vl → Store → Option Bool) : Prop :=
  ∀ (pins : List (Addr × Obj)) (s : Shared) (σ : L2.St) (H : Hp) (ρ : List Addr) (S : Store) (x y : Vl) (v w : L2.V) (vv ww : Value) (k : Bool) (Q : VK), Inv X pins σ H s → RelV v vv → RelV w ww →
    RepV T.toTb X.K ρ H x v → RepV T.toTb X.K ρ H y w → RepS X.K ρ H S → o x y S = some k → Q (.bl k) H → wpAny (model X.prog X.w) X.A (f vv ww) (EP X pins σ Q) X.xe s
end
section
variable {T : Tx} {X : Cx} {W : WX} {σ : L2.St} {ρ : List Addr} {H : Hp} {S : Store}
theorem rep_intV {i : Int} {v : L2.V} (r : RepV T.toTb X.K ρ H (.d (.int i)) v) : v = .int i := by unfold RepV RepD at r; exact r
theorem now_int {i : Int} {v : L2.V} (r : NowD X.K ρ H (.int i) v) : v = .int i := by unfold NowD RepD at r; exact r
theorem now_str {z : Str} {v : L2.V} (r : NowD X.K ρ H (.str z) v) : v = .str z := by unfold NowD RepD at r; exact r
theorem now_bl {b : Bool} {v : L2.V} (r : NowD X.K ρ H (.bool b) v) : v = .bl b := by unfold NowD RepD at r; exact r
theorem now_non {v : L2.V} (r : NowD X.K ρ H .none v) : v = .non := by unfold NowD RepD at r; exact r
theorem now_tup {xs : List D} {v : L2.V} (r : NowD X.K ρ H (.tuple xs) v) : ∃ a vs, v = .ref a ∧ SqT X.K H a vs ∧ RepDs X.K ρ H xs vs := by unfold NowD RepD at r; exact r
theorem now_lst {xs : List D} {v : L2.V} (r : NowD X.K ρ H (.list xs) v) : ∃ a vs, v = .ref a ∧ H a = some (.lst vs) ∧ RepDs X.K ρ H xs vs := r
theorem line_eq : sizeLine = LINE := by rw [sizeLine_eq]; rfl
theorem opv_of {f : Value → Value → Sem Value} {r : R2} {o : Vl → Vl → Store → R Vl} (h : OpR X f r)
    (k : ∀ (σ : L2.St) (H : Hp) (ρ : List Addr) (S : Store) (x y : Vl) (v w : L2.V) (Q : VK), RepV T.toTb X.K ρ H x v → RepV T.toTb X.K ρ H y w → RepS X.K ρ H S → Po T X W (rV T X) σ ρ H (o x y S) Q → r v w H Q) : OpV T X W f o :=
  fun pins s σ H ρ S x y v w vv ww Q I r1 r2 p1 p2 hs hP => h pins s σ H v w vv ww Q I r1 r2 (k σ H ρ S x y v w Q p1 p2 hs hP)

theorem opv_add {m : Bool} : OpV T X W (binaryOp .Add) (bin .add m) := by
  refine opv_of (op_add.or (op_add_str.or (op_catA.or op_cat))) fun σ H ρ S x y v w Q p1 p2 hs hP => ?_
  unfold bin at hP
  dsimp only at hP
  split at hP
  · rename_i i j e1 e2
    have a1 := now_int (dat_rep hs p1 e1)
    have a2 := now_int (dat_rep hs p2 e2)
    subst a1 a2
    exact .inl ⟨i, j, rfl, rfl, old_val hs rep_int hP⟩
  · rename_i a b e1 e2
    have a1 := now_str (dat_rep hs p1 e1)
    have a2 := now_str (dat_rep hs p2 e2)
    subst a1 a2
    split at hP
    · rename_i hl
      exact .inr (.inl ⟨a, b, rfl, rfl, by rw [line_eq]; exact hl, old_val hs rep_str hP⟩)
    · exact hP.elim
  · rename_i xs ys e1 e2
    obtain ⟨a, vs, rfl, ha, ra⟩ := now_tup (dat_rep hs p1 e1)
    obtain ⟨b, ws, rfl, hb, rb⟩ := now_tup (dat_rep hs p2 e2)
    split at hP
    · rename_i hl
      refine .inr (.inr (.inl ⟨a, b, vs, ws, rfl, rfl, ha, hb, by rw [line_eq, ra.length, rb.length]; exact hl, fun e => ?_, fun _ e => ?_, fun _ _ p hp => ?_⟩))
      · subst e
        have e0 : xs = [] := List.eq_nil_of_length_eq_zero ra.length.symm
        subst e0
        exact old_val hs (by unfold RepV RepD; exact ⟨b, ws, rfl, hb, rb⟩) hP
      · subst e
        have e0 : ys = [] := List.eq_nil_of_length_eq_zero rb.length.symm
        subst e0
        rw [List.append_nil] at hP
        exact old_val hs (by unfold RepV RepD; exact ⟨a, vs, rfl, ha, ra⟩) hP
      · exact new_tup hs (ra.append rb) hP hp
    · exact hP.elim
  · rename_i xs ys e1 e2
    obtain ⟨a, vs, rfl, ha, ra⟩ := now_lst (dat_rep hs p1 e1)
    obtain ⟨b, ws, rfl, hb, rb⟩ := now_lst (dat_rep hs p2 e2)
    split at hP
    · rename_i hl
      exact .inr (.inr (.inr ⟨a, b, vs, ws, rfl, rfl, ha, hb, by rw [line_eq, ra.length, rb.length]; exact hl, fun p hp => new_lst hs (ra.append rb) hP hp⟩))
    · exact hP.elim
  · exact hP.elim
theorem opv_sub {m : Bool} : OpV T X W (binaryOp .Sub) (bin .sub m) := by
  refine opv_of op_sub fun σ H ρ S x y v w Q p1 p2 hs hP => ?_
  unfold bin at hP
  dsimp only at hP
  split at hP
  · rename_i i j
    have a1 := rep_intV p1
    have a2 := rep_intV p2
    subst a1 a2
    exact ⟨i, j, rfl, rfl, old_val hs rep_int hP⟩
  · exact hP.elim
theorem opv_fdiv {m : Bool} : OpV T X W (binaryOp .FloorDiv) (bin .fdiv m) := by
  refine opv_of op_fdivW fun σ H ρ S x y v w Q p1 p2 hs hP => ?_
  unfold bin at hP
  dsimp only at hP
  split at hP
  · rename_i i j
    have a1 := rep_intV p1
    have a2 := rep_intV p2
    subst a1 a2
    split at hP
    · rename_i c
      unfold divOk at c
      simp only [Bool.and_eq_true, decide_eq_true_eq] at c
      exact ⟨i, j, rfl, rfl, c, old_val hs rep_int hP⟩
    · exact hP.elim
  · exact hP.elim
theorem opv_mod {m : Bool} : OpV T X W (binaryOp .Mod) (bin .mod m) := by
  refine opv_of op_mod fun σ H ρ S x y v w Q p1 p2 hs hP => ?_
  unfold bin at hP
  dsimp only at hP
  split at hP
  · rename_i i j
    have a1 := rep_intV p1
    have a2 := rep_intV p2
    subst a1 a2
    split at hP
    · rename_i c
      exact ⟨i, j, rfl, rfl, c, old_val hs rep_int hP⟩
    · exact hP.elim
  · exact hP.elim
theorem intBits_le {x : Int} : Builtin.Int.intBits x ≤ x.natAbs.log2 + 1 := by
  unfold Builtin.Int.intBits
  split <;> omega
theorem opv_pow {m : Bool} : OpV T X W (binaryOp .Pow) (bin .pow m) := by
  intro pins s σ H ρ S x y v w vv ww Q I r1 r2 p1 p2 hs hP
  unfold bin at hP
  dsimp only at hP
  split at hP
  · rename_i i j
    have a1 := rep_intV p1
    have a2 := rep_intV p2
    subst a1 a2
    split at hP
    · rename_i c
      unfold powOk at c
      simp only [Bool.and_eq_true, decide_eq_true_eq] at c
      obtain ⟨⟨c1, c2⟩, c3⟩ := c
      obtain ⟨t, rfl⟩ := r1
      obtain ⟨u, rfl⟩ := r2
      refine pow_int c1 ?_ ⟨.int (i ^ j.toNat), H, I.tok _, ⟨_, rfl⟩, old_val hs rep_int hP⟩
      have b := intBits_le (x := i)
      have b2 : (Builtin.Int.intBits i : Int) ≤ 1001 := by omega
      have : (Builtin.Int.intBits i : Int) * j ≤ 1001 * 1000 := Int.mul_le_mul b2 c2 c1 (by decide)
      have e : (2 : Int) ^ 27 = 134217728 := by decide
      omega
    · exact hP.elim
  · exact hP.elim
end
end Mk
/-! Mk5: products, comparisons. -/
namespace Mk
open PySem PySem.Spec PyProof.Rows L2
/-- t * n where the tuple itself comes back (n = 1, or nothing in it), or an empty one (n < 1) -/
theorem tuple_mul_same (l : Addr) (items : Array Value) (n : Nat) (dd : Option Addr) (sl : Array (Option Value)) (x : Int) (u : Tok) (c0 : (decide (x < -(2 ^ 63)) || decide (x ≥ 2 ^ 63)) = false) (c1 : (items.isEmpty || x == 1) = true) :
    Meets (Builtin.«tuple.__mul__» ⟨[.ref l, .int x u], []⟩) (fun _ R s => s.heap.get? l = some { cls := .type "tuple", dict := dd, data := .seq items n, slots := sl } ∧
      R (.ok (.ret (Value.ref l))) s) :=
  .of_wp fun prog w A R s h => by
    obtain ⟨hp, g, d, tk, os⟩ := s
    obtain ⟨hl, h⟩ := h
    have f1 := AutoSeq1.idx_int
    wp_walk using wpAny_loadPart' hl
    repeat (first
      | (refine wpAny_ite_false (decide_eq_false (by rw [c0]; exact Bool.false_ne_true)) ?_; wp_walk using wpAny_loadPart' hl)
      | (refine wpAny_ite_true (decide_eq_true c1) ?_; wp_walk using wpAny_loadPart' hl))
    exact ⟨_, rfl, h⟩
theorem tuple_mul_none (l : Addr) (items : Array Value) (n : Nat) (dd : Option Addr) (sl : Array (Option Value)) (x : Int) (u : Tok) (c0 : (decide (x < -(2 ^ 63)) || decide (x ≥ 2 ^ 63)) = false) (c1 : (items.isEmpty || x == 1) = false) (c2 : (decide (x ≤ 0) || items.isEmpty) = true) :
    Meets (Builtin.«tuple.__mul__» ⟨[.ref l, .int x u], []⟩) (fun _ R s => s.heap.get? l = some { cls := .type "tuple", dict := dd, data := .seq items n, slots := sl } ∧
      R (.ok (.ret (Value.ref s.heap.objs.size))) { s with heap := s.heap.push { cls := Value.type "tuple", data := Data.seq #[] }, toks := s.toks }) :=
  .of_wp fun prog w A R s h => by
    obtain ⟨hp, g, d, tk, os⟩ := s
    obtain ⟨hl, h⟩ := h
    have f1 := AutoSeq1.idx_int
    wp_walk using wpAny_loadPart' hl
    repeat (first
      | (refine wpAny_ite_false (decide_eq_false (by rw [c0]; exact Bool.false_ne_true)) ?_; wp_walk using wpAny_loadPart' hl)
      | (refine wpAny_ite_false (decide_eq_false (by rw [c1]; exact Bool.false_ne_true)) ?_; wp_walk using wpAny_loadPart' hl)
      | (refine wpAny_ite_true (decide_eq_true c2) ?_; wp_walk using wpAny_loadPart' hl))
    exact ⟨_, rfl, h⟩
section
variable {T : Tx} {X : Cx} {W : WX} {σ : L2.St} {ρ : List Addr} {H : Hp} {S : Store}
/-- t * n, n from nought on -/
def rMulT (K : PySem.W.Frag) : R2 := fun x y H Q => ∃ l k xs, x = .ref l ∧ y = .int k ∧ SqT K H l xs ∧ 0 ≤ k ∧ k ≤ 1000 ∧ xs.length ≤ 1000 ∧ (xs = [] ∨ k = 1 → Q (.ref l) H) ∧
  (xs ≠ [] → k ≠ 1 → ∀ p, H p = none → Q (.ref p) (upd H p (.tup (List.replicate k.toNat xs).flatten)))
theorem op_mulT : OpR X (binaryOp .Mult) (rMulT X.K) := by
  intro pins s σ H x y v u Q I rx ry h
  obtain ⟨l, k, xs, rfl, rfl, hT, h0, h1, hz, q0, q1⟩ := h
  by_cases hb : xs = [] ∨ k = 1
  case neg =>
    have hne : xs ≠ [] := fun e => hb (.inl e)
    have hk1 : k ≠ 1 := fun e => hb (.inr e)
    by_cases h2 : 2 ≤ k
    · exact op_repT pins s σ H _ _ v u Q I rx ry ⟨l, k, xs, rfl, rfl, hT, hne, h2, h1, hz, q1 hne hk1⟩
    · have hk : k = 0 := by omega
      subst hk
      cases rx
      obtain ⟨t, rfl⟩ := ry
      obtain ⟨its, r, ⟨⟨cls, dd, data, sl⟩, ho, hc, n, hd⟩, hs⟩ := I.tuple hT
      simp only at hc hd
      subst hc hd
      have hle : its.length = xs.length := r.length.symm
      have hi : its.toArray.isEmpty = false := by
        cases its with
        | nil => exact absurd (List.eq_nil_of_length_eq_zero hle.symm) hne
        | cons a b => rfl
      have c0 : (decide ((0 : Int) < -(2 ^ 63)) || decide ((0 : Int) ≥ 2 ^ 63)) = false := by decide
      have c1 : (its.toArray.isEmpty || (0 : Int) == 1) = false := by rw [hi]; rfl
      have c2 : (decide ((0 : Int) ≤ 0) || its.toArray.isEmpty) = true := by rw [hi]; rfl
      refine wpAny_binaryOp_repeat_ref (T := "tuple") (U := "int") (by decide) ⟨_, ho, rfl⟩ (fun s' => typeIs_int s' 0 t) noFill_tuple_mul F.fills_int_mul F.slot_int_rmul repeat_tuple F.slot_int_index.lookup
        (call_meets F.slot_int_rmul (typeIs_int s 0 t) F.entry_int_rmul (F.args_int_rmul_2 _ _) (int_rmul_tuple 0 t l its.toArray n dd sl)
          ⟨ho, rfl, ⟨_, ho, rfl⟩, call_meets F.slot_tuple_mul ⟨_, ho, rfl⟩ F.entry_tuple_mul (F.args_tuple_mul_2 _ _) (tuple_mul_none l its.toArray n dd sl 0 t c0 c1 c2) ⟨ho, ?_⟩⟩)
      refine ⟨.ref s.heap.objs.size, _, I.laid (t' := s.toks) (o := .tup (List.replicate (0 : Int).toNat xs).flatten) (fun b ob q => Heap.get?_push_of_some _ q) (Nat.le_refl _) ?_, rfl, q1 hne hk1 _ (I.hok.fresh (Nat.le_refl _))⟩
      exact ⟨Nat.zero_le _, [], .nil, IsTup.new _ _⟩
  case pos =>
    cases rx
    obtain ⟨t, rfl⟩ := ry
    obtain ⟨its, r, ⟨⟨cls, dd, data, sl⟩, ho, hc, n, hd⟩, hs⟩ := I.tuple hT
    simp only at hc hd
    subst hc hd
    have hle : its.length = xs.length := r.length.symm
    have c0 : (decide (k < -(2 ^ 63)) || decide (k ≥ 2 ^ 63)) = false := by
      rw [decide_eq_false (by omega), decide_eq_false (by omega)] <;> rfl
    have c1 : (its.toArray.isEmpty || k == 1) = true := by
      rcases hb with e | e
      · subst e
        have : its = [] := List.eq_nil_of_length_eq_zero hle
        subst this
        rfl
      · subst e
        simp
    refine wpAny_binaryOp_repeat_ref (T := "tuple") (U := "int") (by decide) ⟨_, ho, rfl⟩ (fun s' => typeIs_int s' k t) noFill_tuple_mul F.fills_int_mul F.slot_int_rmul repeat_tuple F.slot_int_index.lookup
      (call_meets F.slot_int_rmul (typeIs_int s k t) F.entry_int_rmul (F.args_int_rmul_2 _ _) (int_rmul_tuple k t l its.toArray n dd sl)
        ⟨ho, rfl, ⟨_, ho, rfl⟩, call_meets F.slot_tuple_mul ⟨_, ho, rfl⟩ F.entry_tuple_mul (F.args_tuple_mul_2 _ _) (tuple_mul_same l its.toArray n dd sl k t c0 c1) ⟨ho, ?_⟩⟩)
    exact ⟨.ref l, H, I, rfl, q0 hb⟩
theorem opv_mul {m : Bool} : OpV T X W (binaryOp .Mult) (bin .mul m) := by
  refine opv_of (op_mul.or (op_mulW.or (op_mulT.or op_rep))) fun σ H ρ S x y v w Q p1 p2 hs hP => ?_
  unfold bin at hP
  dsimp only at hP
  split at hP
  · rename_i i j e1
    have a1 := now_int (dat_rep hs p1 e1)
    have a2 := rep_intV p2
    subst a1 a2
    split at hP
    · rename_i c
      have q := old_val hs (T := T) (X := X) (W := W) (σ := σ) (rep_int (i := i * j)) hP
      unfold mulOk at c
      simp only [Bool.or_eq_true, decide_eq_true_eq] at c
      rcases c with (c | c) | c
      · exact .inl ⟨i, j, rfl, rfl, .inl (by omega), q⟩
      · exact .inl ⟨i, j, rfl, rfl, .inr (by omega), q⟩
      · exact .inr (.inl ⟨i, j, rfl, rfl, c, q⟩)
    · exact hP.elim
  · rename_i xs j e1
    obtain ⟨a, vs, rfl, ha, ra⟩ := now_tup (dat_rep hs p1 e1)
    have a2 := rep_intV p2
    subst a2
    split at hP
    · rename_i c
      obtain ⟨c1, c2, c3⟩ := c
      refine .inr (.inr (.inl ⟨a, j, vs, rfl, rfl, ha, c1, c2, by rw [ra.length]; exact c3, fun e => ?_, fun _ _ p hp => new_tup hs (ra.rep _) hP hp⟩))
      have e2 : (List.replicate j.toNat xs).flatten = xs := by
        rcases e with e | e
        · subst e
          have : xs = [] := List.eq_nil_of_length_eq_zero ra.length.symm
          subst this
          simp
        · subst e
          simp
      rw [e2] at hP
      exact old_val hs (by unfold RepV RepD; exact ⟨a, vs, rfl, ha, ra⟩) hP
    · exact hP.elim
  · rename_i xs j e1
    obtain ⟨a, vs, rfl, ha, ra⟩ := now_lst (dat_rep hs p1 e1)
    have a2 := rep_intV p2
    subst a2
    split at hP
    · rename_i c
      obtain ⟨c1, c2, c3⟩ := c
      exact .inr (.inr (.inr ⟨a, j, vs, rfl, rfl, ha, by omega, by unfold LINE at c3; omega, by rw [line_eq, ra.length]; exact c2, fun p hp => new_lst hs (ra.rep _) hP hp⟩))
    · exact hP.elim
  · exact hP.elim

/-! ### comparisons -/
theorem cmv_of {f : Value → Value → Sem Value} {r : R2} {o : Vl → Vl → Store → Option Bool} (h : OpR X f r)
    (k : ∀ (σ : L2.St) (H : Hp) (ρ : List Addr) (S : Store) (x y : Vl) (v w : L2.V) (k : Bool) (Q : VK), RepV T.toTb X.K ρ H x v → RepV T.toTb X.K ρ H y w → RepS X.K ρ H S → o x y S = some k → Q (.bl k) H → r v w H Q) : CmV T X f o :=
  fun pins s σ H ρ S x y v w vv ww b Q I r1 r2 p1 p2 hs e q => h pins s σ H v w vv ww Q I r1 r2 (k σ H ρ S x y v w b Q p1 p2 hs e q)
theorem okD_of {x : D} (h : okD x = true) : x.plain = true ∧ x.depth ≤ 60 := by
  unfold okD at h
  simp only [Bool.and_eq_true, decide_eq_true_eq] at h
  exact h
theorem cmv_eq (hu : X.A.units + 100 < cLine) : CmV T X (compareOp .Eq) (cmp .eq) := by
  intro pins s σ H ρ S x y v w vv ww k Q I r1 r2 p1 p2 hs e q
  unfold cmp at e
  dsimp only at e
  split at e
  · rename_i a b e1 e2
    split at e
    · rename_i c
      cases e
      simp only [Bool.and_eq_true] at c
      obtain ⟨c1, c2⟩ := c
      obtain ⟨d1, d2⟩ := okD_of c1
      obtain ⟨d3, d4⟩ := okD_of c2
      obtain ⟨as, ra⟩ := (dat_rep hs p1 e1).reads I r1
      obtain ⟨bs, rb⟩ := (dat_rep hs p2 e2).reads I r2
      exact PySem.SeqAt.eq_plain ra rb d1 d3 (by omega) ⟨.bl _, H, I, rfl, q⟩
    · cases e
  · cases e
theorem cmv_ne (hu : X.A.units + 100 < cLine) : CmV T X (compareOp .NotEq) (cmp .ne) := by
  intro pins s σ H ρ S x y v w vv ww k Q I r1 r2 p1 p2 hs e q
  unfold cmp at e
  dsimp only at e
  split at e
  · rename_i a b e1 e2
    split at e
    · rename_i c
      cases e
      simp only [Bool.and_eq_true] at c
      obtain ⟨c1, c2⟩ := c
      obtain ⟨d1, d2⟩ := okD_of c1
      obtain ⟨d3, d4⟩ := okD_of c2
      obtain ⟨as, ra⟩ := (dat_rep hs p1 e1).reads I r1
      obtain ⟨bs, rb⟩ := (dat_rep hs p2 e2).reads I r2
      exact PySem.SeqAt.ne_plain ra rb d1 d3 (by omega) ⟨.bl _, H, I, rfl, q⟩
    · cases e
  · cases e
theorem plainAll_of {xs : List D} (h : (PyData.list xs).plain = true) : PyData.plainAll xs = true := by unfold PyData.plain at h; exact h
theorem plainAll_of' {xs : List D} (h : (PyData.tuple xs).plain = true) : PyData.plainAll xs = true := by unfold PyData.plain at h; exact h
theorem depthAll_of {xs : List D} (h : (PyData.list xs).depth ≤ 60) : PyData.depthAll xs ≤ 60 := by unfold PyData.depth at h; omega
theorem depthAll_of' {xs : List D} (h : (PyData.tuple xs).depth ≤ 60) : PyData.depthAll xs ≤ 60 := by unfold PyData.depth at h; omega
theorem cmv_in (hu : X.A.units + 100 < cLine) : CmV T X (compareOp .In) (cmp .inn) := by
  intro pins s σ H ρ S x y v w vv ww k Q I r1 r2 p1 p2 hs e q
  unfold cmp at e
  dsimp only at e
  split at e
  · rename_i a b e1 e2
    split at e
    · rename_i c
      cases e
      simp only [Bool.and_eq_true] at c
      obtain ⟨c1, c2⟩ := c
      obtain ⟨d1, d2⟩ := okD_of c1
      obtain ⟨d3, d4⟩ := okD_of c2
      obtain ⟨as, ra⟩ := (dat_rep hs p1 e1).reads I r1
      obtain ⟨bs, rb⟩ := (dat_rep hs p2 e2).reads I r2
      exact PySem.SeqAt.in_list_data rb ra (plainAll_of d3) d1 (by have := depthAll_of d4; omega) ⟨.bl _, H, I, rfl, q⟩
    · cases e
  · rename_i a b e1 e2
    split at e
    · rename_i c
      cases e
      simp only [Bool.and_eq_true] at c
      obtain ⟨c1, c2⟩ := c
      obtain ⟨d1, d2⟩ := okD_of c1
      obtain ⟨d3, d4⟩ := okD_of c2
      obtain ⟨as, ra⟩ := (dat_rep hs p1 e1).reads I r1
      obtain ⟨bs, rb⟩ := (dat_rep hs p2 e2).reads I r2
      exact PySem.SeqAt.in_tuple_data rb ra (plainAll_of' d3) d1 (by have := depthAll_of' d4; omega) ⟨.bl _, H, I, rfl, q⟩
    · cases e
  · cases e
theorem cmv_notIn (hu : X.A.units + 100 < cLine) : CmV T X (compareOp .NotIn) (cmp .notIn) := by
  intro pins s σ H ρ S x y v w vv ww k Q I r1 r2 p1 p2 hs e q
  unfold cmp at e
  dsimp only at e
  split at e
  · rename_i a b e1 e2
    split at e
    · rename_i c
      cases e
      simp only [Bool.and_eq_true] at c
      obtain ⟨c1, c2⟩ := c
      obtain ⟨d1, d2⟩ := okD_of c1
      obtain ⟨d3, d4⟩ := okD_of c2
      obtain ⟨as, ra⟩ := (dat_rep hs p1 e1).reads I r1
      obtain ⟨bs, rb⟩ := (dat_rep hs p2 e2).reads I r2
      exact PySem.SeqAt.notIn_list_data rb ra (plainAll_of d3) d1 (by have := depthAll_of d4; omega) ⟨.bl _, H, I, rfl, q⟩
    · cases e
  · rename_i a b e1 e2
    split at e
    · rename_i c
      cases e
      simp only [Bool.and_eq_true] at c
      obtain ⟨c1, c2⟩ := c
      obtain ⟨d1, d2⟩ := okD_of c1
      obtain ⟨d3, d4⟩ := okD_of c2
      obtain ⟨as, ra⟩ := (dat_rep hs p1 e1).reads I r1
      obtain ⟨bs, rb⟩ := (dat_rep hs p2 e2).reads I r2
      exact PySem.SeqAt.notIn_tuple_data rb ra (plainAll_of' d3) d1 (by have := depthAll_of' d4; omega) ⟨.bl _, H, I, rfl, q⟩
    · cases e
  · cases e
theorem cmv_lt : CmV T X (compareOp .Lt) (cmp .lt) := by
  refine cmv_of op_lt fun σ H ρ S x y v w k Q p1 p2 hs e q => ?_
  unfold cmp at e
  dsimp only at e
  split at e
  · cases e
    have a1 := rep_intV p1
    have a2 := rep_intV p2
    subst a1 a2
    exact ⟨_, _, rfl, rfl, q⟩
  · cases e
theorem cmv_le : CmV T X (compareOp .LtE) (cmp .le) := by
  refine cmv_of op_le fun σ H ρ S x y v w k Q p1 p2 hs e q => ?_
  unfold cmp at e
  dsimp only at e
  split at e
  · cases e
    have a1 := rep_intV p1
    have a2 := rep_intV p2
    subst a1 a2
    exact ⟨_, _, rfl, rfl, q⟩
  · cases e
theorem cmv_gt : CmV T X (compareOp .Gt) (cmp .gt) := by
  refine cmv_of op_gt fun σ H ρ S x y v w k Q p1 p2 hs e q => ?_
  unfold cmp at e
  dsimp only at e
  split at e
  · cases e
    have a1 := rep_intV p1
    have a2 := rep_intV p2
    subst a1 a2
    exact ⟨_, _, rfl, rfl, q⟩
  · cases e
theorem cmv_ge : CmV T X (compareOp .GtE) (cmp .ge) := by
  refine cmv_of op_ge fun σ H ρ S x y v w k Q p1 p2 hs e q => ?_
  unfold cmp at e
  dsimp only at e
  split at e
  · cases e
    have a1 := rep_intV p1
    have a2 := rep_intV p2
    subst a1 a2
    exact ⟨_, _, rfl, rfl, q⟩
  · cases e
theorem rep_non {v : L2.V} (r : RepV T.toTb X.K ρ H (.d .none) v) : v = .non := by unfold RepV RepD at r; exact r
theorem rep_notnon {x : Vl} {v : L2.V} (r : RepV T.toTb X.K ρ H x v) (h : x ≠ .d .none) : v ≠ .non := by
  cases x with
  | d y =>
    cases y with
    | none => exact absurd rfl h
    | bool b => unfold RepV RepD at r; subst r; exact fun z => nomatch z
    | int i => unfold RepV RepD at r; subst r; exact fun z => nomatch z
    | str z => unfold RepV RepD at r; subst r; exact fun z => nomatch z
    | tuple xs => unfold RepV RepD at r; obtain ⟨a, vs, rfl, _⟩ := r; exact fun z => nomatch z
    | list xs => unfold RepV RepD at r; obtain ⟨a, vs, rfl, _⟩ := r; exact fun z => nomatch z
    | dict k => unfold RepV RepD at r; exact r.elim
  | r i => unfold RepV at r; obtain ⟨a, _, rfl⟩ := r; exact fun z => nomatch z
  | fn f => unfold RepV at r; obtain ⟨a, _, rfl⟩ := r; exact fun z => nomatch z
  | tv xs => unfold RepV at r; obtain ⟨a, vs, rfl, _⟩ := r; exact fun z => nomatch z
  | sc xs => unfold RepV at r; obtain ⟨a, vs, rfl, _⟩ := r; exact fun z => nomatch z
theorem cmv_isN : CmV T X (compareOp .Is) (cmp .isN) := by
  refine cmv_of op_isN fun σ H ρ S x y v w k Q p1 p2 hs e q => ?_
  unfold cmp at e
  dsimp only at e
  split at e
  · refine ⟨rep_non p2, ?_⟩
    split at e
    · cases e
      rw [rep_non p1]
      simpa using q
    · rename_i hn
      cases e
      rw [decide_eq_false (rep_notnon p1 hn)]
      exact q
  · cases e
theorem cmv_isNotN : CmV T X (compareOp .IsNot) (cmp .isNotN) := by
  refine cmv_of op_notN fun σ H ρ S x y v w k Q p1 p2 hs e q => ?_
  unfold cmp at e
  dsimp only at e
  split at e
  · refine ⟨rep_non p2, ?_⟩
    split at e
    · cases e
      rw [rep_non p1]
      simpa using q
    · rename_i hn
      cases e
      rw [decide_eq_false (rep_notnon p1 hn)]
      exact q
  · cases e
end
end Mk
/-! Mk6: expressions and tests. -/
namespace Mk
open PySem PySem.Spec PyProof.Rows L2
section
variable {T : Tx} {X : Cx} {W : WX} {c : Cl} {σ : L2.St} {ρ : List Addr} {H : Hp} {γ : Env} {S : Store} {pos : Pos}
/-! ### expressions -/
theorem ok_var {i : Nat} {x : Str} (hN : X.N[i]? = some x) (hv : Vis X.env.scope x) (hd : (x == ("__debug__" : Str)) = false) (hcd : (x == ("__classdict__" : Str)) = false) : PE X (.Name x pos) (rdE T X W c (xV i)) := by
  refine (pe_var hN hv hd hcd).imp fun σ H Q ⟨γ, S, ρ, hE, hS, hP⟩ => ?_
  unfold xV at hP
  split at hP
  · rename_i v e
    obtain ⟨x', h1, h2⟩ := hE.at_ i v e
    exact ⟨x', h1, old_val hS h2 hP⟩
  · exact hP.elim
theorem ok_const {e : Expr} {v : L2.V} {x : Vl} (h : PE X e (tC v)) (r : ∀ ρ H, RepS X.K ρ H [] → RepV T.toTb X.K ρ H x v) (r' : ∀ ρ H, RepV T.toTb X.K ρ H x v) : PE X e (rdE T X W c (xC x)) := by
  refine h.imp fun σ H Q ⟨γ, S, ρ, hE, hS, hP⟩ => ?_
  exact old_val hS (r' ρ H) hP
theorem ok_c {e : Expr} {v : L2.V} {x : Vl} (h : PE X e (tC v)) (r : ∀ ρ H, RepV T.toTb X.K ρ H x v) : PE X e (rdE T X W c (xC x)) := by
  refine h.imp fun σ H Q ⟨γ, S, ρ, hE, hS, hP⟩ => ?_
  exact old_val hS (r ρ H) hP
theorem ok_bin {op : Operator} {o : BO} {m : Bool} {a b : Expr} {xa xb : TEx} (ho : OpV T X W (binaryOp op) (bin o m)) (ha : PE X a (rdE T X W c xa)) (hb : PE X b (rdE T X W c xb)) : PE X (.BinOp a op b pos) (rdE T X W c (xBin o m xa xb)) := by
  refine ⟨fun pins s σ H Q I ⟨γ, S, ρ, hE, hS, hP⟩ => ?_⟩
  refine wpAny_BinOp (binT ha hb (R := fun x y H2 => ∃ (ρ2 : List Addr) (S2 : Store) (d1 d2 : Vl), RepV T.toTb X.K ρ2 H2 d1 x ∧ RepV T.toTb X.K ρ2 H2 d2 y ∧ RepS X.K ρ2 H2 S2 ∧ Po T X W (rV T X) σ ρ2 H2 (bin o m d1 d2 S2) Q) I ?_ fun v u s2 x y H2 I2 rx ry ⟨ρ2, S2, d1, d2, q1, q2, q3, q4⟩ => ho pins s2 σ H2 ρ2 S2 d1 d2 x y v u Q I2 rx ry q1 q2 q3 q4)
  exact rd_bind hE hS hP fun v H1 d S1 ρ1 e r hE1 hS1 hP1 => rd_bind hE1 hS1 hP1 fun w H2 d2 S2 ρ2 e2 r2 hE2 hS2 hP2 => ⟨ρ2, S2, d, d2, RepV.mono hS1.out e2 r, r2, hS2, hP2⟩
theorem ok_cmp {op : CmpOp} {o : CO} {a b : Expr} {xa xb : TEx} (ho : CmV T X (compareOp op) (cmp o)) (ha : PE X a (rdE T X W c xa)) (hb : PE X b (rdE T X W c xb)) (hm : behindInMarks op b = false) : PE X (.Compare a [op] [b] pos) (rdE T X W c (xCmp o xa xb)) := by
  refine ⟨fun pins s σ H Q I ⟨γ, S, ρ, hE, hS, hP⟩ => ?_⟩
  refine wpAny_Compare1 (binT ha hb (R := fun x y H2 => ∃ (ρ2 : List Addr) (S2 : Store) (d1 d2 : Vl) (k : Bool), RepV T.toTb X.K ρ2 H2 d1 x ∧ RepV T.toTb X.K ρ2 H2 d2 y ∧ RepS X.K ρ2 H2 S2 ∧ cmp o d1 d2 S2 = some k ∧ Q (.bl k) H2) I ?_ fun v u s2 x y H2 I2 rx ry ⟨ρ2, S2, d1, d2, k, q1, q2, q3, q4, q5⟩ => ho pins s2 σ H2 ρ2 S2 d1 d2 x y v u k Q I2 rx ry q1 q2 q3 q4 q5) hm
  refine rd_bind hE hS hP fun v H1 d S1 ρ1 e r hE1 hS1 hP1 => rd_bind hE1 hS1 hP1 fun w H2 d2 S2 ρ2 e2 r2 hE2 hS2 hP2 => ?_
  cases q : cmp o d d2 S2 with
  | none => rw [q] at hP2; exact hP2.elim
  | some k =>
    rw [q] at hP2
    exact ⟨ρ2, S2, d, d2, k, RepV.mono hS1.out e2 r, r2, hS2, q, old_val hS2 rep_bl hP2⟩
theorem okt_cmp {op : CmpOp} {o : CO} {a b : Expr} {xa xb : TEx} (ho : CmV T X (compareOp op) (cmp o)) (ha : PE X a (rdE T X W c xa)) (hb : PE X b (rdE T X W c xb)) (hm : behindInMarks op b = false) : PT X (.Compare a [op] [b] pos) (rdT T X W c (tCmp o xa xb)) := by
  refine ⟨fun pins s σ H Q I ⟨γ, S, ρ, hE, hS, hP⟩ => ?_⟩
  refine wpAny_isTrue_Compare1 (binT ha hb (R := fun x y H2 => ∃ (ρ2 : List Addr) (S2 : Store) (d1 d2 : Vl) (k : Bool), RepV T.toTb X.K ρ2 H2 d1 x ∧ RepV T.toTb X.K ρ2 H2 d2 y ∧ RepS X.K ρ2 H2 S2 ∧ cmp o d1 d2 S2 = some k ∧ Q k H2) I ?_ fun v u s2 x y H2 I2 rx ry ⟨ρ2, S2, d1, d2, k, q1, q2, q3, q4, q5⟩ =>
    thn (ho pins s2 σ H2 ρ2 S2 d1 d2 x y v u k (fun z H3 => z = .bl k ∧ H3 = H2) I2 rx ry q1 q2 q3 q4 ⟨rfl, rfl⟩) fun cc s3 ⟨z, H3, I3, r3, e1, e2⟩ => ?_) hm
  · refine rd_bind hE hS hP fun v H1 d S1 ρ1 e r hE1 hS1 hP1 => rd_bind hE1 hS1 hP1 fun w H2 d2 S2 ρ2 e2 r2 hE2 hS2 hP2 => ?_
    cases q : cmp o d d2 S2 with
    | none => rw [q] at hP2; exact hP2.elim
    | some k =>
      rw [q] at hP2
      exact ⟨ρ2, S2, d, d2, k, RepV.mono hS1.out e2 r, r2, hS2, q, hP2 k H2 ρ2 (Ext.refl _ _) rfl hS2⟩
  · subst e1 e2
    cases r3
    exact wpAny_truthy_bool ⟨_, I3, q5⟩
theorem ok_cmp2 {op op' : CmpOp} {o o' : CO} {a b e : Expr} {xa xb xe : TEx} (ho : CmV T X (compareOp op) (cmp o)) (ho' : CmV T X (compareOp op') (cmp o')) (ha : PE X a (rdE T X W c xa)) (hb : PE X b (rdE T X W c xb)) (he : PE X e (rdE T X W c xe))
    (hm : lastMarks [op, op'] [b, e] = false) : PE X (.Compare a [op, op'] [b, e] pos) (rdE T X W c (xCmp2 o o' xa xb xe)) := by
  refine ⟨fun pins s σ H Q I ⟨γ, S, ρ, hE, hS, hP⟩ => ?_⟩
  refine Compare_chain (thn (ha.run pins s σ H _ I (rd_bind hE hS hP fun v H1 d S1 ρ1 e r hE1 hS1 hP1 => ?_ : rdE T X W c xa σ H fun x H1 => ∃ (d : Vl) (S1 : Store) (ρ1 : List Addr), RepV T.toTb X.K ρ1 H1 d x ∧ RepE T.toTb X.K ρ1 H1 γ σ ∧ RepS X.K ρ1 H1 S1 ∧
      Po T X W (rV T X) σ ρ1 H1 ((xb c γ S1).bind fun y S2 => match cmp o d y S2 with
        | some true => (xe c γ S2).bind fun z S3 => match cmp o' y z S3 with
          | some k => .ok (B k) S3
          | none => .stuck
        | some false => .ok (B false) S2
        | none => .stuck) Q)) fun v s1 ⟨x, H1, I1, r1, d, S1, ρ1, p1, hE1, hS1, hP1⟩ => chain_link ?_) hm
  · exact ⟨d, S1, ρ1, r, hE1, hS1, hP1⟩
  · refine thn (hb.run pins s1 σ H1 _ I1 (rd_bind hE1 hS1 hP1 fun w H2 d2 S2 ρ2 e2 r2 hE2 hS2 hP2 => ?_ : rdE T X W c xb σ H1 fun y H2 => ∃ (d2 : Vl) (S2 : Store) (ρ2 : List Addr), RepV T.toTb X.K ρ2 H2 d x ∧ RepV T.toTb X.K ρ2 H2 d2 y ∧ RepE T.toTb X.K ρ2 H2 γ σ ∧ RepS X.K ρ2 H2 S2 ∧
      Po T X W (rV T X) σ ρ2 H2 (match cmp o d d2 S2 with
        | some true => (xe c γ S2).bind fun z S3 => match cmp o' d2 z S3 with
          | some k => .ok (B k) S3
          | none => .stuck
        | some false => .ok (B false) S2
        | none => .stuck) Q)) fun u s2 ⟨y, H2, I2, r2, d2, S2, ρ2, p1', p2, hE2, hS2, hP2⟩ => ?_
    · exact ⟨d2, S2, ρ2, RepV.mono hS1.out e2 p1, r2, hE2, hS2, hP2⟩
    · cases q : cmp o d d2 S2 with
      | none => rw [q] at hP2; exact hP2.elim
      | some k =>
        rw [q] at hP2
        refine thn (ho pins s2 σ H2 ρ2 S2 d d2 x y v u k (fun z H3 => z = .bl k ∧ H3 = H2) I2 r1 r2 p1' p2 hS2 q ⟨rfl, rfl⟩) fun cc s3 ⟨z, H3, I3, r3, e1, e2⟩ => ?_
        subst e1 e2
        cases r3
        refine wpAny_truthy_bool ?_
        cases k with
        | false => exact ite_ff ⟨.bl false, _, I3, rfl, old_val hS2 rep_bl hP2⟩
        | true =>
          refine ite_tt (chain_last (thn (he.run pins s3 σ H3 _ I3 (rd_bind hE2 hS2 hP2 fun w3 H4 d3 S3 ρ3 e3 r3 hE3 hS3 hP3 => ?_ : rdE T X W c xe σ H3 fun z H4 => ∃ (d3 : Vl) (S3 : Store) (ρ3 : List Addr) (k : Bool), RepV T.toTb X.K ρ3 H4 d2 y ∧ RepV T.toTb X.K ρ3 H4 d3 z ∧ RepS X.K ρ3 H4 S3 ∧ cmp o' d2 d3 S3 = some k ∧ Q (.bl k) H4)) fun w' s4 ⟨z', H4, I4, r4, d3, S3, ρ3, k, a1, a2, a3, a4, a5⟩ => ho' pins s4 σ H4 ρ3 S3 d2 d3 y z' u w' k Q I4 r2 r4 a1 a2 a3 a4 a5))
          cases q3 : cmp o' d2 d3 S3 with
          | none => rw [q3] at hP3; exact hP3.elim
          | some k3 =>
            rw [q3] at hP3
            exact ⟨d3, S3, ρ3, k3, RepV.mono hS2.out e3 p2, r3, hS3, q3, old_val hS3 rep_bl hP3⟩
theorem okt_cmp2 {op op' : CmpOp} {o o' : CO} {a b e : Expr} {xa xb xe : TEx} (ho : CmV T X (compareOp op) (cmp o)) (ho' : CmV T X (compareOp op') (cmp o')) (ha : PE X a (rdE T X W c xa)) (hb : PE X b (rdE T X W c xb)) (he : PE X e (rdE T X W c xe))
    (hm : lastMarks [op, op'] [b, e] = false) : PT X (.Compare a [op, op'] [b, e] pos) (rdT T X W c (tCmp2 o o' xa xb xe)) := by
  refine ⟨fun pins s σ H Q I ⟨γ, S, ρ, hE, hS, hP⟩ => ?_⟩
  refine isTrue_chain (thn (ha.run pins s σ H _ I (rd_bind hE hS hP fun v H1 d S1 ρ1 e r hE1 hS1 hP1 => ?_ : rdE T X W c xa σ H fun x H1 => ∃ (d : Vl) (S1 : Store) (ρ1 : List Addr), RepV T.toTb X.K ρ1 H1 d x ∧ RepE T.toTb X.K ρ1 H1 γ σ ∧ RepS X.K ρ1 H1 S1 ∧
      Po T X W rB σ ρ1 H1 ((xb c γ S1).bind fun y S2 => match cmp o d y S2 with
        | some true => (xe c γ S2).bind fun z S3 => match cmp o' y z S3 with
          | some k => .ok k S3
          | none => .stuck
        | some false => .ok false S2
        | none => .stuck) Q)) fun v s1 ⟨x, H1, I1, r1, d, S1, ρ1, p1, hE1, hS1, hP1⟩ => test_link ?_) hm
  · exact ⟨d, S1, ρ1, r, hE1, hS1, hP1⟩
  · refine thn (hb.run pins s1 σ H1 _ I1 (rd_bind hE1 hS1 hP1 fun w H2 d2 S2 ρ2 e2 r2 hE2 hS2 hP2 => ?_ : rdE T X W c xb σ H1 fun y H2 => ∃ (d2 : Vl) (S2 : Store) (ρ2 : List Addr), RepV T.toTb X.K ρ2 H2 d x ∧ RepV T.toTb X.K ρ2 H2 d2 y ∧ RepE T.toTb X.K ρ2 H2 γ σ ∧ RepS X.K ρ2 H2 S2 ∧
      Po T X W rB σ ρ2 H2 (match cmp o d d2 S2 with
        | some true => (xe c γ S2).bind fun z S3 => match cmp o' d2 z S3 with
          | some k => .ok k S3
          | none => .stuck
        | some false => .ok false S2
        | none => .stuck) Q)) fun u s2 ⟨y, H2, I2, r2, d2, S2, ρ2, p1', p2, hE2, hS2, hP2⟩ => ?_
    · exact ⟨d2, S2, ρ2, RepV.mono hS1.out e2 p1, r2, hE2, hS2, hP2⟩
    · cases q : cmp o d d2 S2 with
      | none => rw [q] at hP2; exact hP2.elim
      | some k =>
        rw [q] at hP2
        refine thn (ho pins s2 σ H2 ρ2 S2 d d2 x y v u k (fun z H3 => z = .bl k ∧ H3 = H2) I2 r1 r2 p1' p2 hS2 q ⟨rfl, rfl⟩) fun cc s3 ⟨z, H3, I3, r3, e1, e2⟩ => ?_
        subst e1 e2
        cases r3
        refine wpAny_truthy_bool ?_
        cases k with
        | false => exact ite_ff ⟨_, I3, hP2 false _ ρ2 (Ext.refl _ _) rfl hS2⟩
        | true =>
          refine ite_tt (test_last (thn (he.run pins s3 σ H3 _ I3 (rd_bind hE2 hS2 hP2 fun w3 H4 d3 S3 ρ3 e3 r3 hE3 hS3 hP3 => ?_ : rdE T X W c xe σ H3 fun z H4 => ∃ (d3 : Vl) (S3 : Store) (ρ3 : List Addr) (k : Bool), RepV T.toTb X.K ρ3 H4 d2 y ∧ RepV T.toTb X.K ρ3 H4 d3 z ∧ RepS X.K ρ3 H4 S3 ∧ cmp o' d2 d3 S3 = some k ∧ Q k H4)) fun w' s4 ⟨z', H4, I4, r4, d3, S3, ρ3, k, a1, a2, a3, a4, a5⟩ =>
            thn (ho' pins s4 σ H4 ρ3 S3 d2 d3 y z' u w' k (fun z H5 => z = .bl k ∧ H5 = H4) I4 r2 r4 a1 a2 a3 a4 ⟨rfl, rfl⟩) fun dd s5 ⟨z5, H5, I5, r5, b1, b2⟩ => ?_))
          · cases q3 : cmp o' d2 d3 S3 with
            | none => rw [q3] at hP3; exact hP3.elim
            | some k3 =>
              rw [q3] at hP3
              exact ⟨d3, S3, ρ3, k3, RepV.mono hS2.out e3 p2, r3, hS3, q3, hP3 k3 H4 ρ3 (Ext.refl _ _) rfl hS3⟩
          · subst b1 b2
            cases r5
            exact wpAny_truthy_bool ⟨_, I5, a5⟩
theorem ok_neg {a : Expr} {xa : TEx} (ha : PE X a (rdE T X W c xa)) : PE X (.UnaryOp .USub a pos) (rdE T X W c (xNeg xa)) := by
  refine (pe_un un_neg ha).imp fun σ H Q ⟨γ, S, ρ, hE, hS, hP⟩ => rd_bind hE hS hP fun v H1 d S1 ρ1 e r hE1 hS1 hP1 => ?_
  split at hP1
  · rename_i i
    have a1 := rep_intV r
    subst a1
    exact ⟨i, rfl, old_val hS1 rep_int hP1⟩
  · exact hP1.elim
theorem rep_blV {b : Bool} {v : L2.V} (r : RepV T.toTb X.K ρ H (.d (.bool b)) v) : v = .bl b := by unfold RepV RepD at r; exact r
theorem ok_not {a : Expr} {xa : TEx} (ha : PE X a (rdE T X W c xa)) : PE X (.UnaryOp .Not a pos) (rdE T X W c (xNot xa)) := by
  refine (pe_not ha).imp fun σ H Q ⟨γ, S, ρ, hE, hS, hP⟩ => rd_bind hE hS hP fun v H1 d S1 ρ1 e r hE1 hS1 hP1 => ?_
  split at hP1
  · rename_i k
    have a1 := rep_blV r
    subst a1
    exact ⟨k, rfl, old_val hS1 rep_bl hP1⟩
  · exact hP1.elim
theorem ok_one {op : BoolOp} {a : Expr} {xa : TEx} (ha : PE X a (rdE T X W c xa)) : PE X (.BoolOp op [a] pos) (rdE T X W c xa) := pe_one ha
theorem ok_and {a b : Expr} {rest : List Expr} {xa xb : TEx} (ha : PE X a (rdE T X W c xa)) (hb : PE X (.BoolOp .And (b :: rest) pos) (rdE T X W c xb)) : PE X (.BoolOp .And (a :: b :: rest) pos) (rdE T X W c (xAnd xa xb)) := by
  refine (pe_and ha hb).imp fun σ H Q ⟨γ, S, ρ, hE, hS, hP⟩ => rd_bind hE hS hP fun v H1 d S1 ρ1 e r hE1 hS1 hP1 => ?_
  split at hP1
  · have a1 := rep_blV r
    subst a1
    exact ⟨true, rfl, by rw [if_pos rfl]; exact ⟨γ, S1, ρ1, hE1, hS1, hP1⟩⟩
  · have a1 := rep_blV r
    subst a1
    exact ⟨false, rfl, by rw [if_neg Bool.false_ne_true]; exact old_val hS1 rep_bl hP1⟩
  · exact hP1.elim
theorem ok_or {a b : Expr} {rest : List Expr} {xa xb : TEx} (ha : PE X a (rdE T X W c xa)) (hb : PE X (.BoolOp .Or (b :: rest) pos) (rdE T X W c xb)) : PE X (.BoolOp .Or (a :: b :: rest) pos) (rdE T X W c (xOr xa xb)) := by
  refine (pe_or ha hb).imp fun σ H Q ⟨γ, S, ρ, hE, hS, hP⟩ => rd_bind hE hS hP fun v H1 d S1 ρ1 e r hE1 hS1 hP1 => ?_
  split at hP1
  · have a1 := rep_blV r
    subst a1
    exact ⟨false, rfl, by rw [if_neg Bool.false_ne_true]; exact ⟨γ, S1, ρ1, hE1, hS1, hP1⟩⟩
  · have a1 := rep_blV r
    subst a1
    exact ⟨true, rfl, by rw [if_pos rfl]; exact old_val hS1 rep_bl hP1⟩
  · exact hP1.elim
theorem ok_ifx {t a b : Expr} {xt : TTs} {xa xb : TEx} (ht : PT X t (rdT T X W c xt)) (ha : PE X a (rdE T X W c xa)) (hb : PE X b (rdE T X W c xb)) : PE X (.IfExp t a b pos) (rdE T X W c (xIf xt xa xb)) := by
  refine (pe_ifExp ht ha hb).imp fun σ H Q ⟨γ, S, ρ, hE, hS, hP⟩ => rd_bind hE hS hP fun v H1 d S1 ρ1 e r hE1 hS1 hP1 => ?_
  have r' : v = d := r
  subst r'
  cases v with
  | true => rw [if_pos rfl]; exact ⟨γ, S1, ρ1, hE1, hS1, hP1⟩
  | false => rw [if_neg Bool.false_ne_true]; exact ⟨γ, S1, ρ1, hE1, hS1, hP1⟩

/-! ### tests -/
theorem okt_not {a : Expr} {ta : TTs} (ha : PT X a (rdT T X W c ta)) : PT X (.UnaryOp .Not a pos) (rdT T X W c (tNot ta)) := by
  refine (pt_not ha).imp fun σ H Q ⟨γ, S, ρ, hE, hS, hP⟩ => rd_bind hE hS hP fun v H1 d S1 ρ1 e r hE1 hS1 hP1 => ?_
  have r' : v = d := r
  subst r'
  exact hP1 _ H1 ρ1 (Ext.refl _ _) rfl hS1
theorem okw_one {op : BoolOp} {a : Expr} {ta : TTs} (ha : PT X a (rdT T X W c ta)) : PW X (.BoolOp op [a] pos) (rdT T X W c ta) := by
  cases op with
  | And => exact pw_and1 ha
  | Or => exact pw_or1 ha
theorem okw_and {a b : Expr} {rest : List Expr} {ta tb : TTs} (ha : PT X a (rdT T X W c ta)) (hb : PW X (.BoolOp .And (b :: rest) pos) (rdT T X W c tb)) : PW X (.BoolOp .And (a :: b :: rest) pos) (rdT T X W c (tAnd ta tb)) := by
  refine (pw_and ha hb).imp fun σ H Q ⟨γ, S, ρ, hE, hS, hP⟩ => rd_bind hE hS hP fun v H1 d S1 ρ1 e r hE1 hS1 hP1 => ?_
  have r' : v = d := r
  subst r'
  cases v with
  | true => rw [if_pos rfl]; exact ⟨γ, S1, ρ1, hE1, hS1, hP1⟩
  | false => rw [if_neg Bool.false_ne_true]; exact hP1 _ H1 ρ1 (Ext.refl _ _) rfl hS1
theorem okw_or {a b : Expr} {rest : List Expr} {ta tb : TTs} (ha : PT X a (rdT T X W c ta)) (hb : PW X (.BoolOp .Or (b :: rest) pos) (rdT T X W c tb)) : PW X (.BoolOp .Or (a :: b :: rest) pos) (rdT T X W c (tOr ta tb)) := by
  refine (pw_or ha hb).imp fun σ H Q ⟨γ, S, ρ, hE, hS, hP⟩ => rd_bind hE hS hP fun v H1 d S1 ρ1 e r hE1 hS1 hP1 => ?_
  have r' : v = d := r
  subst r'
  cases v with
  | false => rw [if_neg Bool.false_ne_true]; exact ⟨γ, S1, ρ1, hE1, hS1, hP1⟩
  | true => rw [if_pos rfl]; exact hP1 _ H1 ρ1 (Ext.refl _ _) rfl hS1
theorem tru_rep {x : Vl} {v : L2.V} {k : Bool} (s : RepS X.K ρ H S) (r : RepV T.toTb X.K ρ H x v) (e : tru S x = some k) : TruV X.K v H k := by
  unfold tru at e
  split at e
  · rename_i b q
    cases e
    have := now_bl (dat_rep s r q); subst this; rfl
  · rename_i q
    cases e
    have := now_non (dat_rep s r q); subst this; rfl
  · rename_i i q
    cases e
    have := now_int (dat_rep s r q); subst this; rfl
  · rename_i xs q
    cases e
    obtain ⟨a, vs, rfl, ha, ra⟩ := now_lst (dat_rep s r q)
    have hl := ra.length
    refine .inl ⟨vs, SqL.of ha, ?_⟩
    cases vs <;> cases xs <;> first | rfl | (simp at hl)
  · rename_i xs q
    cases e
    obtain ⟨a, vs, rfl, ha, ra⟩ := now_tup (dat_rep s r q)
    have hl := ra.length
    refine .inr (.inl ⟨vs, ha, ?_⟩)
    cases vs <;> cases xs <;> first | rfl | (simp at hl)
  · cases e
theorem okt_val {a : Expr} {xa : TEx} (ha : PE X a (rdE T X W c xa)) (he : ∀ whole, isTrue a X.env whole = (do let v ← whole; standAt a.pos; holding [v] (truthy v))) : PT X a (rdT T X W c (tV xa)) := by
  refine (pt_truth ha he).imp fun σ H Q ⟨γ, S, ρ, hE, hS, hP⟩ => rd_bind hE hS hP fun v H1 d S1 ρ1 e r hE1 hS1 hP1 => ?_
  cases q : tru S1 d with
  | none => rw [q] at hP1; exact hP1.elim
  | some k =>
    rw [q] at hP1
    exact ⟨k, tru_rep hS1 r q, hP1 _ H1 ρ1 (Ext.refl _ _) rfl hS1⟩

/-! ### lists of arguments, displays -/
theorem oka_nil : PA X [] (rdA T X W c aNil) := by
  refine pa_nil.imp fun σ H Q ⟨γ, S, ρ, hE, hS, hP⟩ => ?_
  exact hP [] H ρ (Ext.refl _ _) (by unfold rVs RepVs; rfl) hS
theorem oka_cons {e : Expr} {es : List Expr} {xe : TEx} {xs : TAr} (he : PE X e (rdE T X W c xe)) (hs : PA X es (rdA T X W c xs)) (hst : starEach (e :: es) X.env = (false, eval e X.env) :: starEach es X.env) : PA X (e :: es) (rdA T X W c (aCons xe xs)) := by
  refine (pa_cons he hs hst).imp fun σ H Q ⟨γ, S, ρ, hE, hS, hP⟩ => rd_bind hE hS hP fun v H1 d S1 ρ1 e1 r hE1 hS1 hP1 => rd_bind hE1 hS1 hP1 fun vs H2 ds S2 ρ2 e2 r2 hE2 hS2 hP2 => ?_
  refine hP2 (v :: vs) H2 ρ2 (Ext.refl _ _) ?_ hS2
  unfold rVs RepVs
  exact ⟨v, vs, rfl, RepV.mono hS1.out e2 r, r2⟩
theorem ok_tup {es : List Expr} {k : Nat} {xs : TAr} (h : PA X es (rdA T X W c xs)) (hn : ∀ γ S vs S', xs c γ S = .ok vs S' → vs.length ≤ 1000) : PE X (.Tuple es k pos) (rdE T X W c (xTup xs)) := by
  refine (pe_tup h).imp fun σ H Q ⟨γ, S, ρ, hE, hS, hP⟩ => ⟨γ, S, ρ, hE, hS, (Po.bind hP).imp fun vs H1 ⟨ds, S1, ρ1, e1, r, hS1, em, hP1⟩ => ?_⟩
  have hlen := hn _ _ _ _ em
  refine ⟨by rw [r.length, sizeLine_eq]; omega, fun p hp => ?_⟩
  unfold mkTup at hP1
  cases q : allD ds with
  | some xs =>
    rw [q] at hP1
    exact new_tup hS1 (RepVs.data q r) hP1 hp
  | none =>
    rw [q] at hP1
    refine hP1 _ _ ρ1 (Ext.new hp) ?_ (hS1.new hp)
    unfold rV RepV
    exact ⟨p, vs, rfl, SqT.of upd_same, RepVs.mono hS1.out (Ext.new hp) r⟩
theorem ok_lst {m : Bool} {es : List Expr} {xs : TAr} (h : PA X es (rdA T X W c xs)) (hn : ∀ γ S vs S', xs c γ S = .ok vs S' → vs.length ≤ 1000) : PE X (.List es pos) (rdE T X W c (xLst m xs)) := by
  refine (pe_lst h).imp fun σ H Q ⟨γ, S, ρ, hE, hS, hP⟩ => ⟨γ, S, ρ, hE, hS, (Po.bind hP).imp fun vs H1 ⟨ds, S1, ρ1, e1, r, hS1, em, hP1⟩ => ?_⟩
  have hlen := hn _ _ _ _ em
  refine ⟨by rw [r.length, sizeLine_eq]; omega, fun p hp => ?_⟩
  cases q : allD ds with
  | some xs =>
    rw [q] at hP1
    exact new_lst hS1 (RepVs.data q r) hP1 hp
  | none => rw [q] at hP1; exact hP1.elim
end
end Mk
/-! Mk7: subscripts, slices, built-ins, calls. -/
namespace Mk
open PySem PySem.Spec PyProof.Rows L2
section
variable {T : Tx} {X : Cx} {W : WX} {c : Cl} {σ : L2.St} {ρ : List Addr} {H : Hp} {γ : Env} {S : Store} {pos : Pos}
/-! ### o[i] -/
theorem at_eq {α : Type} (xs : List α) (i : Int) : atI xs i = at? xs i := by
  unfold atI at? ixN
  by_cases h0 : 0 ≤ i
  · rw [if_pos h0, if_pos h0]
    by_cases h1 : i < xs.length
    · rw [if_pos h1]; rfl
    · rw [if_neg h1]
      exact (List.getElem?_eq_none (by omega)).symm
  · rw [if_neg h0, if_neg h0]
    by_cases h1 : -(xs.length : Int) ≤ i
    · rw [if_pos h1, if_pos h1]; rfl
    · rw [if_neg h1, if_neg h1]; rfl
theorem at_get {α : Type} {xs : List α} {i : Int} {v : α} (h : at? xs i = some v) : ∃ j : Nat, xs[j]? = some v ∧ ∀ {β : Type} (ys : List β), ys.length = xs.length → at? ys i = ys[j]? := by
  unfold at? at h
  by_cases h0 : 0 ≤ i
  · rw [if_pos h0] at h
    exact ⟨_, h, fun ys _ => by unfold at?; rw [if_pos h0]⟩
  · rw [if_neg h0] at h
    by_cases h1 : -(xs.length : Int) ≤ i
    · rw [if_pos h1] at h
      exact ⟨_, h, fun ys e => by unfold at?; rw [if_neg h0, if_pos (by rw [e]; exact h1), e]⟩
    · rw [if_neg h1] at h; cases h
theorem RepDs.at {xs : List D} {vs : List L2.V} {i : Int} {x : D} (r : RepDs X.K ρ H xs vs) (h : at? xs i = some x) : ∃ v, atI vs i = some v ∧ RepD X.K ρ H x v := by
  obtain ⟨j, e1, e2⟩ := at_get h
  obtain ⟨v, e3, q⟩ := r.get e1
  exact ⟨v, by rw [at_eq, e2 vs r.length]; exact e3, q⟩
theorem ok_ix {a b : Expr} {xa xb : TEx} (ha : PE X a (rdE T X W c xa)) (hb : PE X b (rdE T X W c xb)) (hp : PlainIx b) : PE X (.Subscript a b pos) (rdE T X W c (xIx xa xb)) := by
  refine (pe_ix ix_seq ha hb hp).imp fun σ H Q ⟨γ, S, ρ, hE, hS, hP⟩ => rd_bind hE hS hP fun v H1 d S1 ρ1 e r hE1 hS1 hP1 => rd_bind hE1 hS1 hP1 fun w H2 d2 S2 ρ2 e2 r2 hE2 hS2 hP2 => ?_
  have r' := RepV.mono hS1.out e2 r
  unfold ix at hP2
  split at hP2
  · rename_i xs i q
    obtain ⟨a, vs, rfl, ha, ra⟩ := now_lst (dat_rep hS2 r' q)
    have a2 := rep_intV r2
    subst a2
    cases q2 : at? xs i with
    | none => rw [q2] at hP2; exact hP2.elim
    | some x =>
      rw [q2] at hP2
      obtain ⟨v, e3, q3⟩ := ra.at q2
      exact .inl ⟨a, vs, i, v, rfl, rfl, SqL.of ha, e3, old_val hS2 (by unfold RepV; exact q3) hP2⟩
  · rename_i xs i q
    obtain ⟨a, vs, rfl, ha, ra⟩ := now_tup (dat_rep hS2 r' q)
    have a2 := rep_intV r2
    subst a2
    cases q2 : at? xs i with
    | none => rw [q2] at hP2; exact hP2.elim
    | some x =>
      rw [q2] at hP2
      obtain ⟨v, e3, q3⟩ := ra.at q2
      exact .inr (.inl ⟨a, vs, i, v, rfl, rfl, ha, e3, old_val hS2 (by unfold RepV; exact q3) hP2⟩)
  · unfold ixS at hP2
    split at hP2
    · rename_i xs i _ _
      unfold RepV at r'
      obtain ⟨a, vs, rfl, ha, ra⟩ := r'
      have a2 := rep_intV r2
      subst a2
      cases q2 : at? xs i with
      | none => rw [q2] at hP2; exact hP2.elim
      | some x =>
        rw [q2] at hP2
        obtain ⟨v, e3, q3⟩ := ra.at q2
        exact .inl ⟨a, vs, i, v, rfl, rfl, ha.sq, e3, old_val hS2 (by unfold RepV; exact q3) hP2⟩
    · exact hP2.elim
/-! ### slices -/
theorem sIx_eq (n d : Nat) (hd : d ≤ n) (o : Option Int) : HT.sIx n d o = sIx n d o := by
  cases o with
  | none => rfl
  | some v =>
    have h1 := HT.clip_eq v n d
    unfold sIx
    dsimp only
    split
    · rename_i h
      rw [if_pos h] at h1
      omega
    · rename_i h
      rw [if_neg h] at h1
      omega
theorem cut_eq (vs : List L2.V) (lo hi : Option Int) : cutV vs lo hi = cut vs lo hi := by
  unfold cutV cut
  rw [sIx_eq _ _ (Nat.zero_le _), sIx_eq _ _ (Nat.le_refl _)]
theorem RepDs.cut {xs : List D} {vs : List L2.V} (r : RepDs X.K ρ H xs vs) (lo hi : Option Int) : RepDs X.K ρ H (cut xs lo hi) (Mk.cut vs lo hi) := by
  unfold Mk.cut
  rw [r.length]
  exact (r.drop _).take _
abbrev rdP (T : Tx) (X : Cx) (W : WX) (c : Cl) (x : TPt) : TO := rdG T X W (fun _ _ (o : Option Int) (o' : Option Int) => o' = o) c x
theorem okp_no : PO X none (rdP T X W c pNo) := ⟨fun pins s σ H Q I ⟨γ, S, ρ, hE, hS, hP⟩ => po_none.run pins s σ H Q I (hP none H ρ (Ext.refl _ _) rfl hS)⟩
theorem okp_some {a : Expr} {xa : TEx} (ha : PE X a (rdE T X W c xa)) : PO X (some a) (rdP T X W c (pSome xa)) := ⟨fun pins s σ H Q I ⟨γ, S, ρ, hE, hS, hP⟩ => by
  refine (po_some ha).run pins s σ H Q I (rd_bind hE hS hP fun v H1 d S1 ρ1 e r hE1 hS1 hP1 => ?_)
  split at hP1
  · rename_i i
    have a2 := rep_intV r
    subst a2
    exact ⟨i, rfl, hP1 _ H1 ρ1 (Ext.refl _ _) rfl hS1⟩
  · exact hP1.elim⟩
theorem ok_sl {m : Bool} {a : Expr} {lo hi : Option Expr} {xa : TEx} {l h : TPt} {p2 : Pos} (ha : PE X a (rdE T X W c xa)) (hl : PO X lo (rdP T X W c l)) (hh : PO X hi (rdP T X W c h)) : PE X (.Subscript a (.Slice lo hi none p2) pos) (rdE T X W c (xSl m xa l h)) := by
  refine (pe_slice (sl_list.or sl_tupA) ha hl hh).imp fun σ H Q ⟨γ, S, ρ, hE, hS, hP⟩ => rd_bind hE hS hP fun v H1 d S1 ρ1 e r hE1 hS1 hP1 => rd_bind hE1 hS1 hP1 fun lo' H2 lo S2 ρ2 e2 r2 hE2 hS2 hP2 => rd_bind hE2 hS2 hP2 fun hi' H3 hi S3 ρ3 e3 r3 hE3 hS3 hP3 => ?_
  have r' := RepV.mono hS2.out e3 (RepV.mono hS1.out e2 r)
  have r2' : lo' = lo := r2
  have r3' : hi' = hi := r3
  subst r2' r3'
  unfold sl at hP3
  split at hP3
  · rename_i xs q
    obtain ⟨a, vs, rfl, ha, ra⟩ := now_lst (dat_rep hS3 r' q)
    exact .inl ⟨a, vs, rfl, SqL.of ha, fun p hp => by rw [cut_eq]; exact new_lst hS3 (ra.cut _ _) hP3 hp⟩
  · rename_i xs q
    obtain ⟨a, vs, rfl, ha, ra⟩ := now_tup (dat_rep hS3 r' q)
    refine .inr ⟨a, vs, rfl, ha, fun ⟨q1, q2⟩ => ?_, fun _ p hp => by rw [cut_eq]; exact new_tup hS3 (ra.cut _ _) hP3 hp⟩
    have ec : cut xs lo' hi' = xs := by
      unfold cut
      rw [sIx_eq _ _ (Nat.zero_le _), ra.length] at q1
      rw [sIx_eq _ _ (Nat.le_refl _), ra.length] at q2
      rw [q1, q2]
      simp
    rw [ec] at hP3
    exact old_val hS3 (by unfold RepV RepD; exact ⟨a, vs, rfl, ha, ra⟩) hP3
  · exact hP3.elim
theorem ok_rev {m : Bool} {a : Expr} {xa : TEx} {k : Nat} {p1 p2 p3 : Pos} (ha : PE X a (rdE T X W c xa)) : PE X (.Subscript a (.Slice none none (some (.UnaryOp .USub (.Constant (.int 1) k p1) p2)) p3) pos) (rdE T X W c (xRev m xa)) := by
  refine (pe_revL ha).imp fun σ H Q ⟨γ, S, ρ, hE, hS, hP⟩ => rd_bind hE hS hP fun v H1 d S1 ρ1 e r hE1 hS1 hP1 => ?_
  split at hP1
  · rename_i xs q
    obtain ⟨a, vs, rfl, ha, ra⟩ := now_lst (dat_rep hS1 r q)
    exact ⟨a, vs, rfl, SqL.of ha, fun p hp => new_lst hS1 ra.reverse hP1 hp⟩
  · exact hP1.elim

/-! ### built-ins -/
/-- a built-in's call on values -/
def BiV (T : Tx) (X : Cx) (W : WX) (f : Value) (o : List Vl → Store → R Vl) : Prop :=
  ∀ (pins : List (Addr × Obj)) (s : Shared) (σ : L2.St) (H : Hp) (ρ : List Addr) (S : Store) (xs : List Vl) (vs : List L2.V) (us : List Value) (Q : VK), Inv X pins σ H s → Vals vs us →
    RepVs T.toTb X.K ρ H xs vs → RepS X.K ρ H S → Po T X W (rV T X) σ ρ H (o xs S) Q → wpAny (model X.prog X.w) X.A (call f us) (EP X pins σ Q) X.xe s
theorem biv_of {f : Value} {r : List L2.V → Hp → VK → Prop} {o : List Vl → Store → R Vl} (h : CallR X f r)
    (k : ∀ (σ : L2.St) (H : Hp) (ρ : List Addr) (S : Store) (xs : List Vl) (vs : List L2.V) (Q : VK), RepVs T.toTb X.K ρ H xs vs → RepS X.K ρ H S → Po T X W (rV T X) σ ρ H (o xs S) Q → r vs H Q) : BiV T X W f o :=
  fun pins s σ H ρ S xs vs us Q I r1 p hs hP => h pins s σ H vs us Q I r1 (k σ H ρ S xs vs Q p hs hP)
theorem repvs1 {x : Vl} {vs : List L2.V} (h : RepVs T.toTb X.K ρ H [x] vs) : ∃ v, vs = [v] ∧ RepV T.toTb X.K ρ H x v := by
  unfold RepVs at h
  obtain ⟨v, r, rfl, h1, h2⟩ := h
  unfold RepVs at h2
  subst h2
  exact ⟨v, rfl, h1⟩
theorem repvs2 {x y : Vl} {vs : List L2.V} (h : RepVs T.toTb X.K ρ H [x, y] vs) : ∃ v w, vs = [v, w] ∧ RepV T.toTb X.K ρ H x v ∧ RepV T.toTb X.K ρ H y w := by
  unfold RepVs at h
  obtain ⟨v, r, rfl, h1, h2⟩ := h
  obtain ⟨w, rfl, h3⟩ := repvs1 h2
  exact ⟨v, w, rfl, h1, h3⟩
theorem one_of {f : Vl → Store → R Vl} {xs : List Vl} {S : Store} {Q : VK} (hP : Po T X W (rV T X) σ ρ H (match xs with
  | [x] => f x S
  | _ => .stuck) Q) : ∃ x, xs = [x] ∧ Po T X W (rV T X) σ ρ H (f x S) Q := by
  split at hP
  · exact ⟨_, rfl, hP⟩
  · exact hP.elim
theorem biv_len : BiV T X W (.builtin "len") bLen := by
  refine biv_of (call_len_seq.or call_len_str) fun σ H ρ S xs vs Q p hs hP => ?_
  unfold bLen at hP
  split at hP
  case h_3 => exact hP.elim
  · obtain ⟨v, rfl, r⟩ := repvs1 p
    unfold RepV at r
    obtain ⟨a, vs, rfl, ha, ra⟩ := r
    exact .inl ⟨a, vs, rfl, .inl ha.sq, by rw [ra.length]; exact old_val hs rep_int hP⟩
  obtain ⟨v, rfl, r⟩ := repvs1 p
  split at hP
  · rename_i xs q
    obtain ⟨a, vs, rfl, ha, ra⟩ := now_lst (dat_rep hs r q)
    exact .inl ⟨a, vs, rfl, .inl (SqL.of ha), by rw [ra.length]; exact old_val hs rep_int hP⟩
  · rename_i xs q
    obtain ⟨a, vs, rfl, ha, ra⟩ := now_tup (dat_rep hs r q)
    exact .inl ⟨a, vs, rfl, .inr ha, by rw [ra.length]; exact old_val hs rep_int hP⟩
  · rename_i z q
    have := now_str (dat_rep hs r q)
    subst this
    split at hP
    · rename_i hl
      exact .inr ⟨z, rfl, by rw [line_eq]; exact hl, old_val hs rep_int hP⟩
    · exact hP.elim
  · exact hP.elim
theorem biv_abs : BiV T X W (.builtin "abs") bAbs := by
  refine biv_of call_abs fun σ H ρ S xs vs Q p hs hP => ?_
  unfold bAbs at hP
  split at hP
  · obtain ⟨v, rfl, r⟩ := repvs1 p
    have := rep_intV r
    subst this
    exact ⟨_, rfl, old_val hs rep_int hP⟩
  · exact hP.elim
theorem biv_max (hc : X.calm = true) : BiV T X W (.builtin "max") bMax := by
  refine biv_of (call_max2 hc) fun σ H ρ S xs vs Q p hs hP => ?_
  unfold bMax at hP
  split at hP
  · obtain ⟨v, w, rfl, r, r2⟩ := repvs2 p
    have := rep_intV r
    have := rep_intV r2
    subst_vars
    exact ⟨_, _, rfl, old_val hs rep_int hP⟩
  · exact hP.elim
theorem biv_min (hc : X.calm = true) : BiV T X W (.builtin "min") bMin := by
  refine biv_of (call_min2 hc) fun σ H ρ S xs vs Q p hs hP => ?_
  unfold bMin at hP
  split at hP
  · obtain ⟨v, w, rfl, r, r2⟩ := repvs2 p
    have := rep_intV r
    have := rep_intV r2
    subst_vars
    exact ⟨_, _, rfl, old_val hs rep_int hP⟩
  · exact hP.elim
theorem biv_int : BiV T X W (.type "int") bInt := by
  refine biv_of call_int1 fun σ H ρ S xs vs Q p hs hP => ?_
  unfold bInt at hP
  split at hP
  · obtain ⟨v, rfl, r⟩ := repvs1 p
    have := rep_intV r
    subst this
    exact .inl ⟨_, rfl, old_val hs rep_int hP⟩
  · obtain ⟨v, rfl, r⟩ := repvs1 p
    have := rep_blV r
    subst this
    exact .inr ⟨_, rfl, old_val hs rep_int hP⟩
  · exact hP.elim
theorem biv_list {m : Bool} : BiV T X W (.type "list") (bList m) := by
  refine biv_of call_list_of fun σ H ρ S xs vs Q p hs hP => ?_
  unfold bList at hP
  split at hP
  case h_2 => exact hP.elim
  obtain ⟨v, rfl, r⟩ := repvs1 p
  split at hP
  · rename_i xs q
    obtain ⟨a, vs, rfl, ha, ra⟩ := now_lst (dat_rep hs r q)
    exact ⟨a, vs, rfl, .inl (SqL.of ha), fun l hl => new_lst hs ra hP hl⟩
  · rename_i xs q
    obtain ⟨a, vs, rfl, ha, ra⟩ := now_tup (dat_rep hs r q)
    exact ⟨a, vs, rfl, .inr ha, fun l hl => new_lst hs ra hP hl⟩
  · exact hP.elim
theorem biv_tuple : BiV T X W (.type "tuple") bTuple := by
  refine biv_of call_tuple_of fun σ H ρ S xs vs Q p hs hP => ?_
  unfold bTuple at hP
  split at hP
  case h_2 => exact hP.elim
  obtain ⟨v, rfl, r⟩ := repvs1 p
  split at hP
  · rename_i xs q
    obtain ⟨a, vs, rfl, ha, ra⟩ := now_lst (dat_rep hs r q)
    exact ⟨a, vs, rfl, .inl ⟨SqL.of ha, fun l hl => new_tup hs ra hP hl⟩⟩
  · rename_i xs q
    obtain ⟨a, vs, rfl, ha, ra⟩ := now_tup (dat_rep hs r q)
    exact ⟨a, vs, rfl, .inr ⟨ha, old_val hs (by unfold RepV RepD; exact ⟨a, vs, rfl, ha, ra⟩) hP⟩⟩
  · exact hP.elim
theorem allT_bools : ∀ {xs : List D} {b : Bool}, allT xs = some b → PyData.plainAll xs = true ∧ (∀ x ∈ xs, x.fits63) ∧ xs.all PyData.truthy = b
  | [], b, h => by cases h; exact ⟨rfl, by simp, rfl⟩
  | x :: xs, b, h => by
    cases x with
    | bool k =>
      unfold allT at h
      cases k with
      | true =>
        have h' : allT xs = some b := h
        obtain ⟨a1, a2, a3⟩ := allT_bools h'
        refine ⟨by rw [PyData.plainAll, a1]; rfl, fun y hy => ?_, by rw [List.all_cons, a3]; rfl⟩
        rcases List.mem_cons.mp hy with e | e
        · subst e; trivial
        · exact a2 y e
      | false =>
        cases q : allT xs with
        | none => simp only [truD, q] at h; cases h
        | some k =>
          simp only [truD, q] at h
          cases h
          obtain ⟨a1, a2, a3⟩ := allT_bools q
          refine ⟨by rw [PyData.plainAll, a1]; rfl, fun y hy => ?_, by rw [List.all_cons]; rfl⟩
          rcases List.mem_cons.mp hy with e | e
          · subst e; trivial
          · exact a2 y e
    | _ => cases h
theorem anyT_bools : ∀ {xs : List D} {b : Bool}, anyT xs = some b → PyData.plainAll xs = true ∧ (∀ x ∈ xs, x.fits63) ∧ xs.any PyData.truthy = b
  | [], b, h => by cases h; exact ⟨rfl, by simp, rfl⟩
  | x :: xs, b, h => by
    cases x with
    | bool k =>
      unfold anyT at h
      cases k with
      | false =>
        have h' : anyT xs = some b := h
        obtain ⟨a1, a2, a3⟩ := anyT_bools h'
        refine ⟨by rw [PyData.plainAll, a1]; rfl, fun y hy => ?_, by rw [List.any_cons, a3]; rfl⟩
        rcases List.mem_cons.mp hy with e | e
        · subst e; trivial
        · exact a2 y e
      | true =>
        cases q : anyT xs with
        | none => simp only [truD, q] at h; cases h
        | some k =>
          simp only [truD, q] at h
          cases h
          obtain ⟨a1, a2, a3⟩ := anyT_bools q
          refine ⟨by rw [PyData.plainAll, a1]; rfl, fun y hy => ?_, by rw [List.any_cons]; rfl⟩
          rcases List.mem_cons.mp hy with e | e
          · subst e; trivial
          · exact a2 y e
    | _ => cases h
theorem biv_all (hc : X.calm = true) : BiV T X W (.builtin "all") bAll := by
  intro pins s σ H ρ S xs vs us Q I r1 p hs hP
  unfold bAll at hP
  split at hP
  case h_2 => exact hP.elim
  obtain ⟨v, rfl, r⟩ := repvs1 p
  obtain ⟨u, rfl, ru⟩ := vals1 r1
  split at hP
  · rename_i xs q
    obtain ⟨a, vs, rfl, ha, ra⟩ := now_lst (dat_rep hs r q)
    cases ru
    cases q2 : allT xs with
    | none => rw [q2] at hP; exact hP.elim
    | some b =>
      rw [q2] at hP
      obtain ⟨a1, a2, a3⟩ := allT_bools q2
      obtain ⟨its, rv, pl, hz⟩ := I.list (SqL.of ha)
      obtain ⟨as, rd⟩ := ra.reads I rv
      refine PySem.W.all_list_data (I.ok.hd hc) pl.isList (by simpa using rd) a1 a2 fun h' tk k => ⟨.bl b, H, I.kept k, by rw [a3]; rfl, old_val hs rep_bl hP⟩
  · exact hP.elim
theorem biv_any (hc : X.calm = true) : BiV T X W (.builtin "any") bAny := by
  intro pins s σ H ρ S xs vs us Q I r1 p hs hP
  unfold bAny at hP
  split at hP
  case h_2 => exact hP.elim
  obtain ⟨v, rfl, r⟩ := repvs1 p
  obtain ⟨u, rfl, ru⟩ := vals1 r1
  split at hP
  · rename_i xs q
    obtain ⟨a, vs, rfl, ha, ra⟩ := now_lst (dat_rep hs r q)
    cases ru
    cases q2 : anyT xs with
    | none => rw [q2] at hP; exact hP.elim
    | some b =>
      rw [q2] at hP
      obtain ⟨a1, a2, a3⟩ := anyT_bools q2
      obtain ⟨its, rv, pl, hz⟩ := I.list (SqL.of ha)
      obtain ⟨as, rd⟩ := ra.reads I rv
      refine PySem.W.any_list_data (I.ok.hd hc) pl.isList (by simpa using rd) a1 a2 fun h' tk k => ⟨.bl b, H, I.kept k, by rw [a3]; rfl, old_val hs rep_bl hP⟩
  · exact hP.elim
theorem sumI_ints : ∀ {xs : List D} {n : Int} {vs : List L2.V}, sumI xs = some n → RepDs X.K ρ H xs vs → ∃ ns : List Int, vs = ns.map V.int ∧ ns.sum = n
  | [], n, vs, h, r => by
    cases h
    unfold RepDs at r
    subst r
    exact ⟨[], rfl, rfl⟩
  | x :: xs, n, vs, h, r => by
    cases x with
    | int i =>
      unfold sumI at h
      cases q : sumI xs with
      | none => rw [q] at h; cases h
      | some k =>
        rw [q] at h
        cases h
        unfold RepDs at r
        obtain ⟨v, w, rfl, h1, h2⟩ := r
        unfold RepD at h1
        subst h1
        obtain ⟨ns, rfl, e⟩ := sumI_ints q h2
        exact ⟨i :: ns, rfl, by rw [List.sum_cons, e]⟩
    | _ => cases h
theorem biv_sum (hc : X.calm = true) : BiV T X W (.builtin "sum") bSum := by
  refine biv_of (cr_sum hc) fun σ H ρ S xs vs Q p hs hP => ?_
  unfold bSum at hP
  split at hP
  case h_2 => exact hP.elim
  obtain ⟨v, rfl, r⟩ := repvs1 p
  split at hP
  · rename_i xs q
    obtain ⟨a, vs, rfl, ha, ra⟩ := now_lst (dat_rep hs r q)
    cases q2 : sumI xs with
    | none => rw [q2] at hP; exact hP.elim
    | some n =>
      rw [q2] at hP
      obtain ⟨ns, rfl, e⟩ := sumI_ints q2 ra
      subst e
      exact ⟨a, ns, rfl, SqL.of ha, old_val hs rep_int hP⟩
  · exact hP.elim
theorem reprOk_of {x : D} (h : reprOk x = true) : x.showable = true ∧ x.hasDict = false ∧ x.depth ≤ 60 ∧ x.shown.length ≤ sizeLine := by
  unfold reprOk at h
  simp only [Bool.and_eq_true, Bool.not_eq_true', decide_eq_true_eq] at h
  obtain ⟨⟨⟨h1, h2⟩, h3⟩, h4⟩ := h
  exact ⟨h1, h2, h3, by rw [line_eq]; exact h4⟩
end
end Mk
/-! Mk8: repr, isinstance, calls of built-ins, of defs. -/
namespace Mk
open PySem PySem.Spec PyProof.Rows L2
section
variable {T : Tx} {X : Cx} {W : WX} {c : Cl} {σ : L2.St} {ρ ρ' : List Addr} {H H' : Hp} {γ : Env} {S : Store} {pos : Pos}
theorem biv_repr (hg : X.A.guards = some []) (hu : X.A.units + 100 < cLine) : BiV T X W (.builtin "repr") bRepr := by
  intro pins s σ H ρ S xs vs us Q I r1 p hs hP
  unfold bRepr at hP
  split at hP
  case h_2 => exact hP.elim
  obtain ⟨v, rfl, r⟩ := repvs1 p
  obtain ⟨u, rfl, ru⟩ := vals1 r1
  split at hP
  case h_2 => exact hP.elim
  rename_i d q
  split at hP
  case isFalse => exact hP.elim
  rename_i ok
  obtain ⟨k1, k2, k3, k4⟩ := reprOk_of ok
  have rn := dat_rep hs r q
  have fin : ∀ (s' : Shared) (t : Tok), Inv X pins σ H s' → EP X pins σ Q (.str d.shown t) s' := fun s' t I' => ⟨.str d.shown, H, I', ⟨t, rfl⟩, old_val hs rep_str hP⟩
  have sq : ∀ (a : Addr) (as : List Addr), u = .ref a → Reads s.heap (.ref a) d as → wpAny (model X.prog X.w) X.A (call (.builtin "repr") [u]) (EP X pins σ Q) X.xe s := fun a as e rd => by
    subst e
    exact repr_of_reads' rd k1 (fun h => by rw [k2] at h; cases h) hg (by omega) (fun _ _ e => e) (fun h' t tk k => fin _ _ (I.kept k)) k4
  obtain ⟨as, rd⟩ := rn.reads I ru
  cases d with
  | none =>
    have := now_non rn; subst this; cases ru
    exact PySem.P.repr_of_none (fin _ _ (I.tok _))
  | bool b =>
    have := now_bl rn; subst this; cases ru
    exact PySem.P.repr_of_bool (fin _ _ (I.tok _))
  | int i =>
    have := now_int rn; subst this; obtain ⟨t, rfl⟩ := ru
    exact PySem.P.repr_of_int (by simpa [PyData.showable] using k1) (fin _ _ (I.tok _))
  | str z =>
    have := now_str rn; subst this; obtain ⟨t, rfl⟩ := ru
    exact PySem.P.repr_of_str (fin _ _ (I.tok _)) (by simpa [PyData.shown] using k4)
  | tuple ys =>
    obtain ⟨a, vs, rfl, _, _⟩ := now_tup rn
    cases ru
    exact sq a _ rfl rd
  | list ys =>
    obtain ⟨a, vs, rfl, _, _⟩ := now_lst rn
    cases ru
    exact sq a _ rfl rd
  | dict kvs => simp [PyData.hasDict] at k2

/-! ### isinstance -/
def tyN : Ty → String
  | .int => "int"
  | .bool => "bool"
  | .str => "str"
  | .tuple => "tuple"
  | .list => "list"
  | .dict => "dict"
  | .none => "NoneType"
def rIsD (K : PySem.W.Frag) (t : Ty) : List L2.V → Hp → VK → Prop := fun xs H Q => ∃ (x : L2.V) (d : D) (ρ : List Addr), xs = [x, .ty (tyN t)] ∧ NowD K ρ H d x ∧ Q (.bl (isA t d)) H
theorem vals2 {x y : L2.V} {us : List Value} (h : Vals [x, y] us) : ∃ u w, us = [u, w] ∧ RelV x u ∧ RelV y w := by
  cases h with
  | cons r h =>
    cases h with
    | cons r2 h =>
      cases h
      exact ⟨_, _, rfl, r, r2⟩
theorem call_isD {t : Ty} : CallR X (.builtin "isinstance") (rIsD X.K t) := by
  intro pins s σ H xs us Q I r1 ⟨x, d, ρ, e, rn, q⟩
  subst e
  obtain ⟨u, w, rfl, ru, rw'⟩ := vals2 r1
  cases rw'
  obtain ⟨as, rd⟩ := rn.reads I ru
  have fin : ∀ tk, EP X pins σ Q (.bool (isA t d)) { s with toks := tk } := fun tk => ⟨.bl (isA t d), H, I.tok _, rfl, q⟩
  cases t with
  | int => exact PySem.W.isinstance_int_data rd fun tk _ => fin tk
  | bool => exact PySem.W.isinstance_bool_data rd fun tk _ => fin tk
  | str => exact PySem.W.isinstance_str_data rd fun tk _ => fin tk
  | tuple => exact PySem.W.isinstance_tuple_data rd fun tk _ => fin tk
  | list => exact PySem.W.isinstance_list_data rd fun tk _ => fin tk
  | dict => exact PySem.W.isinstance_dict_data rd fun tk _ => fin tk
  | none => exact PySem.W.isinstance_NoneType_data rd fun tk _ => fin tk
/-! ### built-ins by name -/
theorem pa_ty {x : Str} {n : String} {a : Expr} {ta : TE} {p : Pos} (ha : PE X a ta) (hg : Gl X x) (hm : X.mg x = none) (hv : bootBuiltins x = some (.type n)) (hn : x ≠ "__name__") (hd : (x == ("__debug__" : Str)) = false)
    (hs : starEach [a, .Name x p] X.env = (false, eval a X.env) :: starEach [.Name x p] X.env) : PA X [a, .Name x p] (tCons ta (tCons (tC (.ty n)) tNil)) := pa_cons ha (pa_cons (pe_bltn hg hm hv rfl hn hd) pa_nil rfl) hs
theorem ok_is {t : Ty} {x : Str} {a : Expr} {xa : TEx} {p p2 : Pos} (ha : PE X a (rdE T X W c xa)) (hgi : Gl X "isinstance") (hmi : X.mg "isinstance" = none) (hg : Gl X x) (hm : X.mg x = none) (hv : bootBuiltins x = some (.type (tyN t))) (hn : x ≠ "__name__") (hd : (x == ("__debug__" : Str)) = false)
    (hs : starEach [a, .Name x p2] X.env = (false, eval a X.env) :: starEach [.Name x p2] X.env) : PE X (.Call (.Name "isinstance" p) [a, .Name x p2] [] pos) (rdE T X W c (xIs xa t)) := by
  refine (pe_callB (call_isD (t := t)) hgi hmi boot_isinstance (pa_ty ha hg hm hv hn hd hs) (by decide) (by decide) hs rfl).imp fun σ H Q ⟨γ, S, ρ, hE, hS, hP⟩ => rd_bind hE hS hP fun v H1 d S1 ρ1 e r hE1 hS1 hP1 => ?_
  cases q : dat S1 d with
  | none => rw [q] at hP1; exact hP1.elim
  | some y =>
    rw [q] at hP1
    exact ⟨v, y, ρ1, rfl, dat_rep hS1 r q, old_val hS1 rep_bl hP1⟩
/-- f(e, ..) of a built-in function -/
theorem ok_biB {f : String} {x : Str} {o : List Vl → Store → R Vl} {e : Expr} {es : List Expr} {xa : TAr} {p : Pos} (hb : BiV T X W (.builtin f) o) (ha : PA X (e :: es) (rdA T X W c xa)) (hg : Gl X x) (hm : X.mg x = none) (hv : bootBuiltins x = some (.builtin f)) (hn : x ≠ "__name__") (hd : (x == ("__debug__" : Str)) = false)
    (he : starEach (e :: es) X.env = (false, eval e X.env) :: starEach es X.env) (hpl : (backTo pos (starEach es X.env)).any (·.1) = false) : PE X (.Call (.Name x p) (e :: es) [] pos) (rdE T X W c (xB o xa)) := by
  refine ⟨fun pins s σ H Q I ⟨γ, S, ρ, hE, hS, hP⟩ => ?_⟩
  refine wpAny_Call_Name_kw (ld_blt I hg hm hv ?_ hn hd)
  refine PyProof.Rows.callWith_builtin1 (thn (ha.run pos pins s σ H _ I (rd_bind hE hS hP fun vs H1 ds S1 ρ1 e1 r hE1 hS1 hP1 => (⟨ds, S1, ρ1, r, hS1, hP1⟩ : ∃ (ds : List Vl) (S1 : Store) (ρ1 : List Addr), RepVs T.toTb X.K ρ1 H1 ds vs ∧ RepS X.K ρ1 H1 S1 ∧ Po T X W (rV T X) σ ρ1 H1 (o ds S1) Q))) fun us s1 ⟨vs, H1, I1, r1, ds, S1, ρ1, q1, q2, q3⟩ => ?_) he hpl
  exact hb pins s1 σ H1 ρ1 S1 ds vs us Q I1 r1 q1 q2 q3
/-- T(e, ..) of a built-in type -/
theorem ok_biT {f : String} {x : Str} {o : List Vl → Store → R Vl} {e : Expr} {es : List Expr} {xa : TAr} {p : Pos} (hb : BiV T X W (.type f) o) (ha : PA X (e :: es) (rdA T X W c xa)) (hg : Gl X x) (hm : X.mg x = none) (hv : bootBuiltins x = some (.type f)) (hn : x ≠ "__name__") (hd : (x == ("__debug__" : Str)) = false)
    (he : starEach (e :: es) X.env = (false, eval e X.env) :: starEach es X.env) (hpl : (backTo pos (starEach es X.env)).any (·.1) = false) : PE X (.Call (.Name x p) (e :: es) [] pos) (rdE T X W c (xB o xa)) := by
  refine ⟨fun pins s σ H Q I ⟨γ, S, ρ, hE, hS, hP⟩ => ?_⟩
  refine wpAny_Call_Name_kw (ld_blt I hg hm hv ?_ hn hd)
  refine PyProof.Rows.callWith_type1 (thn (ha.run pos pins s σ H _ I (rd_bind hE hS hP fun vs H1 ds S1 ρ1 e1 r hE1 hS1 hP1 => (⟨ds, S1, ρ1, r, hS1, hP1⟩ : ∃ (ds : List Vl) (S1 : Store) (ρ1 : List Addr), RepVs T.toTb X.K ρ1 H1 ds vs ∧ RepS X.K ρ1 H1 S1 ∧ Po T X W (rV T X) σ ρ1 H1 (o ds S1) Q))) fun us s1 ⟨vs, H1, I1, r1, ds, S1, ρ1, q1, q2, q3⟩ => ?_) he hpl
  exact hb pins s1 σ H1 ρ1 S1 ds vs us Q I1 r1 q1 q2 q3

/-! ### defs -/
/-- what a call promises -/
def PoF (T : Tx) (K : PySem.W.Frag) (ρ : List Addr) (H : Hp) (m : R Vl) (Q : VK) (E : XK) : Prop := match m with
  | .ok d S' => ∀ v H' ρ', Ext ρ ρ' H H' → RepV T.toTb K ρ' H' d v → RepS K ρ' H' S' → Q v H'
  | .er k x S' => ∀ cls dd H' ρ', Ext ρ ρ' H H' → RepS K ρ' H' S' → RepX T K ρ' H' k x cls dd → E cls dd H'
  | .stuck => False
theorem Po.toF {m : R Vl} {Q : VK} (h : Po T X W (rV T X) σ ρ H m Q) : PoF T X.K ρ H m Q fun cls dd H' => W cls dd σ H' := by
  cases m <;> exact h
def spF (T : Tx) (K : PySem.W.Frag) (np : Nat) (f : List Vl → Store → R Vl) : Sp := fun vs H Q E => ∃ (args : List Vl) (S : Store) (ρ : List Addr), args.length = np ∧ RepVs T.toTb K ρ H args vs ∧ RepS K ρ H S ∧ PoF T K ρ H (f args S) Q E
structure FnM (P : Program) (w : World) (K : PySem.W.Frag) (mg : Str → Option Value) (base : Heap) (k : Nat) (f : Addr) (fd : FuncData) (ps : List Str) (sp : Sp) : Prop where
  len : ∀ vs H Q E, sp vs H Q E → vs.length = ps.length
  run : ∀ (A : Around) (outer : List PySem.Env) (s : Shared) (H : Hp) (args : Args) (us : List Value) (vs : List L2.V) (Q : VK) (E : XK), Room k A → A.guards = some [] → Env0 P w K mg base A outer s H → BindsTo s fd args (ps.zip us) → Vals vs us → sp vs H Q E →
    codeAny (model P w) A (.call (.ref f) args) (CR (L2.CX P w) outer P w H s Q E) s
theorem RepVs.append : ∀ {xs ys : List Vl} {vs ws : List L2.V}, RepVs T.toTb X.K ρ H xs vs → RepVs T.toTb X.K ρ H ys ws → RepVs T.toTb X.K ρ H (xs ++ ys) (vs ++ ws)
  | [], _, vs, _, h, k => by unfold RepVs at h; subst h; exact k
  | x :: xs, _, vs, _, h, k => by
    unfold RepVs at h
    obtain ⟨v, r, rfl, h1, h2⟩ := h
    show RepVs _ _ _ _ (x :: (xs ++ _)) (v :: (r ++ _))
    unfold RepVs
    exact ⟨v, _, rfl, h1, RepVs.append h2 k⟩
theorem run_fnM {k : Nat} {f : Addr} {fd : FuncData} {ps : List Str} {sp : Sp} {dvs : List L2.V} {ds : List Value} {pins : List (Addr × Obj)} {s : Shared} {Q : VK} {us : List Value} {vs : List L2.V} (F : FnM X.prog X.w X.K X.mg X.base k f fd ps sp) (hr : Room k X.A) (hgd : X.A.guards = some []) (hb : Binds X.K fd ps ds) (hd : Vals dvs ds) (tk : Takes X W)
    (I : Inv X pins σ H s) (r : Vals vs us) (h : sp (vs ++ dvs) H Q fun cls dd H' => W cls dd σ H') : wpAny (model X.prog X.w) X.A (call (.ref f) us) (EP X pins σ Q) X.xe s := by
  have r2 : Vals (vs ++ dvs) (us ++ ds) := r.append hd
  refine wpAny_call (codeAny_mono (F.run X.A X.stack s H ⟨us, []⟩ (us ++ ds) (vs ++ dvs) Q _ hr hgd I.env0 (hb s us I.kIn (by rw [← r2.length]; exact F.len _ _ _ _ h)) r2 h) fun o s' hq => ?_)
  cases o with
  | error e => exact tk e s' (XE.of_call I (fun _ _ _ z => z) hq)
  | ok fl => cases fl <;> first | exact I.after hq | exact False.elim hq
theorem ok_call {f k : Nat} {fa : Addr} {fd : FuncData} {ps : List Str} {x : Str} {p : Pos} {np : Nat} {e : Expr} {es : List Expr} {xa : TAr} {dflt : List Vl} {dvs : List L2.V} {ds : List Value} (F : FnM X.prog X.w X.K X.mg X.base k fa fd ps (spF T X.K np (c.call f))) (hr : Room k X.A) (hgd : X.A.guards = some []) (hg : Gl X x) (hm : X.mg x = some (.ref fa)) (hk : PySem.W.keepIn X.K (.ref fa) = true)
    (hb : Binds X.K fd ps ds) (hd : Vals dvs ds) (hdr : ∀ ρ H, RepVs T.toTb X.K ρ H dflt dvs) (tk : Takes X W) (ha : PA X (e :: es) (rdA T X W c xa)) (hn : ∀ γ S vs S', xa c γ S = .ok vs S' → (vs ++ dflt).length = np) (hdb : (x == ("__debug__" : Str)) = false) (he : starEach (e :: es) X.env = (false, eval e X.env) :: starEach es X.env) (hpl : (backTo pos (starEach es X.env)).any (·.1) = false) :
    PE X (.Call (.Name x p) (e :: es) [] pos) (rdE T X W c (xCall f xa dflt)) := by
  refine ⟨fun pins s σ H Q I ⟨γ, S, ρ, hE, hS, hP⟩ => ?_⟩
  refine wpAny_Call_Name_kw (ld_glob I hg hm ?_ hdb)
  refine PySem.W.callWith_K (h₀ := X.base) I.ok.mod.kin hk (thn (ha.run pos pins s σ H _ I ⟨γ, S, ρ, hE, hS, (Po.bind hP).imp fun vs H1 ⟨xs, S1, ρ1, e1, r, hS1, em, hP1⟩ => (⟨xs ++ dflt, S1, ρ1, hn _ _ _ _ em, RepVs.append r (hdr _ _), hS1, hP1.toF⟩ : spF T X.K np (c.call f) (vs ++ dvs) H1 Q fun cls dd H' => W cls dd σ H')⟩) fun us s1 ⟨vs, H1, I1, r, q⟩ => ⟨I1.kIn, run_fnM F hr hgd hb hd tk I1 r q⟩) he hpl
theorem ok_call0 {f k : Nat} {fa : Addr} {fd : FuncData} {ps : List Str} {x : Str} {p : Pos} {np : Nat} {dflt : List Vl} {dvs : List L2.V} {ds : List Value} (F : FnM X.prog X.w X.K X.mg X.base k fa fd ps (spF T X.K np (c.call f))) (hr : Room k X.A) (hgd : X.A.guards = some []) (hg : Gl X x) (hm : X.mg x = some (.ref fa)) (hk : PySem.W.keepIn X.K (.ref fa) = true)
    (hb : Binds X.K fd ps ds) (hd : Vals dvs ds) (hdr : ∀ ρ H, RepVs T.toTb X.K ρ H dflt dvs) (tk : Takes X W) (hn : dflt.length = np) (hdb : (x == ("__debug__" : Str)) = false) :
    PE X (.Call (.Name x p) [] [] pos) (rdE T X W c (xCall f aNil dflt)) := by
  refine ⟨fun pins s σ H Q I ⟨γ, S, ρ, hE, hS, hP⟩ => ?_⟩
  refine wpAny_Call_Name_kw (ld_glob I hg hm ?_ hdb)
  exact PySem.W.callWith_K0 I.kIn hk (run_fnM (us := []) (vs := []) F hr hgd hb hd tk I .nil ⟨dflt, S, ρ, hn, hdr _ _, hS, Po.toF hP⟩)
/-- a def that keeps its promise, by its body -/
theorem fnM_of {P : Program} {w : World} {K : PySem.W.Frag} {mg : Str → Option Value} {base : Heap} {x qual : Str} {params : Arguments} {body : List Stmt} {scope : Scope} {dvs : List L2.V} {kws : List (Str × L2.V)} {f : Addr} {fd : FuncData} {N ps : List Str} {k : Nat} {sp : Sp} (F : FunD K x qual params body scope dvs kws f fd) (Sc : FnScope N ps scope) (len : ∀ vs H Q E, sp vs H Q E → vs.length = ps.length)
    (hbody : ∀ (cdv : Value) (A : Around) (outer : List PySem.Env) (s : Shared) (H : Hp) (vs : List L2.V) (Q : VK) (E : XK), Room k (A.deeper (envOfC qual scope s.heap.objs.size f cdv)) → A.guards = some [] → sp vs H Q E →
      ∃ t, PSs (cxOf (L2.CX P w) P w K mg base N qual scope f cdv A outer s H E) body t ∧ t { nx := fun _ H' => Q .non H', rt := Q } (start N vs) H) : FnM P w K mg base (k + 1) f fd ps sp := by
  obtain ⟨oc, od, dV, kV, doc, pm, an, cdv, ct, osl, rfl, lk, hcd, _, _⟩ := F.ex
  refine ⟨len, fun A outer s H args us vs Q E hr hgd e0 hb r hsp => ?_⟩
  have KX : K.In s.heap := e0.mod.kin.keeps fun b o e => (e0.bs b o e).1
  have lim : s.heap.NoLimit := e0.mod.nolimit.keeps fun b o e => (e0.bs b o e).1
  refine codeAny_call_function hr.depth (KX _ _ lk) rfl Sc.co Sc.gen rfl (PySem.W.codeRec_of KX hcd) (hb _ _ _ _ ?_)
  refine wpAny_newFunctionEnv_cells Sc.kind (fun y hy => ?_) fun env he s1 x => ?_
  · rcases Sc.par y.1 (List.of_mem_zip (a := y.1) (b := y.2) hy).1 with q | q
    · exact .inl q
    · exact .inr ⟨q, PySem.W.cellsFrom_some _ _ _ (.inl q)⟩
  subst he
  refine ⟨lim.keeps x.toInCall.keep, codeAny_func ?_⟩
  obtain ⟨t, ht, hq⟩ := hbody cdv A outer s H vs Q E (hr.deeper _) hgd hsp
  have I : Inv (cxOf (L2.CX P w) P w K mg base N qual scope f cdv A outer s H E) [] (start N vs) H s1 := inv_start Sc hr.hd e0 (len _ _ _ _ hsp) r x
  refine wpAny_mono (ht.run [] s1 (start N vs) H _ I hq) (fun fl s' hs => ?_) fun e s' hs => hs
  cases fl with
  | ret u =>
    obtain ⟨v, σ', H', J, rv, q⟩ := hs
    exact ⟨v, H', J.os, J.bare, J.base, J.hok, rv, q⟩
  | next =>
    obtain ⟨σ', H', J, q⟩ := hs
    exact ⟨.non, H', J.os, J.bare, J.base, J.hok, rfl, q⟩
  | brk => obtain ⟨_, _, _, q⟩ := hs; exact False.elim q
  | cont => obtain ⟨_, _, _, q⟩ := hs; exact False.elim q
end
end Mk
/-! Mk9: statements, targets, loops. -/
namespace Mk
open PySem PySem.Spec PyProof.Rows L2
section
variable (T : Tx) (X : Cx) (W : WX)
def PoS (ρ : List Addr) (H : Hp) (m : RS) (D : Ends) : Prop := match m with
  | .nx γ' S' => ∀ σ' H' ρ', Ext ρ ρ' H H' → RepE T.toTb X.K ρ' H' γ' σ' → RepS X.K ρ' H' S' → D.nx σ' H'
  | .ct γ' S' => ∀ σ' H' ρ', Ext ρ ρ' H H' → RepE T.toTb X.K ρ' H' γ' σ' → RepS X.K ρ' H' S' → D.ct σ' H'
  | .bk γ' S' => ∀ σ' H' ρ', Ext ρ ρ' H H' → RepE T.toTb X.K ρ' H' γ' σ' → RepS X.K ρ' H' S' → D.bk σ' H'
  | .rt v S' => ∀ x H' ρ', Ext ρ ρ' H H' → RepV T.toTb X.K ρ' H' v x → RepS X.K ρ' H' S' → D.rt x H'
  | .er k x γ' S' => ∀ cls dd σ' H' ρ', Ext ρ ρ' H H' → RepE T.toTb X.K ρ' H' γ' σ' → RepS X.K ρ' H' S' → RepX T X.K ρ' H' k x cls dd → W cls dd σ' H'
  | .stuck => False
def rdS (c : Cl) (s : TSt) : TS := fun D σ H => ∃ (γ : Env) (S : Store) (ρ : List Addr), RepE T.toTb X.K ρ H γ σ ∧ RepS X.K ρ H S ∧ PoS T X W ρ H (s c γ S) D
/-- a target: ws are the slots that it may set -/
def rdTg (g : TTg) (ws : List Nat) : TG := fun v σ H Q => ∃ (x : Vl) (γ γ' : Env) (ρ : List Addr), RepV T.toTb X.K ρ H x v ∧ RepE T.toTb X.K ρ H γ σ ∧ g x γ = some γ' ∧
  ∀ σ', RepE T.toTb X.K ρ H γ' σ' → σ'.length = σ.length → (∀ j, j ∉ ws → σ'[j]? = σ[j]?) → Q σ' H
def rdTgs (g : List Vl → Env → Option Env) (ws : List Nat) : TGs := fun vs σ H Q => ∃ (xs : List Vl) (γ γ' : Env) (ρ : List Addr), RepVs T.toTb X.K ρ H xs vs ∧ RepE T.toTb X.K ρ H γ σ ∧ g xs γ = some γ' ∧
  ∀ σ', RepE T.toTb X.K ρ H γ' σ' → σ'.length = σ.length → (∀ j, j ∉ ws → σ'[j]? = σ[j]?) → Q σ' H
/-- an iterator's items -/
structure Walks (ρ : List Addr) (H : Hp) (J : It) (xs : List Vl) : Prop where
  go : ∀ i ρ' H' x, Ext ρ ρ' H H' → xs[i]? = some x → J.go i H' ∧ ∀ v H2, J.yld i H' v H2 → (H2 = H' ∨ ∃ p o, H' p = none ∧ H2 = upd H' p o) ∧ RepV T.toTb X.K ρ' H2 x v
  stop : ∀ i ρ' H', Ext ρ ρ' H H' → xs.length ≤ i → J.stop i H'
abbrev rI : Rl Itr It := fun ρ H J it => match J with
  | .its xs => TupOut ρ H → Walks T X ρ H it xs
  | .ref i => ∃ a, ρ[i]? = some a ∧ it = Itl X.K a
abbrev rdI (c : Cl) (x : TIt) : TI := rdG T X W (rI T X) c x
end

section
variable {T : Tx} {X : Cx} {W : WX} {c : Cl} {σ : L2.St} {ρ ρ' : List Addr} {H H' : Hp} {γ : Env} {S : Store} {pos : Pos}
theorem _root_.L2.PS.imp {X : Cx} {st : Stmt} {t t' : TS} (h : PS X st t) (k : ∀ D σ H, t' D σ H → t D σ H) : PS X st t' := ⟨fun pins s σ H D I q => h.run pins s σ H D I (k D σ H q)⟩
theorem _root_.L2.PSs.imp {X : Cx} {st : List Stmt} {t t' : TS} (h : PSs X st t) (k : ∀ D σ H, t' D σ H → t D σ H) : PSs X st t' := ⟨fun pins s σ H D I q => h.run pins s σ H D I (k D σ H q)⟩
theorem _root_.L2.PG.imp {X : Cx} {e : Expr} {t t' : TG} (h : PG X e t) (k : ∀ v σ H Q, t' v σ H Q → t v σ H Q) : PG X e t' := ⟨fun pins s σ H v u Q I r q => h.run pins s σ H v u Q I r (k v σ H Q q)⟩
theorem _root_.L2.PGs.imp {X : Cx} {e : List Expr} {t t' : TGs} (h : PGs X e t) (k : ∀ v σ H Q, t' v σ H Q → t v σ H Q) : PGs X e t' := ⟨fun pins s σ H v u Q I r q => h.run pins s σ H v u Q I r (k v σ H Q q)⟩
theorem _root_.L2.PI.imp {X : Cx} {tg e : Expr} {t t' : TI} (h : PI X tg e t) (k : ∀ σ H R, t' σ H R → t σ H R) : PI X tg e t' := ⟨fun pins s σ H R I q => h.run pins s σ H R I (k σ H R q)⟩
theorem PoS.later {m : RS} {D : Ends} (e : Ext ρ ρ' H H') (h : PoS T X W ρ H m D) : PoS T X W ρ' H' m D := by
  cases m with
  | nx γ' S' => exact fun σ' H2 ρ2 e2 => h σ' H2 ρ2 (e.trans e2)
  | ct γ' S' => exact fun σ' H2 ρ2 e2 => h σ' H2 ρ2 (e.trans e2)
  | bk γ' S' => exact fun σ' H2 ρ2 e2 => h σ' H2 ρ2 (e.trans e2)
  | rt v S' => exact fun x H2 ρ2 e2 => h x H2 ρ2 (e.trans e2)
  | er k x γ' S' => exact fun cls dd σ' H2 ρ2 e2 => h cls dd σ' H2 ρ2 (e.trans e2)
  | stuck => exact h
/-- an expression ahead of the rest of a statement -/
theorem rs_bind {α β : Type} {rel : Rl α β} {x : Cl → Env → Store → R α} {f : α → Store → RS} {D : Ends} (hE : RepE T.toTb X.K ρ H γ σ) (hS : RepS X.K ρ H S) (h : PoS T X W ρ H ((x c γ S).next γ f) D)
    {Q1 : β → Hp → Prop} (k : ∀ v H1 d S1 ρ1, Ext ρ ρ1 H H1 → rel ρ1 H1 d v → RepE T.toTb X.K ρ1 H1 γ σ → RepS X.K ρ1 H1 S1 → PoS T X W ρ1 H1 (f d S1) D → Q1 v H1) : rdG T X W rel c x σ H Q1 := by
  refine ⟨γ, S, ρ, hE, hS, ?_⟩
  cases q : x c γ S with
  | ok d S1 =>
    rw [q] at h
    exact fun v H1 ρ1 e r s => k v H1 d S1 ρ1 e r (hE.mono hS.out e) s (PoS.later e h)
  | er kk xx S1 =>
    rw [q] at h
    exact fun cls dd H1 ρ1 e s r => h cls dd σ H1 ρ1 e (hE.mono hS.out e) s r
  | stuck => rw [q] at h; exact h

/-! ### plain statements -/
theorem oks_pass : PS X (.Pass pos) (rdS T X W c sPass) := ps_pass.imp fun D σ H ⟨γ, S, ρ, hE, hS, hP⟩ => hP σ H ρ (Ext.refl _ _) hE hS
theorem oks_break : PS X (.Break pos) (rdS T X W c sBrk) := ps_break.imp fun D σ H ⟨γ, S, ρ, hE, hS, hP⟩ => hP σ H ρ (Ext.refl _ _) hE hS
theorem oks_cont : PS X (.Continue pos) (rdS T X W c sCnt) := ps_continue.imp fun D σ H ⟨γ, S, ρ, hE, hS, hP⟩ => hP σ H ρ (Ext.refl _ _) hE hS
theorem oks_doc {x : Str} {j : Nat} {p : Pos} : PS X (.Expr (.Constant (.str x) j p) pos) (rdS T X W c sPass) := ps_doc.imp fun D σ H ⟨γ, S, ρ, hE, hS, hP⟩ => hP σ H ρ (Ext.refl _ _) hE hS
theorem oks_no {st : Stmt} : PS X st (rdS T X W c sNo) := ⟨fun _ _ _ _ _ _ ⟨_, _, _, _, _, hP⟩ => hP.elim⟩
theorem okss_no {st : List Stmt} : PSs X st (rdS T X W c sNo) := ⟨fun _ _ _ _ _ _ ⟨_, _, _, _, _, hP⟩ => hP.elim⟩
theorem okss_nil : PSs X [] (rdS T X W c sPass) := pss_nil.imp fun D σ H ⟨γ, S, ρ, hE, hS, hP⟩ => hP σ H ρ (Ext.refl _ _) hE hS
theorem okss_one {st : Stmt} {t : TSt} (h : PS X st (rdS T X W c t)) : PSs X [st] (rdS T X W c t) := pss_one h
theorem okss_cons {st : Stmt} {rest : List Stmt} {t u : TSt} (h : PS X st (rdS T X W c t)) (k : PSs X rest (rdS T X W c u)) : PSs X (st :: rest) (rdS T X W c (sSeq t u)) := by
  refine (pss_cons h k).imp fun D σ H ⟨γ, S, ρ, hE, hS, hP⟩ => ⟨γ, S, ρ, hE, hS, ?_⟩
  unfold sSeq at hP
  cases q : t c γ S with
  | nx γ' S' =>
    rw [q] at hP
    exact fun σ' H' ρ' e hE' hS' => ⟨γ', S', ρ', hE', hS', PoS.later e hP⟩
  | ct γ' S' => rw [q] at hP; exact hP
  | bk γ' S' => rw [q] at hP; exact hP
  | rt v S' => rw [q] at hP; exact hP
  | er kk x γ' S' => rw [q] at hP; exact hP
  | stuck => rw [q] at hP; exact hP
theorem oks_ret {e : Expr} {xe : TEx} (h : PE X e (rdE T X W c xe)) : PS X (.Return (some e) pos) (rdS T X W c (sRet xe)) :=
  (ps_ret h).imp fun D σ H ⟨γ, S, ρ, hE, hS, hP⟩ => rs_bind hE hS hP fun v H1 d S1 ρ1 e r hE1 hS1 hP1 => hP1 v H1 ρ1 (Ext.refl _ _) r hS1
theorem oks_retN : PS X (.Return none pos) (rdS T X W c (sRet (xC (.d .none)))) :=
  ps_retN.imp fun D σ H ⟨γ, S, ρ, hE, hS, hP⟩ => hP .non H ρ (Ext.refl _ _) (by unfold RepV RepD; rfl) hS
theorem oks_expr {e : Expr} {xe : TEx} (h : PE X e (rdE T X W c xe)) (hs : swapsWith e none pos.line X.env = pure false) : PS X (.Expr e pos) (rdS T X W c (sExpr xe)) :=
  (ps_expr h hs).imp fun D σ H ⟨γ, S, ρ, hE, hS, hP⟩ => rs_bind hE hS hP fun v H1 d S1 ρ1 e r hE1 hS1 hP1 => hP1 σ H1 ρ1 (Ext.refl _ _) hE1 hS1
theorem oks_if {t : Expr} {a b : List Stmt} {tt : TTs} {ta tb : TSt} (h : PT X t (rdT T X W c tt)) (ha : PSs X a (rdS T X W c ta)) (hb : PSs X b (rdS T X W c tb)) : PS X (.If t a b pos) (rdS T X W c (sIf tt ta tb)) :=
  (ps_if h ha hb).imp fun D σ H ⟨γ, S, ρ, hE, hS, hP⟩ => rs_bind hE hS hP fun v H1 d S1 ρ1 e r hE1 hS1 hP1 => by
    have r' : v = d := r
    subst r'
    cases v with
    | true => rw [if_pos rfl]; exact ⟨γ, S1, ρ1, hE1, hS1, hP1⟩
    | false => rw [if_neg Bool.false_ne_true]; exact ⟨γ, S1, ρ1, hE1, hS1, hP1⟩
/-! ### targets -/
theorem okg_name {i : Nat} {x : Str} (hN : X.N.Nodup) (hi : X.N[i]? = some x) (hx : Loc X.env.scope x) (hf : X.fn x = true ∨ X.env.scope.names.lookup x = some .local) : PG X (.Name x pos) (rdTg T X (gV i) [i]) := by
  refine (pg_name hN hi hx hf).imp fun v σ H Q ⟨x, γ, γ', ρ, r, hE, e, k⟩ => ?_
  unfold gV at e
  · cases e
    exact k _ (hE.set r) (by simp) fun j hj => by rw [List.getElem?_set_ne (fun z => hj (by simp [z]))]
theorem okgs_nil : PGs X [] (rdTgs T X gNil []) := by
  refine pgs_nil.imp fun vs σ H Q ⟨xs, γ, γ', ρ, r, hE, e, k⟩ => ?_
  unfold gNil at e
  split at e
  · cases e
    unfold RepVs at r
    exact ⟨r, k _ hE rfl fun j _ => rfl⟩
  · cases e
theorem okgs_cons {e : Expr} {es : List Expr} {g : TTg} {gs : List Vl → Env → Option Env} {ws ws' : List Nat} (h1 : PG X e (rdTg T X g ws)) (h2 : PGs X es (rdTgs T X gs ws')) (hs : (assignEach (e :: es) X.env).map (·.2) = assign e X.env :: (assignEach es X.env).map (·.2)) : PGs X (e :: es) (rdTgs T X (gCons g gs) (ws ++ ws')) := by
  refine (pgs_cons h1 h2 hs).imp fun vs σ H Q ⟨xs, γ, γ', ρ, r, hE, e, k⟩ => ?_
  unfold gCons at e
  split at e
  · rename_i x xs
    unfold RepVs at r
    obtain ⟨v, rr, rfl, r1, r2⟩ := r
    split at e
    · rename_i γ1 e1
      exact ⟨v, rr, rfl, x, γ, γ1, ρ, r1, hE, e1, fun σ1 hE1 l1 k1 => ⟨xs, γ1, γ', ρ, r2, hE1, e, fun σ2 hE2 l2 k2 => k σ2 hE2 (l2.trans l1) fun j hj => by
        rw [k2 j (fun z => hj (List.mem_append_right _ z)), k1 j (fun z => hj (List.mem_append_left _ z))]⟩⟩
    · cases e
  · cases e
theorem repds_vs : ∀ {xs : List D} {vs : List L2.V}, RepDs X.K ρ H xs vs → RepVs T.toTb X.K ρ H (xs.map .d) vs
  | [], vs, h => by unfold RepDs at h; subst h; unfold List.map RepVs; rfl
  | x :: xs, vs, h => by
    unfold RepDs at h
    obtain ⟨v, r, rfl, h1, h2⟩ := h
    unfold List.map RepVs
    exact ⟨v, r, rfl, by unfold RepV; exact h1, repds_vs h2⟩
theorem okg_tup {es : List Expr} {k n : Nat} {gs : List Vl → Env → Option Env} {ws : List Nat} (hc : X.calm = true) (h : PGs X es (rdTgs T X gs ws)) (hn : (assignEach es X.env).length = n) (hst : (assignEach es X.env).findIdx? (·.1) = none)
    (hl : ∀ vs γ γ', gs vs γ = some γ' → vs.length = n) : PG X (.Tuple es k pos) (rdTg T X (gTup gs) ws) := by
  refine (pg_tup (n := n) hc h hn hst).imp fun v σ H Q ⟨x, γ, γ', ρ, r, hE, e, k⟩ => ?_
  unfold gTup at e
  split at e
  · rename_i ds
    unfold RepV RepD at r
    obtain ⟨a, vs, rfl, h1, h2⟩ := r
    have r' := repds_vs (T := T) h2
    exact ⟨a, vs, rfl, h1, by rw [r'.length]; exact hl _ _ _ e, ds.map .d, γ, γ', ρ, r', hE, e, k⟩
  · rename_i xs
    unfold RepV at r
    obtain ⟨a, vs, rfl, h1, h2⟩ := r
    exact ⟨a, vs, rfl, h1, by rw [h2.length]; exact hl _ _ _ e, xs, γ, γ', ρ, h2, hE, e, k⟩
  · cases e
theorem oks_set {i : Nat} {x : Str} {e : Expr} {xe : TEx} {p : Pos} (hN : X.N.Nodup) (hi : X.N[i]? = some x) (hx : Loc X.env.scope x) (h : PE X e (rdE T X W c xe)) (hs : swapsWith e (some (.Name x p)) pos.line X.env = pure false) (hf : X.fn x = true ∨ X.env.scope.names.lookup x = some .local) :
    PS X (.Assign [.Name x p] e pos) (rdS T X W c (sSet i xe)) :=
  (ps_set hN hi hx h hs hf).imp fun D σ H ⟨γ, S, ρ, hE, hS, hP⟩ => rs_bind hE hS hP fun v H1 d S1 ρ1 e r hE1 hS1 hP1 => hP1 _ H1 ρ1 (Ext.refl _ _) (hE1.set r) hS1
theorem oks_asg {tg e : Expr} {g : TTg} {ws : List Nat} {xe : TEx} (h : PE X e (rdE T X W c xe)) (hg : PG X tg (rdTg T X g ws)) (hs : swapsWithSole [tg] e pos.line X.env = pure false) (hw : swappedStores [tg] e X.env = pure none) (h1 : (assignEach [tg] X.env).map (·.2) = [assign tg X.env]) :
    PS X (.Assign [tg] e pos) (rdS T X W c (sAsg g xe)) :=
  (ps_asg h hg hs hw h1).imp fun D σ H ⟨γ, S, ρ, hE, hS, hP⟩ => rs_bind hE hS hP fun v H1 d S1 ρ1 e r hE1 hS1 hP1 => by
    split at hP1
    · rename_i γ' e1
      exact ⟨d, γ, γ', ρ1, r, hE1, e1, fun σ' hE' _ _ => hP1 _ H1 ρ1 (Ext.refl _ _) hE' hS1⟩
    · exact hP1.elim
/-! ### loops -/
theorem PoS.turn {m : RS} {k : Env → Store → RS} {D : Ends} {N : L2.St → Hp → Prop}
    (h : PoS T X W ρ H (match m with
      | .nx γ' S' => k γ' S'
      | .ct γ' S' => k γ' S'
      | .bk γ' S' => .nx γ' S'
      | o => o) D)
    (hN : ∀ γ' S' σ' H' ρ', Ext ρ ρ' H H' → RepE T.toTb X.K ρ' H' γ' σ' → RepS X.K ρ' H' S' → PoS T X W ρ' H' (k γ' S') D → N σ' H') : PoS T X W ρ H m { D with nx := N, ct := N, bk := D.nx } := by
  cases m with
  | nx γ' S' => exact fun σ' H' ρ' e hE hS => hN γ' S' σ' H' ρ' e hE hS (PoS.later e h)
  | ct γ' S' => exact fun σ' H' ρ' e hE hS => hN γ' S' σ' H' ρ' e hE hS (PoS.later e h)
  | bk γ' S' => exact h
  | rt v S' => exact h
  | er kk x γ' S' => exact h
  | stuck => exact h
theorem oks_while {t : Expr} {b : List Stmt} {tt : TTs} {tb : TSt} (hp : PassesOwn (model X.prog X.w) X.A X.env X.xe) (h : PT X t (rdT T X W c tt)) (hb : PSs X b (rdS T X W c tb)) : PS X (.While t b [] pos) (rdS T X W c (sWhile tt tb)) := by
  refine (ps_while hp h hb).imp fun D σ H ⟨γ, S, ρ, hE, hS, hP⟩ => ?_
  refine ⟨fun n σ' H' => ∃ γ' S' ρ', RepE T.toTb X.K ρ' H' γ' σ' ∧ RepS X.K ρ' H' S' ∧ PoS T X W ρ' H' (wLoop tt tb c n γ' S') D, ⟨_, γ, S, ρ, hE, hS, hP⟩, fun n σ1 H1 ⟨γ1, S1, ρ1, hE1, hS1, hP1⟩ => ?_⟩
  cases n with
  | zero => exact hP1.elim
  | succ n =>
    refine rs_bind hE1 hS1 hP1 fun v H2 d S2 ρ2 e r hE2 hS2 hP2 => ?_
    have r' : v = d := r
    subst r'
    cases v with
    | false => rw [if_neg Bool.false_ne_true]; exact hP2 _ H2 ρ2 (Ext.refl _ _) hE2 hS2
    | true =>
      rw [if_pos rfl]
      refine ⟨fun σ' H' => ∃ γ' S' ρ', RepE T.toTb X.K ρ' H' γ' σ' ∧ RepS X.K ρ' H' S' ∧ PoS T X W ρ' H' (wLoop tt tb c n γ' S') D, fun σ' H' q => ⟨n, Nat.lt_succ_self _, q⟩, γ1, S2, ρ2, hE2, hS2, ?_⟩
      exact PoS.turn hP2 fun γ' S' σ' H' ρ' e hE' hS' hP' => ⟨γ', S', ρ', hE', hS', hP'⟩
theorem ext_yld {H2 : Hp} (h : H2 = H' ∨ ∃ p o, H' p = none ∧ H2 = upd H' p o) : Ext ρ ρ H' H2 := by
  rcases h with rfl | ⟨p, o, hp, rfl⟩
  · exact Ext.refl _ _
  · exact Ext.new hp
theorem reps_yld {H2 : Hp} (h : H2 = H' ∨ ∃ p o, H' p = none ∧ H2 = upd H' p o) (s : RepS X.K ρ H' S) : RepS X.K ρ H2 S := by
  rcases h with rfl | ⟨p, o, hp, rfl⟩
  · exact s
  · exact s.new hp
theorem oks_for {tg iter : Expr} {b : List Stmt} {it : TIt} {g : TTg} {ws : List Nat} {tb : TSt} (hp : PassesOwn (model X.prog X.w) X.A X.env X.xe) (hc : X.calm = true) (hi : PI X tg iter (rdI T X W c it)) (hg : PG X tg (rdTg T X g ws)) (hb : PSs X b (rdS T X W c tb)) (hs : ∀ x, foldedSetIterable iter X.env x = pure x) :
    PS X (.For tg iter b [] pos) (rdS T X W c (sFor it g tb)) := by
  refine (ps_for hp hc hi hg hb hs).imp fun D σ H ⟨γ, S, ρ, hE, hS, hP⟩ => rs_bind hE hS hP fun J H1 d S1 ρ1 e r hE1 hS1 hP1 => ?_
  cases d with
  | its xs =>
    have wk : Walks T X ρ1 H1 J xs := r hS1.out
    refine ⟨fun i m σ' H' => m = xs.length - i ∧ i ≤ xs.length ∧ ∃ γ' S' ρ', Ext ρ1 ρ' H1 H' ∧ RepE T.toTb X.K ρ' H' γ' σ' ∧ RepS X.K ρ' H' S' ∧ PoS T X W ρ' H' (fLoop g tb c (xs.drop i) γ' S') D, ⟨_, rfl, Nat.zero_le _, γ, S1, ρ1, Ext.refl _ _, hE1, hS1, hP1⟩, ?_⟩
    rintro i m σ' H' ⟨rfl, hl, γ', S', ρ', e', hE', hS', hP'⟩
    by_cases hlt : i < xs.length
    · have hx : xs[i]? = some xs[i] := List.getElem?_eq_getElem hlt
      obtain ⟨g1, g2⟩ := wk.go i ρ' H' _ e' hx
      refine .inr ⟨g1, fun σ2 H2 => ∃ γ2 S2 ρ2, Ext ρ1 ρ2 H1 H2 ∧ RepE T.toTb X.K ρ2 H2 γ2 σ2 ∧ RepS X.K ρ2 H2 S2 ∧ PoS T X W ρ2 H2 (fLoop g tb c (xs.drop (i + 1)) γ2 S2) D, fun σ2 H2 q => ⟨_, by omega, rfl, hlt, q⟩, fun v H2 y => ?_⟩
      obtain ⟨y1, y2⟩ := g2 v H2 y
      have ey : Ext ρ' ρ' H' H2 := ext_yld y1
      rw [List.drop_eq_getElem_cons hlt] at hP'
      unfold fLoop at hP'
      split at hP'
      · exact hP'.elim
      · rename_i γ1 eg
        refine ⟨xs[i], γ', γ1, ρ', y2, hE'.mono hS'.out ey, eg, fun σ2 hE2 _ _ => ⟨γ1, S', ρ', hE2, reps_yld y1 hS', ?_⟩⟩
        exact PoS.turn (PoS.later ey hP') fun γ3 S3 σ3 H3 ρ3 e3 hE3 hS3 hP3 => ⟨γ3, S3, ρ3, (e'.trans ey).trans e3, hE3, hS3, hP3⟩
    · have hi : i = xs.length := by omega
      subst hi
      rw [List.drop_length] at hP'
      exact .inl ⟨wk.stop _ ρ' H' e' (Nat.le_refl _), hP' _ H' ρ' (Ext.refl _ _) hE' hS'⟩
  | ref o =>
    obtain ⟨a, ha, rfl⟩ := r
    refine ⟨fun i m σ' H' => ∃ γ' S' ρ', ρ'[o]? = some a ∧ RepE T.toTb X.K ρ' H' γ' σ' ∧ RepS X.K ρ' H' S' ∧ PoS T X W ρ' H' (rLoop g tb c o m i γ' S') D, ⟨_, γ, S1, ρ1, ha, hE1, hS1, hP1⟩, ?_⟩
    rintro i m σ' H' ⟨γ', S', ρ', ha', hE', hS', hP'⟩
    cases m with
    | zero => exact hP'.elim
    | succ m =>
      unfold rLoop at hP'
      split at hP'
      case h_2 => exact hP'.elim
      rename_i xs eo
      obtain ⟨a', vs, b1, b2, b3⟩ := hS'.at_ o xs eo
      rw [ha'] at b1
      cases b1
      split at hP'
      · rename_i en
        exact .inl ⟨⟨vs, SqL.of b2, by rw [b3.length]; exact List.getElem?_eq_none_iff.mp en⟩, hP' _ H' ρ' (Ext.refl _ _) hE' hS'⟩
      · rename_i x en
        obtain ⟨v, n1, n2⟩ := b3.get en
        refine .inr ⟨⟨vs, v, SqL.of b2, n1⟩, fun σ2 H2 => ∃ γ2 S2 ρ2, ρ2[o]? = some a ∧ RepE T.toTb X.K ρ2 H2 γ2 σ2 ∧ RepS X.K ρ2 H2 S2 ∧ PoS T X W ρ2 H2 (rLoop g tb c o m (i + 1) γ2 S2) D, fun σ2 H2 q => ⟨m, Nat.lt_succ_self _, q⟩, fun v' H2 y => ?_⟩
        obtain ⟨rfl, y2⟩ := y
        have ev := y2 vs (SqL.of b2)
        rw [n1] at ev
        cases ev
        split at hP'
        · exact hP'.elim
        · rename_i γ1 eg
          refine ⟨.d x, γ', γ1, ρ', by unfold RepV; exact n2, hE', eg, fun σ2 hE2 _ _ => ⟨γ1, S', ρ', hE2, hS', ?_⟩⟩
          exact PoS.turn hP' fun γ3 S3 σ3 H3 ρ3 e3 hE3 hS3 hP3 => ⟨γ3, S3, ρ3, e3.get ha', hE3, hS3, hP3⟩
end
end Mk
/-! Mk10: what is walked, comprehensions, stores. -/
namespace Mk
open PySem PySem.Spec PyProof.Rows L2
section
variable {T : Tx} {X : Cx} {W : WX} {c : Cl} {σ : L2.St} {ρ ρ' : List Addr} {H H' : Hp} {γ : Env} {S : Store} {pos : Pos}
/-! ### iterables -/
theorem walks_list {xs : List D} {a : Addr} {vs : List L2.V} (o : TupOut ρ H) (hn : a ∉ ρ) (ha : H a = some (.lst vs)) (r : RepDs X.K ρ H xs vs) : Walks T X ρ H (Itl X.K a) (xs.map .d) where
  go := fun i ρ' H' x e hx => by
    rw [List.getElem?_map] at hx
    cases q : xs[i]? with
    | none => rw [q] at hx; cases hx
    | some d =>
      rw [q] at hx; cases hx
      obtain ⟨v, n1, n2⟩ := r.get q
      have hq : SqL X.K H' a vs := SqL.of (e.keep _ _ ha hn)
      refine ⟨⟨vs, v, hq, n1⟩, fun v' H2 ⟨e1, y⟩ => ?_⟩
      subst e1
      have := y vs hq
      rw [n1] at this; cases this
      exact ⟨.inl rfl, by unfold RepV; exact n2.mono o e⟩
  stop := fun i ρ' H' e hl => ⟨vs, SqL.of (e.keep _ _ ha hn), by rw [r.length]; simpa using hl⟩
theorem RepVs.get : ∀ {xs : List Vl} {vs : List L2.V} {i : Nat} {x : Vl}, RepVs T.toTb X.K ρ H xs vs → xs[i]? = some x → ∃ v, vs[i]? = some v ∧ RepV T.toTb X.K ρ H x v
  | [], _, _, _, _, e => by simp at e
  | y :: ys, vs, i, x, h, e => by
    unfold RepVs at h
    obtain ⟨v, r, rfl, h1, h2⟩ := h
    cases i with
    | zero => simp at e; subst e; exact ⟨v, by simp, h1⟩
    | succ i => obtain ⟨w, a, b⟩ := RepVs.get (i := i) h2 (by simpa using e); exact ⟨w, by simpa using a, b⟩
theorem walks_tup {xs : List Vl} {a : Addr} {vs : List L2.V} (o : TupOut ρ H) (ha : SqT X.K H a vs) (r : RepVs T.toTb X.K ρ H xs vs) (hu : ∀ {H' : Hp} {ws us : List L2.V}, SqT X.K H' a ws → SqT X.K H' a us → ws = us → True) : Walks T X ρ H (Itt X.K a) xs where
  go := fun i ρ' H' x e hx => by
    obtain ⟨v, n1, n2⟩ := r.get hx
    have hq : SqT X.K H' a vs := SqT.ext o e ha
    refine ⟨⟨vs, v, hq, n1⟩, fun v' H2 ⟨e1, y⟩ => ?_⟩
    subst e1
    have := y vs hq
    rw [n1] at this; cases this
    exact ⟨.inl rfl, n2.mono o e⟩
  stop := fun i ρ' H' e hl => ⟨vs, SqT.ext o e ha, by rw [r.length]; exact hl⟩
theorem rd_bind' {α α' β β' : Type} {rel : Rl α β} {rel' : Rl α' β'} {x : Cl → Env → Store → R α} {f : α → Store → R α'} {Q : β' → Hp → Prop} (hE : RepE T.toTb X.K ρ H γ σ) (hS : RepS X.K ρ H S) (h : Po T X W rel' σ ρ H ((x c γ S).bind f) Q)
    {Q1 : β → Hp → Prop} (k : ∀ v H1 d S1 ρ1, x c γ S = .ok d S1 → Ext ρ ρ1 H H1 → rel ρ1 H1 d v → RepE T.toTb X.K ρ1 H1 γ σ → RepS X.K ρ1 H1 S1 → Po T X W rel' σ ρ1 H1 (f d S1) Q → Q1 v H1) : rdG T X W rel c x σ H Q1 :=
  ⟨γ, S, ρ, hE, hS, (Po.bind h).imp fun v H1 ⟨d, S1, ρ1, e, r, s, em, p⟩ => k v H1 d S1 ρ1 em e r (hE.mono hS.out e) s p⟩
theorem oki_val {tg l : Expr} {xl : TEx} (hl : PE X l (rdE T X W c xl)) : PI X tg l (rdI T X W c (iV xl)) := by
  refine ⟨fun pins s σ H R I ⟨γ, S, ρ, hE, hS, hP⟩ => ?_⟩
  have hPP := hP
  unfold iV at hP
  cases q : xl c γ S with
  | stuck => rw [q] at hP; exact hP.elim
  | er k x S1 => exact (pi_list hl).run pins s σ H R I (rd_bind' hE hS hPP fun v H1 d S1' ρ1 em e r hE1 hS1 hP1 => by rw [q] at em; cases em)
  | ok d S1 =>
    rw [q] at hP
    cases d with
    | d y =>
      cases y with
      | list xs =>
        refine (pi_list hl).run pins s σ H R I (rd_bind' hE hS hPP fun v H1 d S1' ρ1 em e r hE1 hS1 hP1 => ?_)
        rw [q] at em; cases em
        unfold rV RepV RepD at r
        obtain ⟨a, vs, rfl, h1, h2, h3⟩ := r
        exact ⟨a, rfl, ⟨vs, SqL.of h2⟩, hP1 _ H1 ρ1 (Ext.refl _ _) (fun o => walks_list o h1 h2 h3) hS1⟩
      | tuple xs =>
        refine (pi_tup hl).run pins s σ H R I (rd_bind' hE hS hPP fun v H1 d S1' ρ1 em e r hE1 hS1 hP1 => ?_)
        rw [q] at em; cases em
        unfold rV RepV RepD at r
        obtain ⟨a, vs, rfl, h2, h3⟩ := r
        exact ⟨a, rfl, ⟨vs, h2⟩, hP1 _ H1 ρ1 (Ext.refl _ _) (fun o => walks_tup o h2 (repds_vs h3) fun _ _ _ => trivial) hS1⟩
      | _ => exact hP.elim
    | sc xs => exact hP.elim
    | r i =>
      refine (pi_list hl).run pins s σ H R I (rd_bind' hE hS hPP fun v H1 d S1' ρ1 em e r hE1 hS1 hP1 => ?_)
      rw [q] at em; cases em
      unfold rV RepV at r
      obtain ⟨a, h1, rfl⟩ := r
      obtain ⟨vs, h2⟩ := hS1.out a (List.mem_of_getElem? h1)
      exact ⟨a, rfl, ⟨vs, SqL.of h2⟩, hP1 _ H1 ρ1 (Ext.refl _ _) ⟨a, h1, rfl⟩ hS1⟩
    | fn f => exact hP.elim
    | tv xs =>
      refine (pi_tup hl).run pins s σ H R I (rd_bind' hE hS hPP fun v H1 d S1' ρ1 em e r hE1 hS1 hP1 => ?_)
      rw [q] at em; cases em
      unfold rV RepV at r
      obtain ⟨a, vs, rfl, h2, h3⟩ := r
      exact ⟨a, rfl, ⟨vs, h2⟩, hP1 _ H1 ρ1 (Ext.refl _ _) (fun o => walks_tup o h2 h3 fun _ _ _ => trivial) hS1⟩
theorem rng_get {lo hi : Int} {i : Nat} {x : Vl} (h : (rng lo hi)[i]? = some x) : i < (hi - lo).toNat ∧ x = I (lo + i) := by
  unfold rng at h
  rw [List.getElem?_map] at h
  cases q : (List.range (hi - lo).toNat)[i]? with
  | none => rw [q] at h; cases h
  | some k =>
    rw [q] at h
    have hl := (List.getElem?_eq_some_iff.mp q).1
    rw [List.length_range] at hl
    rw [List.getElem?_range hl] at q
    cases q
    cases h
    exact ⟨hl, rfl⟩
theorem rng_len {lo hi : Int} : (rng lo hi).length = (hi - lo).toNat := by unfold rng; simp
theorem walks_rng {lo hi : Int} : Walks T X ρ H (L2.Itr lo (hi - lo).toNat) (rng lo hi) where
  go := fun i ρ' H' x e hx => by
    obtain ⟨h1, rfl⟩ := rng_get hx
    refine ⟨h1, fun v H2 ⟨e1, e2⟩ => ?_⟩
    subst e1 e2
    exact ⟨.inl rfl, rep_int⟩
  stop := fun i ρ' H' e hl => by rw [rng_len] at hl; exact hl
theorem rngOk_of {i : Int} (h : rngOk i = true) : -(2 ^ 62) ≤ i ∧ i < 2 ^ 62 := by
  unfold rngOk at h
  simp only [decide_eq_true_eq] at h
  omega
theorem oki_rng1 {tg a : Expr} {xa : TEx} {p : Pos} (hg : Gl X "range") (hm : X.mg "range" = none) (ha : PE X a (rdE T X W c xa)) (hs : starEach [a] X.env = [(false, eval a X.env)]) : PI X tg (.Call (.Name "range" p) [a] [] pos) (rdI T X W c (iRng1 xa)) := by
  refine (pi_range1 (ta := tCons (rdE T X W c xa) tNil) hg hm (pa_cons ha pa_nil hs) hs).imp fun σ H R ⟨γ, S, ρ, hE, hS, hP⟩ => rd_bind hE hS hP fun v H1 d S1 ρ1 e r hE1 hS1 hP1 => ?_
  split at hP1
  · rename_i j
    split at hP1
    · rename_i hj
      have a1 := rep_intV r
      subst a1
      obtain ⟨j1, j2⟩ := rngOk_of hj
      refine ⟨j, rfl, j1, j2, hP1 _ H1 ρ1 (Ext.refl _ _) (fun o => ?_) hS1⟩
      have := walks_rng (T := T) (X := X) (ρ := ρ1) (H := H1) (lo := 0) (hi := j)
      rwa [Int.sub_zero] at this
    · exact hP1.elim
  · exact hP1.elim
theorem oki_rng2 {tg a b : Expr} {xa xb : TEx} {p : Pos} (hg : Gl X "range") (hm : X.mg "range" = none) (ha : PE X a (rdE T X W c xa)) (hb : PE X b (rdE T X W c xb)) (hs : starEach [a, b] X.env = [(false, eval a X.env), (false, eval b X.env)]) (hs2 : starEach [b] X.env = [(false, eval b X.env)]) :
    PI X tg (.Call (.Name "range" p) [a, b] [] pos) (rdI T X W c (iRng2 xa xb)) := by
  refine (pi_range2 (ta := tCons (rdE T X W c xa) (tCons (rdE T X W c xb) tNil)) hg hm (pa_cons ha (pa_cons hb pa_nil hs2) (by rw [hs, hs2])) hs hs2).imp fun σ H R ⟨γ, S, ρ, hE, hS, hP⟩ => rd_bind hE hS hP fun v H1 d S1 ρ1 e r hE1 hS1 hP1 => rd_bind hE1 hS1 hP1 fun v2 H2 d2 S2 ρ2 e2 r2 hE2 hS2 hP2 => ?_
  split at hP2
  · rename_i i j
    split at hP2
    · rename_i hj
      have a1 := rep_intV r
      have a2 := rep_intV r2
      subst a1 a2
      rw [Bool.and_eq_true] at hj
      obtain ⟨i1, i2⟩ := rngOk_of hj.1
      obtain ⟨j1, j2⟩ := rngOk_of hj.2
      exact ⟨i, j, rfl, ⟨i1, i2, j1, j2⟩, hP2 _ H2 ρ2 (Ext.refl _ _) (fun o => walks_rng) hS2⟩
    · exact hP2.elim
  · exact hP2.elim
theorem pairs_get {xs ys : List D} {i : Nat} {x : Vl} (h : (pairs xs ys)[i]? = some x) : ∃ a b, xs[i]? = some a ∧ ys[i]? = some b ∧ x = .d (.tuple [a, b]) := by
  unfold pairs at h
  rw [List.getElem?_map] at h
  cases q : (xs.zip ys)[i]? with
  | none => rw [q] at h; cases h
  | some p =>
    rw [q] at h
    cases h
    obtain ⟨q1, q2⟩ := List.getElem?_zip_eq_some.mp q
    exact ⟨_, _, q1, q2, rfl⟩
theorem walks_pairs {xs ys : List D} {vs ws : List L2.V} {J : It} (o : TupOut ρ H) (rx : RepDs X.K ρ H xs vs) (ry : RepDs X.K ρ H ys ws)
    (hg : ∀ i ρ' H' x y, Ext ρ ρ' H H' → vs[i]? = some x → ws[i]? = some y → J.go i H' ∧ ∀ v H2, J.yld i H' v H2 → ∃ p, v = .ref p ∧ H' p = none ∧ H2 = upd H' p (.tup [x, y]))
    (hs : ∀ i ρ' H', Ext ρ ρ' H H' → vs.length ≤ i ∨ ws.length ≤ i → J.stop i H') : Walks T X ρ H J (pairs xs ys) where
  go := fun i ρ' H' x e hx => by
    obtain ⟨a, b, q1, q2, rfl⟩ := pairs_get hx
    obtain ⟨x, e1, r1⟩ := rx.get q1
    obtain ⟨y, e2, r2⟩ := ry.get q2
    obtain ⟨g1, g2⟩ := hg i ρ' H' x y e e1 e2
    refine ⟨g1, fun v H2 hy => ?_⟩
    obtain ⟨p, rfl, hp, rfl⟩ := g2 v H2 hy
    refine ⟨.inr ⟨p, _, hp, rfl⟩, ?_⟩
    have e' : Ext ρ ρ' H (upd H' p (.tup [x, y])) := e.trans (Ext.new hp)
    unfold RepV RepD
    exact ⟨p, _, rfl, SqT.of upd_same, RepDs.cons (r1.mono o e') (RepDs.cons (r2.mono o e') RepDs.nil)⟩
  stop := fun i ρ' H' e hl => hs i ρ' H' e (by
    unfold pairs at hl
    rw [List.length_map, List.length_zip] at hl
    rw [rx.length, ry.length]
    omega)
theorem oki_zip {elts : List Expr} {kk : Nat} {tpos : Pos} {a b : Expr} {xa xb : TEx} {p : Pos} (hg : Gl X "zip") (hm : X.mg "zip" = none) (ha : PE X a (rdE T X W c xa)) (hb : PE X b (rdE T X W c xb)) (hs : starEach [a, b] X.env = (false, eval a X.env) :: starEach [b] X.env) (hs2 : starEach [b] X.env = (false, eval b X.env) :: starEach [] X.env) :
    PI X (.Tuple elts kk tpos) (.Call (.Name "zip" p) [a, b] [] pos) (rdI T X W c (iZip xa xb)) := by
  refine (RZ.pi_zipA (ta := tCons (rdE T X W c xa) (tCons (rdE T X W c xb) tNil)) hg hm (pa_cons ha (pa_cons hb pa_nil hs2) hs) hs (by rw [hs2]; rfl)).imp fun σ H R ⟨γ, S, ρ, hE, hS, hP⟩ => rd_bind hE hS hP fun v H1 d S1 ρ1 e r hE1 hS1 hP1 => rd_bind hE1 hS1 hP1 fun v2 H2 d2 S2 ρ2 e2 r2 hE2 hS2 hP2 => ?_
  have r' := RepV.mono hS1.out e2 r
  split at hP2
  · rename_i xs ys
    unfold RepV RepD at r'
    unfold rV RepV RepD at r2
    obtain ⟨a, vs, rfl, a1, a2, a3⟩ := r'
    obtain ⟨b, ws, rfl, b1, b2, b3⟩ := r2
    refine ⟨a, b, vs, ws, rfl, .inl ⟨SqL.of a2, SqL.of b2, hP2 _ H2 ρ2 (Ext.refl _ _) (fun o => walks_pairs o a3 b3 (fun i ρ' H' x y e ex ey => ?_) fun i ρ' H' e hl => ⟨vs, ws, SqL.of (e.keep _ _ a2 a1), SqL.of (e.keep _ _ b2 b1), hl⟩) hS2⟩⟩
    have hq1 : SqL X.K H' a vs := SqL.of (e.keep _ _ a2 a1)
    have hq2 : SqL X.K H' b ws := SqL.of (e.keep _ _ b2 b1)
    refine ⟨⟨vs, ws, x, y, hq1, hq2, ex, ey⟩, fun v H3 hy => ?_⟩
    obtain ⟨p, x', y', e1, e2, e3, e4, e5⟩ := hy
    have := e4 vs hq1; rw [ex] at this; cases this
    have := e5 ws hq2; rw [ey] at this; cases this
    exact ⟨p, e1, e2, e3⟩
  · rename_i xs ys
    unfold RepV RepD at r'
    unfold rV RepV RepD at r2
    obtain ⟨a, vs, rfl, a2, a3⟩ := r'
    obtain ⟨b, ws, rfl, b2, b3⟩ := r2
    refine ⟨a, b, vs, ws, rfl, .inr ⟨a2, b2, hP2 _ H2 ρ2 (Ext.refl _ _) (fun o => walks_pairs o a3 b3 (fun i ρ' H' x y e ex ey => ?_) fun i ρ' H' e hl => ⟨vs, ws, SqT.ext o e a2, SqT.ext o e b2, hl⟩) hS2⟩⟩
    have hq1 : SqT X.K H' a vs := SqT.ext hS2.out e a2
    have hq2 : SqT X.K H' b ws := SqT.ext hS2.out e b2
    refine ⟨⟨vs, ws, x, y, hq1, hq2, ex, ey⟩, fun v H3 hy => ?_⟩
    obtain ⟨p, x', y', e1, e2, e3, e4, e5⟩ := hy
    have := e4 vs hq1; rw [ex] at this; cases this
    have := e5 ws hq2; rw [ey] at this; cases this
    exact ⟨p, e1, e2, e3⟩
  · exact hP2.elim
theorem enumD_get {xs : List D} {i : Nat} {x : Vl} (h : (enumD xs)[i]? = some x) : ∃ a, xs[i]? = some a ∧ x = .d (.tuple [.int i, a]) := by
  unfold enumD at h
  rw [List.getElem?_map] at h
  cases q : ((List.range xs.length).zip xs)[i]? with
  | none => rw [q] at h; cases h
  | some p =>
    rw [q] at h
    cases h
    obtain ⟨q1, q2⟩ := List.getElem?_zip_eq_some.mp q
    have hl : i < xs.length := (List.getElem?_eq_some_iff.mp q2).1
    rw [List.getElem?_range hl] at q1
    cases q1
    exact ⟨_, q2, rfl⟩
theorem oki_enum {elts : List Expr} {kk : Nat} {tpos : Pos} {a : Expr} {xa : TEx} {p : Pos} (hg : Gl X "enumerate") (hm : X.mg "enumerate" = none) (ha : PE X a (rdE T X W c xa)) (hs : starEach [a] X.env = [(false, eval a X.env)]) :
    PI X (.Tuple elts kk tpos) (.Call (.Name "enumerate" p) [a] [] pos) (rdI T X W c (iEnum xa)) := by
  refine (pi_enum (ta := tCons (rdE T X W c xa) tNil) hg hm (pa_cons ha pa_nil hs) hs).imp fun σ H R ⟨γ, S, ρ, hE, hS, hP⟩ => rd_bind hE hS hP fun v H1 d S1 ρ1 e r hE1 hS1 hP1 => ?_
  split at hP1
  · rename_i xs
    unfold rV RepV RepD at r
    obtain ⟨a, vs, rfl, a1, a2, a3⟩ := r
    refine ⟨a, vs, rfl, SqL.of a2, hP1 _ H1 ρ1 (Ext.refl _ _) (fun o => ⟨fun i ρ' H' x e hx => ?_, fun i ρ' H' e hl => ⟨vs, SqL.of (e.keep _ _ a2 a1), by rw [a3.length]; simpa [enumD] using hl⟩⟩) hS1⟩
    obtain ⟨d, q1, rfl⟩ := enumD_get hx
    obtain ⟨y, e1, r1⟩ := a3.get q1
    have hq : SqL X.K H' a vs := SqL.of (e.keep _ _ a2 a1)
    refine ⟨⟨vs, y, hq, e1⟩, fun v H2 hy => ?_⟩
    obtain ⟨p, x', rfl, hp, rfl, e4⟩ := hy
    have := e4 vs hq; rw [e1] at this; cases this
    refine ⟨.inr ⟨p, _, hp, rfl⟩, ?_⟩
    have e' := e.trans (Ext.new (o := .tup [.int (i : Nat), y]) hp)
    unfold RepV RepD
    exact ⟨p, _, rfl, SqT.of upd_same, RepDs.cons (by unfold RepD; rfl) (RepDs.cons (r1.mono o e') RepDs.nil)⟩
  · exact hP1.elim
end
end Mk
/-! Mk11: comprehensions, stores into objects. -/
namespace Mk
open PySem PySem.Spec PyProof.Rows L2
/-- no exception at all -/
abbrev WF : WX := fun _ _ _ _ => False
section
variable {T : Tx} {X : Cx} {W : WX} {c : Cl} {σ : L2.St} {ρ ρ' ρ1 : List Addr} {H H' H1 : Hp} {γ : Env} {S : Store} {pos : Pos}
theorem wipeE_get : ∀ {w : List Nat} {γ : Env} {i : Nat} {v : Vl}, (wipeE γ w)[i]? = some (some v) → γ[i]? = some (some v) ∧ i ∉ w
  | [], γ, i, v, h => ⟨h, by simp⟩
  | j :: w, γ, i, v, h => by
    unfold wipeE at h
    obtain ⟨h1, h2⟩ := wipeE_get h
    by_cases e : j = i
    · subst e
      by_cases l : j < γ.length
      · rw [List.getElem?_set_self l] at h1; cases h1
      · rw [List.getElem?_eq_none (by simpa using l)] at h1; cases h1
    · rw [List.getElem?_set_ne e] at h1
      exact ⟨h1, by simp only [List.mem_cons, not_or]; exact ⟨fun z => e z.symm, h2⟩⟩
theorem wipeE_len : ∀ {w : List Nat} {γ : Env}, (wipeE γ w).length = γ.length
  | [], γ => rfl
  | j :: w, γ => by unfold wipeE; rw [wipeE_len]; simp
theorem RepE.wipe {w : List Nat} (h : RepE T.toTb X.K ρ H γ σ) : RepE T.toTb X.K ρ H (wipeE γ w) (wipe σ w) := by
  refine ⟨by rw [wipeE_len, wipe_length]; exact h.len, fun i v q => ?_⟩
  obtain ⟨h1, h2⟩ := wipeE_get q
  obtain ⟨x, e1, e2⟩ := h.at_ i v h1
  exact ⟨x, by rw [wipe_out h2]; exact e1, e2⟩
theorem wipe_in : ∀ {w : List Nat} {i : Nat}, i ∈ w → (wipe σ w)[i]? = if i < σ.length then some none else none
  | j :: w, i, h => by
    unfold L2.wipe
    by_cases e : j = i
    · subst e
      by_cases l : j < σ.length
      · rw [if_pos l, List.getElem?_set_self (by rw [wipe_length]; exact l)]
      · rw [if_neg l, List.getElem?_eq_none (by simp [wipe_length]; omega)]
    · rw [List.getElem?_set_ne e]
      refine wipe_in ?_
      rcases List.mem_cons.mp h with z | z
      · exact absurd z.symm e
      · exact z
theorem wipe_eq {σ1 σ2 : L2.St} {w ws : List Nat} (hl : σ2.length = (wipe σ1 w).length) (hw : ∀ j ∈ ws, j ∈ w) (h : ∀ j, j ∉ ws → σ2[j]? = (wipe σ1 w)[j]?) : wipe σ2 w = wipe σ1 w := by
  have hl' : σ2.length = σ1.length := by rw [hl, wipe_length]
  refine List.ext_getElem? fun i => ?_
  by_cases m : i ∈ w
  · rw [wipe_in m, wipe_in m, hl']
  · rw [wipe_out m, h i fun z => m (hw i z)]
/-- one turn of a comprehension's loop: what is left to do -/
theorem lc_turn {ws w : List Nat} {g : TTg} {t : TTs} {e : TEx} {n : Nat} {D : Addr} {x : Vl} {v : L2.V} {m : R Unit} {Nx : Hp → Prop} {γ' : Env} {K0 : Store → R Unit}
    (hw : ∀ j ∈ ws, j ∈ w) (hD : ρ[n]? = some D) (hE : RepE T.toTb X.K ρ H γ' (wipe σ w)) (hS : RepS X.K ρ H S) (hv : RepV T.toTb X.K ρ H x v)
    (hm : (match g x γ' with
      | none => .stuck
      | some γ1 => match t c γ1 S with
        | .ok true S1 => match e c γ1 S1 with
          | .ok (.d d) S2 => match S2[n]? with
            | some (.lst out) => if out.length < LINE then K0 (S2.set n (.lst (out ++ [d]))) else .stuck
            | none => .stuck
          | _ => .stuck
        | .ok false S1 => K0 S1
        | _ => .stuck) = m) (hok : ∃ S', m = .ok () S')
    (hN : ∀ S' ρ' H', Ext ρ ρ' H H' → RepS X.K ρ' H' S' → K0 S' = m → Nx H') :
    rdTg T X g ws v (wipe σ w) H fun σ2 H2 => wipe σ2 w = wipe σ w ∧ rdT T X WF c t σ2 H2 fun b H3 => if b = true then rdE T X WF c e σ2 H3 fun y H4 => ∃ acc, H4 D = some (.lst acc) ∧ acc.length < sizeLine ∧ Nx (upd H4 D (.lst (acc ++ [y]))) else Nx H3 := by
  subst hm
  obtain ⟨So, hok⟩ := hok
  split at hok
  · cases hok
  rename_i γ1 eg
  rw [eg] at hN
  refine ⟨x, γ', γ1, ρ, hv, hE, eg, fun σ2 hE2 l2 ag => ⟨wipe_eq l2 hw ag, γ1, S, ρ, hE2, hS, ?_⟩⟩
  dsimp only at hN hok
  cases q : t c γ1 S with
  | stuck => rw [q] at hok; cases hok
  | er k y S1 => rw [q] at hok; cases hok
  | ok b S1 =>
    rw [q] at hN hok
    refine fun b' H3 ρ3 e3 rb hS3 => ?_
    have rb' : b' = b := rb
    subst rb'
    cases b' with
    | false =>
      dsimp only
      rw [if_neg Bool.false_ne_true]
      exact hN S1 ρ3 H3 e3 hS3 rfl
    | true =>
      dsimp only at hN hok ⊢
      rw [if_pos rfl]
      refine ⟨γ1, S1, ρ3, hE2.mono hS.out e3, hS3, ?_⟩
      cases q2 : e c γ1 S1 with
      | stuck => rw [q2] at hok; cases hok
      | er k y S2 => rw [q2] at hok; cases hok
      | ok dv S2 =>
        rw [q2] at hN hok
        refine fun y H4 ρ4 e4 r4 hS4 => ?_
        cases dv with
        | d d =>
          dsimp only at hN hok
          cases q3 : S2[n]? with
          | none => rw [q3] at hok; cases hok
          | some ob =>
            cases ob with
            | lst out =>
              rw [q3] at hN hok
              dsimp only at hN hok
              obtain ⟨D', acc, d1, d2, d3⟩ := hS4.at_ n out q3
              have hD4 : ρ4[n]? = some D := e4.get (e3.get hD)
              rw [hD4] at d1
              cases d1
              by_cases hl : out.length < LINE
              · rw [if_pos hl] at hN
                refine ⟨acc, d2, by rw [line_eq, d3.length]; exact hl, ?_⟩
                have r4' : RepD X.K ρ4 H4 d y := by
                  unfold rV RepV at r4; exact r4
                exact hN _ ρ4 _ ((e3.trans e4).trans (Ext.chg (List.mem_of_getElem? hD4))) (hS4.chg hD4 (d3.append (RepDs.cons r4' RepDs.nil))) rfl
              · rw [if_neg hl] at hok; cases hok
        | _ => cases hok
mutual
theorem RepD.sub (h : ∀ a ∈ ρ, a ∈ ρ') : ∀ {d : D} {v : L2.V}, RepD X.K ρ' H d v → RepD X.K ρ H d v
  | .none, v, r => by unfold RepD at *; exact r
  | .bool b, v, r => by unfold RepD at *; exact r
  | .int i, v, r => by unfold RepD at *; exact r
  | .str s, v, r => by unfold RepD at *; exact r
  | .tuple xs, v, r => by
    unfold RepD at *
    obtain ⟨a, vs, h1, h2, h3⟩ := r
    exact ⟨a, vs, h1, h2, RepDs.sub h h3⟩
  | .list xs, v, r => by
    unfold RepD at *
    obtain ⟨a, vs, h1, h2, h3, h4⟩ := r
    exact ⟨a, vs, h1, fun z => h2 (h a z), h3, RepDs.sub h h4⟩
  | .dict _, v, r => by unfold RepD at *; exact r
theorem RepDs.sub (h : ∀ a ∈ ρ, a ∈ ρ') : ∀ {ds : List D} {vs : List L2.V}, RepDs X.K ρ' H ds vs → RepDs X.K ρ H ds vs
  | [], vs, r => by unfold RepDs at *; exact r
  | x :: xs, vs, r => by
    unfold RepDs at *
    obtain ⟨v, w, h1, h2, h3⟩ := r
    exact ⟨v, w, h1, RepD.sub h h2, RepDs.sub h h3⟩
end
theorem RepS.take {n : Nat} (s : RepS X.K ρ H S) : RepS X.K (ρ.take n) H (S.take n) := by
  have sb : ∀ a ∈ ρ.take n, a ∈ ρ := fun a h => List.mem_of_mem_take h
  refine ⟨by simp [s.len], s.nd.sublist (List.take_sublist n ρ), fun a h => s.out a (sb a h), fun i xs q => ?_⟩
  have hi : i < n := by
    have := (List.getElem?_eq_some_iff.mp q).1
    rw [List.length_take] at this
    omega
  rw [List.getElem?_take_of_lt hi] at q
  obtain ⟨a, vs, h1, h2, h3⟩ := s.at_ i xs q
  exact ⟨a, vs, by rw [List.getElem?_take_of_lt hi]; exact h1, h2, h3.sub sb⟩
theorem Ext.take (e : Ext ρ ρ' H H') : ρ'.take ρ.length = ρ := by
  obtain ⟨⟨t, rfl, _⟩, _, _⟩ := e
  simp
/-- back to the base -/
theorem Ext.base (e : Ext (ρ1 ++ ρ) ρ' H H') (k : ∀ b o, H1 b = some o → H b = some o) (s : ∀ b, b ∈ ρ → H1 b = none) : Ext ρ1 ρ1 H1 H' := by
  refine ⟨⟨[], by simp, by simp⟩, fun b o hb hn => e.keep b o (k b o hb) fun z => ?_, fun b hb hne => ?_⟩
  · rcases List.mem_append.mp z with z | z
    · exact hn z
    · rw [s b z] at hb; cases hb
  · refine e.stay b (List.mem_append_left _ hb) fun z => hne ?_
    cases q : H1 b with
    | none => rfl
    | some o => rw [k b o q] at z; cases z
theorem lc_end {m : Bool} {D : Addr} {S1 S' : Store} {Q : VK} (hD : H1 D = none) (hl : ρ1.length = S1.length) (e : Ext (ρ1 ++ [D]) ρ' (upd H1 D (.lst [])) H') (hS : RepS X.K ρ' H' S') (hP : Po T X W (rV T X) σ ρ1 H1 (lcEnd m S1.length S') Q) : Q (.ref D) H' := by
  unfold lcEnd at hP
  split at hP
  case isFalse => exact hP.elim
  rename_i hn
  split at hP
  case h_2 => exact hP.elim
  rename_i out eo
  have hl2 : ρ'.length = (ρ1 ++ [D]).length := by rw [hS.len, hn, List.length_append, hl]; rfl
  have hρ : ρ' = ρ1 ++ [D] := by
    have := e.take
    rw [← hl2, List.take_length] at this
    exact this
  have hDn : (ρ1 ++ [D])[S1.length]? = some D := by rw [← hl]; simp
  obtain ⟨D', acc, d1, d2, d3⟩ := hS.at_ _ out eo
  rw [hρ, hDn] at d1
  cases d1
  have nd : D ∉ ρ1 := fun z => by
    have := hS.nd
    rw [hρ] at this
    exact (List.nodup_append.mp this).2.2 D z D (by simp) rfl
  have kk : ∀ b o, H1 b = some o → upd H1 D (.lst []) b = some o := fun b o q => by rw [upd_ne (ne_of_none q hD)]; exact q
  have eb : Ext ρ1 ρ1 H1 H' := e.base kk fun b hb => by
    have : b = D := by simpa using hb
    subst this; exact hD
  cases m with
  | false =>
    refine hP (.ref D) H' ρ1 eb ?_ ?_
    · unfold rV RepV RepD
      exact ⟨D, acc, rfl, nd, d2, d3.sub fun a z => by rw [hρ]; exact List.mem_append_left _ z⟩
    · have := hS.take (n := S1.length)
      rwa [hρ, ← hl, List.take_left, hl] at this
  | true =>
    refine hP (.ref D) H' ρ' ?_ ?_ hS
    · rw [hρ]
      exact ⟨⟨[D], rfl, by simp [hD]⟩, eb.keep, eb.stay⟩
    · unfold rV RepV
      exact ⟨D, by rw [hρ]; exact hDn, rfl⟩
/-- the reading of a comprehension -/
theorem rd_lc {m : Bool} {w ws : List Nat} {it : TIt} {g : TTg} {t : TTs} {e : TEx} {Q : VK} (hw : ∀ j ∈ ws, j ∈ w) (h : rdE T X W c (xLc m w it g t e) σ H Q) :
    tLc (rdI T X W c it) (rdTg T X g ws) (rdT T X WF c t) (rdE T X WF c e) w σ H Q := by
  obtain ⟨γ, S, ρ, hE, hS, hP⟩ := h
  refine rd_bind hE hS hP fun J H1 d S1 ρ1 e1 r hE1 hS1 hP1 D hD => ?_
  have em : Ext ρ1 (ρ1 ++ [D]) H1 (upd H1 D (.lst [])) := Ext.newMem hD
  have hE2 : RepE T.toTb X.K (ρ1 ++ [D]) (upd H1 D (.lst [])) (wipeE γ w) (wipe σ w) := (hE1.mono hS1.out em).wipe
  have hS2 : RepS X.K (ρ1 ++ [D]) (upd H1 D (.lst [])) (S1 ++ [.lst []]) := hS1.newMem hD RepDs.nil
  have hDn : (ρ1 ++ [D])[S1.length]? = some D := by rw [← hS1.len]; simp
  cases d with
  | its xs =>
    have wk : Walks T X ρ1 H1 J xs := r hS1.out
    obtain ⟨Rr, hR⟩ : ∃ Rr, lcLoop g t e c (wipeE γ w) S1.length xs (S1 ++ [.lst []]) = Rr := ⟨_, rfl⟩
    have hP1' : Po T X W (rV T X) σ ρ1 H1 (lcFin m S1.length Rr) Q := by rw [← hR]; exact hP1
    refine ⟨fun i k H' => k = xs.length - i ∧ i ≤ xs.length ∧ ∃ S' ρ', Ext (ρ1 ++ [D]) ρ' (upd H1 D (.lst [])) H' ∧ RepS X.K ρ' H' S' ∧ lcLoop g t e c (wipeE γ w) S1.length (xs.drop i) S' = Rr, ⟨_, rfl, Nat.zero_le _, _, _, Ext.refl _ _, hS2, hR⟩, ?_⟩
    rintro i k H' ⟨rfl, hl, S', ρ', e', hS', eq⟩
    by_cases hlt : i < xs.length
    · have hx : xs[i]? = some xs[i] := List.getElem?_eq_getElem hlt
      obtain ⟨g1, g2⟩ := wk.go i ρ' H' _ (em.trans e') hx
      refine .inr ⟨g1, fun H2 => ∃ S' ρ', Ext (ρ1 ++ [D]) ρ' (upd H1 D (.lst [])) H2 ∧ RepS X.K ρ' H2 S' ∧ lcLoop g t e c (wipeE γ w) S1.length (xs.drop (i + 1)) S' = Rr, fun H2 q => ⟨_, by omega, rfl, hlt, q⟩, fun v H2 y => ?_⟩
      obtain ⟨y1, y2⟩ := g2 v H2 y
      have ey : Ext ρ' ρ' H' H2 := ext_yld y1
      rw [List.drop_eq_getElem_cons hlt] at eq
      unfold lcLoop at eq
      refine lc_turn hw (e'.get hDn) (hE2.mono hS2.out (e'.trans ey)) (reps_yld y1 hS') y2 eq ?_ fun S3 ρ3 H3 e3 hS3 q => ⟨S3, ρ3, (e'.trans ey).trans e3, hS3, q⟩
      cases Rr with
      | ok u S3 => exact ⟨S3, rfl⟩
      | er kk x S3 => exact hP1'.elim
      | stuck => exact hP1'.elim
    · have hi : i = xs.length := by omega
      subst hi
      rw [List.drop_length] at eq
      rw [← eq] at hP1'
      exact .inl ⟨wk.stop _ ρ' H' (em.trans e') (Nat.le_refl _), lc_end hD hS1.len e' hS' hP1'⟩
  | ref o =>
    obtain ⟨a, ha, rfl⟩ := r
    obtain ⟨Rr, hR⟩ : ∃ Rr, lcRef g t e c (wipeE γ w) S1.length o (LINE + 1) 0 (S1 ++ [.lst []]) = Rr := ⟨_, rfl⟩
    have hP1' : Po T X W (rV T X) σ ρ1 H1 (lcFin m S1.length Rr) Q := by rw [← hR]; exact hP1
    have hok : ∃ S3, Rr = .ok () S3 := by
      cases Rr with
      | ok u S3 => exact ⟨S3, rfl⟩
      | er kk x S3 => exact hP1'.elim
      | stuck => exact hP1'.elim
    refine ⟨fun i k H' => ∃ S' ρ', Ext (ρ1 ++ [D]) ρ' (upd H1 D (.lst [])) H' ∧ RepS X.K ρ' H' S' ∧ lcRef g t e c (wipeE γ w) S1.length o k i S' = Rr, ⟨_, _, _, Ext.refl _ _, hS2, hR⟩, ?_⟩
    rintro i k H' ⟨S', ρ', e', hS', eq⟩
    obtain ⟨S0, rfl⟩ := hok
    cases k with
    | zero => cases eq
    | succ k =>
      have ha' : ρ'[o]? = some a := (em.trans e').get ha
      unfold lcRef at eq
      cases eo : S'[o]? with
      | none => rw [eo] at eq; cases eq
      | some ob =>
        cases ob with
        | lst xs =>
          rw [eo] at eq
          dsimp only at eq
          obtain ⟨a', vs, b1, b2, b3⟩ := hS'.at_ o xs eo
          rw [ha'] at b1
          cases b1
          cases en : xs[i]? with
          | none =>
            rw [en] at eq
            cases eq
            exact .inl ⟨⟨vs, SqL.of b2, by rw [b3.length]; exact List.getElem?_eq_none_iff.mp en⟩, lc_end hD hS1.len e' hS' hP1'⟩
          | some x =>
            rw [en] at eq
            obtain ⟨v, n1, n2⟩ := b3.get en
            refine .inr ⟨⟨vs, v, SqL.of b2, n1⟩, fun H2 => ∃ S' ρ', Ext (ρ1 ++ [D]) ρ' (upd H1 D (.lst [])) H2 ∧ RepS X.K ρ' H2 S' ∧ lcRef g t e c (wipeE γ w) S1.length o k (i + 1) S' = .ok () S0, fun H2 q => ⟨k, Nat.lt_succ_self _, q⟩, fun v' H2 y => ?_⟩
            obtain ⟨rfl, y2⟩ := y
            have ev := y2 vs (SqL.of b2)
            rw [n1] at ev
            cases ev
            exact lc_turn (x := .d x) (K0 := fun S3 => lcRef g t e c (wipeE γ w) S1.length o k (i + 1) S3) hw (e'.get hDn) (hE2.mono hS2.out e') hS' (by unfold RepV; exact n2) eq ⟨S0, rfl⟩ fun S3 ρ3 H3 e3 hS3 q => ⟨S3, ρ3, e'.trans e3, hS3, q⟩
end
end Mk
/-! Mk12: comprehensions as values, stores into objects, parallel stores. -/
namespace Mk
open PySem PySem.Spec PyProof.Rows L2
section
variable {T : Tx} {X : Cx} {W : WX} {c : Cl} {σ : L2.St} {ρ ρ' ρ1 : List Addr} {H H' H1 : Hp} {γ : Env} {S : Store} {pos : Pos}
theorem _root_.L2.PTs.imp {X : Cx} {e : List Expr} {t t' : TT} (h : PTs X e t) (k : ∀ σ H Q, t' σ H Q → t σ H Q) : PTs X e t' := ⟨fun pins s σ H Q I q => h.run pins s σ H Q I (k σ H Q q)⟩
theorem okts_nil : PTs X [] (rdT T X W c Mk.tYes) := pts_nil.imp fun σ H Q ⟨γ, S, ρ, hE, hS, hP⟩ => hP true H ρ (Ext.refl _ _) rfl hS
theorem okts_one {e : Expr} {t : TTs} (h : PT X e (rdT T X W c t)) : PTs X [e] (rdT T X W c t) := pts_one h
/-- the block's context -/
abbrev bl (X : Cx) (s : Shared) (H : Hp) (scope : Scope) (C : Addr) (cl : List (Str × Addr)) (fp : List Addr) : Cx := X.blk s H scope (compEnvC scope cl C X.env) fp
theorem ok_lc {m : Bool} {elt tg iter : Expr} {ifs : List Expr} {scope : Scope} {own : List (Str × Nat)} {ws : List Nat} {it : TIt} {g : TTg} {t : TTs} {e : TEx} (hc : X.calm = true) (hN : X.N.Nodup) (hi : PI X tg iter (rdI T X W c it)) (ok : BlkOk X.N X.env.scope scope own)
    (hg : ∀ (s : Shared) (H : Hp) (C : Addr) (cl : List (Str × Addr)) (fp : List Addr), PG (bl X s H scope C cl fp) tg (rdTg T (bl X s H scope C cl fp) g ws)) (ht : ∀ (s : Shared) (H : Hp) (C : Addr) (cl : List (Str × Addr)) (fp : List Addr), PTs (bl X s H scope C cl fp) ifs (rdT T (bl X s H scope C cl fp) WF c t))
    (he : ∀ (s : Shared) (H : Hp) (C : Addr) (cl : List (Str × Addr)) (fp : List Addr), PE (bl X s H scope C cl fp) elt (rdE T (bl X s H scope C cl fp) WF c e)) (hw : ∀ j ∈ ws, j ∈ own.map (·.2)) (hs : ∀ x, foldedSetIterable iter X.env x = pure x) :
    PE X (.ListComp elt [⟨tg, iter, ifs, 0⟩] scope pos) (rdE T X W c (xLc m (own.map (·.2)) it g t e)) :=
  (pe_lc (g := rdTg T X g ws) (tt := rdT T X WF c t) (te := rdE T X WF c e) hc hN hi ok (fun s H C cl fp => hg s H C cl fp) (fun s H C cl fp => ht s H C cl fp) (fun s H C cl fp => he s H C cl fp) hs).imp fun σ H Q h => rd_lc hw h
theorem oks_setLc {m : Bool} {i : Nat} {y : Str} {py spos : Pos} {elt tg iter : Expr} {ifs : List Expr} {scope : Scope} {own : List (Str × Nat)} {ws : List Nat} {it : TIt} {g : TTg} {t : TTs} {e : TEx} (hc : X.calm = true) (hN : X.N.Nodup) (hy : X.N[i]? = some y) (hyl : X.env.scope.names.lookup y = some .local)
    (hsw : swapsWith (.ListComp elt [⟨tg, iter, ifs, 0⟩] scope pos) (some (.Name y py)) spos.line X.env = pure true) (hi : PI X tg iter (rdI T X W c it)) (ok : BlkOk X.N X.env.scope scope own)
    (hg : ∀ (s : Shared) (H : Hp) (C : Addr) (cl : List (Str × Addr)) (fp : List Addr), PG (bl X s H scope C cl fp) tg (rdTg T (bl X s H scope C cl fp) g ws)) (ht : ∀ (s : Shared) (H : Hp) (C : Addr) (cl : List (Str × Addr)) (fp : List Addr), PTs (bl X s H scope C cl fp) ifs (rdT T (bl X s H scope C cl fp) WF c t))
    (he : ∀ (s : Shared) (H : Hp) (C : Addr) (cl : List (Str × Addr)) (fp : List Addr), PE (bl X s H scope C cl fp) elt (rdE T (bl X s H scope C cl fp) WF c e)) (hw : ∀ j ∈ ws, j ∈ own.map (·.2)) (hs : ∀ x, foldedSetIterable iter X.env x = pure x) :
    PS X (.Assign [.Name y py] (.ListComp elt [⟨tg, iter, ifs, 0⟩] scope pos) spos) (rdS T X W c (sSet i (xLc m (own.map (·.2)) it g t e))) :=
  (ps_setLc (g := rdTg T X g ws) (tt := rdT T X WF c t) (te := rdE T X WF c e) hc hN hy hyl hsw hi ok (fun s H C cl fp => hg s H C cl fp) (fun s H C cl fp => ht s H C cl fp) (fun s H C cl fp => he s H C cl fp) hs).imp fun D σ H ⟨γ, S, ρ, hE, hS, hP⟩ =>
    rd_lc hw (rs_bind hE hS hP fun v H1 d S1 ρ1 e r hE1 hS1 hP1 => hP1 _ H1 ρ1 (Ext.refl _ _) (hE1.set r) hS1)

/-! ### stores into objects -/
theorem oks_setIx {o i e : Expr} {xo xi xe : TEx} {p : Pos} (ho : PE X o (rdE T X W c xo)) (hi : PE X i (rdE T X W c xi)) (he : PE X e (rdE T X W c xe)) (hsw : swapsWithSole [.Subscript o i p] e pos.line X.env = pure false) (hst : swappedStores [.Subscript o i p] e X.env = pure none)
    (ha : ∀ v, assign (.Subscript o i p) X.env v = (do
      let ov ← holding [v] (eval o X.env)
      let iv ← holding [v, ov] (eval i X.env)
      standAt p
      holding [v, ov, iv] (setItem ov iv v)
      release [v, ov, iv] [])) (h1 : (assignEach [.Subscript o i p] X.env).map (·.2) = [assign (.Subscript o i p) X.env]) :
    PS X (.Assign [.Subscript o i p] e pos) (rdS T X W c (sSetIx xo xi xe)) :=
  (ps_asg he (pg_sub ho hi set_list ha) hsw hst h1).imp fun D σ H ⟨γ, S, ρ, hE, hS, hP⟩ => rs_bind hE hS hP fun v H1 d S1 ρ1 e1 r hE1 hS1 hP1 => rs_bind hE1 hS1 hP1 fun v2 H2 d2 S2 ρ2 e2 r2 hE2 hS2 hP2 => rs_bind hE2 hS2 hP2 fun v3 H3 d3 S3 ρ3 e3 r3 hE3 hS3 hP3 => by
    have ra := RepV.mono hS1.out (e2.trans e3) r
    have rb := RepV.mono hS2.out e3 r2
    unfold setAt at hP3
    split at hP3
    case h_2 => exact hP3.elim
    rename_i S4 eq
    split at eq
    case h_2 => cases eq
    rename_i k j y
    split at eq
    case h_2 => cases eq
    rename_i xs eo
    unfold RepV at rb
    obtain ⟨a, b1, rfl⟩ := rb
    obtain ⟨a', vs, b2, b3, b4⟩ := hS3.at_ _ xs eo
    rw [b1] at b2
    cases b2
    have a3 := rep_intV r3
    subst a3
    have hm : a ∈ ρ3 := List.mem_of_getElem? b1
    have ra' : RepD X.K ρ3 H3 y v := by unfold RepV at ra; exact ra
    have fin : ∀ n : Nat, S4 = S3.set k (.lst (xs.set n y)) → ixN vs.length j = some n → ∃ p xs' k' n', V.ref a = V.ref p ∧ V.int j = V.int k' ∧ H3 p = some (.lst xs') ∧ ixN xs'.length k' = some n' ∧ D.nx σ (upd H3 p (.lst (xs'.set n' v))) := fun n e1 e2 => by
      subst e1
      refine ⟨a, vs, j, n, rfl, rfl, b3, e2, hP3 σ _ ρ3 (Ext.chg hm) (hE3.mono hS3.out (Ext.chg hm)) (hS3.chg b1 (RepDs.set n b4 ra'))⟩
    have hl := b4.length
    split at eq
    · rename_i hj
      cases eq
      exact fin _ rfl (by unfold ixN; rw [if_pos hj.1, hl, if_pos hj.2])
    · split at eq
      · rename_i hj
        cases eq
        exact fin _ rfl (by unfold ixN; rw [if_neg (by omega), hl, if_pos hj.2])
      · cases eq
theorem oks_app {o e : Expr} {xo xe : TEx} {apos cpos : Pos} (ho : PE X o (rdE T X W c xo)) (he : PE X e (rdE T X W c xe)) (hbase : attributeBase o "append" X.env (eval o X.env) = eval o X.env) (hst : starEach [e] X.env = (false, eval e X.env) :: starEach [] X.env)
    (hfew : ((backTo cpos (starEach [e] X.env)).all (fun x => !x.1) && (backToKw cpos (keywordEach [] X.env)).all (fun x => x.1.isSome)
      && decide (([e] : List Expr).length + ([] : List Keyword).length + (if ([] : List Keyword).isEmpty then 0 else 1) < 30)) = true) (hline : (apos.endLine == cpos.line) = true) (hsw : swapsWith (.Call (.Attribute o "append" apos) [e] [] cpos) none pos.line X.env = pure false) :
    PS X (.Expr (.Call (.Attribute o "append" apos) [e] [] cpos) pos) (rdS T X W c (sApp xo xe)) :=
  (ps_expr (pe_bm (t := tCons (rdE T X W c xe) tNil) PySem.F.plainAttrs_list PySem.F.slot_list_append PySem.F.type_list_append mt_append ho (pa_cons he pa_nil hst) hbase hfew hline hst rfl) hsw).imp fun D σ H ⟨γ, S, ρ, hE, hS, hP⟩ => rs_bind hE hS hP fun v H1 d S1 ρ1 e1 r hE1 hS1 hP1 => by
    cases d with
    | r i =>
      unfold rV RepV at r
      obtain ⟨a, b1, rfl⟩ := r
      obtain ⟨us, b0⟩ := hS1.out a (List.mem_of_getElem? b1)
      refine ⟨.inl ⟨rfl, us, SqL.of b0⟩, rs_bind hE1 hS1 hP1 fun v2 H2 d2 S2 ρ2 e2 r2 hE2 hS2 hP2 => ?_⟩
      have b1' := e2.get b1
      have hm : a ∈ ρ2 := List.mem_of_getElem? b1'
      unfold app1 at hP2
      split at hP2
      case h_2 => exact hP2.elim
      rename_i S4 eq
      split at eq
      case h_2 => cases eq
      rename_i k y ei
      cases ei
      split at eq
      case h_2 => cases eq
      rename_i xs eo
      obtain ⟨a', vs, b2, b3, b4⟩ := hS2.at_ _ xs eo
      rw [b1'] at b2
      cases b2
      split at eq
      case isFalse => cases eq
      rename_i hl
      cases eq
      have r2' : RepD X.K ρ2 H2 y v2 := by unfold rV RepV at r2; exact r2
      exact ⟨a, vs, v2, rfl, rfl, b3, by rw [line_eq, b4.length]; exact hl, hP2 σ _ ρ2 (Ext.chg hm) (hE2.mono hS2.out (Ext.chg hm)) (hS2.chg b1' (b4.append (RepDs.cons r2' RepDs.nil)))⟩
    | _ => exact hP1.elim
/-! ### name += e, parallel stores -/
theorem oks_aug {i : Nat} {x : Str} {e : Expr} {xe : TEx} {p : Pos} (hN : X.N.Nodup) (hi : X.N[i]? = some x) (hx : Loc X.env.scope x) (h : PE X e (rdE T X W c xe)) (hf : X.fn x = true ∨ X.env.scope.names.lookup x = some .local) :
    PS X (.AugAssign (.Name x p) .Add e pos) (rdS T X W c (sAug i .add xe)) :=
  (ps_aug hN hi hx h ip_add hf).imp fun D σ H ⟨γ, S, ρ, hE, hS, hP⟩ => by
    unfold sAug at hP
    split at hP
    case h_2 => exact hP.elim
    rename_i k e1
    obtain ⟨x', h1, h2⟩ := hE.at_ i _ e1
    have := rep_intV h2
    subst this
    refine ⟨_, h1, rs_bind hE hS hP fun v H1 d S1 ρ1 e r hE1 hS1 hP1 => ?_⟩
    split at hP1
    case h_2 => exact hP1.elim
    rename_i j _
    have := rep_intV r
    subst this
    exact ⟨k, j, rfl, rfl, hP1 _ H1 ρ1 (Ext.refl _ _) (hE1.set rep_int) hS1⟩
theorem oks_par {i j : Nat} {x y : Str} {a b : Expr} {xa xb : TEx} {px py pt pt2 : Pos} {kt k2 : Nat} (hc : X.calm = true) (hN : X.N.Nodup) (hi : X.N[i]? = some x) (hj : X.N[j]? = some y) (hij : i ≠ j) (hx : X.env.scope.names.lookup x = some .local) (hy : X.env.scope.names.lookup y = some .local)
    (ha : PE X a (rdE T X W c xa)) (hb : PE X b (rdE T X W c xb)) (sa : starEach [a, b] X.env = (false, eval a X.env) :: starEach [b] X.env) (sb : starEach [b] X.env = (false, eval b X.env) :: starEach [] X.env)
    (hw : swappedStores [.Tuple [.Name x px, .Name y py] kt pt] (.Tuple [a, b] k2 pt2) X.env = pure (some [x, y])) (hs : swapsWithSole [.Tuple [.Name x px, .Name y py] kt pt] (.Tuple [a, b] k2 pt2) pos.line X.env = pure false) :
    PS X (.Assign [.Tuple [.Name x px, .Name y py] kt pt] (.Tuple [a, b] k2 pt2) pos) (rdS T X W c (sPar i j xa xb)) :=
  (ps_par (ta := tCons (rdE T X W c xa) (tCons (rdE T X W c xb) tNil)) hc hN hi hj hij hx hy (pa_cons ha (pa_cons hb pa_nil sb) sa) hw hs).imp fun D σ H ⟨γ, S, ρ, hE, hS, hP⟩ => rs_bind hE hS hP fun v H1 d S1 ρ1 e1 r hE1 hS1 hP1 => rs_bind hE1 hS1 hP1 fun v2 H2 d2 S2 ρ2 e2 r2 hE2 hS2 hP2 =>
    ⟨v, v2, rfl, hP2 _ H2 ρ2 (Ext.refl _ _) ((hE2.set (RepV.mono hS1.out e2 r)).set r2) hS2⟩
theorem oks_par3 {i j l : Nat} {x y z : Str} {a b e : Expr} {xa xb xe : TEx} {px py pz pt pt2 : Pos} {kt k2 : Nat} (hc : X.calm = true) (hN : X.N.Nodup) (hi : X.N[i]? = some x) (hj : X.N[j]? = some y) (hl : X.N[l]? = some z) (hij : i ≠ j) (hil : i ≠ l) (hjl : j ≠ l) (hx : X.env.scope.names.lookup x = some .local) (hy : X.env.scope.names.lookup y = some .local) (hz : X.env.scope.names.lookup z = some .local)
    (ha : PE X a (rdE T X W c xa)) (hb : PE X b (rdE T X W c xb)) (he : PE X e (rdE T X W c xe)) (sa : starEach [a, b, e] X.env = (false, eval a X.env) :: starEach [b, e] X.env) (sb : starEach [b, e] X.env = (false, eval b X.env) :: starEach [e] X.env) (se : starEach [e] X.env = (false, eval e X.env) :: starEach [] X.env)
    (hw : swappedStores [.Tuple [.Name x px, .Name y py, .Name z pz] kt pt] (.Tuple [a, b, e] k2 pt2) X.env = pure (some [x, y, z])) (hs : swapsWithSole [.Tuple [.Name x px, .Name y py, .Name z pz] kt pt] (.Tuple [a, b, e] k2 pt2) pos.line X.env = pure false) :
    PS X (.Assign [.Tuple [.Name x px, .Name y py, .Name z pz] kt pt] (.Tuple [a, b, e] k2 pt2) pos) (rdS T X W c (sPar3 i j l xa xb xe)) :=
  (ps_par3 (ta := tCons (rdE T X W c xa) (tCons (rdE T X W c xb) (tCons (rdE T X W c xe) tNil))) hc hN hi hj hl hij hil hjl hx hy hz (pa_cons ha (pa_cons hb (pa_cons he pa_nil se) sb) sa) hw hs).imp fun D σ H ⟨γ, S, ρ, hE, hS, hP⟩ => rs_bind hE hS hP fun v H1 d S1 ρ1 e1 r hE1 hS1 hP1 => rs_bind hE1 hS1 hP1 fun v2 H2 d2 S2 ρ2 e2 r2 hE2 hS2 hP2 => rs_bind hE2 hS2 hP2 fun v3 H3 d3 S3 ρ3 e3 r3 hE3 hS3 hP3 =>
    ⟨v, v2, v3, rfl, hP3 _ H3 ρ3 (Ext.refl _ _) (((hE3.set (RepV.mono hS1.out (e2.trans e3) r)).set (RepV.mono hS2.out e3 r2)).set r3) hS3⟩
end
end Mk
/-! Mk13: a def by its body. -/
namespace Mk
open PySem PySem.Spec PyProof.Rows L2
section
variable {T : Tx} {X : Cx} {W : WX} {c : Cl} {σ : L2.St} {ρ ρ' ρ1 : List Addr} {H H' H1 : Hp} {γ : Env} {S : Store} {pos : Pos}
theorem Ext.shrink (e : Ext ρ ρ' H H') : Ext ρ ρ H H' := ⟨⟨[], by simp, by simp⟩, e.keep, e.stay⟩
theorem RepS.back (s : RepS X.K ρ' H' S) (e : Ext ρ ρ' H H') : RepS X.K ρ H' (S.take ρ.length) := by
  have := s.take (n := ρ.length)
  rwa [e.take] at this
theorem fin_ok {keep : Bool} {v : Vl} {x : L2.V} {Q : VK} {E : XK} (e : Ext ρ ρ' H H') (r : RepV T.toTb X.K ρ' H' v x) (s : RepS X.K ρ' H' S) (h : PoF T X.K ρ H (fin keep ρ.length v S) Q E) : Q x H' := by
  have sb : ∀ a ∈ ρ, a ∈ ρ' := fun a ha => by
    obtain ⟨⟨t, rfl, _⟩, _, _⟩ := e
    exact List.mem_append_left _ ha
  have hl : ρ.length ≤ ρ'.length := by
    obtain ⟨⟨t, rfl, _⟩, _, _⟩ := e
    simp
  unfold fin at h
  cases v with
  | d y =>
    refine h x H' ρ e.shrink ?_ (s.back e)
    unfold RepV at r ⊢
    exact r.sub sb
  | r i =>
    unfold RepV at r
    obtain ⟨a, h1, rfl⟩ := r
    dsimp only at h
    split at h
    · rename_i hi
      refine h _ H' ρ e.shrink ?_ (s.back e)
      unfold RepV
      refine ⟨a, ?_, rfl⟩
      obtain ⟨⟨t, rfl, _⟩, _, _⟩ := e
      rwa [List.getElem?_append_left hi] at h1
    · rename_i hi
      split at h
      case h_2 => exact h.elim
      rename_i xs eo
      obtain ⟨a', vs, b1, b2, b3⟩ := s.at_ _ xs eo
      rw [h1] at b1
      cases b1
      have hn : a ∉ ρ := fun z => by
        obtain ⟨⟨t, rfl, _⟩, _, _⟩ := id e
        have nd := (List.nodup_append.mp s.nd).2.2
        rw [List.getElem?_append_right (Nat.le_of_not_lt hi)] at h1
        exact nd a z a (List.mem_of_getElem? h1) rfl
      split at h
      · -- it stays an object
        refine h _ H' (ρ ++ [a]) ?_ ?_ ?_
        · obtain ⟨⟨t, rfl, ht⟩, k, st⟩ := id e
          refine ⟨⟨[a], rfl, fun b hb => ?_⟩, k, st⟩
          have : b = a := by simpa using hb
          subst this
          rw [List.getElem?_append_right (Nat.le_of_not_lt hi)] at h1
          exact ht _ (List.mem_of_getElem? h1)
        · unfold RepV
          exact ⟨a, by simp, rfl⟩
        · have sb2 : ∀ b ∈ ρ ++ [a], b ∈ ρ' := fun b hb => by
            rcases List.mem_append.mp hb with z | z
            · exact sb b z
            · have : b = a := by simpa using z
              subst this
              exact List.mem_of_getElem? h1
          have lt : (S.take ρ.length).length = ρ.length := by rw [List.length_take, ← s.len]; omega
          refine ⟨by rw [List.length_append, List.length_append, lt]; rfl, List.nodup_append.mpr ⟨?_, by simp, fun b hb b' hb' z => ?_⟩, fun b hb => s.out b (sb2 b hb), fun j ys q => ?_⟩
          · have := s.nd
            rw [← e.take]
            exact this.sublist (List.take_sublist _ _)
          · have : b' = a := by simpa using hb'
            subst this
            subst z
            exact hn hb
          · by_cases hj : j < ρ.length
            · rw [List.getElem?_append_left (by rw [lt]; exact hj), List.getElem?_take_of_lt hj] at q
              obtain ⟨b, ws, q1, q2, q3⟩ := s.at_ j ys q
              refine ⟨b, ws, ?_, q2, q3.sub sb2⟩
              rw [List.getElem?_append_left hj]
              obtain ⟨⟨t, rfl, _⟩, _, _⟩ := e
              rwa [List.getElem?_append_left hj] at q1
            · rw [List.getElem?_append_right (by rw [lt]; omega), lt] at q
              have ej : j - ρ.length = 0 := by
                cases z : j - ρ.length with
                | zero => rfl
                | succ n => rw [z] at q; simp at q
              rw [ej] at q
              have q' : Ob.lst xs = Ob.lst ys := by simpa using q
              injection q' with q'
              subst q'
              refine ⟨a, vs, ?_, b2, b3.sub sb2⟩
              rw [List.getElem?_append_right (by omega), ej]
              rfl
      · refine h _ H' ρ e.shrink ?_ (s.back e)
        unfold RepV RepD
        exact ⟨a, vs, rfl, hn, b2, b3.sub sb⟩
  | sc xs => exact h.elim
  | fn f => exact h.elim
  | tv xs => exact h.elim
theorem fin_po {fd : Fn} {args : List Vl} {Q : VK} {E : XK} (hS : RepS X.K ρ H S) (hn : args.length = fd.np) (h : PoF T X.K ρ H (runFn fd c args S) Q E) :
    PoS T X (fun cls dd _ H => E cls dd H) ρ H (fd.body c (args.map some ++ List.replicate (fd.ns - fd.np) none) S) { nx := fun _ H' => Q .non H', rt := Q } := by
  unfold runFn at h
  rw [if_pos hn] at h
  split at h
  · rename_i v S' eq
    rw [eq]
    intro x H' ρ' e r s
    rw [← hS.len] at h
    exact fin_ok e r s h
  · rename_i γ' S' eq
    rw [eq]
    intro σ' H' ρ' e _ s
    rw [← hS.len] at h
    exact fin_ok (v := .d .none) e (by unfold RepV RepD; rfl) s h
  · rename_i k x γ' S' eq
    rw [eq]
    intro cls dd σ' H' ρ' e _ s rx
    have sb : ∀ a ∈ ρ, a ∈ ρ' := fun a ha => by
      obtain ⟨⟨t, rfl, _⟩, _, _⟩ := e
      exact List.mem_append_left _ ha
    refine h cls dd H' ρ e.shrink (by rw [← hS.len]; exact s.back e) ?_
    obtain ⟨C, c1, c2, c3⟩ := rx
    refine ⟨C, c1, c2, ?_⟩
    cases q : T.cf k with
    | none => rw [q] at c3; exact c3
    | some f =>
      rw [q] at c3
      obtain ⟨a, v, d1, d2, d3, d4⟩ := c3
      exact ⟨a, v, d1, fun z => d2 (sb a z), d3, d4.sub sb⟩
  · exact h.elim
theorem rep_args : ∀ {args : List Vl} {vs : List L2.V} {i : Nat} {v : Vl}, RepVs T.toTb X.K ρ H args vs → (args.map some)[i]? = some (some v) → ∃ x, (vs.map some)[i]? = some (some x) ∧ RepV T.toTb X.K ρ H v x := fun {args vs i v} r h => by
  rw [List.getElem?_map] at h
  cases q : args[i]? with
  | none => rw [q] at h; cases h
  | some y =>
    rw [q] at h
    cases h
    obtain ⟨x, e1, e2⟩ := r.get q
    exact ⟨x, by rw [List.getElem?_map, e1]; rfl, e2⟩
theorem rep_start {N : List Str} {args : List Vl} {vs : List L2.V} {ns : Nat} (r : RepVs T.toTb X.K ρ H args vs) (hN : N.length = ns) (hl : args.length ≤ ns) : RepE T.toTb X.K ρ H (args.map some ++ List.replicate (ns - args.length) none) (L2.start N vs) := by
  have hv := r.length
  refine ⟨by unfold L2.start; simp [hv, hN], fun i v q => ?_⟩
  unfold L2.start
  by_cases hi : i < args.length
  · rw [List.getElem?_append_left (by simpa using hi)] at q
    rw [List.getElem?_append_left (by simpa [hv] using hi)]
    exact rep_args r q
  · rw [List.getElem?_append_right (by simpa using hi), List.getElem?_replicate] at q
    split at q <;> cases q
/-- a def that keeps what the evaluator tells of it -/
theorem fn_spF {P : Program} {w : World} {K : PySem.W.Frag} {mg : Str → Option Value} {base : Heap} {x qual : Str} {params : Arguments} {body : List Stmt} {scope : Scope} {dvs : List L2.V} {kws : List (Str × L2.V)} {f : Addr} {fd : FuncData} {N ps : List Str} {k : Nat} {fn : Fn} (F : FunD K x qual params body scope dvs kws f fd) (Sc : FnScope N ps scope) (hnp : fn.np = ps.length) (hns : N.length = fn.ns) (hle : fn.np ≤ fn.ns)
    (hb : ∀ (cdv : Value) (A : Around) (outer : List PySem.Env) (s : Shared) (H : Hp) (E : XK), Room k (A.deeper (envOfC qual scope s.heap.objs.size f cdv)) → A.guards = some [] →
      PSs (cxOf (L2.CX P w) P w K mg base N qual scope f cdv A outer s H E) body (rdS T (cxOf (L2.CX P w) P w K mg base N qual scope f cdv A outer s H E) (fun cls dd _ H => E cls dd H) c fn.body)) :
    FnM P w K mg base (k + 1) f fd ps (spF T K fn.np (runFn fn c)) := by
  refine fnM_of F Sc (fun vs H Q E ⟨args, S, ρ, h1, h2, _⟩ => ?_) fun cdv A outer s H vs Q E hr hgd ⟨args, S, ρ, h1, h2, h3, h4⟩ => ⟨_, hb cdv A outer s H E hr hgd, ?_⟩
  · have := RepVs.length (T := T.toTb) h2
    omega
  · refine ⟨args.map some ++ List.replicate (fn.ns - fn.np) none, S, ρ, ?_, h3, fin_po h3 h1 h4⟩
    have := rep_start (N := N) (T := T) (X := cxOf (L2.CX P w) P w K mg base N qual scope f cdv A outer s H E) (ns := fn.ns) h2 hns (by omega)
    rwa [h1] at this
end
end Mk
/-! Mk14: from the text to the evaluator: expressions. -/
namespace Mk
open PySem PySem.Spec PyProof.Rows L2
/-- what the text of a def is read with: its names; the defs (name, number, parameters, defaults), the built-in names that the module leaves free, the module's constants; where lists are made that change -/
structure Gt where
  N : List Str
  fs : List (Str × Nat × Nat × List Int)
  fr : List Str
  cs : List (Str × D)
  mu : List (Nat × Nat)
def idx : List Str → Str → Option Nat
  | [], _ => none
  | y :: r, x => if y = x then some 0 else match idx r x with
    | some n => some (n + 1)
    | none => none
theorem idx_get : ∀ {N : List Str} {x : Str} {i : Nat}, idx N x = some i → N[i]? = some x
  | [], _, _, h => by cases h
  | y :: r, x, i, h => by
    unfold idx at h
    split at h
    · rename_i e
      cases h
      subst e
      rfl
    · split at h
      · rename_i n e
        cases h
        rw [List.getElem?_cons_succ]
        exact idx_get e
      · cases h
def isMu (G : Gt) (p : Pos) : Bool := G.mu.contains (p.line, p.col)
def inFr (G : Gt) (x : Str) : Bool := decide (x ∈ G.fr)
def isGl (sc : Scope) (x : Str) : Bool := match sc.names.lookup x with
  | some .globalImplicit => true
  | _ => false
def isVis (sc : Scope) (x : Str) : Bool := match sc.names.lookup x with
  | some .local => true
  | some .cell => true
  | some .free => true
  | _ => false
def isLocal (sc : Scope) (x : Str) : Bool := match sc.names.lookup x with
  | some .local => true
  | _ => false
def isLoc (sc : Scope) (x : Str) : Bool := match sc.names.lookup x with
  | some .local => true
  | some .cell => true
  | _ => false
def okName (x : Str) : Bool := !(x == ("__debug__" : Str)) && !(x == ("__classdict__" : Str)) && !(decide (x = "__name__"))
def noStar : List Expr → Bool
  | [] => true
  | .Starred _ _ :: _ => false
  | _ :: r => noStar r
theorem star_cons {e : Expr} {es : List Expr} {env : PySem.Env} (h : noStar (e :: es) = true) : starEach (e :: es) env = (false, eval e env) :: starEach es env ∧ noStar es = true := by
  cases e <;> first | exact ⟨rfl, h⟩ | cases h
theorem star_any : ∀ {es : List Expr} {env : PySem.Env} {pos : Pos}, noStar es = true → (backTo pos (starEach es env)).any (·.1) = false
  | [], _, _, _ => rfl
  | e :: es, env, pos, h => by
    obtain ⟨h1, h2⟩ := star_cons (env := env) h
    rw [h1]
    show (false || (backTo pos (starEach es env)).any (·.1)) = false
    rw [star_any h2]
    rfl
theorem assign_cons {e : Expr} {es : List Expr} {env : PySem.Env} (h : noStar (e :: es) = true) : assignEach (e :: es) env = (false, assign e env) :: assignEach es env := by
  cases e <;> first | rfl | cases h
theorem assign_len : ∀ {es : List Expr} {env : PySem.Env}, noStar es = true → (assignEach es env).length = es.length ∧ (assignEach es env).findIdx? (·.1) = none
  | [], _, _ => ⟨rfl, rfl⟩
  | e :: es, env, h => by
    have h1 := assign_cons (env := env) h
    obtain ⟨_, h2⟩ := star_cons (env := env) h
    obtain ⟨k1, k2⟩ := assign_len (env := env) h2
    rw [h1]
    refine ⟨by rw [List.length_cons, List.length_cons, k1], ?_⟩
    rw [List.findIdx?_cons]
    simp [k2]
def bop : Operator → Option BO
  | .Add => some .add
  | .Sub => some .sub
  | .Mult => some .mul
  | .FloorDiv => some .fdiv
  | .Mod => some .mod
  | .Pow => some .pow
  | _ => none
def cop : CmpOp → CO
  | .Eq => .eq
  | .NotEq => .ne
  | .Lt => .lt
  | .LtE => .le
  | .Gt => .gt
  | .GtE => .ge
  | .Is => .isN
  | .IsNot => .isNotN
  | .In => .inn
  | .NotIn => .notIn
def plainIx : Expr → Bool
  | .Slice _ _ _ _ => false
  | _ => true
theorem plainIx_of {b : Expr} (h : plainIx b = true) : PlainIx b := by
  cases b <;> first | (intro o i; rfl) | cases h
def plainT : Expr → Bool
  | .UnaryOp .Not _ _ => false
  | .BoolOp _ _ _ => false
  | .IfExp _ _ _ _ => false
  | .Compare _ _ _ _ => false
  | _ => true
theorem plainT_of {e : Expr} (h : plainT e = true) (env : PySem.Env) (whole : Sem Value) : isTrue e env whole = (do
    let v ← whole
    standAt e.pos
    holding [v] (truthy v)) := by
  cases e with
  | UnaryOp op a p => cases op <;> first | rfl | cases h
  | BoolOp => cases h
  | IfExp => cases h
  | Compare => cases h
  | _ => rfl
def notSet : Expr → Bool
  | .Set _ _ _ => false
  | _ => true
theorem notSet_of {e : Expr} (h : notSet e = true) (env : PySem.Env) (x : Value) : foldedSetIterable e env x = pure x := by
  cases e <;> first | rfl | cases h
/-- the built-in functions -/
def biOf (m : Bool) (x : Str) : Option (List Vl → Store → R Vl) :=
  if x = "len" then some bLen else if x = "abs" then some bAbs else if x = "max" then some bMax else if x = "min" then some bMin else if x = "repr" then some bRepr
  else if x = "all" then some bAll else if x = "any" then some bAny else if x = "sum" then some bSum else none
def btOf (m : Bool) (x : Str) : Option (List Vl → Store → R Vl) :=
  if x = "int" then some bInt else if x = "tuple" then some bTuple else if x = "list" then some (bList m) else none
def tyOf (x : Str) : Option Ty :=
  if x = "int" then some .int else if x = "bool" then some .bool else if x = "str" then some .str else if x = "tuple" then some .tuple else if x = "list" then some .list else if x = "dict" then some .dict else none

/-- the readers at one depth -/
structure Cs where
  e : Scope → Expr → Option TEx
  t : Scope → Expr → Option TTs
  i : Scope → Expr → Expr → Option TIt
  g : (Str → Bool) → Scope → Expr → Option (TTg × List Nat)
section
variable (G : Gt) (r : Cs)
def cArgs (sc : Scope) : List Expr → Option TAr
  | [] => some aNil
  | e :: es => match r.e sc e, cArgs sc es with
    | some x, some xs => some (aCons x xs)
    | _, _ => none
def cName (sc : Scope) (x : Str) : Option TEx := if okName x = true then
    if isVis sc x = true then match idx G.N x with
      | some i => some (xV i)
      | none => none
    else if isGl sc x = true then match G.cs.lookup x with
      | some d => some (xC (.d d))
      | none => none
    else none
  else none
def cConst : Const → Option TEx
  | .none => some (xC (.d .none))
  | .bool b => some (xC (.d (.bool b)))
  | .int i => some (xC (.d (.int i)))
  | .str s => some (xC (.d (.str s)))
  | _ => none
def cBin (sc : Scope) (a : Expr) (op : Operator) (b : Expr) (p : Pos) : Option TEx := match bop op, r.e sc a, r.e sc b with
  | some o, some x, some y => some (xBin o (isMu G p) x y)
  | _, _, _ => none
def cBool (sc : Scope) (op : BoolOp) : List Expr → Option TEx
  | [] => none
  | [a] => r.e sc a
  | a :: b :: es => match r.e sc a, cBool sc op (b :: es) with
    | some x, some y => match op with
      | .And => some (xAnd x y)
      | .Or => some (xOr x y)
    | _, _ => none
def cBoolT (sc : Scope) (op : BoolOp) : List Expr → Option TTs
  | [] => none
  | [a] => r.t sc a
  | a :: b :: es => match r.t sc a, cBoolT sc op (b :: es) with
    | some x, some y => match op with
      | .And => some (tAnd x y)
      | .Or => some (tOr x y)
    | _, _ => none
def cCmp (sc : Scope) (a : Expr) (ops : List CmpOp) (bs : List Expr) : Option TEx := match ops, bs with
  | [op], [b] => if behindInMarks op b = false then match r.e sc a, r.e sc b with
    | some x, some y => some (xCmp (cop op) x y)
    | _, _ => none else none
  | [op, op'], [b, d] => if lastMarks [op, op'] [b, d] = false then match r.e sc a, r.e sc b, r.e sc d with
    | some x, some y, some z => some (xCmp2 (cop op) (cop op') x y z)
    | _, _, _ => none else none
  | _, _ => none
def cCmpT (sc : Scope) (a : Expr) (ops : List CmpOp) (bs : List Expr) : Option TTs := match ops, bs with
  | [op], [b] => if behindInMarks op b = false then match r.e sc a, r.e sc b with
    | some x, some y => some (tCmp (cop op) x y)
    | _, _ => none else none
  | [op, op'], [b, d] => if lastMarks [op, op'] [b, d] = false then match r.e sc a, r.e sc b, r.e sc d with
    | some x, some y, some z => some (tCmp2 (cop op) (cop op') x y z)
    | _, _, _ => none else none
  | _, _ => none
def cPt (sc : Scope) : Option Expr → Option TPt
  | none => some pNo
  | some a => match r.e sc a with
    | some x => some (pSome x)
    | none => none
def cSub (sc : Scope) (a b : Expr) (p : Pos) : Option TEx := match b with
  | .Slice lo hi none _ => match r.e sc a, cPt r sc lo, cPt r sc hi with
    | some x, some l, some h => some (xSl (isMu G p) x l h)
    | _, _, _ => none
  | .Slice none none (some (.UnaryOp .USub (.Constant (.int 1) _ _) _)) _ => match r.e sc a with
    | some x => some (xRev (isMu G p) x)
    | none => none
  | b => if plainIx b = true then match r.e sc a, r.e sc b with
    | some x, some y => some (xIx x y)
    | _, _ => none else none
/-- a comprehension's own names with their slots -/
def ownOf (sc : Scope) : List (Str × Nat) := sc.names.filterMap fun y => if y.2 = .local ∨ y.2 = .cell then match idx G.N y.1 with
    | some i => some (y.1, i)
    | none => none
  else none
def cIfs (sc : Scope) : List Expr → Option TTs
  | [] => some tYes
  | [c] => r.t sc c
  | _ => none
def fnbOf (scope sc : Scope) (x : Str) : Bool := (scope.names.lookup x == some .cell) || isLocal sc x
def cLc (sc : Scope) (elt tg iter : Expr) (ifs : List Expr) (scope : Scope) (m : Bool) : Option TEx :=
  if blkC G.N sc scope (ownOf G scope) = true ∧ notSet iter = true then
    match r.i sc tg iter, r.g (fnbOf scope (relS scope sc)) (relS scope sc) tg, cIfs r (relS scope sc) ifs, r.e (relS scope sc) elt with
    | some it, some (g, ws), some t, some e => if (ws.all fun j => decide (j ∈ (ownOf G scope).map (·.2))) = true then some (xLc m ((ownOf G scope).map (·.2)) it g t e) else none
    | _, _, _, _ => none
  else none
def cCall (sc : Scope) (f : Str) (args : List Expr) (p : Pos) : Option TEx :=
  if isGl sc f = true ∧ noStar args = true ∧ okName f = true then
    if f = "isinstance" then match args with
      | [a, .Name tn _] => if inFr G f = true ∧ inFr G tn = true ∧ isGl sc tn = true ∧ okName tn = true then match r.e sc a, tyOf tn with
        | some x, some t => some (xIs x t)
        | _, _ => none else none
      | _ => none
    else match G.fs.lookup f with
      | some (id, np, ds) => if args.length ≤ np ∧ np ≤ args.length + ds.length then match cArgs r sc args with
        | some xs => some (xCall id xs ((ds.drop (args.length + ds.length - np)).map I))
        | none => none else none
      | none => if inFr G f = true then match args with
        | [] => none
        | _ :: _ => match cArgs r sc args, biOf (isMu G p) f, btOf (isMu G p) f with
          | some xs, some o, _ => some (xB o xs)
          | some xs, none, some o => some (xB o xs)
          | _, _, _ => none
        else none
  else none
def cE (sc : Scope) (e : Expr) : Option TEx := match e with
  | .Name x _ => cName G sc x
  | .Constant k _ _ => cConst k
  | .BinOp a op b p => cBin G r sc a op b p
  | .UnaryOp .USub a _ => match r.e sc a with
    | some x => some (xNeg x)
    | none => none
  | .UnaryOp .Not a _ => match r.e sc a with
    | some x => some (xNot x)
    | none => none
  | .BoolOp op vs _ => cBool r sc op vs
  | .IfExp t a b _ => match r.t sc t, r.e sc a, r.e sc b with
    | some t, some x, some y => some (xIf t x y)
    | _, _, _ => none
  | .Compare a ops bs _ => cCmp r sc a ops bs
  | .Tuple es _ _ => if noStar es = true ∧ es.length ≤ 1000 then match cArgs r sc es with
    | some xs => some (xTup xs)
    | none => none else none
  | .List es p => if noStar es = true ∧ es.length ≤ 1000 then match cArgs r sc es with
    | some xs => some (xLst (isMu G p) xs)
    | none => none else none
  | .Subscript a b p => cSub G r sc a b p
  | .ListComp elt [⟨tg, iter, ifs, 0⟩] scope p => cLc G r sc elt tg iter ifs scope (isMu G p)
  | .Call (.Name f _) args [] p => cCall G r sc f args p
  | _ => none
def cT (sc : Scope) (e : Expr) : Option TTs := match e with
  | .UnaryOp .Not a _ => match r.t sc a with
    | some t => some (tNot t)
    | none => none
  | .BoolOp op vs _ => cBoolT r sc op vs
  | .Compare a ops bs _ => cCmpT r sc a ops bs
  | e => if plainT e = true then match r.e sc e with
    | some x => some (tV x)
    | none => none else none
def cI (sc : Scope) (tg e : Expr) : Option TIt := match e with
  | .Call (.Name f _) args [] _ => if isGl sc f = true ∧ noStar args = true ∧ inFr G f = true ∧ f = "range" then match args with
      | [a] => match r.e sc a with
        | some x => some (iRng1 x)
        | none => none
      | [a, b] => match r.e sc a, r.e sc b with
        | some x, some y => some (iRng2 x y)
        | _, _ => none
      | _ => none
    else if isGl sc f = true ∧ noStar args = true ∧ inFr G f = true ∧ f = "zip" then match args, tg with
      | [a, b], .Tuple _ _ _ => match r.e sc a, r.e sc b with
        | some x, some y => some (iZip x y)
        | _, _ => none
      | _, _ => none
    else if isGl sc f = true ∧ noStar args = true ∧ inFr G f = true ∧ f = "enumerate" then match args, tg with
      | [a], .Tuple _ _ _ => match r.e sc a with
        | some x => some (iEnum x)
        | none => none
      | _, _ => none
    else match r.e sc e with
      | some x => some (iV x)
      | none => none
  | e => match r.e sc e with
    | some x => some (iV x)
    | none => none
def cGs (fnb : Str → Bool) (sc : Scope) : List Expr → Option ((List Vl → Env → Option Env) × List Nat)
  | [] => some (gNil, [])
  | e :: es => match r.g fnb sc e, cGs fnb sc es with
    | some (g, ws), some (gs, ws') => some (gCons g gs, ws ++ ws')
    | _, _ => none
def cG (fnb : Str → Bool) (sc : Scope) (e : Expr) : Option (TTg × List Nat) := match e with
  | .Name x _ => if isLoc sc x = true ∧ fnb x = true then match idx G.N x with
    | some i => some (gV i, [i])
    | none => none else none
  | .Tuple es _ _ => if noStar es = true then match cGs r fnb sc es with
    | some (gs, ws) => some (gTup gs, ws)
    | none => none else none
  | _ => none
end
def comp (G : Gt) : Nat → Cs
  | 0 => ⟨fun _ _ => none, fun _ _ => none, fun _ _ _ => none, fun _ _ _ => none⟩
  | n + 1 => ⟨cE G (comp G n), cT (comp G n), cI G (comp G n), cG G (comp G n)⟩
end Mk
/-! Mk15: what is read from the text is what the text does: expressions. -/
namespace Mk
open PySem PySem.Spec PyProof.Rows L2
structure Cok (G : Gt) (T : Tx) (X : Cx) (W : WX) (c : Cl) (k : Nat) (sc : Scope) : Prop where
  sc : X.env.scope = sc
  N : X.N = G.N
  nd : X.N.Nodup
  calm : X.calm = true
  rm : Room k X.A
  gd : X.A.guards = some []
  tk : Takes X W
  fr : ∀ x, x ∈ G.fr → X.mg x = none
  cs : ∀ x d, G.cs.lookup x = some d → ∃ u v, X.mg x = some u ∧ RelV v u ∧ ∀ ρ H, RepD X.K ρ H d v
  fs : ∀ x f np ds, G.fs.lookup x = some (f, np, ds) → ∀ n, n ≤ np → np ≤ n + ds.length → ∃ (fa : Addr) (fd : FuncData) (ps : List Str) (vals : List Value), X.mg x = some (.ref fa) ∧ PySem.W.keepIn X.K (.ref fa) = true ∧
    FnM X.prog X.w X.K X.mg X.base k fa fd ps (spF T X.K np (c.call f)) ∧ Binds X.K fd ps vals ∧ Vals ((ds.drop (n + ds.length - np)).map V.int) vals
structure Snd (G : Gt) (T : Tx) (c : Cl) (k : Nat) (r : Cs) : Prop where
  e : ∀ {X : Cx} {W : WX} {sc : Scope}, Cok G T X W c k sc → ∀ {e : Expr} {x : TEx}, r.e sc e = some x → PE X e (rdE T X W c x)
  t : ∀ {X : Cx} {W : WX} {sc : Scope}, Cok G T X W c k sc → ∀ {e : Expr} {x : TTs}, r.t sc e = some x → PT X e (rdT T X W c x)
  i : ∀ {X : Cx} {W : WX} {sc : Scope}, Cok G T X W c k sc → ∀ {tg e : Expr} {x : TIt}, r.i sc tg e = some x → PI X tg e (rdI T X W c x)
  g : ∀ {X : Cx} {W : WX} {sc : Scope}, Cok G T X W c k sc → ∀ {fnb : Str → Bool}, (∀ x, fnb x = true → X.fn x = true ∨ X.env.scope.names.lookup x = some .local) → ∀ {e : Expr} {g : TTg} {ws : List Nat}, r.g fnb sc e = some (g, ws) → PG X e (rdTg T X g ws)
section
variable {G : Gt} {T : Tx} {X : Cx} {W : WX} {c : Cl} {k : Nat} {sc : Scope} {r : Cs} {pos : Pos}
theorem vis_of {x : Str} (h : isVis sc x = true) : Vis sc x := by
  unfold isVis at h
  split at h
  · rename_i e; exact .inl e
  · rename_i e; exact .inr (.inl e)
  · rename_i e; exact .inr (.inr e)
  · cases h
theorem loc_of {x : Str} (h : isLoc sc x = true) : Loc sc x := by
  unfold isLoc at h
  split at h
  · rename_i e; exact .inl e
  · rename_i e; exact .inr e
  · cases h
theorem isLocal_of {x : Str} (h : isLocal sc x = true) : sc.names.lookup x = some .local := by
  unfold isLocal at h
  split at h
  · rename_i e; exact e
  · cases h
theorem Cok.gl (o : Cok G T X W c k sc) {x : Str} (h : isGl sc x = true) : Gl X x := by
  unfold isGl at h
  split at h
  · rename_i e
    show X.env.scope.names.lookup x = _
    rw [o.sc]
    exact e
  · cases h
theorem okName_of {x : Str} (h : okName x = true) : (x == ("__debug__" : Str)) = false ∧ (x == ("__classdict__" : Str)) = false ∧ x ≠ "__name__" := by
  unfold okName at h
  simp only [Bool.and_eq_true, Bool.not_eq_true', decide_eq_false_iff_not] at h
  exact ⟨h.1.1, h.1.2, h.2⟩
theorem Cok.free (o : Cok G T X W c k sc) {x : Str} (h : inFr G x = true) : X.mg x = none := o.fr x (by unfold inFr at h; exact of_decide_eq_true h)
theorem Cok.room (o : Cok G T X W c k sc) : X.A.units + 100 < cLine := by
  have := o.rm.un
  omega
theorem snd_name (o : Cok G T X W c k sc) {x : Str} {p : Pos} {xe : TEx} (h : cName G sc x = some xe) : PE X (.Name x p) (rdE T X W c xe) := by
  unfold cName at h
  split at h
  case isFalse => cases h
  rename_i hn
  obtain ⟨n1, n2, n3⟩ := okName_of hn
  split at h
  · rename_i hv
    split at h
    · rename_i i e
      cases h
      exact ok_var (by rw [o.N]; exact idx_get e) (by rw [o.sc]; exact vis_of hv) n1 n2
    · cases h
  · split at h
    · rename_i hg
      split at h
      · rename_i d e
        cases h
        obtain ⟨u, v, e1, e2, e3⟩ := o.cs _ _ e
        exact ok_c (pe_glob (o.gl hg) e1 e2 n1) fun ρ H => by unfold RepV; exact e3 ρ H
      · cases h
    · cases h
theorem snd_const {k' : Const} {j : Nat} {xe : TEx} (h : cConst k' = some xe) : PE X (.Constant k' j pos) (rdE T X W c xe) := by
  unfold cConst at h
  split at h
  · cases h; exact ok_c pe_non fun _ _ => by unfold RepV RepD; rfl
  · cases h; exact ok_c pe_bl fun _ _ => by unfold RepV RepD; rfl
  · cases h; exact ok_c pe_int fun _ _ => by unfold RepV RepD; rfl
  · cases h; exact ok_c pe_str fun _ _ => by unfold RepV RepD; rfl
  · cases h
theorem bop_ok {op : Operator} {o : BO} {m : Bool} (h : bop op = some o) : OpV T X W (binaryOp op) (bin o m) := by
  unfold bop at h
  split at h <;> first
    | (cases h; exact opv_add)
    | (cases h; exact opv_sub)
    | (cases h; exact opv_mul)
    | (cases h; exact opv_fdiv)
    | (cases h; exact opv_mod)
    | (cases h; exact opv_pow)
    | cases h
theorem cop_ok {op : CmpOp} (hu : X.A.units + 100 < cLine) : CmV T X (compareOp op) (cmp (cop op)) := by
  cases op with
  | Eq => exact cmv_eq hu
  | NotEq => exact cmv_ne hu
  | Lt => exact cmv_lt
  | LtE => exact cmv_le
  | Gt => exact cmv_gt
  | GtE => exact cmv_ge
  | Is => exact cmv_isN
  | IsNot => exact cmv_isNotN
  | In => exact cmv_in hu
  | NotIn => exact cmv_notIn hu
theorem snd_bin (s : Snd G T c k r) (o : Cok G T X W c k sc) {a b : Expr} {op : Operator} {xe : TEx} (h : cBin G r sc a op b pos = some xe) : PE X (.BinOp a op b pos) (rdE T X W c xe) := by
  unfold cBin at h
  split at h
  · rename_i e1 e2 e3
    cases h
    exact ok_bin (bop_ok e1) (s.e o e2) (s.e o e3)
  · cases h
theorem snd_bool (s : Snd G T c k r) (o : Cok G T X W c k sc) {op : BoolOp} : ∀ {vs : List Expr} {xe : TEx}, cBool r sc op vs = some xe → PE X (.BoolOp op vs pos) (rdE T X W c xe)
  | [], _, h => by cases h
  | [a], _, h => by
    unfold cBool at h
    exact ok_one (s.e o h)
  | a :: b :: es, xe, h => by
    unfold cBool at h
    split at h
    · rename_i x y e1 e2
      have h2 := snd_bool s o e2
      cases op with
      | And => cases h; exact ok_and (s.e o e1) h2
      | Or => cases h; exact ok_or (s.e o e1) h2
    · cases h
theorem snd_boolT (s : Snd G T c k r) (o : Cok G T X W c k sc) {op : BoolOp} : ∀ {vs : List Expr} {xe : TTs}, cBoolT r sc op vs = some xe → PW X (.BoolOp op vs pos) (rdT T X W c xe)
  | [], _, h => by cases h
  | [a], _, h => by
    unfold cBoolT at h
    exact okw_one (s.t o h)
  | a :: b :: es, xe, h => by
    unfold cBoolT at h
    split at h
    · rename_i x y e1 e2
      have h2 := snd_boolT s o e2
      cases op with
      | And => cases h; exact okw_and (s.t o e1) h2
      | Or => cases h; exact okw_or (s.t o e1) h2
    · cases h
theorem snd_cmp (s : Snd G T c k r) (o : Cok G T X W c k sc) {a : Expr} {ops : List CmpOp} {bs : List Expr} {xe : TEx} (h : cCmp r sc a ops bs = some xe) : PE X (.Compare a ops bs pos) (rdE T X W c xe) := by
  unfold cCmp at h
  split at h
  · split at h
    case isFalse => cases h
    rename_i hm
    split at h
    · rename_i e1 e2
      cases h
      exact ok_cmp (cop_ok o.room) (s.e o e1) (s.e o e2) hm
    · cases h
  · split at h
    case isFalse => cases h
    rename_i hm
    split at h
    · rename_i e1 e2 e3
      cases h
      exact ok_cmp2 (cop_ok o.room) (cop_ok o.room) (s.e o e1) (s.e o e2) (s.e o e3) hm
    · cases h
  · cases h
theorem snd_cmpT (s : Snd G T c k r) (o : Cok G T X W c k sc) {a : Expr} {ops : List CmpOp} {bs : List Expr} {xe : TTs} (h : cCmpT r sc a ops bs = some xe) : PT X (.Compare a ops bs pos) (rdT T X W c xe) := by
  unfold cCmpT at h
  split at h
  · split at h
    case isFalse => cases h
    rename_i hm
    split at h
    · rename_i e1 e2
      cases h
      exact okt_cmp (cop_ok o.room) (s.e o e1) (s.e o e2) hm
    · cases h
  · split at h
    case isFalse => cases h
    rename_i hm
    split at h
    · rename_i e1 e2 e3
      cases h
      exact okt_cmp2 (cop_ok o.room) (cop_ok o.room) (s.e o e1) (s.e o e2) (s.e o e3) hm
    · cases h
  · cases h
theorem snd_args (s : Snd G T c k r) (o : Cok G T X W c k sc) : ∀ {es : List Expr} {xs : TAr}, noStar es = true → cArgs r sc es = some xs → PA X es (rdA T X W c xs) ∧ ∀ γ S vs S', xs c γ S = .ok vs S' → vs.length = es.length
  | [], _, _, h => by
    unfold cArgs at h
    cases h
    exact ⟨oka_nil, fun γ S vs S' e => by cases e; rfl⟩
  | e :: es, _, hn, h => by
    unfold cArgs at h
    split at h
    · rename_i x xs e1 e2
      cases h
      obtain ⟨h1, h2⟩ := star_cons (env := X.env) hn
      obtain ⟨k1, k2⟩ := snd_args s o h2 e2
      refine ⟨oka_cons (s.e o e1) k1 h1, fun γ S vs S' em => ?_⟩
      unfold aCons at em
      cases q : x c γ S with
      | stuck => rw [q] at em; cases em
      | er kk y S1 => rw [q] at em; cases em
      | ok v S1 =>
        rw [q] at em
        have em' : ((xs c γ S1).bind fun ws S2 => R.ok (v :: ws) S2) = .ok vs S' := em
        cases q2 : xs c γ S1 with
        | stuck => rw [q2] at em'; cases em'
        | er kk y S2 => rw [q2] at em'; cases em'
        | ok ws S2 =>
          rw [q2] at em'
          cases em'
          rw [List.length_cons, List.length_cons, k2 _ _ _ _ q2]
    · cases h
theorem snd_pt (s : Snd G T c k r) (o : Cok G T X W c k sc) {e : Option Expr} {x : TPt} (h : cPt r sc e = some x) : PO X e (rdP T X W c x) := by
  unfold cPt at h
  split at h
  · cases h; exact okp_no
  · split at h
    · rename_i e1
      cases h; exact okp_some (s.e o e1)
    · cases h
theorem snd_sub (s : Snd G T c k r) (o : Cok G T X W c k sc) {a b : Expr} {xe : TEx} (h : cSub G r sc a b pos = some xe) : PE X (.Subscript a b pos) (rdE T X W c xe) := by
  unfold cSub at h
  split at h
  · split at h
    · rename_i e1 e2 e3
      cases h
      exact ok_sl (s.e o e1) (snd_pt s o e2) (snd_pt s o e3)
    · cases h
  · split at h
    · rename_i e1
      cases h
      exact ok_rev (s.e o e1)
    · cases h
  · split at h
    case isFalse => cases h
    rename_i hp
    split at h
    · rename_i e1 e2
      cases h
      exact ok_ix (s.e o e1) (s.e o e2) (plainIx_of hp)
    · cases h
theorem lookup_rel {names : List (Str × NameKind)} {x : Str} : True := trivial
theorem takes_blk {s : Shared} {H : Hp} {scope : Scope} {C : Addr} {cl : List (Str × Addr)} {fp : List Addr} : Takes (bl X s H scope C cl fp) WF := fun u s' ⟨a, B, sI, pins, σ, H, cls, d, e, I, nb, up, sky, na, os, ag, w⟩ => w.elim
theorem Cok.blk (o : Cok G T X W c k sc) (s : Shared) (H : Hp) (scope : Scope) (C : Addr) (cl : List (Str × Addr)) (fp : List Addr) : Cok G T (bl X s H scope C cl fp) WF c k (relS scope sc) :=
  ⟨by rw [← o.sc]; rfl, o.N, o.nd, o.calm, o.rm, o.gd, takes_blk, o.fr, o.cs, o.fs⟩
theorem fnb_blk (o : Cok G T X W c k sc) {s : Shared} {H : Hp} {scope : Scope} {C : Addr} {cl : List (Str × Addr)} {fp : List Addr} (x : Str) (h : fnbOf scope (relS scope sc) x = true) : (bl X s H scope C cl fp).fn x = true ∨ (bl X s H scope C cl fp).env.scope.names.lookup x = some .local := by
  unfold fnbOf at h
  rw [Bool.or_eq_true] at h
  rcases h with h | h
  · exact .inl h
  · refine .inr ?_
    have e : (bl X s H scope C cl fp).env.scope = relS scope sc := (o.blk s H scope C cl fp).sc
    rw [e]
    exact isLocal_of h
theorem snd_ifs (s : Snd G T c k r) (o : Cok G T X W c k sc) {ifs : List Expr} {t : TTs} (h : cIfs r sc ifs = some t) : PTs X ifs (rdT T X W c t) := by
  unfold cIfs at h
  split at h
  · cases h; exact okts_nil
  · exact okts_one (s.t o h)
  · cases h
theorem snd_lc (s : Snd G T c k r) (o : Cok G T X W c k sc) {elt tg iter : Expr} {ifs : List Expr} {scope : Scope} {m : Bool} {xe : TEx} (h : cLc G r sc elt tg iter ifs scope m = some xe) :
    ∃ (it : TIt) (g : TTg) (ws : List Nat) (t : TTs) (e : TEx), xe = xLc m ((ownOf G scope).map (·.2)) it g t e ∧ PI X tg iter (rdI T X W c it) ∧ BlkOk X.N X.env.scope scope (ownOf G scope) ∧ (∀ x, foldedSetIterable iter X.env x = pure x) ∧ (∀ j ∈ ws, j ∈ (ownOf G scope).map (·.2)) ∧
      (∀ (s : Shared) (H : Hp) (C : Addr) (cl : List (Str × Addr)) (fp : List Addr), PG (bl X s H scope C cl fp) tg (rdTg T (bl X s H scope C cl fp) g ws)) ∧ (∀ (s : Shared) (H : Hp) (C : Addr) (cl : List (Str × Addr)) (fp : List Addr), PTs (bl X s H scope C cl fp) ifs (rdT T (bl X s H scope C cl fp) WF c t)) ∧
      (∀ (s : Shared) (H : Hp) (C : Addr) (cl : List (Str × Addr)) (fp : List Addr), PE (bl X s H scope C cl fp) elt (rdE T (bl X s H scope C cl fp) WF c e)) := by
  unfold cLc at h
  split at h
  case isFalse => cases h
  rename_i hb
  split at h
  · rename_i it g ws t e e1 e2 e3 e4
    split at h
    case isFalse => cases h
    rename_i hw
    cases h
    refine ⟨it, g, ws, t, e, rfl, s.i o e1, ?_, notSet_of hb.2 _, fun j hj => ?_, fun sh H C cl fp => s.g (o.blk sh H scope C cl fp) (fnb_blk o) e2, fun sh H C cl fp => snd_ifs s (o.blk sh H scope C cl fp) e3, fun sh H C cl fp => s.e (o.blk sh H scope C cl fp) e4⟩
    · rw [o.N, o.sc]
      exact blkOk_by hb.1
    · exact of_decide_eq_true (List.all_eq_true.mp hw j hj)
  · cases h
theorem tyOf_ok {x : Str} {t : Ty} (h : tyOf x = some t) : bootBuiltins x = some (.type (tyN t)) := by
  unfold tyOf at h
  split at h
  · rename_i e; subst e; cases h; exact boot_int
  split at h
  · rename_i e; subst e; cases h; exact boot_bool
  split at h
  · rename_i e; subst e; cases h; exact boot_str
  split at h
  · rename_i e; subst e; cases h; exact boot_tuple
  split at h
  · rename_i e; subst e; cases h; exact boot_list
  split at h
  · rename_i e; subst e; cases h; exact boot_dict
  cases h
theorem biOf_ok (o : Cok G T X W c k sc) {m : Bool} {x : Str} {f : List Vl → Store → R Vl} (h : biOf m x = some f) : ∃ id, bootBuiltins x = some (.builtin id) ∧ BiV T X W (.builtin id) f := by
  unfold biOf at h
  split at h
  · rename_i e; subst e; cases h; exact ⟨_, boot_len, biv_len⟩
  split at h
  · rename_i e; subst e; cases h; exact ⟨_, boot_abs, biv_abs⟩
  split at h
  · rename_i e; subst e; cases h; exact ⟨_, boot_max, biv_max o.calm⟩
  split at h
  · rename_i e; subst e; cases h; exact ⟨_, boot_min, biv_min o.calm⟩
  split at h
  · rename_i e; subst e; cases h; exact ⟨_, boot_repr, biv_repr o.gd o.room⟩
  split at h
  · rename_i e; subst e; cases h; exact ⟨_, boot_all, biv_all o.calm⟩
  split at h
  · rename_i e; subst e; cases h; exact ⟨_, boot_any, biv_any o.calm⟩
  split at h
  · rename_i e; subst e; cases h; exact ⟨_, boot_sum, biv_sum o.calm⟩
  cases h
theorem btOf_ok {m : Bool} {x : Str} {f : List Vl → Store → R Vl} (h : btOf m x = some f) : ∃ id, bootBuiltins x = some (.type id) ∧ BiV T X W (.type id) f := by
  unfold btOf at h
  split at h
  · rename_i e; subst e; cases h; exact ⟨_, boot_int, biv_int⟩
  split at h
  · rename_i e; subst e; cases h; exact ⟨_, boot_tuple, biv_tuple⟩
  split at h
  · rename_i e; subst e; cases h; exact ⟨_, boot_list, biv_list⟩
  cases h
theorem rep_ints {T : Tb} {K : PySem.W.Frag} {ρ : List Addr} {H : Hp} : ∀ ds : List Int, RepVs T K ρ H (ds.map I) (ds.map V.int)
  | [] => by unfold List.map RepVs; rfl
  | d :: ds => by
    unfold List.map RepVs
    exact ⟨_, _, rfl, by unfold I RepV RepD; rfl, rep_ints ds⟩
theorem snd_call (s : Snd G T c k r) (o : Cok G T X W c k sc) {f : Str} {p : Pos} {args : List Expr} {xe : TEx} (h : cCall G r sc f args pos = some xe) : PE X (.Call (.Name f p) args [] pos) (rdE T X W c xe) := by
  unfold cCall at h
  split at h
  case isFalse => cases h
  rename_i h0
  obtain ⟨hg, hst, hnm⟩ := h0
  obtain ⟨n1, n2, n3⟩ := okName_of hnm
  split at h
  · rename_i e
    subst e
    split at h
    case h_2 => cases h
    split at h
    case isFalse => cases h
    rename_i h1
    obtain ⟨a1, a2, a3, a4⟩ := h1
    obtain ⟨m1, m2, m3⟩ := okName_of a4
    split at h
    · rename_i e1 e2
      cases h
      exact ok_is (s.e o e1) (o.gl hg) (o.free a1) (o.gl a3) (o.free a2) (tyOf_ok e2) m3 m1 (star_cons hst).1
    · cases h
  · split at h
    · rename_i id np ds el
      split at h
      case isFalse => cases h
      rename_i hl
      split at h
      case h_2 => cases h
      rename_i xs ea
      cases h
      obtain ⟨ha, hn⟩ := snd_args s o hst ea
      obtain ⟨fa, fd, ps, vals, q1, q2, q3, q4, q5⟩ := o.fs _ _ _ _ el args.length hl.1 hl.2
      cases args with
      | nil =>
        unfold cArgs at ea
        cases ea
        exact ok_call0 q3 o.rm o.gd (o.gl hg) q1 q2 q4 q5 (fun _ _ => rep_ints _) o.tk (by simp only [List.length_map, List.length_drop, List.length_nil] at hl ⊢; omega) n1
      | cons e es =>
        obtain ⟨h1, h2⟩ := star_cons (env := X.env) hst
        exact ok_call q3 o.rm o.gd (o.gl hg) q1 q2 q4 q5 (fun _ _ => rep_ints _) o.tk ha (fun γ S vs S' em => by rw [List.length_append, hn _ _ _ _ em, List.length_map, List.length_drop]; omega) n1 h1 (star_any h2)
    · split at h
      case isFalse => cases h
      rename_i hf
      split at h
      · cases h
      · rename_i e es
        obtain ⟨h1, h2⟩ := star_cons (env := X.env) hst
        split at h
        · rename_i ea eb
          cases h
          obtain ⟨id, b1, b2⟩ := biOf_ok (T := T) (W := W) o eb
          exact ok_biB b2 (snd_args s o hst ea).1 (o.gl hg) (o.free hf) b1 n3 n1 h1 (star_any h2)
        · rename_i ea eb ec
          cases h
          obtain ⟨id, b1, b2⟩ := btOf_ok (T := T) (X := X) (W := W) ec
          exact ok_biT b2 (snd_args s o hst ea).1 (o.gl hg) (o.free hf) b1 n3 n1 h1 (star_any h2)
        · cases h
theorem snd_e (s : Snd G T c k r) (o : Cok G T X W c k sc) {e : Expr} {xe : TEx} (h : cE G r sc e = some xe) : PE X e (rdE T X W c xe) := by
  unfold cE at h
  split at h
  · exact snd_name o h
  · exact snd_const h
  · exact snd_bin s o h
  · split at h
    · rename_i e1; cases h; exact ok_neg (s.e o e1)
    · cases h
  · split at h
    · rename_i e1; cases h; exact ok_not (s.e o e1)
    · cases h
  · exact snd_bool s o h
  · split at h
    · rename_i e1 e2 e3; cases h; exact ok_ifx (s.t o e1) (s.e o e2) (s.e o e3)
    · cases h
  · exact snd_cmp s o h
  · split at h
    case isFalse => cases h
    rename_i hn
    split at h
    · rename_i e1
      cases h
      obtain ⟨h1, h2⟩ := snd_args s o hn.1 e1
      exact ok_tup h1 fun γ S vs S' em => by rw [h2 _ _ _ _ em]; exact hn.2
    · cases h
  · split at h
    case isFalse => cases h
    rename_i hn
    split at h
    · rename_i e1
      cases h
      obtain ⟨h1, h2⟩ := snd_args s o hn.1 e1
      exact ok_lst h1 fun γ S vs S' em => by rw [h2 _ _ _ _ em]; exact hn.2
    · cases h
  · exact snd_sub s o h
  · obtain ⟨it, g, ws, t, e, rfl, q1, q2, q3, q4, q5, q6, q7⟩ := snd_lc s o h
    exact ok_lc o.calm o.nd q1 q2 q5 q6 q7 q4 q3
  · exact snd_call s o h
  · cases h
theorem snd_t (s : Snd G T c k r) (o : Cok G T X W c k sc) {e : Expr} {xe : TTs} (h : cT r sc e = some xe) : PT X e (rdT T X W c xe) := by
  unfold cT at h
  split at h
  · split at h
    · rename_i e1; cases h; exact okt_not (s.t o e1)
    · cases h
  · exact (snd_boolT s o h).pt
  · exact snd_cmpT s o h
  · split at h
    case isFalse => cases h
    rename_i hp
    split at h
    · rename_i e1; cases h; exact okt_val (s.e o e1) (plainT_of hp _)
    · cases h
theorem snd_i (s : Snd G T c k r) (o : Cok G T X W c k sc) {tg e : Expr} {xe : TIt} (h : cI G r sc tg e = some xe) : PI X tg e (rdI T X W c xe) := by
  unfold cI at h
  split at h
  · split at h
    · rename_i h0
      obtain ⟨h1, h2, h3, rfl⟩ := h0
      split at h
      · split at h
        · rename_i e1
          cases h
          exact oki_rng1 (o.gl h1) (o.free h3) (s.e o e1) (star_cons h2).1
        · cases h
      · split at h
        · rename_i e1 e2
          cases h
          obtain ⟨k1, k2⟩ := star_cons (env := X.env) h2
          obtain ⟨k3, _⟩ := star_cons (env := X.env) k2
          exact oki_rng2 (o.gl h1) (o.free h3) (s.e o e1) (s.e o e2) (by rw [k1, k3]; rfl) k3
        · cases h
      · cases h
    · split at h
      · rename_i h0
        obtain ⟨h1, h2, h3, rfl⟩ := h0
        split at h
        · split at h
          · rename_i e1 e2
            cases h
            obtain ⟨k1, k2⟩ := star_cons (env := X.env) h2
            obtain ⟨k3, _⟩ := star_cons (env := X.env) k2
            exact oki_zip (o.gl h1) (o.free h3) (s.e o e1) (s.e o e2) k1 k3
          · cases h
        · cases h
      · split at h
        · rename_i h0
          obtain ⟨h1, h2, h3, rfl⟩ := h0
          split at h
          · split at h
            · rename_i e1
              cases h
              exact oki_enum (o.gl h1) (o.free h3) (s.e o e1) (star_cons h2).1
            · cases h
          · cases h
        · split at h
          · rename_i e1; cases h; exact oki_val (s.e o e1)
          · cases h
  · split at h
    · rename_i e1; cases h; exact oki_val (s.e o e1)
    · cases h
theorem snd_gs (s : Snd G T c k r) (o : Cok G T X W c k sc) {fnb : Str → Bool} (hf : ∀ x, fnb x = true → X.fn x = true ∨ X.env.scope.names.lookup x = some .local) : ∀ {es : List Expr} {gs : List Vl → Env → Option Env} {ws : List Nat}, noStar es = true → cGs r fnb sc es = some (gs, ws) →
    PGs X es (rdTgs T X gs ws) ∧ ∀ vs γ γ', gs vs γ = some γ' → vs.length = es.length
  | [], _, _, _, h => by
    unfold cGs at h
    cases h
    refine ⟨okgs_nil, fun vs γ γ' e => ?_⟩
    unfold gNil at e
    split at e
    · rfl
    · cases e
  | e :: es, gs, ws, hn, h => by
    unfold cGs at h
    split at h
    · rename_i g ws1 gs1 ws2 e1 e2
      cases h
      obtain ⟨_, h2⟩ := star_cons (env := X.env) hn
      obtain ⟨k1, k2⟩ := snd_gs s o hf h2 e2
      refine ⟨okgs_cons (s.g o hf e1) k1 (by rw [assign_cons hn]; rfl), fun vs γ γ' em => ?_⟩
      unfold gCons at em
      split at em
      · split at em
        · rw [List.length_cons, List.length_cons, k2 _ _ _ em]
        · cases em
      · cases em
    · cases h
theorem snd_g (s : Snd G T c k r) (o : Cok G T X W c k sc) {fnb : Str → Bool} (hf : ∀ x, fnb x = true → X.fn x = true ∨ X.env.scope.names.lookup x = some .local) {e : Expr} {g : TTg} {ws : List Nat} (h : cG G r fnb sc e = some (g, ws)) : PG X e (rdTg T X g ws) := by
  unfold cG at h
  split at h
  · split at h
    case isFalse => cases h
    rename_i h0
    split at h
    · rename_i i ei
      cases h
      exact okg_name o.nd (by rw [o.N]; exact idx_get ei) (by rw [o.sc]; exact loc_of h0.1) (hf _ h0.2)
    · cases h
  · split at h
    case isFalse => cases h
    rename_i hn
    split at h
    · rename_i eg
      cases h
      obtain ⟨k1, k2⟩ := snd_gs s o hf hn eg
      obtain ⟨l1, l2⟩ := assign_len (env := X.env) hn
      exact okg_tup o.calm k1 l1 l2 k2
    · cases h
  · cases h
theorem snd_comp : ∀ n, Snd G T c k (comp G n)
  | 0 => ⟨fun _ _ _ h => (by cases h), fun _ _ _ h => (by cases h), fun _ _ _ _ h => (by cases h), fun _ _ _ _ _ _ h => (by cases h)⟩
  | n + 1 => ⟨fun o _ _ h => snd_e (snd_comp n) o h, fun o _ _ h => snd_t (snd_comp n) o h, fun o _ _ _ h => snd_i (snd_comp n) o h, fun o _ hf _ _ _ h => snd_g (snd_comp n) o hf h⟩
end
end Mk
/-! Mk16: from the text to the evaluator: statements. -/
namespace Mk
open PySem PySem.Spec PyProof.Rows L2
def isStar : Expr → Bool
  | .Starred _ _ => true
  | _ => false
def namesOf (sc : Scope) (line : Nat) (ts : List Expr) : List Str := ts.filterMap fun
  | .Name id pos => if sc.names.lookup id == some .local && pos.line == line then some id else none
  | _ => none
/-- how a, b = x, y is stored: some none one by one through a tuple; some names: from the right -/
def swapC (sc : Scope) (ts vs : List Expr) : Option (Option (List Str)) :=
  if (!(ts.length == 2 || ts.length == 3) || vs.length != ts.length) = true then some none
  else if vs.any isStar = true then some none
  else if ((namesOf sc ((ts.head?.map (·.pos.line)).getD 0) ts).length != ts.length || (namesOf sc ((ts.head?.map (·.pos.line)).getD 0) ts).eraseDups.length != (namesOf sc ((ts.head?.map (·.pos.line)).getD 0) ts).length) = true then some none
  else if vs.all (foldedForSure 8) = true then some none
  else if vs.all (constantsAlone 8) = true then none
  else some (some (namesOf sc ((ts.head?.map (·.pos.line)).getD 0) ts))
theorem swap_ok {sc : Scope} {env : PySem.Env} {ts vs : List Expr} {k k2 : Nat} {p p2 : Pos} {o : Option (List Str)} (hs : env.scope = sc) (hk : sc.kind = .function) (h : swapC sc ts vs = some o) : swappedStores [.Tuple ts k p] (.Tuple vs k2 p2) env = pure o := by
  subst hs
  have hb : (env.blockKind != .function) = false := by unfold Env.blockKind; rw [hk]; rfl
  unfold swapC at h
  unfold swappedStores
  simp only [hb, Bool.or_false]
  split at h
  · rename_i c1
    cases h
    exact if_pos c1
  · rename_i c1
    refine (if_neg c1).trans ?_
    split at h
    · rename_i c2
      cases h
      exact if_pos c2
    · rename_i c2
      refine (if_neg c2).trans ?_
      split at h
      · rename_i c3
        cases h
        exact if_pos c3
      · rename_i c3
        refine (if_neg c3).trans ?_
        split at h
        · rename_i c4
          cases h
          exact if_pos c4
        · rename_i c4
          refine (if_neg c4).trans ?_
          split at h
          · cases h
          · rename_i c5
            cases h
            exact if_neg c5
def notComp : Expr → Bool
  | .ListComp _ _ _ _ => false
  | .SetComp _ _ _ _ => false
  | .DictComp _ _ _ _ _ => false
  | _ => true
theorem sw_plain {e : Expr} (h : notComp e = true) (t : Option Expr) (l : Nat) (env : PySem.Env) : swapsWith e t l env = pure false := by
  cases e <;> first | rfl | cases h
theorem sw_tup {e : Expr} {ts : List Expr} {k : Nat} {p : Pos} (l : Nat) (env : PySem.Env) : swapsWithSole [.Tuple ts k p] e l env = pure false := by
  cases e <;> rfl
theorem sw_sub {e o i : Expr} {p : Pos} (l : Nat) (env : PySem.Env) : swapsWithSole [.Subscript o i p] e l env = pure false := by
  cases e <;> rfl
def notTup : Expr → Bool
  | .Tuple _ _ _ => false
  | _ => true
theorem ss_plain {e : Expr} (h : notTup e = true) {ts : List Expr} {k : Nat} {p : Pos} (env : PySem.Env) : swappedStores [.Tuple ts k p] e env = pure none := by
  cases e <;> first | rfl | cases h
theorem ss_sub {e o i : Expr} {p : Pos} (env : PySem.Env) : swappedStores [.Subscript o i p] e env = pure none := by
  cases e <;> rfl
/-- is name = [..] stored on the way? -/
def swB (sc : Scope) (value : Expr) (inner : Scope) (t : Str) (pos : Pos) : Bool := sc.names.lookup t == some .local && pos.line == value.pos.line && !(inner.names.any fun (n, k) => n == t && (k == .local || k == .cell))
theorem sw_lc {sc : Scope} {env : PySem.Env} {elt : Expr} {gs : List Comprehension} {inner : Scope} {p pos : Pos} {t : Str} {l : Nat} (hs : env.scope = sc) (hk : sc.kind = .function) :
    swapsWith (.ListComp elt gs inner p) (some (.Name t pos)) l env = pure (swB sc (.ListComp elt gs inner p) inner t pos) := by
  subst hs
  have hb : (env.blockKind == .function) = true := by unfold Env.blockKind; rw [hk]; rfl
  unfold swapsWith swB
  simp only [hb, Bool.true_and]
  rfl
theorem sub_asg {o i : Expr} {p : Pos} (h : plainIx i = true) (env : PySem.Env) (v : Value) : assign (.Subscript o i p) env v = (do
      let ov ← holding [v] (eval o env)
      let iv ← holding [v, ov] (eval i env)
      standAt p
      holding [v, ov, iv] (setItem ov iv v)
      release [v, ov, iv] []) := by
  cases i <;> first | rfl | cases h
def notCall : Expr → Bool
  | .Call _ _ _ _ => false
  | _ => true
theorem attr_base {o : Expr} {x : Str} {env : PySem.Env} {w : Sem Value} (h : notCall o = true) : attributeBase o x env w = w := by
  cases o <;> first | rfl | cases h
structure Ss where
  s : Scope → Stmt → TSt
section
variable (G : Gt) (r : Cs) (q : Ss)
def cSs (sc : Scope) : List Stmt → TSt
  | [] => sPass
  | [s] => q.s sc s
  | s :: t :: rest => sSeq (q.s sc s) (cSs sc (t :: rest))
def cSetName (sc : Scope) (x : Str) (p : Pos) (e : Expr) : TSt := if isLoc sc x = true then match idx G.N x, r.e sc e with
    | some i, some xe => match e with
      | .ListComp elt [⟨tg, iter, ifs, 0⟩] inner p2 => if swB sc (.ListComp elt [⟨tg, iter, ifs, 0⟩] inner p2) inner x p = true then match cLc G r sc elt tg iter ifs inner (isMu G p2) with
          | some xl => sSet i xl
          | none => sNo
        else sSet i xe
      | _ => if notComp e = true then sSet i xe else sNo
    | _, _ => sNo
  else sNo
def cPlainTup (sc : Scope) (ts : List Expr) (k : Nat) (p : Pos) (e : Expr) : TSt := match r.g (fun _ => true) sc (.Tuple ts k p), r.e sc e with
  | some (g, _), some xe => sAsg g xe
  | _, _ => sNo
def cSetTup (sc : Scope) (ts : List Expr) (k : Nat) (p : Pos) (e : Expr) : TSt := match e with
  | .Tuple vs k2 p2 => match swapC sc ts vs with
    | some none => cPlainTup r sc ts k p (.Tuple vs k2 p2)
    | some (some names) => match ts, vs with
      | [.Name x _, .Name y _], [a, b] => if names = [x, y] ∧ x ≠ y ∧ isLocal sc x = true ∧ isLocal sc y = true ∧ noStar [a, b] = true then match idx G.N x, idx G.N y, r.e sc a, r.e sc b with
          | some i, some j, some xa, some xb => sPar i j xa xb
          | _, _, _, _ => sNo
        else sNo
      | [.Name x _, .Name y _, .Name z _], [a, b, d] => if names = [x, y, z] ∧ x ≠ y ∧ x ≠ z ∧ y ≠ z ∧ isLocal sc x = true ∧ isLocal sc y = true ∧ isLocal sc z = true ∧ noStar [a, b, d] = true then match idx G.N x, idx G.N y, idx G.N z, r.e sc a, r.e sc b, r.e sc d with
          | some i, some j, some l, some xa, some xb, some xd => sPar3 i j l xa xb xd
          | _, _, _, _, _, _ => sNo
        else sNo
      | _, _ => sNo
    | none => sNo
  | e => if notTup e = true then cPlainTup r sc ts k p e else sNo
def cExpr (sc : Scope) (e : Expr) : TSt := match e with
  | .Constant (.str _) _ _ => sPass
  | .Call (.Attribute o x ap) [a] [] cp => if x = "append" ∧ notCall o = true ∧ noStar [a] = true ∧ (ap.endLine == cp.line) = true then match r.e sc o, r.e sc a with
      | some xo, some xa => sApp xo xa
      | _, _ => sNo
    else sNo
  | e => if notComp e = true then match r.e sc e with
    | some xe => sExpr xe
    | none => sNo else sNo
def cS (sc : Scope) (st : Stmt) : TSt := match st with
  | .Expr e _ => cExpr r sc e
  | .Assign [.Name x p] e _ => cSetName G r sc x p e
  | .Assign [.Tuple ts k p] e _ => cSetTup G r sc ts k p e
  | .Assign [.Subscript o i _] e _ => if plainIx i = true then match r.e sc o, r.e sc i, r.e sc e with
    | some xo, some xi, some xe => sSetIx xo xi xe
    | _, _, _ => sNo else sNo
  | .AugAssign (.Name x _) .Add e _ => if isLoc sc x = true then match idx G.N x, r.e sc e with
    | some i, some xe => sAug i .add xe
    | _, _ => sNo else sNo
  | .Return none _ => sRet (xC (.d .none))
  | .Return (some e) _ => match r.e sc e with
    | some xe => sRet xe
    | none => sNo
  | .If t a b _ => match r.t sc t with
    | some xt => sIf xt (cSs q sc a) (cSs q sc b)
    | none => sNo
  | .While t b [] _ => match r.t sc t with
    | some xt => sWhile xt (cSs q sc b)
    | none => sNo
  | .For tg iter b [] _ => if notSet iter = true then match r.i sc tg iter, r.g (fun _ => true) sc tg with
    | some it, some (g, _) => sFor it g (cSs q sc b)
    | _, _ => sNo else sNo
  | .Pass _ => sPass
  | .Break _ => sBrk
  | .Continue _ => sCnt
  | _ => sNo
end
def compS (G : Gt) (r : Cs) : Nat → Ss
  | 0 => ⟨fun _ _ => sNo⟩
  | n + 1 => ⟨cS G r (compS G r n)⟩
/-- a def's body: m for the depth of expressions, n for that of statements -/
def cBody (G : Gt) (m n : Nat) (sc : Scope) (body : List Stmt) : TSt := cSs (compS G (comp G m) n) sc body

structure Sok (G : Gt) (T : Tx) (X : Cx) (W : WX) (c : Cl) (k : Nat) (sc0 : Scope) : Prop extends Cok G T X W c k sc0 where
  po : PassesOwn (model X.prog X.w) X.A X.env X.xe
  fn : ∀ x, X.fn x = true
  kd : sc0.kind = .function
structure SndS (G : Gt) (T : Tx) (c : Cl) (k : Nat) (q : Ss) : Prop where
  s : ∀ {X : Cx} {W : WX} {sc : Scope}, Sok G T X W c k sc → ∀ (st : Stmt), PS X st (rdS T X W c (q.s sc st))
section
variable {G : Gt} {T : Tx} {X : Cx} {W : WX} {c : Cl} {k : Nat} {sc : Scope} {r : Cs} {q : Ss} {pos : Pos}
theorem snd_ss (s : SndS G T c k q) (o : Sok G T X W c k sc) : ∀ sts : List Stmt, PSs X sts (rdS T X W c (cSs q sc sts))
  | [] => okss_nil
  | [st] => okss_one (s.s o st)
  | st :: t :: rest => okss_cons (s.s o st) (snd_ss s o (t :: rest))
theorem idx_ne {N : List Str} {x y : Str} {i j : Nat} (h1 : idx N x = some i) (h2 : idx N y = some j) (h : x ≠ y) : i ≠ j := fun e => by
  subst e
  have a := idx_get h1
  have b := idx_get h2
  rw [a] at b
  cases b
  exact h rfl
theorem snd_setName (s : Snd G T c k r) (o : Sok G T X W c k sc) {x : Str} {p : Pos} {e : Expr} : PS X (.Assign [.Name x p] e pos) (rdS T X W c (cSetName G r sc x p e)) := by
  unfold cSetName
  split
  case isFalse => exact oks_no
  rename_i hl
  split
  case h_2 => exact oks_no
  rename_i i xe e1 e2
  have hi : X.N[i]? = some x := by rw [o.N]; exact idx_get e1
  have hx : Loc X.env.scope x := by rw [o.sc]; exact loc_of hl
  split
  · rename_i elt tg iter ifs inner p2
    split
    · rename_i hb
      split
      · rename_i xl el
        obtain ⟨it, g, ws, t, e, rfl, q1, q2, q3, q4, q5, q6, q7⟩ := snd_lc s o.toCok el
        have hb' := hb
        unfold swB at hb'
        simp only [Bool.and_eq_true, beq_iff_eq] at hb'
        exact oks_setLc o.calm o.nd hi (by rw [o.sc]; exact hb'.1.1) (by rw [sw_lc o.sc o.kd, hb]) q1 q2 q5 q6 q7 q4 q3
      · exact oks_no
    · rename_i hb
      exact oks_set o.nd hi hx (s.e o.toCok e2) (by rw [sw_lc o.sc o.kd, Bool.eq_false_iff.mpr hb]) (.inl (o.fn x))
  · split
    · rename_i hn
      exact oks_set o.nd hi hx (s.e o.toCok e2) (sw_plain hn _ _ _) (.inl (o.fn x))
    · exact oks_no
theorem snd_plainTup (s : Snd G T c k r) (o : Sok G T X W c k sc) {ts : List Expr} {kk : Nat} {p : Pos} {e : Expr} (hw : swappedStores [.Tuple ts kk p] e X.env = pure none) : PS X (.Assign [.Tuple ts kk p] e pos) (rdS T X W c (cPlainTup r sc ts kk p e)) := by
  unfold cPlainTup
  split
  · rename_i e1 e2
    exact oks_asg (s.e o.toCok e2) (s.g o.toCok (fun x _ => .inl (o.fn x)) e1) (sw_tup _ _) hw rfl
  · exact oks_no
theorem snd_setTup (s : Snd G T c k r) (o : Sok G T X W c k sc) {ts : List Expr} {kk : Nat} {p : Pos} {e : Expr} : PS X (.Assign [.Tuple ts kk p] e pos) (rdS T X W c (cSetTup G r sc ts kk p e)) := by
  unfold cSetTup
  split
  · rename_i vs k2 p2
    split
    · rename_i hw
      exact snd_plainTup s o (swap_ok o.sc o.kd hw)
    · rename_i names hw
      have hw' := swap_ok (k := kk) (k2 := k2) (p := p) (p2 := p2) o.sc o.kd hw
      split
      · split
        case isFalse => exact oks_no
        rename_i h0
        obtain ⟨rfl, hne, hx, hy, hst⟩ := h0
        split
        · rename_i e1 e2 e3 e4
          obtain ⟨k1, k2'⟩ := star_cons (env := X.env) hst
          obtain ⟨k3, _⟩ := star_cons (env := X.env) k2'
          exact oks_par o.calm o.nd (by rw [o.N]; exact idx_get e1) (by rw [o.N]; exact idx_get e2) (idx_ne e1 e2 hne) (by rw [o.sc]; exact isLocal_of hx) (by rw [o.sc]; exact isLocal_of hy) (s.e o.toCok e3) (s.e o.toCok e4) k1 k3 hw' (sw_tup _ _)
        · exact oks_no
      · split
        case isFalse => exact oks_no
        rename_i h0
        obtain ⟨rfl, n1, n2, n3, hx, hy, hz, hst⟩ := h0
        split
        · rename_i e1 e2 e3 e4 e5 e6
          obtain ⟨k1, k2'⟩ := star_cons (env := X.env) hst
          obtain ⟨k3, k4⟩ := star_cons (env := X.env) k2'
          obtain ⟨k5, _⟩ := star_cons (env := X.env) k4
          exact oks_par3 o.calm o.nd (by rw [o.N]; exact idx_get e1) (by rw [o.N]; exact idx_get e2) (by rw [o.N]; exact idx_get e3) (idx_ne e1 e2 n1) (idx_ne e1 e3 n2) (idx_ne e2 e3 n3) (by rw [o.sc]; exact isLocal_of hx) (by rw [o.sc]; exact isLocal_of hy) (by rw [o.sc]; exact isLocal_of hz) (s.e o.toCok e4) (s.e o.toCok e5) (s.e o.toCok e6) k1 k3 k5 hw' (sw_tup _ _)
        · exact oks_no
      · exact oks_no
    · exact oks_no
  · split
    · rename_i hn
      exact snd_plainTup s o (ss_plain hn _)
    · exact oks_no
theorem snd_expr (s : Snd G T c k r) (o : Sok G T X W c k sc) {e : Expr} : PS X (.Expr e pos) (rdS T X W c (cExpr r sc e)) := by
  unfold cExpr
  split
  · exact oks_doc
  · split
    case isFalse => exact oks_no
    rename_i h0
    obtain ⟨rfl, h1, h2, h3⟩ := h0
    split
    · rename_i e1 e2
      obtain ⟨k1, _⟩ := star_cons (env := X.env) h2
      exact oks_app (s.e o.toCok e1) (s.e o.toCok e2) (attr_base h1) k1 (by rw [k1]; rfl) h3 (sw_plain rfl _ _ _)
    · exact oks_no
  · split
    case isFalse => exact oks_no
    rename_i hn
    split
    · rename_i e1
      exact oks_expr (s.e o.toCok e1) (sw_plain hn _ _ _)
    · exact oks_no
theorem snd_s (s : Snd G T c k r) (sq : SndS G T c k q) (o : Sok G T X W c k sc) (st : Stmt) : PS X st (rdS T X W c (cS G r q sc st)) := by
  unfold cS
  split
  · exact snd_expr s o
  · exact snd_setName s o
  · exact snd_setTup s o
  · split
    case isFalse => exact oks_no
    rename_i hp
    split
    · rename_i e1 e2 e3
      exact oks_setIx (s.e o.toCok e1) (s.e o.toCok e2) (s.e o.toCok e3) (sw_sub _ _) (ss_sub _) (sub_asg hp _) rfl
    · exact oks_no
  · split
    case isFalse => exact oks_no
    rename_i hl
    split
    · rename_i e1 e2
      exact oks_aug o.nd (by rw [o.N]; exact idx_get e1) (by rw [o.sc]; exact loc_of hl) (s.e o.toCok e2) (.inl (o.fn _))
    · exact oks_no
  · exact oks_retN
  · split
    · rename_i e1; exact oks_ret (s.e o.toCok e1)
    · exact oks_no
  · split
    · rename_i e1; exact oks_if (s.t o.toCok e1) (snd_ss sq o _) (snd_ss sq o _)
    · exact oks_no
  · split
    · rename_i e1; exact oks_while o.po (s.t o.toCok e1) (snd_ss sq o _)
    · exact oks_no
  · split
    case isFalse => exact oks_no
    rename_i hs
    split
    · rename_i e1 e2
      exact oks_for o.po o.calm (s.i o.toCok e1) (s.g o.toCok (fun x _ => .inl (o.fn x)) e2) (snd_ss sq o _) (notSet_of hs _)
    · exact oks_no
  · exact oks_pass
  · exact oks_break
  · exact oks_cont
  · exact oks_no
theorem snd_compS (s : Snd G T c k r) : ∀ n, SndS G T c k (compS G r n)
  | 0 => ⟨fun _ _ => oks_no⟩
  | n + 1 => ⟨fun o st => snd_s s (snd_compS s n) o st⟩
theorem snd_body (o : Sok G T X W c k sc) (m n : Nat) (body : List Stmt) : PSs X body (rdS T X W c (cBody G m n sc body)) := snd_ss (snd_compS (snd_comp m) n) o body
end
end Mk
/-! Mk17: a whole text: the defs call one another; the law's end. -/
namespace Mk
open PySem PySem.Spec PyProof.Rows L2
/-! ### the law's call -/
theorem only_end {P : Program} {w : World} {H H' : Hp} {h h' : Heap} (hO : L2.Only H) (hok : HOk P w H h) (hok' : HOk P w H' h') (un : Un [] [] H H' h h') : PySem.OldK h h' := PySem.OldK.of_keep fun b o e => by
  rcases hO b with z | ⟨ob, xs, z⟩
  · exact un.keep b o e z (fun m => nomatch m) (fun m => nomatch m)
  · obtain ⟨e1, _⟩ := hok b _ z
    obtain ⟨e2, _⟩ := hok' b _ (un.frzs b ob _ z)
    rw [e] at e1
    cases e1
    exact e2
/-- what lies behind the top, without the script's list -/
theorem env_law {P : Program} {w : World} {K : PySem.W.Frag} {mg mb : Str → Option Value} {a : Addr} {oa : Obj} {its : Array Value} {n : Nat} {s₁ : Shared} {H : Hp} (KX : K.In s₁.heap) (hns : s₁.heap.Ns mainGlobals mg) (hb : s₁.heap.Ns builtinsNs mb) (hbb : ∀ x : Str, x ≠ "__name__" → mb x = bootBuiltins x)
    (hlim : s₁.heap.NoLimit) (hg : s₁.gens = #[]) (ha : s₁.heap.get? a = some oa) (hd : oa.data = .seq its n) (hok : HOk P w H s₁.heap) (hA : ∀ b, H b ≠ none → b = a) (hK : H a ≠ none → K.lookup a = none) :
    K.In (hidT s₁.heap H) ∧ (hidT s₁.heap H).Ns mainGlobals mg ∧ Env0 P w K mg (hidT s₁.heap H) callerA [] s₁ H := by
  have free : ∀ {b : Addr} {o : Obj}, s₁.heap.get? b = some o → (∀ its n, o.data ≠ .seq its n) → H b = none := fun {b o} e d => by
    cases q : H b with
    | none => rfl
    | some u =>
      have e' : b = a := hA b (by rw [q]; exact fun z => nomatch z)
      subst e'
      rw [ha] at e
      cases e
      exact absurd hd (d _ _)
  have ns : ∀ {b : Addr} {m : Str → Option Value}, s₁.heap.Ns b m → (hidT s₁.heap H).Ns b m := fun {b m} ⟨o, es, ep, e, d, r⟩ => ⟨o, es, ep, hidT_get e (free e fun _ _ z => by rw [d] at z; cases z), d, r⟩
  have kin : K.In (hidT s₁.heap H) := fun b o e => hidT_get (KX b o e) (by
    cases q : H b with
    | none => rfl
    | some u =>
      have e' : b = a := hA b (by rw [q]; exact fun z => nomatch z)
      subst e'
      rw [hK (by rw [q]; exact fun z => nomatch z)] at e
      cases e)
  obtain ⟨mc, l1, l2⟩ := hlim
  exact ⟨kin, ns hns, { frames := rfl, mod := ⟨kin, ns hns, ⟨mb, ns hb, hbb⟩, mc, ns l1, l2⟩, bs := fun b o e => of_hidT e, bsz := Nat.le_of_eq (hidT_size _ _), funs := trivial, frf := fun b z => (nomatch z), hok := hok, bare := AllBare.of_eq hg }⟩
theorem law_callM {P : Program} {w : World} {K : PySem.W.Frag} {mg mb : Str → Option Value} {k : Nat} {fa a : Addr} {fd : FuncData} {x : Str} {sp : Sp} {s₁ : Shared} {vs : List Value} {ns : List Int}
    (KX : K.In s₁.heap) (hns : s₁.heap.Ns mainGlobals mg) (hb : s₁.heap.Ns builtinsNs mb) (hbb : ∀ x : Str, x ≠ "__name__" → mb x = bootBuiltins x) (hlim : s₁.heap.NoLimit) (hg : s₁.gens = #[])
    (ha : s₁.heap.get? a = some { cls := .type "list", data := .seq vs.toArray }) (hi : IntsAre vs ns) (hl : ns.length ≤ sizeLine) (hr : Room k callerA)
    (F : ∀ base : Heap, K.In base → base.Ns mainGlobals mg → FnM P w K mg base k fa fd [x] sp) (hbind : ∀ (s : Shared) (u : Value), BindsTo s fd ⟨[u], []⟩ [(x, u)])
    (hsp : ∀ H : Hp, SqL K H a (ns.map V.int) → sp [.ref a] H (fun v _ => v = .bl true) fun _ _ _ => False) :
    codeAny (model P w) callerA (.call (.ref fa) ⟨[.ref a], []⟩) (fun r s' => r = .ok (.ret (.bool true)) ∧ PySem.OldK s₁.heap s'.heap ∧ s'.os = s₁.os ∧ AllBare s'.gens) s₁ := by
  have rv := vals_ints hi
  have go : ∀ H : Hp, L2.Only H → SqL K H a (ns.map V.int) → HOk P w H s₁.heap → (∀ b, H b ≠ none → b = a) → (H a ≠ none → K.lookup a = none) →
      codeAny (model P w) callerA (.call (.ref fa) ⟨[.ref a], []⟩) (fun r s' => r = .ok (.ret (.bool true)) ∧ PySem.OldK s₁.heap s'.heap ∧ s'.os = s₁.os ∧ AllBare s'.gens) s₁ := fun H hO hS hok hA hK => by
    obtain ⟨b1, b2, e0⟩ := env_law KX hns hb hbb hlim hg ha rfl hok hA hK
    refine codeAny_mono ((F _ b1 b2).run callerA [] s₁ H ⟨[.ref a], []⟩ [.ref a] [.ref a] _ _ hr rfl e0 (hbind s₁ (.ref a)) (.cons rfl .nil) (hsp H hS)) fun r s' h => ?_
    cases r with
    | error e =>
      obtain ⟨_, _, _, _, _, _, _, _, _, _, _, _, z⟩ := h
      exact z.elim
    | ok fl =>
      cases fl with
      | ret u =>
        obtain ⟨v, H', os, bare, un, hok', r', q⟩ := h
        have q' : v = .bl true := q
        subst q'
        cases r'
        exact ⟨rfl, only_end hO hok hok' un, os, bare⟩
      | next => exact False.elim h
      | brk => exact False.elim h
      | cont => exact False.elim h
  cases hk : K.lookup a with
  | some o =>
    have e := KX a o hk
    rw [ha] at e
    cases e
    exact go (fun _ => none) (fun _ => .inl rfl) (.inr ⟨_, vs.toArray, _, hk, rfl, rfl, rfl, by rw [List.size_toArray, hi.length]; exact hl, by simpa using rv⟩) (fun b u z => nomatch z) (fun b z => absurd rfl z) fun z => absurd rfl z
  | none =>
    have at_ : ∀ b u, (if b = a then some (HO.frz { cls := .type "list", data := .seq vs.toArray } (.lst (ns.map V.int))) else none) = some u → b = a ∧ u = .frz { cls := .type "list", data := .seq vs.toArray } (.lst (ns.map V.int)) := fun b u z => by
      by_cases hb : b = a
      · rw [if_pos hb] at z; cases z; exact ⟨hb, rfl⟩
      · rw [if_neg hb] at z; cases z
    refine go (fun b => if b = a then some (.frz { cls := .type "list", data := .seq vs.toArray } (.lst (ns.map V.int))) else none) (fun b => ?_) (.inl (.inr ⟨_, if_pos rfl⟩)) (fun b u z => ?_) (fun b z => ?_) fun _ => hk
    · by_cases hb : b = a
      · exact .inr ⟨_, _, if_pos hb⟩
      · exact .inl (if_neg hb)
    · obtain ⟨rfl, rfl⟩ := at_ b u z
      exact ⟨ha, by rw [List.length_map]; exact hl, vs, _, rv, ha⟩
    · cases q : (if b = a then some (HO.frz { cls := .type "list", data := .seq vs.toArray } (.lst (ns.map V.int))) else none) with
      | none => exact absurd q z
      | some u => exact (at_ b u q).1
theorem walk_ofM {l : PySem.W.OpenLaw} {n k : Nat} {q : Program} {loose : List Str} {XP : (Str → Option Value) → Heap → Prop} {YP : World → Heap → Prop} {d : PySem.DefRec} {x : Str}
    (hn : l.most = some n) (hn2 : n ≤ sizeLine) (hdf : d.params.defaults = []) (hr : Room k callerA)
    (F : ∀ (w : World) (mg : Str → Option Value) (fa : Addr) (h : Heap), YP w h → h.Ns mainGlobals mg → mg d.name = some (.ref fa) →
      ∃ (K : PySem.W.Frag) (fd : FuncData) (sp : Sp), K.In h ∧ (∀ (s : Shared) (u : Value), BindsTo s fd ⟨[u], []⟩ [(x, u)]) ∧
        (∀ (H : Hp) (a : Addr) (ns : List Int), ns.length ≤ n → SqL K H a (ns.map V.int) → sp [.ref a] H (fun v _ => v = .bl true) fun _ _ _ => False) ∧
        ∀ base : Heap, K.In base → base.Ns mainGlobals mg → FnM l.prog w K mg base k fa fd [x] sp) :
    PySem.W.WalkO q loose XP YP l.row.toRowW d [] (fun f vs => PySem.call f vs) := by
  refine Att.attach_call hn hdf fun w s₀ s₁ mg mb fa o pm cd doc a vs ns G Y ho hd hcd hmg hobj hints hlen hg => ?_
  obtain ⟨K, fd, sp, KX, hb, hsp, hF⟩ := F w mg fa _ Y G.T.g hmg
  exact law_callM KX G.T.g G.T.b G.T.builtins G.T.nolimit hg hobj hints (Nat.le_trans hlen hn2) hr hF hb fun H hS => hsp H a ns hlen hS
end Mk
/-! Mk18: the table of a text's defs; what the head must tell; the law. -/
namespace Mk
open PySem PySem.Spec PyProof.Rows L2
/-! ### constants -/
mutual
def dataB (K : PySem.W.Frag) : D → Value → Bool
  | .none, u => (match u with
    | .none => true
    | _ => false)
  | .bool b, u => (match u with
    | .bool c => b == c
    | _ => false)
  | .int i, u => (match u with
    | .int j _ => decide (i = j)
    | _ => false)
  | .str x, u => (match u with
    | .str y _ => decide (x = y)
    | _ => false)
  | .tuple xs, u => (match u with
    | .ref a => (match K.lookup a with
      | some ⟨.type c, _, .seq its _, _⟩ => decide (c = "tuple") && (decide (its.size ≤ sizeLine) && dataBs K xs its.toList)
      | _ => false)
    | _ => false)
  | .list _, _ => false
  | .dict _, _ => false
def dataBs (K : PySem.W.Frag) : List D → List Value → Bool
  | [], us => (match us with
    | [] => true
    | _ => false)
  | x :: xs, us => (match us with
    | u :: us => dataB K x u && dataBs K xs us
    | [] => false)
end
theorem ba2 {a b : Bool} (h : (a && b) = true) : a = true ∧ b = true := by simpa using h
mutual
theorem dataB_ok {K : PySem.W.Frag} : ∀ {d : D} {u : Value}, dataB K d u = true → ∃ v, RelV v u ∧ ∀ ρ H, RepD K ρ H d v
  | .none, u, h => by
    unfold dataB at h
    split at h
    · exact ⟨.non, rfl, fun _ _ => by unfold RepD; rfl⟩
    · cases h
  | .bool b, u, h => by
    unfold dataB at h
    split at h
    · have := eq_of_beq h; subst this; exact ⟨.bl b, rfl, fun _ _ => by unfold RepD; rfl⟩
    · cases h
  | .int i, u, h => by
    unfold dataB at h
    split at h
    · rename_i j t
      have := of_decide_eq_true h; subst this; exact ⟨.int i, ⟨t, rfl⟩, fun _ _ => by unfold RepD; rfl⟩
    · cases h
  | .str x, u, h => by
    unfold dataB at h
    split at h
    · rename_i j t
      have := of_decide_eq_true h; subst this; exact ⟨.str x, ⟨t, rfl⟩, fun _ _ => by unfold RepD; rfl⟩
    · cases h
  | .tuple xs, u, h => by
    unfold dataB at h
    split at h
    · rename_i a
      split at h
      · rename_i c od its n sl q
        obtain ⟨h1, h2⟩ := ba2 h
        obtain ⟨h3, h4⟩ := ba2 h2
        obtain ⟨vs, r1, r2⟩ := dataBs_ok h4
        refine ⟨.ref a, rfl, fun ρ H => ?_⟩
        unfold RepD
        exact ⟨a, vs, rfl, .inr ⟨_, its, n, q, congrArg Value.type (of_decide_eq_true h1), rfl, of_decide_eq_true h3, r1⟩, r2 ρ H⟩
      · cases h
    · cases h
  | .list xs, u, h => by unfold dataB at h; cases h
  | .dict xs, u, h => by unfold dataB at h; cases h
theorem dataBs_ok {K : PySem.W.Frag} : ∀ {ds : List D} {us : List Value}, dataBs K ds us = true → ∃ vs, Vals vs us ∧ ∀ ρ H, RepDs K ρ H ds vs
  | [], us, h => by
    unfold dataBs at h
    split at h
    · exact ⟨[], .nil, fun _ _ => by unfold RepDs; rfl⟩
    · cases h
  | x :: xs, us, h => by
    unfold dataBs at h
    split at h
    · obtain ⟨h1, h2⟩ := ba2 h
      obtain ⟨v, r1, r2⟩ := dataB_ok h1
      obtain ⟨vs, r3, r4⟩ := dataBs_ok h2
      exact ⟨v :: vs, .cons r1 r3, fun ρ H => by unfold RepDs; exact ⟨v, vs, rfl, r2 ρ H, r4 ρ H⟩⟩
    · cases h
end
def constB (K : PySem.W.Frag) (q : Str × D) : Bool := match PySem.W.nsIn K mainGlobals q.1 with
  | some (some u) => dataB K q.2 u
  | _ => false
/-! ### the hook -/
def obsM (fa : List He.Fa) (fn : List He.DefD) (cs : List (Str × D)) (K : PySem.W.Frag) : He.AlD := ((fa.all fun f => f.ok K) && ((fn.all fun d => d.ok K) && cs.all (constB K)), fn.map fun d => He.fnW K d.at_)
def SaysM (fa : List He.Fa) (fn : List He.DefD) (cs : List (Str × D)) (K : PySem.W.Frag) : Prop := obsM fa fn cs K = He.valD fn
def obsMG (n : Nat) (fa : List He.Fa) (fn : List He.DefD) (cs : List (Str × D)) (g : Addr → Option Obj) : He.AlD := obsM fa fn cs (He.frG g (He.asD g n))
def hookM (n : Nat) (fa : List He.Fa) (fn : List He.DefD) (cs : List (Str × D)) : PySem.W.Hook where
  α := He.AlD
  obs := fun s => obsMG n fa fn cs s.heap.get?
  val := fun _ => He.valD fn
  says := fun _ h => ∃ K : PySem.W.Frag, K.In h ∧ SaysM fa fn cs K
  of := fun _ _ e => ⟨_, He.frG_in, e⟩
  keeps := fun _ _ _ ⟨K, hK, c⟩ k => ⟨K, PySem.W.Frag.In.keeps hK k, c⟩
theorem obsMG_eq {n : Nat} {fa : List He.Fa} {fn : List He.DefD} {cs : List (Str × D)} {g : Addr → Option Obj} {s : Shared} (h : ∀ a, g a = s.heap.get? a) : obsMG n fa fn cs g = (hookM n fa fn cs).obs s := by
  have e : g = s.heap.get? := funext h
  rw [e] <;> rfl
section
variable {fa : List He.Fa} {fn : List He.DefD} {cs : List (Str × D)} {K : PySem.W.Frag}
theorem SaysM.fact (c : SaysM fa fn cs K) {f : He.Fa} (h : f ∈ fa) : f.ok K = true := List.all_eq_true.mp (ba2 (congrArg (fun z : He.AlD => z.1) c : ((fa.all fun f => f.ok K) && ((fn.all fun d => d.ok K) && cs.all (constB K))) = true)).1 f h
theorem SaysM.const (c : SaysM fa fn cs K) {q : Str × D} (h : q ∈ cs) : constB K q = true := List.all_eq_true.mp (ba2 (ba2 (congrArg (fun z : He.AlD => z.1) c : ((fa.all fun f => f.ok K) && ((fn.all fun d => d.ok K) && cs.all (constB K))) = true)).2).2 q h
theorem SaysM.def_ (c : SaysM fa fn cs K) (i : Nat) {d : He.DefD} (h : fn[i]? = some d) : ∃ fd, FunD K d.name d.qual d.params d.body d.scope (d.dvs K) (d.kws K) (He.fAd K d.at_) fd := by
  have c2 := (ba2 (ba2 (congrArg (fun z : He.AlD => z.1) c : ((fa.all fun f => f.ok K) && ((fn.all fun d => d.ok K) && cs.all (constB K))) = true)).2).1
  have e : fn.map (fun d => He.fnW K d.at_) = fn.map He.DefD.val := congrArg (fun z : He.AlD => z.2) c
  have e2 : (fn.map fun d => He.fnW K d.at_)[i]? = (fn.map He.DefD.val)[i]? := by rw [e]
  rw [List.getElem?_map, List.getElem?_map, h] at e2
  exact He.DefD.funD (Option.some.inj e2) (List.all_eq_true.mp c2 d (List.mem_of_getElem? h))
end
/-! ### the table -/
structure DefI where
  name : Str
  params : Arguments
  body : List Stmt
  scope : Scope
  ps : List Str
  dfl : List Int
  G : Gt
  fn : Fn
def DefI.dd (d : DefI) : He.DefD := ⟨(d.name, none), d.name, d.name, d.params, d.body, d.scope, d.dfl.map He.Dv.int, []⟩
def tabOf (ds : List DefI) : Nat → Option Fn := fun i => match ds[i]? with
  | some d => some d.fn
  | none => none
def DefI.okB (ds : List DefI) (cs : List (Str × D)) (fr : List Str) (d : DefI) : Bool :=
  (match d.scope.kind with | .function => true | _ => false) && !d.scope.isCoroutine && !d.scope.isGenerator && decide d.G.N.Nodup && decide (d.G.N.take d.ps.length = d.ps) && (d.ps.all fun x => isLoc d.scope x) &&
    (d.scope.names.all fun y => decide (y.2 ≠ .free)) && decide (d.fn.np = d.ps.length) && decide (d.G.N.length = d.fn.ns) && decide (d.fn.np ≤ d.fn.ns) &&
    (d.G.fs.all fun q => match ds[q.2.1]? with
      | some e => decide (e.name = q.1) && decide (e.fn.np = q.2.2.1) && decide (e.dfl = q.2.2.2)
      | none => false) && (d.G.fr.all fun x => decide (x ∈ fr))
/-- how the parameters are bound -/
def DefI.Bd (d : DefI) : Prop := ∀ (K : PySem.W.Frag) (f : Addr) (fd : FuncData), FunD K d.name d.name d.params d.body d.scope (d.dfl.map V.int) [] f fd → ∀ n, n ≤ d.fn.np → d.fn.np ≤ n + d.dfl.length → ∃ vals, Binds K fd d.ps vals ∧ Vals ((d.dfl.drop (n + d.dfl.length - d.fn.np)).map V.int) vals
theorem DefI.bd0 {d : DefI} (h0 : d.dfl = []) (hn : d.fn.np = d.ps.length)
    (h : ∀ (kV doc pm : Value) (an : Option Addr) (cdv ct : Value) (us : List Value), us.length = d.ps.length → bindArgs (PySem.W.fnOf d.name d.name d.params d.body d.scope .none kV doc pm an cdv ct) ⟨us, []⟩ = pure (d.ps.zip us)) : d.Bd := fun K f fd F n h1 h2 => by
  rw [h0] at F h2 ⊢
  exact ⟨[], FunD.bindsN F h, by simp; exact .nil⟩
theorem DefI.bd1 {d : DefI} (h0 : d.dfl ≠ []) (hn : d.fn.np = d.ps.length)
    (h : ∀ n, n ≤ d.fn.np → d.fn.np ≤ n + d.dfl.length → ∀ (T : Addr) (kV doc pm : Value) (an : Option Addr) (cdv ct : Value) (us its : List Value), us.length = n → its.length = d.dfl.length →
      ∃ k, bindArgs (PySem.W.fnOf d.name d.name d.params d.body d.scope (.ref T) kV doc pm an cdv ct) ⟨us, []⟩ = seqItems? (.ref T) >>= k ∧ k (some its.toArray) = pure (d.ps.zip (us ++ its.drop (n + d.dfl.length - d.fn.np)))) : d.Bd := fun K f fd F n h1 h2 => by
  obtain ⟨vals, r, b⟩ := FunD.binds1 F n (n + d.dfl.length - d.fn.np) (by simpa using h0) (by rw [List.length_map, ← hn]; omega) fun T kV doc pm an cdv ct us its hu hi => h n h1 h2 T kV doc pm an cdv ct us its hu (by rw [hi, List.length_map])
  exact ⟨vals, b, by rw [List.map_drop]; exact r⟩
structure Says (ds : List DefI) (cs : List (Str × D)) (fr : List Str) (K : PySem.W.Frag) (mg : Str → Option Value) (fA : Nat → Addr) : Prop where
  df : ∀ (i : Nat) (d : DefI), ds[i]? = some d → mg d.name = some (.ref (fA i)) ∧ ∃ fd, FunD K d.name d.name d.params d.body d.scope (d.dfl.map V.int) [] (fA i) fd
  cs : ∀ q ∈ cs, ∃ u v, mg q.1 = some u ∧ RelV v u ∧ ∀ ρ H, RepD K ρ H q.2 v
  fr : ∀ x ∈ fr, mg x = none
theorem loc_isLoc {sc : Scope} {x : Str} (h : isLoc sc x = true) : sc.names.lookup x = some .local ∨ sc.names.lookup x = some .cell := loc_of h
theorem lookup_mem {α : Type} {l : List (Str × α)} {x : Str} {a : α} (h : l.lookup x = some a) : (x, a) ∈ l := PySem.mem_of_lookup h
def tx0 : Tx := { fa := fun _ => none, ca := fun _ => none, cf := fun _ => none }
/-- each def does what the evaluator tells, at every depth of calls -/
theorem all_ok {P : Program} {w : World} {K : PySem.W.Frag} {mg : Str → Option Value} {base : Heap} {ds : List DefI} {cs : List (Str × D)} {fr : List Str} {fA : Nat → Addr} {m n : Nat} (A : Says ds cs fr K mg fA)
    (hok : ∀ d ∈ ds, d.okB ds cs fr = true) (hcs : ∀ d ∈ ds, d.G.cs = cs) (hbd : ∀ d ∈ ds, d.Bd) (hb : ∀ d ∈ ds, d.fn.body = cBody d.G m n d.scope d.body) :
    ∀ (k i : Nat) (d : DefI), ds[i]? = some d → ∃ fd, FunD K d.name d.name d.params d.body d.scope (d.dfl.map V.int) [] (fA i) fd ∧ FnM P w K mg base k (fA i) fd d.ps (spF tx0 K d.fn.np (run (tabOf ds) k i)) := by
  intro k
  induction k with
  | zero =>
    intro i d hd
    obtain ⟨fd, F⟩ := (A.df i d hd).2
    exact ⟨fd, F, fun vs H Q E ⟨_, _, _, _, _, _, h⟩ => h.elim, fun _ _ _ _ _ _ _ _ _ _ _ _ _ _ ⟨_, _, _, _, _, _, h⟩ => h.elim⟩
  | succ k ih =>
    intro i d hd
    have hm : d ∈ ds := List.mem_of_getElem? hd
    obtain ⟨fd, F⟩ := (A.df i d hd).2
    have ok := hok d hm
    unfold DefI.okB at ok
    simp only [Bool.and_eq_true, decide_eq_true_eq, Bool.not_eq_true', List.all_eq_true] at ok
    obtain ⟨⟨⟨⟨⟨⟨⟨⟨⟨⟨⟨o1, o2⟩, o3⟩, o4⟩, o5⟩, o6⟩, o7⟩, o8⟩, o9⟩, o10⟩, o11⟩, o12⟩ := ok
    have kd : d.scope.kind = .function := by
      split at o1
      · assumption
      · cases o1
    have Sc : FnScope d.G.N d.ps d.scope := ⟨kd, o2, o3, o4, o5, fun x hx => loc_of (o6 x hx), fun y hy => o7 y hy⟩
    have e : run (tabOf ds) (k + 1) i = runFn d.fn ⟨run (tabOf ds) k⟩ := by
      funext args S
      show (match tabOf ds i with
        | some fd => runFn fd ⟨run (tabOf ds) k⟩ args S
        | none => .stuck) = _
      unfold tabOf
      rw [hd]
    rw [e]
    refine ⟨fd, F, fn_spF F Sc o8 o9 o10 fun cdv Ar outer s H E hr hgd => ?_⟩
    rw [hb d hm]
    refine snd_body (k := k) ⟨⟨rfl, rfl, o4, rfl, hr, hgd, takes_of (X := cxOf (L2.CX P w) P w K mg base d.G.N d.name d.scope (fA i) cdv Ar outer s H E) (E := E) rfl rfl rfl rfl, fun x hx => A.fr x (o12 x hx), fun x dd hx => ?_, fun x f np dl hx n1 h1 h2 => ?_⟩, passes_of (X := cxOf (L2.CX P w) P w K mg base d.G.N d.name d.scope (fA i) cdv Ar outer s H E) (K := fun e s'' => L2.CX P w outer H s E e s'') rfl, fun _ => rfl, kd⟩ m n d.body
    · rw [hcs d hm] at hx
      exact A.cs _ (lookup_mem hx)
    · have q := o11 _ (lookup_mem hx)
      dsimp only at q
      split at q
      · rename_i d' hd'
        simp only [Bool.and_eq_true, decide_eq_true_eq] at q
        obtain ⟨⟨rfl, rfl⟩, rfl⟩ := q
        obtain ⟨fd', F', M'⟩ := ih f d' hd'
        obtain ⟨vals, b1, b2⟩ := hbd d' (List.mem_of_getElem? hd') K (fA f) fd' F' n1 h1 h2
        exact ⟨fA f, fd', d'.ps, vals, (A.df f d' hd').1, F'.kp, M', b1, b2⟩
      · cases q
/-! ### the law -/
theorem dvs_int {K : PySem.W.Frag} (ds : List Int) : (ds.map He.Dv.int).map (He.Dv.v K) = ds.map V.int := by
  rw [List.map_map] <;> rfl
theorem says_of {ds : List DefI} {cs : List (Str × D)} {fr : List Str} {fa : List He.Fa} {K : PySem.W.Frag} {h : Heap} {mg : Str → Option Value} (c : SaysM fa (ds.map DefI.dd) cs K) (KX : K.In h) (G : h.Ns mainGlobals mg)
    (h1 : ∀ d ∈ ds, He.Fa.glo d.name ∈ fa) (h2 : ∀ x ∈ fr, He.Fa.free x ∈ fa) : Says ds cs fr K mg (fun i => match ds[i]? with
      | some d => He.ga K d.name
      | none => 0) where
  df := fun i d hd => by
    rw [hd]
    refine ⟨He.glo_ok KX G (c.fact (h1 d (List.mem_of_getElem? hd))), ?_⟩
    obtain ⟨fd, F⟩ := c.def_ i (d := d.dd) (by rw [List.getElem?_map, hd]; rfl)
    have e : d.dd.dvs K = d.dfl.map V.int := dvs_int d.dfl
    rw [e] at F
    exact ⟨fd, F⟩
  cs := fun q hq => by
    have z := c.const hq
    unfold constB at z
    split at z
    · rename_i u e
      obtain ⟨v, r1, r2⟩ := dataB_ok z
      exact ⟨u, v, PySem.W.mg_of KX G e, r1, r2⟩
    · cases z
  fr := fun x hx => He.free_ok KX G (c.fact (h2 x hx))
theorem rep_ns {K : PySem.W.Frag} {ρ : List Addr} {H : Hp} : ∀ ns : List Int, RepDs K ρ H (ns.map .int) (ns.map V.int)
  | [] => RepDs.nil
  | n :: ns => RepDs.cons (by unfold RepD; rfl) (rep_ns ns)
theorem fd_eq {K : PySem.W.Frag} {x x' qual qual' : Str} {params params' : Arguments} {body body' : List Stmt} {scope scope' : Scope} {dvs dvs' : List L2.V} {kws kws' : List (Str × L2.V)} {f : Addr} {fd fd' : FuncData} (F : FunD K x qual params body scope dvs kws f fd) (F' : FunD K x' qual' params' body' scope' dvs' kws' f fd') : fd = fd' := by
  obtain ⟨_, _, _, _, _, _, _, _, _, _, _, q, _⟩ := F.ex
  obtain ⟨_, _, _, _, _, _, _, _, _, _, _, q', _⟩ := F'.ex
  rw [q] at q'
  cases q'
  rfl
theorem script_rep {T : Tb} {K : PySem.W.Frag} {H : Hp} {a : Addr} {ns : List Int} (h : SqL K H a (ns.map V.int)) : RepV T K [] H (.sc (ns.map .int)) (.ref a) := by
  unfold RepV
  refine ⟨a, ns.map V.int, rfl, ?_, ?_⟩
  · rcases h with h | h
    · exact .inl ⟨by simp, h⟩
    · exact .inr (.inr h)
  · exact rep_ns ns
theorem law_of {l : PySem.W.OpenLaw} {k iL : Nat} {q : Program} {loose : List Str} {XP : (Str → Option Value) → Heap → Prop} {d : PySem.DefRec} {ds : List DefI} {cs : List (Str × D)} {fr : List Str} {fa : List He.Fa} {dL : DefI} {m n : Nat} {YP : World → Heap → Prop}
    (hY : ∀ w h, YP w h → ∃ K : PySem.W.Frag, K.In h ∧ SaysM fa (ds.map DefI.dd) cs K)
    (hn : l.most = some 63) (hdf : d.params.defaults = []) (hr : Room k callerA) (hd : d.name = dL.name) (hL : ds[iL]? = some dL) (hps : dL.ps = [("script" : Str)]) (hdl : dL.dfl = [])
    (hbL : ∀ (kV doc pm : Value) (an : Option Addr) (cdv ct : Value) (us : List Value), us.length = dL.ps.length → bindArgs (PySem.W.fnOf dL.name dL.name dL.params dL.body dL.scope .none kV doc pm an cdv ct) ⟨us, []⟩ = pure (dL.ps.zip us))
    (h1 : ∀ d ∈ ds, He.Fa.glo d.name ∈ fa) (h2 : ∀ x ∈ fr, He.Fa.free x ∈ fa)
    (hok : ∀ d ∈ ds, d.okB ds cs fr = true) (hcs : ∀ d ∈ ds, d.G.cs = cs) (hbd : ∀ d ∈ ds, d.Bd) (hb : ∀ d ∈ ds, d.fn.body = cBody d.G m n d.scope d.body)
    (hrun : ∀ ns : List Int, ns.length ≤ 63 → ∃ S, run (tabOf ds) k iL [.sc (ns.map .int)] [] = .ok (B true) S) :
    PySem.W.WalkO q loose XP YP l.row.toRowW d [] (fun f vs => PySem.call f vs) := by
  refine walk_ofM (x := "script") (k := k) hn (by decide) hdf hr fun w mg fa' h Y G hmg => ?_
  obtain ⟨K, KX, c⟩ := hY w h Y
  have A := says_of c KX G h1 h2
  obtain ⟨e1, fd, F⟩ := A.df iL dL hL
  rw [hd, e1] at hmg
  cases hmg
  rw [hdl] at F
  refine ⟨K, fd, spF tx0 K 1 (run (tabOf ds) k iL), KX, fun s u => ?_, fun H a ns hl hS => ?_, fun base b1 b2 => ?_⟩
  · have := FunD.bindsA (ps := dL.ps) F hbL s [u] (by rw [hps]; rfl)
    rw [hps] at this
    exact this
  · obtain ⟨S, e⟩ := hrun ns hl
    refine ⟨[.sc (ns.map .int)], [], [], rfl, ?_, ⟨rfl, List.nodup_nil, fun a m => (nomatch m), fun i xs z => (by cases z)⟩, ?_⟩
    · unfold RepVs
      exact ⟨_, [], rfl, script_rep hS, by unfold RepVs; rfl⟩
    · rw [e]
      intro v H' ρ' _ r _
      unfold B RepV RepD at r
      exact r
  · obtain ⟨fd', F', M⟩ := all_ok (P := l.prog) (w := w) (base := base) A hok hcs hbd hb k iL dL hL
    have e := fd_eq F F'
    subst e
    have hnp : dL.fn.np = 1 := by
      have ok := hok dL (List.mem_of_getElem? hL)
      unfold DefI.okB at ok
      simp only [Bool.and_eq_true, decide_eq_true_eq] at ok
      have := ok.1.1.1.1.2
      rw [hps] at this
      exact this
    rw [hnp, hps] at M
    exact M
end Mk
/-! Ml1: words for the plain laws. -/
namespace Mk
open PySem (PyData Str)
theorem run_at {tab : Nat → Option Fn} {i : Nat} {fd : Fn} (h : tab i = some fd) (k : Nat) (args : List Vl) (S : Store) : run tab (k + 1) i args S = runFn fd ⟨run tab k⟩ args S := by
  show (match tab i with
    | some fd => runFn fd ⟨run tab k⟩ args S
    | none => .stuck) = _
  rw [h]
@[simp] theorem bind_ok {α β : Type} (a : α) (S : Store) (f : α → Store → R β) : (R.ok a S).bind f = f a S := rfl
@[simp] theorem next_ok {α : Type} (a : α) (S : Store) (γ : Env) (f : α → Store → RS) : (R.ok a S).next γ f = f a S := rfl
theorem fin_d (keep : Bool) (n : Nat) (x : D) (S : Store) : fin keep n (.d x) S = .ok (.d x) (S.take n) := rfl
def fq (q : Rat) : D := .tuple [.int q.num, .int (q.den : Int)]
/-- numerator and denominator below 2 ^ n -/
structure Sz (n : Nat) (q : Rat) : Prop where
  num : q.num.natAbs < 2 ^ n
  den : q.den < 2 ^ n
theorem fr_num {t b : Int} (hb : b ≠ 0) : Rat.num (Rat.divInt t b) = b.sign * t / (Int.gcd t b : Int) := by
  rw [Rat.num_divInt, Int.gcd_comm]
theorem fr_den {t b : Int} (hb : b ≠ 0) : ((Rat.divInt t b).den : Int) = b.sign * b / (Int.gcd t b : Int) := by
  rw [Rat.den_divInt, if_neg hb, Int.gcd_comm, Int.natCast_ediv]
  have : b.sign * b = b.natAbs := by
    rcases Int.lt_trichotomy b 0 with h | h | h
    · rw [Int.sign_eq_neg_one_of_neg h]; omega
    · exact absurd h hb
    · rw [Int.sign_eq_one_of_pos h]; omega
  rw [this]
theorem log_lt {n m : Nat} (h : n < 2 ^ m) (hm : 0 < m) : n.log2 < m := by
  by_cases h0 : n = 0
  · subst h0; simpa using hm
  · exact (Nat.log2_lt h0).mpr h
theorem gcd_divOk {t b : Int} {n : Nat} (hb : b ≠ 0) (h : b.natAbs < 2 ^ n) (hn : n ≤ 8999) : divOk (Int.gcd t b) = true := by
  have h1 : 0 < Int.gcd t b := Int.gcd_pos_of_ne_zero_right _ hb
  have h2 : Int.gcd t b ≤ b.natAbs := Nat.le_of_dvd (by omega) (Int.gcd_dvd_natAbs_right _ _)
  have hn0 : 0 < n := by
    rcases Nat.eq_zero_or_pos n with z | z
    · subst z
      have h' : b.natAbs < 1 := h
      omega
    · exact z
  have h3 : (Int.gcd t b).log2 < 9000 := by
    have := log_lt (Nat.lt_of_le_of_lt h2 h) hn0
    omega
  unfold divOk
  simp only [Bool.and_eq_true, decide_eq_true_eq]
  exact ⟨by omega, by simpa using h3⟩
theorem mulOk_of {i j : Int} {a b : Nat} (hi : i.natAbs < 2 ^ a) (hj : j.natAbs < 2 ^ b) (h : a + b ≤ 100000) : mulOk i j = true := by
  unfold mulOk
  by_cases h1 : i.natAbs < 18446744073709551616
  · simp [h1]
  · by_cases h2 : j.natAbs < 18446744073709551616
    · simp [h2]
    · have ha : 0 < a := by
        rcases Nat.eq_zero_or_pos a with z | z
        · subst z; omega
        · exact z
      have hb : 0 < b := by
        rcases Nat.eq_zero_or_pos b with z | z
        · subst z; omega
        · exact z
      have := log_lt hi ha
      have := log_lt hj hb
      have h3 : i.natAbs.log2 + j.natAbs.log2 < 1000000 := by omega
      simp [h3]
theorem div_sz {a b : Int} {n : Nat} (h : a.natAbs < 2 ^ n) : (a / b).natAbs < 2 ^ n := by
  have := Int.natAbs_ediv_le_natAbs a b
  omega
theorem Sz.divInt {t b : Int} {n : Nat} (hb : b ≠ 0) (ht : t.natAbs < 2 ^ n) (hb2 : b.natAbs < 2 ^ n) : Sz n (Rat.divInt t b) := by
  have hs : ∀ x : Int, (b.sign * x).natAbs = x.natAbs := fun x => by rw [Int.natAbs_mul, Int.natAbs_sign_of_ne_zero hb, Nat.one_mul]
  constructor
  · rw [fr_num hb]
    exact div_sz (by rw [hs]; exact ht)
  · have : (((Rat.divInt t b).den : Int)).natAbs < 2 ^ n := by
      rw [fr_den hb]
      exact div_sz (by rw [hs]; exact hb2)
    simpa using this
theorem pow_mul_lt {x y a b : Nat} (hx : x < 2 ^ a) (hy : y < 2 ^ b) : x * y < 2 ^ (a + b) := by
  rw [Nat.pow_add]
  exact Nat.mul_lt_mul'' hx hy
theorem add_eq (p q : Rat) : p + q = Rat.divInt (p.num * q.den + q.num * p.den) (p.den * q.den) := by
  rw [Rat.add_def', ← Rat.divInt_ofNat]
  simp
theorem mul_eq (p q : Rat) : p * q = Rat.divInt (p.num * q.num) (p.den * q.den) := by
  rw [Rat.mul_def', ← Rat.divInt_ofNat]
  simp
theorem sub_eq (p q : Rat) : p - q = Rat.divInt (p.num * q.den - q.num * p.den) (p.den * q.den) := by
  rw [Rat.sub_def', ← Rat.divInt_ofNat]
  simp
theorem den_ne (p q : Rat) : ((p.den : Int) * q.den) ≠ 0 := Int.mul_ne_zero (by have := p.den_nz; omega) (by have := q.den_nz; omega)
theorem den_sz {p q : Rat} {a b : Nat} (hp : Sz a p) (hq : Sz b q) : ((p.den : Int) * q.den).natAbs < 2 ^ (a + b) := by
  rw [Int.natAbs_mul]
  exact pow_mul_lt (by simpa using hp.den) (by simpa using hq.den)
theorem add_num_sz {p q : Rat} {a b : Nat} (hp : Sz a p) (hq : Sz b q) : (p.num * q.den + q.num * p.den).natAbs < 2 ^ (a + b + 1) := by
  have h1 : (p.num * q.den).natAbs < 2 ^ (a + b) := by rw [Int.natAbs_mul]; exact pow_mul_lt hp.num (by simpa using hq.den)
  have h2 : (q.num * p.den).natAbs < 2 ^ (a + b) := by rw [Int.natAbs_mul, Nat.mul_comm]; exact pow_mul_lt (by simpa using hp.den) hq.num
  rw [Nat.pow_succ]
  omega
theorem sub_num_sz {p q : Rat} {a b : Nat} (hp : Sz a p) (hq : Sz b q) : (p.num * q.den - q.num * p.den).natAbs < 2 ^ (a + b + 1) := by
  have h1 : (p.num * q.den).natAbs < 2 ^ (a + b) := by rw [Int.natAbs_mul]; exact pow_mul_lt hp.num (by simpa using hq.den)
  have h2 : (q.num * p.den).natAbs < 2 ^ (a + b) := by rw [Int.natAbs_mul, Nat.mul_comm]; exact pow_mul_lt (by simpa using hp.den) hq.num
  rw [Nat.pow_succ]
  omega
theorem Sz.mono {a b : Nat} {p : Rat} (h : Sz a p) (hl : a ≤ b) : Sz b p := ⟨Nat.lt_of_lt_of_le h.num (Nat.pow_le_pow_right (by omega) hl), Nat.lt_of_lt_of_le h.den (Nat.pow_le_pow_right (by omega) hl)⟩
theorem Sz.add {p q : Rat} {a b : Nat} (hp : Sz a p) (hq : Sz b q) : Sz (a + b + 1) (p + q) := by
  rw [add_eq]
  exact Sz.divInt (den_ne p q) (add_num_sz hp hq) (Nat.lt_of_lt_of_le (den_sz hp hq) (Nat.pow_le_pow_right (by omega) (by omega)))
theorem Sz.sub {p q : Rat} {a b : Nat} (hp : Sz a p) (hq : Sz b q) : Sz (a + b + 1) (p - q) := by
  rw [sub_eq]
  exact Sz.divInt (den_ne p q) (sub_num_sz hp hq) (Nat.lt_of_lt_of_le (den_sz hp hq) (Nat.pow_le_pow_right (by omega) (by omega)))
theorem Sz.mul {p q : Rat} {a b : Nat} (hp : Sz a p) (hq : Sz b q) : Sz (a + b) (p * q) := by
  rw [mul_eq]
  exact Sz.divInt (den_ne p q) (by rw [Int.natAbs_mul]; exact pow_mul_lt hp.num hq.num) (den_sz hp hq)
theorem Sz.neg {p : Rat} {a : Nat} (hp : Sz a p) : Sz a (-p) := ⟨by simpa using hp.num, by simpa using hp.den⟩
theorem div_eq (p q : Rat) : p / q = Rat.divInt (p.num * q.den) (p.den * q.num) := by
  rw [Rat.div_def, mul_eq]
  rw [Rat.num_inv, Rat.den_inv]
  by_cases h0 : q.num = 0
  · simp [h0]
  · rw [if_neg h0]
    rcases Int.lt_or_gt_of_ne h0 with h | h
    · rw [Int.sign_eq_neg_one_of_neg h]
      have : (q.num.natAbs : Int) = - q.num := by omega
      rw [this, ← Rat.neg_divInt_neg (p.num * q.den)]
      congr 1 <;> grind
    · rw [Int.sign_eq_one_of_pos h]
      have : (q.num.natAbs : Int) = q.num := by omega
      rw [this]
      simp
theorem num_ne {q : Rat} (h : q ≠ 0) : q.num ≠ 0 := fun z => h (Rat.num_eq_zero.mp z)
theorem div_ne (p : Rat) {q : Rat} (h : q ≠ 0) : ((p.den : Int) * q.num) ≠ 0 := Int.mul_ne_zero (by have := p.den_nz; omega) (num_ne h)
theorem div_sz2 {p q : Rat} {a b : Nat} (hp : Sz a p) (hq : Sz b q) : ((p.den : Int) * q.num).natAbs < 2 ^ (a + b) := by
  rw [Int.natAbs_mul]
  exact pow_mul_lt (by simpa using hp.den) hq.num
theorem Sz.div {p q : Rat} {a b : Nat} (hp : Sz a p) (hq : Sz b q) (h : q ≠ 0) : Sz (a + b) (p / q) := by
  rw [div_eq]
  exact Sz.divInt (div_ne p h) (by rw [Int.natAbs_mul]; exact pow_mul_lt hp.num (by simpa using hq.den)) (div_sz2 hp hq)
def cmpQ (p q : Rat) : Int := (if q < p then 1 else 0) - (if p < q then 1 else 0)
@[simp] theorem take_len_set (S : Store) (i : Nat) (X : Ob) : List.take S.length (S.set i X) = S.set i X := by
  rw [show S.length = (S.set i X).length by simp, List.take_length]
theorem set_get {α : Type} {S : List α} {i : Nat} {X : α} (h : i < S.length) : (S.set i X)[i]? = some X := List.getElem?_set_self h
/-! ### comprehensions that change nothing -/
theorem lcLoop_pure {g : TTg} {t : TTs} {e : TEx} {c : Cl} {γ : Env} {n : Nat} {p : Vl → Bool} {f : Vl → D} : ∀ (xs : List Vl) (out : List D) (S : Store), S[n]? = some (.lst out) → out.length + xs.length ≤ LINE →
    (∀ x ∈ xs, ∃ γ1, g x γ = some γ1 ∧ (∀ S, t c γ1 S = .ok (p x) S) ∧ (p x = true → ∀ S, e c γ1 S = .ok (.d (f x)) S)) → lcLoop g t e c γ n xs S = .ok () (S.set n (.lst (out ++ (xs.filter p).map f)))
  | [], out, S, h, _, _ => by
    unfold lcLoop
    have hn : n < S.length := (List.getElem?_eq_some_iff.mp h).1
    have : S.set n (.lst out) = S := by
      refine List.ext_getElem? fun i => ?_
      by_cases e : n = i
      · subst e; rw [List.getElem?_set_self hn, h]
      · rw [List.getElem?_set_ne e]
    simp [this]
  | x :: xs, out, S, h, hl, hx => by
    have hn : n < S.length := (List.getElem?_eq_some_iff.mp h).1
    obtain ⟨γ1, g1, t1, e1⟩ := hx x List.mem_cons_self
    rw [List.length_cons] at hl
    unfold lcLoop
    rw [g1]
    dsimp only
    rw [t1]
    cases q : p x with
    | false =>
      dsimp only
      rw [lcLoop_pure xs out S h (by omega) fun y hy => hx y (List.mem_cons_of_mem _ hy)]
      simp [q]
    | true =>
      dsimp only
      rw [e1 q]
      dsimp only
      rw [h]
      dsimp only
      rw [if_pos (by omega)]
      rw [lcLoop_pure xs (out ++ [f x]) (S.set n (.lst (out ++ [f x]))) (List.getElem?_set_self hn) (by rw [List.length_append, List.length_singleton]; omega) fun y hy => hx y (List.mem_cons_of_mem _ hy)]
      simp [q]
theorem xLc_pure {w : List Nat} {it : TIt} {g : TTg} {t : TTs} {e : TEx} {c : Cl} {γ : Env} {S S1 : Store} {xs : List Vl} {p : Vl → Bool} {f : Vl → D} (hi : it c γ S = .ok (.its xs) S1) (hl : xs.length ≤ LINE)
    (hx : ∀ x ∈ xs, ∃ γ1, g x (wipeE γ w) = some γ1 ∧ (∀ S, t c γ1 S = .ok (p x) S) ∧ (p x = true → ∀ S, e c γ1 S = .ok (.d (f x)) S)) (m : Bool) :
    xLc m w it g t e c γ S = match m with
      | true => .ok (.r S1.length) (S1 ++ [.lst ((xs.filter p).map f)])
      | false => .ok (.d (.list ((xs.filter p).map f))) S1 := by
  unfold xLc
  rw [hi]
  have h1 : List.set (S1 ++ [Ob.lst []]) S1.length (.lst ([] ++ (xs.filter p).map f)) = S1 ++ [.lst ((xs.filter p).map f)] := by simp
  have h2 := lcLoop_pure (n := S1.length) xs [] (S1 ++ [Ob.lst []] : List Ob) (by simp) (by simpa using hl) hx
  rw [h1] at h2
  have h3 : lcRun g t e c (wipeE γ w) S1.length (.its xs) (S1 ++ [Ob.lst []]) = _ := h2
  show lcFin m S1.length (lcRun g t e c (wipeE γ w) S1.length (.its xs) (S1 ++ [Ob.lst []])) = _
  rw [h3]
  unfold lcFin lcEnd
  dsimp only
  simp only [List.length_append, List.length_singleton, if_true, List.getElem?_append_right (Nat.le_refl _), Nat.sub_self, List.getElem?_cons_zero]
  cases m with
  | true => rfl
  | false => simp
theorem allT_true : ∀ {ds : List D}, (∀ d ∈ ds, d = .bool true) → allT ds = some true
  | [], _ => rfl
  | d :: ds, h => by
    have e := h d List.mem_cons_self
    subst e
    unfold allT truD
    exact allT_true fun x hx => h x (List.mem_cons_of_mem _ hx)
theorem tYes_ok (c : Cl) (γ : Env) (S : Store) : tYes c γ S = .ok true S := rfl
/-- the sum from the left -/
def sumQ (qs : List Rat) : Rat := qs.foldl (· + ·) 0
theorem foldl_add (qs : List Rat) (a : Rat) : qs.foldl (· + ·) a = a + sumQ qs := by
  unfold sumQ
  induction qs generalizing a with
  | nil => simp [Rat.add_zero]
  | cons q qs ih =>
    rw [List.foldl_cons, List.foldl_cons, ih, ih (0 + q), Rat.zero_add, Rat.add_assoc]
theorem sumQ_cons (q : Rat) (qs : List Rat) : sumQ (q :: qs) = q + sumQ qs := by
  show qs.foldl (· + ·) (0 + q) = _
  rw [foldl_add, Rat.zero_add]
theorem sumQ_append (xs ys : List Rat) : sumQ (xs ++ ys) = sumQ xs + sumQ ys := by
  unfold sumQ
  rw [List.foldl_append, foldl_add]
  rfl
theorem sumQ_reverse (qs : List Rat) : sumQ qs.reverse = sumQ qs := by
  induction qs with
  | nil => rfl
  | cons q qs ih => rw [List.reverse_cons, sumQ_append, ih, sumQ_cons, sumQ_cons, show sumQ [] = 0 from rfl, Rat.add_zero, Rat.add_comm]
theorem Sz.zero : Sz 1 0 := ⟨by decide, by decide⟩
theorem Sz.one : Sz 1 1 := ⟨by decide, by decide⟩
theorem okD_fq (q : Rat) : okD (fq q) = true := by simp [fq, okD, PyData.plain, PyData.plainAll, PyData.depth, PyData.depthAll]
theorem eqv_fq (p q : Rat) : PyData.eqv (fq p) (fq q) = decide (p = q) := by
  simp only [fq, PyData.eqv, PyData.eqvAll, Bool.and_true]
  rw [Bool.eq_iff_iff]
  simp only [Bool.and_eq_true, beq_iff_eq, decide_eq_true_eq]
  constructor
  · rintro ⟨h1, h2⟩
    exact Rat.ext h1 (by omega)
  · rintro rfl
    exact ⟨rfl, rfl⟩
mutual
theorem eqv_refl : ∀ d : D, d.plain = true → PyData.eqv d d = true
  | .none, _ => rfl
  | .bool b, _ => by simp [PyData.eqv]
  | .int i, _ => by simp [PyData.eqv]
  | .str s, _ => by simp [PyData.eqv]
  | .list xs, h => by
    simp only [PyData.plain] at h
    simp only [PyData.eqv]
    exact eqvAll_refl xs h
  | .tuple xs, h => by
    simp only [PyData.plain] at h
    simp only [PyData.eqv]
    exact eqvAll_refl xs h
  | .dict kvs, h => by simp [PyData.plain] at h
theorem eqvAll_refl : ∀ ds : List D, PyData.plainAll ds = true → PyData.eqvAll ds ds = true
  | [], _ => rfl
  | d :: ds, h => by
    simp only [PyData.plainAll, Bool.and_eq_true] at h
    simp only [PyData.eqvAll, Bool.and_eq_true]
    exact ⟨eqv_refl d h.1, eqvAll_refl ds h.2⟩
end
/-! ### what is shown -/
structure Wd (d : D) (w k : Nat) : Prop where
  s : d.showable = true
  h : d.hasDict = false
  w : d.shown.length ≤ w
  k : d.depth ≤ k
theorem Wd.ok {d : D} {w k : Nat} (x : Wd d w k) (hw : w ≤ LINE) (hk : k ≤ 60) : reprOk d = true := by
  unfold reprOk
  have h1 := x.w
  have h2 := x.k
  simp only [x.s, x.h, Bool.and_eq_true, Bool.not_false, decide_eq_true_eq, and_self, true_and]
  exact ⟨by omega, by omega⟩
theorem Wd.int {i : Int} {n : Nat} (h : i.natAbs < 2 ^ n) (h0 : 0 < n) (hn : n ≤ 1900) : Wd (.int i) (n + 1) 1 := by
  have hl := log_lt h h0
  refine ⟨by simp [PyData.showable]; omega, rfl, ?_, by simp [PyData.depth]⟩
  have := PySem.int_text_length_le (a := i) h0 hl
  show (Str.ofString (toString i)).length ≤ n + 1
  rw [PySem.ofString_length]
  exact this
theorem wd_all : ∀ {ds : List D} {w k : Nat}, (∀ d ∈ ds, Wd d w k) → PyData.showableAll ds = true ∧ PyData.hasDictAll ds = false ∧ ((PyData.shownAll ds).map (·.length)).sum ≤ w * ds.length ∧ (PyData.shownAll ds).length = ds.length ∧ PyData.depthAll ds ≤ k
  | [], w, k, _ => by simp [PyData.showableAll, PyData.hasDictAll, PyData.shownAll, PyData.depthAll]
  | d :: ds, w, k, h => by
    obtain ⟨a1, a2, a3, a4, a5⟩ := wd_all fun x hx => h x (List.mem_cons_of_mem _ hx)
    have b := h d List.mem_cons_self
    have b1 := b.w
    have b2 := b.k
    refine ⟨by simp [PyData.showableAll, b.s, a1], by simp [PyData.hasDictAll, b.h, a2], ?_, by simp [PyData.shownAll, a4], ?_⟩
    · simp only [PyData.shownAll, List.map_cons, List.sum_cons, List.length_cons, Nat.mul_succ]
      omega
    · simp only [PyData.depthAll]
      omega
theorem Wd.list {ds : List D} {w k : Nat} (h : ∀ d ∈ ds, Wd d w k) : Wd (.list ds) ((w + 2) * ds.length + 3) (k + 1) := by
  obtain ⟨a1, a2, a3, a4, a5⟩ := wd_all h
  refine ⟨by simpa [PyData.showable] using a1, by simpa [PyData.hasDict] using a2, ?_, by simp only [PyData.depth]; omega⟩
  have := PySem.listText_len_le (PyData.shownAll ds)
  rw [a4] at this
  show (PySem.listText (PyData.shownAll ds)).length ≤ _
  rw [Nat.add_mul]
  omega
theorem Wd.tuple {ds : List D} {w k : Nat} (h : ∀ d ∈ ds, Wd d w k) : Wd (.tuple ds) ((w + 2) * ds.length + 3) (k + 1) := by
  obtain ⟨a1, a2, a3, a4, a5⟩ := wd_all h
  refine ⟨by simpa [PyData.showable] using a1, by simpa [PyData.hasDict] using a2, ?_, by simp only [PyData.depth]; omega⟩
  have := PySem.tupleText_len_le (PyData.shownAll ds)
  rw [a4] at this
  show (PySem.tupleText (PyData.shownAll ds)).length ≤ _
  rw [Nat.add_mul]
  omega
theorem Wd.fq {q : Rat} {n : Nat} (h : Sz n q) (h0 : 0 < n) (hn : n ≤ 1900) : Wd (fq q) ((n + 3) * 2 + 3) 2 := Wd.tuple fun d hd => by
  simp at hd
  rcases hd with rfl | rfl
  · exact Wd.int h.num h0 hn
  · exact Wd.int (by simpa using h.den) h0 hn
theorem Wd.mono {d : D} {w k w' k' : Nat} (x : Wd d w k) (h1 : w ≤ w') (h2 : k ≤ k') : Wd d w' k' := ⟨x.s, x.h, Nat.le_trans x.w h1, Nat.le_trans x.k h2⟩
theorem rngOk_nat {n : Nat} (h : n ≤ 1000000) : rngOk (n : Int) = true := by
  unfold rngOk
  simp only [decide_eq_true_eq]
  omega
theorem set_same {α : Type} {S : List α} {i : Nat} {x : α} (h : S[i]? = some x) : S.set i x = S := by
  refine List.ext_getElem? fun j => ?_
  by_cases e : i = j
  · subst e; rw [List.getElem?_set_self (List.getElem?_eq_some_iff.mp h).1, h]
  · rw [List.getElem?_set_ne e]
end Mk
namespace K21
open PySem PySem.Spec PyProof.Rows L2 Mk
abbrev prog := PySem.Challenge.pw_makesmore_k21_whole_numbers
def top (i : Nat) : Stmt := prog.main.body.getD i (.Pass ⟨0, 0, 0, 0⟩)
def c_MOST_PASSED : D := (.int 10000000000000000000000000000000000000000)
def c_NOUGHT : D := (.tuple [(.int 0), (.int 1)])
def c_ONE : D := (.tuple [(.int 1), (.int 1)])
def cs : List (Str × D) := [("MOST_PASSED", c_MOST_PASSED), ("NOUGHT", c_NOUGHT), ("ONE", c_ONE)]
def fr : List Str := ["abs", "all", "bool", "int", "isinstance", "len", "max", "min", "range", "repr", "tuple"]
abbrev i_is_integer : Nat := 0
abbrev i_common_divisor : Nat := 1
abbrev i_is_number : Nat := 2
abbrev i_reduced : Nat := 3
abbrev i_number : Nat := 4
abbrev i_require_number : Nat := 5
abbrev i_require_count : Nat := 6
abbrev i_added : Nat := 7
abbrev i_multiplied : Nat := 8
abbrev i_opposite : Nat := 9
abbrev i_divided : Nat := 10
abbrev i_sum_of : Nat := 11
abbrev i_plus : Nat := 12
abbrev i_minus : Nat := 13
abbrev i_times : Nat := 14
abbrev i_over : Nat := 15
abbrev i_compared : Nat := 16
abbrev i_total : Nat := 17
abbrev i_power : Nat := 18
abbrev i__law_dice : Nat := 19
abbrev i__law_roll : Nat := 20
abbrev i__law_pick : Nat := 21
abbrev i__law_fr : Nat := 22
abbrev i__law_plus : Nat := 23
abbrev i__law_times : Nat := 24
abbrev i__law_minus : Nat := 25
abbrev i__law_integer : Nat := 26
abbrev i__law_drawn : Nat := 27
abbrev i__law_right : Nat := 28
abbrev i_law : Nat := 29
def b_is_integer : TSt :=
 (sRet (xAnd (xIs (xV 0) .int) (xNot (xIs (xV 0) .bool))))
def b_common_divisor : TSt :=
 (sSeq (sPar 0 1 (xB bAbs (aCons (xV 0) aNil)) (xB bAbs (aCons (xV 1) aNil)))
 (sSeq (sWhile (tCmp .gt (xV 1) (xC (.d (.int 0))))
 (sPar 0 1 (xV 1) (xBin .mod false (xV 0) (xV 1))))
 (sRet (xV 0))))
def b_is_number : TSt :=
 (sSeq (sIf (tOr (tNot (tV (xIs (xV 0) .tuple))) (tOr (tCmp .ne (xB bLen (aCons (xV 0) aNil)) (xC (.d (.int 2)))) (tNot (tV (xB bAll (aCons (xLc false [1] (iV (xV 0)) (gV 1) tYes (xCall i_is_integer (aCons (xV 1) aNil) [])) aNil))))))
 (sRet (xC (.d (.bool false))))
 sPass)
 (sRet (xAnd (xCmp .ge (xIx (xV 0) (xC (.d (.int 1)))) (xC (.d (.int 1)))) (xCmp .eq (xCall i_common_divisor (aCons (xIx (xV 0) (xC (.d (.int 0)))) (aCons (xIx (xV 0) (xC (.d (.int 1)))) aNil)) []) (xC (.d (.int 1)))))))
def b_reduced : TSt :=
 (sSeq (sIf (tCmp .lt (xV 1) (xC (.d (.int 0))))
 (sPar 0 1 (xBin .sub false (xC (.d (.int 0))) (xV 0)) (xBin .sub false (xC (.d (.int 0))) (xV 1)))
 sPass)
 (sSeq (sSet 2 (xCall i_common_divisor (aCons (xV 0) (aCons (xV 1) aNil)) []))
 (sRet (xTup (aCons (xBin .fdiv false (xV 0) (xV 2)) (aCons (xBin .fdiv false (xV 1) (xV 2)) aNil))))))
def b_number : TSt :=
 (sSeq (sIf (tOr (tNot (tV (xCall i_is_integer (aCons (xV 0) aNil) []))) (tCmp .ge (xB bAbs (aCons (xV 0) aNil)) (xC (.d c_MOST_PASSED))))
 sNo
 sPass)
 (sSeq (sIf (tOr (tNot (tV (xCall i_is_integer (aCons (xV 1) aNil) []))) (tOr (tCmp .ge (xB bAbs (aCons (xV 1) aNil)) (xC (.d c_MOST_PASSED))) (tCmp .eq (xV 1) (xC (.d (.int 0))))))
 sNo
 sPass)
 (sRet (xCall i_reduced (aCons (xV 0) (aCons (xV 1) aNil)) []))))
def b_require_number : TSt :=
 (sIf (tNot (tV (xCall i_is_number (aCons (xV 0) aNil) [])))
 sNo
 sPass)
def b_require_count : TSt :=
 (sIf (tOr (tNot (tV (xCall i_is_integer (aCons (xV 0) aNil) []))) (tNot (tCmp2 .le .le (xV 1) (xV 0) (xV 2))))
 sNo
 sPass)
def b_added : TSt :=
 (sSeq (sIf (tCmp2 .eq .eq (xIx (xV 0) (xC (.d (.int 1)))) (xIx (xV 1) (xC (.d (.int 1)))) (xC (.d (.int 1))))
 (sRet (xTup (aCons (xBin .add false (xIx (xV 0) (xC (.d (.int 0)))) (xIx (xV 1) (xC (.d (.int 0))))) (aCons (xC (.d (.int 1))) aNil))))
 sPass)
 (sRet (xCall i_reduced (aCons (xBin .add false (xBin .mul false (xIx (xV 0) (xC (.d (.int 0)))) (xIx (xV 1) (xC (.d (.int 1))))) (xBin .mul false (xIx (xV 1) (xC (.d (.int 0)))) (xIx (xV 0) (xC (.d (.int 1)))))) (aCons (xBin .mul false (xIx (xV 0) (xC (.d (.int 1)))) (xIx (xV 1) (xC (.d (.int 1))))) aNil)) [])))
def b_multiplied : TSt :=
 (sSeq (sIf (tCmp2 .eq .eq (xIx (xV 0) (xC (.d (.int 1)))) (xIx (xV 1) (xC (.d (.int 1)))) (xC (.d (.int 1))))
 (sRet (xTup (aCons (xBin .mul false (xIx (xV 0) (xC (.d (.int 0)))) (xIx (xV 1) (xC (.d (.int 0))))) (aCons (xC (.d (.int 1))) aNil))))
 sPass)
 (sRet (xCall i_reduced (aCons (xBin .mul false (xIx (xV 0) (xC (.d (.int 0)))) (xIx (xV 1) (xC (.d (.int 0))))) (aCons (xBin .mul false (xIx (xV 0) (xC (.d (.int 1)))) (xIx (xV 1) (xC (.d (.int 1))))) aNil)) [])))
def b_opposite : TSt :=
 (sRet (xTup (aCons (xBin .sub false (xC (.d (.int 0))) (xIx (xV 0) (xC (.d (.int 0))))) (aCons (xIx (xV 0) (xC (.d (.int 1)))) aNil))))
def b_divided : TSt :=
 (sRet (xCall i_reduced (aCons (xBin .mul false (xIx (xV 0) (xC (.d (.int 0)))) (xIx (xV 1) (xC (.d (.int 1))))) (aCons (xBin .mul false (xIx (xV 0) (xC (.d (.int 1)))) (xIx (xV 1) (xC (.d (.int 0))))) aNil)) []))
def b_sum_of : TSt :=
 (sSeq (sSet 1 (xC (.d c_NOUGHT)))
 (sSeq (sFor (iV (xV 0)) (gV 2)
 (sSet 1 (xCall i_added (aCons (xV 1) (aCons (xV 2) aNil)) [])))
 (sRet (xV 1))))
def b_plus : TSt :=
 (sSeq (sExpr (xCall i_require_number (aCons (xV 0) aNil) []))
 (sSeq (sExpr (xCall i_require_number (aCons (xV 1) aNil) []))
 (sRet (xCall i_added (aCons (xV 0) (aCons (xV 1) aNil)) []))))
def b_minus : TSt :=
 (sSeq (sExpr (xCall i_require_number (aCons (xV 0) aNil) []))
 (sSeq (sExpr (xCall i_require_number (aCons (xV 1) aNil) []))
 (sRet (xCall i_added (aCons (xV 0) (aCons (xCall i_opposite (aCons (xV 1) aNil) []) aNil)) []))))
def b_times : TSt :=
 (sSeq (sExpr (xCall i_require_number (aCons (xV 0) aNil) []))
 (sSeq (sExpr (xCall i_require_number (aCons (xV 1) aNil) []))
 (sRet (xCall i_multiplied (aCons (xV 0) (aCons (xV 1) aNil)) []))))
def b_over : TSt :=
 (sSeq (sExpr (xCall i_require_number (aCons (xV 0) aNil) []))
 (sSeq (sExpr (xCall i_require_number (aCons (xV 1) aNil) []))
 (sSeq (sIf (tCmp .eq (xV 1) (xC (.d c_NOUGHT)))
 sNo
 sPass)
 (sRet (xCall i_divided (aCons (xV 0) (aCons (xV 1) aNil)) [])))))
def b_compared : TSt :=
 (sSeq (sExpr (xCall i_require_number (aCons (xV 0) aNil) []))
 (sSeq (sExpr (xCall i_require_number (aCons (xV 1) aNil) []))
 (sSeq (sPar 2 3 (xBin .mul false (xIx (xV 0) (xC (.d (.int 0)))) (xIx (xV 1) (xC (.d (.int 1))))) (xBin .mul false (xIx (xV 1) (xC (.d (.int 0)))) (xIx (xV 0) (xC (.d (.int 1))))))
 (sRet (xBin .sub false (xB bInt (aCons (xCmp .gt (xV 2) (xV 3)) aNil)) (xB bInt (aCons (xCmp .lt (xV 2) (xV 3)) aNil)))))))
def b_total : TSt :=
 (sSeq (sIf (tOr (tNot (tV (xIs (xV 0) .tuple))) (tNot (tV (xB bAll (aCons (xLc false [1] (iV (xV 0)) (gV 1) tYes (xCall i_is_number (aCons (xV 1) aNil) [])) aNil)))))
 sNo
 sPass)
 (sRet (xCall i_sum_of (aCons (xV 0) aNil) [])))
def b_power : TSt :=
 (sSeq (sExpr (xCall i_require_number (aCons (xV 0) aNil) []))
 (sSeq (sExpr (xCall i_require_count (aCons (xV 1) aNil) [I 0, I 60]))
 (sSeq (sSet 2 (xC (.d c_ONE)))
 (sSeq (sFor (iRng1 (xV 1)) (gV 3)
 (sSet 2 (xCall i_multiplied (aCons (xV 2) (aCons (xV 0) aNil)) [])))
 (sRet (xV 2))))))
def b__law_dice : TSt :=
 (sSeq (sSet 2 (xIf (tCmp .lt (xV 1) (xB bLen (aCons (xV 0) aNil))) (xB bInt (aCons (xIx (xV 0) (xV 1)) aNil)) (xBin .add false (xBin .mul false (xC (.d (.int 131))) (xV 1)) (xC (.d (.int 37))))))
 (sSeq (sSet 3 (xBin .mod false (xB bInt (aCons (xB bAbs (aCons (xV 2) aNil)) aNil)) (xBin .pow false (xBin .pow false (xC (.d (.int 10))) (xC (.d (.int 53)))) (xC (.d (.int 6))))))
 (sSeq (sSet 4 (xBin .add false (xBin .add false (xBin .add false (xBin .mul false (xBin .mod false (xV 3) (xC (.d (.int 2305843009213693907)))) (xC (.d (.int 73)))) (xBin .mul false (xC (.d (.int 619))) (xV 1))) (xBin .mul false (xC (.d (.int 41))) (xB bInt (aCons (xCmp .lt (xV 2) (xC (.d (.int 0)))) aNil)))) (xC (.d (.int 17)))))
 (sRet (xLst true (aCons (xB bMax (aCons (xC (.d (.int 0))) (aCons (xBin .sub false (xV 3) (xBin .pow false (xC (.d (.int 10))) (xC (.d (.int 16))))) aNil))) (aCons (xV 4) (aCons (xC (.d (.int 0))) aNil))))))))
def b__law_roll : TSt :=
 (sSeq (sIf (tCmp .gt (xIx (xV 0) (xC (.d (.int 0)))) (xC (.d (.int 0))))
 (sSeq (sSet 2 (xBin .mod false (xIx (xV 0) (xC (.d (.int 0)))) (xV 1)))
 (sSeq (sSetIx (xV 0) (xC (.d (.int 0))) (xBin .fdiv false (xIx (xV 0) (xC (.d (.int 0)))) (xV 1)))
 (sRet (xB bInt (aCons (xV 2) aNil)))))
 sPass)
 (sSeq (sSetIx (xV 0) (xC (.d (.int 2))) (xBin .add false (xIx (xV 0) (xC (.d (.int 2)))) (xC (.d (.int 1)))))
 (sSeq (sSet 3 (xBin .mod false (xBin .add false (xIx (xV 0) (xC (.d (.int 1)))) (xBin .mul false (xC (.d (.int 49979687))) (xIx (xV 0) (xC (.d (.int 2)))))) (xC (.d (.int 2305843009213693951)))))
 (sSeq (sSet 4 (xBin .add false (xBin .mul false (xBin .mod false (xBin .add false (xBin .mul false (xV 3) (xV 3)) (xBin .mul false (xC (.d (.int 131))) (xIx (xV 0) (xC (.d (.int 2)))))) (xC (.d (.int 2305843009213693921)))) (xC (.d (.int 32452843)))) (xV 3)))
 (sRet (xBin .mod false (xB bInt (aCons (xBin .fdiv false (xV 4) (xC (.d (.int 65587)))) aNil)) (xV 1)))))))
def b__law_pick : TSt :=
 (sRet (xIx (xV 1) (xCall i__law_roll (aCons (xV 0) (aCons (xB bLen (aCons (xV 1) aNil)) aNil)) [])))
def b__law_fr : TSt :=
 (sSeq (sPar 2 3 (xB bAbs (aCons (xV 0) aNil)) (xB bAbs (aCons (xV 1) aNil)))
 (sSeq (sWhile (tCmp .gt (xV 3) (xC (.d (.int 0))))
 (sPar 2 3 (xV 3) (xBin .mod false (xV 2) (xV 3))))
 (sSeq (sSet 4 (xIf (tCmp .lt (xV 1) (xC (.d (.int 0)))) (xNeg (xC (.d (.int 1)))) (xC (.d (.int 1)))))
 (sRet (xTup (aCons (xBin .fdiv false (xBin .mul false (xV 4) (xV 0)) (xV 2)) (aCons (xBin .fdiv false (xBin .mul false (xV 4) (xV 1)) (xV 2)) aNil)))))))
def b__law_plus : TSt :=
 (sRet (xCall i__law_fr (aCons (xBin .add false (xBin .mul false (xIx (xV 0) (xC (.d (.int 0)))) (xIx (xV 1) (xC (.d (.int 1))))) (xBin .mul false (xIx (xV 1) (xC (.d (.int 0)))) (xIx (xV 0) (xC (.d (.int 1)))))) (aCons (xBin .mul false (xIx (xV 0) (xC (.d (.int 1)))) (xIx (xV 1) (xC (.d (.int 1))))) aNil)) []))
def b__law_times : TSt :=
 (sRet (xCall i__law_fr (aCons (xBin .mul false (xIx (xV 0) (xC (.d (.int 0)))) (xIx (xV 1) (xC (.d (.int 0))))) (aCons (xBin .mul false (xIx (xV 0) (xC (.d (.int 1)))) (xIx (xV 1) (xC (.d (.int 1))))) aNil)) []))
def b__law_minus : TSt :=
 (sRet (xCall i__law_fr (aCons (xBin .sub false (xBin .mul false (xIx (xV 0) (xC (.d (.int 0)))) (xIx (xV 1) (xC (.d (.int 1))))) (xBin .mul false (xIx (xV 1) (xC (.d (.int 0)))) (xIx (xV 0) (xC (.d (.int 1)))))) (aCons (xBin .mul false (xIx (xV 0) (xC (.d (.int 1)))) (xIx (xV 1) (xC (.d (.int 1))))) aNil)) []))
def b__law_integer : TSt :=
 (sSeq (sSet 1 (xCall i__law_pick (aCons (xV 0) (aCons (xLst false (aCons (xC (.d (.int 10))) (aCons (xC (.d (.int 10))) (aCons (xC (.d (.int 10))) (aCons (xC (.d (.int 100))) (aCons (xBin .pow false (xC (.d (.int 10))) (xC (.d (.int 6)))) (aCons (xBin .pow false (xC (.d (.int 10))) (xC (.d (.int 19)))) aNil))))))) aNil)) []))
 (sRet (xBin .mul false (xBin .add false (xC (.d (.int 1))) (xCall i__law_roll (aCons (xV 0) (aCons (xV 1) aNil)) [])) (xCall i__law_pick (aCons (xV 0) (aCons (xLst false (aCons (xC (.d (.int 1))) (aCons (xNeg (xC (.d (.int 1)))) aNil))) aNil)) []))))
def b__law_drawn : TSt :=
 (sSeq (sIf (tCmp .eq (xCall i__law_roll (aCons (xV 0) (aCons (xC (.d (.int 6))) aNil)) []) (xC (.d (.int 0))))
 (sRet (xTup (aCons (xC (.d (.int 0))) (aCons (xC (.d (.int 1))) aNil))))
 sPass)
 (sRet (xCall i__law_fr (aCons (xCall i__law_integer (aCons (xV 0) aNil) []) (aCons (xB bAbs (aCons (xCall i__law_integer (aCons (xV 0) aNil) []) aNil)) aNil)) [])))
def b__law_right : TSt :=
 (sSeq (sPar3 1 2 3 (xCall i__law_drawn (aCons (xV 0) aNil) []) (xCall i__law_drawn (aCons (xV 0) aNil) []) (xCall i__law_drawn (aCons (xV 0) aNil) []))
 (sSeq (sSet 4 (xLst false (aCons (xCall i_plus (aCons (xV 1) (aCons (xV 2) aNil)) []) (aCons (xCall i_minus (aCons (xV 1) (aCons (xV 2) aNil)) []) (aCons (xCall i_times (aCons (xV 1) (aCons (xV 2) aNil)) []) (aCons (xCall i_plus (aCons (xCall i_minus (aCons (xV 1) (aCons (xV 2) aNil)) []) (aCons (xV 2) aNil)) []) aNil))))))
 (sSeq (sIf (tCmp .ne (xB bRepr (aCons (xV 4) aNil)) (xB bRepr (aCons (xLst false (aCons (xCall i__law_plus (aCons (xV 1) (aCons (xV 2) aNil)) []) (aCons (xCall i__law_minus (aCons (xV 1) (aCons (xV 2) aNil)) []) (aCons (xCall i__law_times (aCons (xV 1) (aCons (xV 2) aNil)) []) (aCons (xV 1) aNil))))) aNil)))
 (sRet (xC (.d (.bool false))))
 sPass)
 (sSeq (sIf (tCmp .ne (xIx (xV 2) (xC (.d (.int 0)))) (xC (.d (.int 0))))
 (sSeq (sSet 5 (xCall i__law_fr (aCons (xBin .mul false (xIx (xV 1) (xC (.d (.int 0)))) (xIx (xV 2) (xC (.d (.int 1))))) (aCons (xBin .mul false (xIx (xV 1) (xC (.d (.int 1)))) (xIx (xV 2) (xC (.d (.int 0))))) aNil)) []))
 (sIf (tOr (tCmp .ne (xB bRepr (aCons (xCall i_over (aCons (xV 1) (aCons (xV 2) aNil)) []) aNil)) (xB bRepr (aCons (xV 5) aNil))) (tCmp .ne (xCall i_times (aCons (xCall i_over (aCons (xV 1) (aCons (xV 2) aNil)) []) (aCons (xV 2) aNil)) []) (xV 1)))
 (sRet (xC (.d (.bool false))))
 sPass))
 sPass)
 (sSeq (sPar 6 7 (xBin .mul false (xIx (xV 1) (xC (.d (.int 0)))) (xIx (xV 2) (xC (.d (.int 1))))) (xBin .mul false (xIx (xV 2) (xC (.d (.int 0)))) (xIx (xV 1) (xC (.d (.int 1))))))
 (sSeq (sIf (tOr (tCmp .ne (xCall i_compared (aCons (xV 1) (aCons (xV 2) aNil)) []) (xBin .sub false (xB bInt (aCons (xCmp .gt (xV 6) (xV 7)) aNil)) (xB bInt (aCons (xCmp .lt (xV 6) (xV 7)) aNil)))) (tCmp .ne (xCall i_compared (aCons (xV 1) (aCons (xV 1) aNil)) []) (xC (.d (.int 0)))))
 (sRet (xC (.d (.bool false))))
 sPass)
 (sSeq (sIf (tCmp .ne (xCall i_times (aCons (xCall i_plus (aCons (xV 1) (aCons (xV 2) aNil)) []) (aCons (xV 3) aNil)) []) (xCall i_plus (aCons (xCall i_times (aCons (xV 1) (aCons (xV 3) aNil)) []) (aCons (xCall i_times (aCons (xV 2) (aCons (xV 3) aNil)) []) aNil)) []))
 (sRet (xC (.d (.bool false))))
 sPass)
 (sSeq (sPar 8 5 (xLc false [11] (iRng1 (xCall i__law_roll (aCons (xV 0) (aCons (xC (.d (.int 6))) aNil)) [])) (gV 11) tYes (xCall i__law_drawn (aCons (xV 0) aNil) [])) (xTup (aCons (xC (.d (.int 0))) (aCons (xC (.d (.int 1))) aNil))))
 (sSeq (sFor (iV (xV 8)) (gV 9)
 (sSet 5 (xCall i__law_plus (aCons (xV 5) (aCons (xV 9) aNil)) [])))
 (sSeq (sIf (tOr (tCmp .ne (xCall i_total (aCons (xB bTuple (aCons (xV 8) aNil)) aNil) []) (xV 5)) (tCmp .ne (xCall i_total (aCons (xB bTuple (aCons (xRev false (xV 8)) aNil)) aNil) []) (xV 5)))
 (sRet (xC (.d (.bool false))))
 sPass)
 (sSeq (sPar 10 5 (xCall i__law_roll (aCons (xV 0) (aCons (xC (.d (.int 7))) aNil)) []) (xTup (aCons (xC (.d (.int 1))) (aCons (xC (.d (.int 1))) aNil))))
 (sSeq (sFor (iRng1 (xV 10)) (gV 11)
 (sSet 5 (xCall i__law_times (aCons (xV 5) (aCons (xV 1) aNil)) [])))
 (sSeq (sIf (tOr (tCmp .ne (xCall i_power (aCons (xV 1) (aCons (xV 10) aNil)) []) (xV 5)) (tCmp .ne (xCall i_power (aCons (xV 1) (aCons (xC (.d (.int 0))) aNil)) []) (xTup (aCons (xC (.d (.int 1))) (aCons (xC (.d (.int 1))) aNil)))))
 (sRet (xC (.d (.bool false))))
 sPass)
 (sSeq (sPar 12 13 (xCall i__law_pick (aCons (xV 0) (aCons (xLst false (aCons (xC (.d (.int 0))) (aCons (xCall i__law_integer (aCons (xV 0) aNil) []) aNil))) aNil)) []) (xCall i__law_integer (aCons (xV 0) aNil) []))
 (sRet (xAnd (xCmp .eq (xCall i_number (aCons (xV 12) (aCons (xV 13) aNil)) []) (xCall i__law_fr (aCons (xV 12) (aCons (xV 13) aNil)) [])) (xCmp .eq (xB bRepr (aCons (xCall i_number (aCons (xV 12) aNil) [I 1]) aNil)) (xB bRepr (aCons (xTup (aCons (xV 12) (aCons (xC (.d (.int 1))) aNil))) aNil)))))))))))))))))))
def b_law : TSt :=
 (sSeq (sFor (iRng1 (xB bMax (aCons (xC (.d (.int 1))) (aCons (xB bMin (aCons (xC (.d (.int 6))) (aCons (xB bLen (aCons (xV 0) aNil)) aNil))) aNil)))) (gV 1)
 (sSeq (sSet 2 (xCall i__law_dice (aCons (xV 0) (aCons (xV 1) aNil)) []))
 (sFor (iRng1 (xC (.d (.int 3)))) (gV 3)
 (sIf (tNot (tV (xCall i__law_right (aCons (xV 2) aNil) [])))
 (sRet (xC (.d (.bool false))))
 sPass))))
 (sSeq (sSet 4 (xTup (aCons (xBin .add false (xBin .pow false (xC (.d (.int 10))) (xC (.d (.int 60)))) (xC (.d (.int 1)))) (aCons (xBin .add false (xBin .pow false (xC (.d (.int 10))) (xC (.d (.int 59)))) (xC (.d (.int 3)))) aNil))))
 (sSeq (sSet 5 (xLst false (aCons (xCmp .eq (xCall i_plus (aCons (xV 4) (aCons (xTup (aCons (xC (.d (.int 1))) (aCons (xC (.d (.int 3))) aNil))) aNil)) []) (xCall i__law_plus (aCons (xV 4) (aCons (xTup (aCons (xC (.d (.int 1))) (aCons (xC (.d (.int 3))) aNil))) aNil)) [])) (aCons (xCmp .eq (xCall i_power (aCons (xTup (aCons (xNeg (xC (.d (.int 1)))) (aCons (xC (.d (.int 2))) aNil))) (aCons (xC (.d (.int 60))) aNil)) []) (xTup (aCons (xC (.d (.int 1))) (aCons (xC (.d (.int 1152921504606846976))) aNil)))) aNil))))
 (sSeq (sSet 5 (xBin .add false (xV 5) (xLst false (aCons (xCall i_number (aCons (xBin .pow false (xC (.d (.int 10))) (xC (.d (.int 39)))) (aCons (xNeg (xBin .pow false (xC (.d (.int 10))) (xC (.d (.int 39))))) aNil)) []) (aCons (xCall i_number (aCons (xNeg (xC (.d (.int 6)))) (aCons (xC (.d (.int 4))) aNil)) []) (aCons (xCall i_total (aCons (xTup aNil) aNil) []) (aCons (xCall i_compared (aCons (xTup (aCons (xNeg (xC (.d (.int 1)))) (aCons (xC (.d (.int 2))) aNil))) (aCons (xTup (aCons (xNeg (xC (.d (.int 1)))) (aCons (xC (.d (.int 3))) aNil))) aNil)) []) aNil)))))))
 (sRet (xCmp .eq (xV 5) (xLst false (aCons (xC (.d (.bool true))) (aCons (xC (.d (.bool true))) (aCons (xTup (aCons (xNeg (xC (.d (.int 1)))) (aCons (xC (.d (.int 1))) aNil))) (aCons (xTup (aCons (xNeg (xC (.d (.int 3)))) (aCons (xC (.d (.int 2))) aNil))) (aCons (xTup (aCons (xC (.d (.int 0))) (aCons (xC (.d (.int 1))) aNil))) (aCons (xNeg (xC (.d (.int 1)))) aNil)))))))))))))
def g_is_integer : Gt := ⟨["value"], [], fr, cs, []⟩
def d_is_integer : DefI := ⟨"is_integer", defArgs (top 10), defBody (top 10), defScope (top 10), ["value"], [], g_is_integer, ⟨1, 1, b_is_integer, false⟩⟩
def g_common_divisor : Gt := ⟨["one", "other"], [], fr, cs, []⟩
def d_common_divisor : DefI := ⟨"common_divisor", defArgs (top 11), defBody (top 11), defScope (top 11), ["one", "other"], [], g_common_divisor, ⟨2, 2, b_common_divisor, false⟩⟩
def g_is_number : Gt := ⟨["value", "one"], [("common_divisor", 1, 2, []), ("is_integer", 0, 1, [])], fr, cs, []⟩
def d_is_number : DefI := ⟨"is_number", defArgs (top 12), defBody (top 12), defScope (top 12), ["value"], [], g_is_number, ⟨1, 2, b_is_number, false⟩⟩
def g_reduced : Gt := ⟨["top", "bottom", "divisor"], [("common_divisor", 1, 2, [])], fr, cs, []⟩
def d_reduced : DefI := ⟨"reduced", defArgs (top 13), defBody (top 13), defScope (top 13), ["top", "bottom"], [], g_reduced, ⟨2, 3, b_reduced, false⟩⟩
def g_number : Gt := ⟨["top", "bottom"], [("reduced", 3, 2, []), ("is_integer", 0, 1, [])], fr, cs, []⟩
def d_number : DefI := ⟨"number", defArgs (top 14), defBody (top 14), defScope (top 14), ["top", "bottom"], [1], g_number, ⟨2, 2, b_number, false⟩⟩
def g_require_number : Gt := ⟨["value"], [("is_number", 2, 1, [])], fr, cs, []⟩
def d_require_number : DefI := ⟨"require_number", defArgs (top 15), defBody (top 15), defScope (top 15), ["value"], [], g_require_number, ⟨1, 1, b_require_number, false⟩⟩
def g_require_count : Gt := ⟨["value", "least", "most"], [("is_integer", 0, 1, [])], fr, cs, []⟩
def d_require_count : DefI := ⟨"require_count", defArgs (top 16), defBody (top 16), defScope (top 16), ["value", "least", "most"], [0, 60], g_require_count, ⟨3, 3, b_require_count, false⟩⟩
def g_added : Gt := ⟨["one", "other"], [("reduced", 3, 2, [])], fr, cs, []⟩
def d_added : DefI := ⟨"added", defArgs (top 17), defBody (top 17), defScope (top 17), ["one", "other"], [], g_added, ⟨2, 2, b_added, false⟩⟩
def g_multiplied : Gt := ⟨["one", "other"], [("reduced", 3, 2, [])], fr, cs, []⟩
def d_multiplied : DefI := ⟨"multiplied", defArgs (top 18), defBody (top 18), defScope (top 18), ["one", "other"], [], g_multiplied, ⟨2, 2, b_multiplied, false⟩⟩
def g_opposite : Gt := ⟨["one"], [], fr, cs, []⟩
def d_opposite : DefI := ⟨"opposite", defArgs (top 19), defBody (top 19), defScope (top 19), ["one"], [], g_opposite, ⟨1, 1, b_opposite, false⟩⟩
def g_divided : Gt := ⟨["one", "other"], [("reduced", 3, 2, [])], fr, cs, []⟩
def d_divided : DefI := ⟨"divided", defArgs (top 20), defBody (top 20), defScope (top 20), ["one", "other"], [], g_divided, ⟨2, 2, b_divided, false⟩⟩
def g_sum_of : Gt := ⟨["numbers", "found", "one"], [("added", 7, 2, [])], fr, cs, []⟩
def d_sum_of : DefI := ⟨"sum_of", defArgs (top 21), defBody (top 21), defScope (top 21), ["numbers"], [], g_sum_of, ⟨1, 3, b_sum_of, false⟩⟩
def g_plus : Gt := ⟨["one", "other"], [("require_number", 5, 1, []), ("added", 7, 2, [])], fr, cs, []⟩
def d_plus : DefI := ⟨"plus", defArgs (top 22), defBody (top 22), defScope (top 22), ["one", "other"], [], g_plus, ⟨2, 2, b_plus, false⟩⟩
def g_minus : Gt := ⟨["one", "other"], [("require_number", 5, 1, []), ("added", 7, 2, []), ("opposite", 9, 1, [])], fr, cs, []⟩
def d_minus : DefI := ⟨"minus", defArgs (top 23), defBody (top 23), defScope (top 23), ["one", "other"], [], g_minus, ⟨2, 2, b_minus, false⟩⟩
def g_times : Gt := ⟨["one", "other"], [("require_number", 5, 1, []), ("multiplied", 8, 2, [])], fr, cs, []⟩
def d_times : DefI := ⟨"times", defArgs (top 24), defBody (top 24), defScope (top 24), ["one", "other"], [], g_times, ⟨2, 2, b_times, false⟩⟩
def g_over : Gt := ⟨["one", "other"], [("require_number", 5, 1, []), ("divided", 10, 2, [])], fr, cs, []⟩
def d_over : DefI := ⟨"over", defArgs (top 25), defBody (top 25), defScope (top 25), ["one", "other"], [], g_over, ⟨2, 2, b_over, false⟩⟩
def g_compared : Gt := ⟨["one", "other", "left", "right"], [("require_number", 5, 1, [])], fr, cs, []⟩
def d_compared : DefI := ⟨"compared", defArgs (top 26), defBody (top 26), defScope (top 26), ["one", "other"], [], g_compared, ⟨2, 4, b_compared, false⟩⟩
def g_total : Gt := ⟨["numbers", "one"], [("sum_of", 11, 1, []), ("is_number", 2, 1, [])], fr, cs, []⟩
def d_total : DefI := ⟨"total", defArgs (top 27), defBody (top 27), defScope (top 27), ["numbers"], [], g_total, ⟨1, 2, b_total, false⟩⟩
def g_power : Gt := ⟨["one", "many", "found", "_"], [("require_number", 5, 1, []), ("require_count", 6, 3, [0, 60]), ("multiplied", 8, 2, [])], fr, cs, []⟩
def d_power : DefI := ⟨"power", defArgs (top 28), defBody (top 28), defScope (top 28), ["one", "many"], [], g_power, ⟨2, 4, b_power, false⟩⟩
def g__law_dice : Gt := ⟨["script", "spot", "cell", "great", "seed"], [], fr, cs, [(105, 11)]⟩
def d__law_dice : DefI := ⟨"_law_dice", defArgs (top 30), defBody (top 30), defScope (top 30), ["script", "spot"], [], g__law_dice, ⟨2, 5, b__law_dice, true⟩⟩
def g__law_roll : Gt := ⟨["dice", "many", "found", "one", "two"], [], fr, cs, []⟩
def d__law_roll : DefI := ⟨"_law_roll", defArgs (top 31), defBody (top 31), defScope (top 31), ["dice", "many"], [], g__law_roll, ⟨2, 5, b__law_roll, false⟩⟩
def g__law_pick : Gt := ⟨["dice", "items"], [("_law_roll", 20, 2, [])], fr, cs, []⟩
def d__law_pick : DefI := ⟨"_law_pick", defArgs (top 32), defBody (top 32), defScope (top 32), ["dice", "items"], [], g__law_pick, ⟨2, 2, b__law_pick, false⟩⟩
def g__law_fr : Gt := ⟨["top", "bottom", "one", "other", "sign"], [], fr, cs, []⟩
def d__law_fr : DefI := ⟨"_law_fr", defArgs (top 33), defBody (top 33), defScope (top 33), ["top", "bottom"], [], g__law_fr, ⟨2, 5, b__law_fr, false⟩⟩
def g__law_plus : Gt := ⟨["one", "other"], [("_law_fr", 22, 2, [])], fr, cs, []⟩
def d__law_plus : DefI := ⟨"_law_plus", defArgs (top 34), defBody (top 34), defScope (top 34), ["one", "other"], [], g__law_plus, ⟨2, 2, b__law_plus, false⟩⟩
def g__law_times : Gt := ⟨["one", "other"], [("_law_fr", 22, 2, [])], fr, cs, []⟩
def d__law_times : DefI := ⟨"_law_times", defArgs (top 35), defBody (top 35), defScope (top 35), ["one", "other"], [], g__law_times, ⟨2, 2, b__law_times, false⟩⟩
def g__law_minus : Gt := ⟨["one", "other"], [("_law_fr", 22, 2, [])], fr, cs, []⟩
def d__law_minus : DefI := ⟨"_law_minus", defArgs (top 36), defBody (top 36), defScope (top 36), ["one", "other"], [], g__law_minus, ⟨2, 2, b__law_minus, false⟩⟩
def g__law_integer : Gt := ⟨["dice", "bound"], [("_law_pick", 21, 2, []), ("_law_roll", 20, 2, [])], fr, cs, []⟩
def d__law_integer : DefI := ⟨"_law_integer", defArgs (top 37), defBody (top 37), defScope (top 37), ["dice"], [], g__law_integer, ⟨1, 2, b__law_integer, false⟩⟩
def g__law_drawn : Gt := ⟨["dice"], [("_law_fr", 22, 2, []), ("_law_roll", 20, 2, []), ("_law_integer", 26, 1, [])], fr, cs, []⟩
def d__law_drawn : DefI := ⟨"_law_drawn", defArgs (top 38), defBody (top 38), defScope (top 38), ["dice"], [], g__law_drawn, ⟨1, 1, b__law_drawn, false⟩⟩
def g__law_right : Gt := ⟨["dice", "one", "other", "third", "told", "due", "left", "right", "row", "item", "many", "turn", "top", "bottom"], [("_law_drawn", 27, 1, []), ("plus", 12, 2, []), ("minus", 13, 2, []), ("times", 14, 2, []), ("_law_fr", 22, 2, []), ("_law_plus", 23, 2, []), ("_law_roll", 20, 2, []), ("_law_times", 24, 2, []), ("_law_pick", 21, 2, []), ("_law_integer", 26, 1, []), ("compared", 16, 2, []), ("total", 17, 1, []), ("power", 18, 2, []), ("number", 4, 2, [1]), ("_law_minus", 25, 2, []), ("over", 15, 2, [])], fr, cs, []⟩
def d__law_right : DefI := ⟨"_law_right", defArgs (top 39), defBody (top 39), defScope (top 39), ["dice"], [], g__law_right, ⟨1, 14, b__law_right, false⟩⟩
def g_law : Gt := ⟨["script", "spot", "dice", "turn", "great", "told"], [("_law_dice", 19, 2, []), ("plus", 12, 2, []), ("_law_plus", 23, 2, []), ("power", 18, 2, []), ("number", 4, 2, [1]), ("total", 17, 1, []), ("compared", 16, 2, []), ("_law_right", 28, 1, [])], fr, cs, []⟩
def d_law : DefI := ⟨"law", defArgs (top 40), defBody (top 40), defScope (top 40), ["script"], [], g_law, ⟨1, 6, b_law, false⟩⟩
def ds : List DefI := [d_is_integer, d_common_divisor, d_is_number, d_reduced, d_number, d_require_number, d_require_count, d_added, d_multiplied, d_opposite, d_divided, d_sum_of, d_plus, d_minus, d_times, d_over, d_compared, d_total, d_power, d__law_dice, d__law_roll, d__law_pick, d__law_fr, d__law_plus, d__law_times, d__law_minus, d__law_integer, d__law_drawn, d__law_right, d_law]
def fa : List He.Fa := (ds.map fun d => He.Fa.glo d.name) ++ fr.map He.Fa.free
abbrev R : PySem.W.OpenRow := PySem.W.OpenLaw.row PySem.Challenge.rw_makesmore_k21_whole_numbers
abbrev hk : PySem.W.Hook := hookM 4 fa (ds.map DefI.dd) cs
def ob (s : PySem.W.SharedT) : He.AlD := obsMG 4 fa (ds.map DefI.dd) cs (HandSHeadRun.getT s)
theorem ob_eq (s : PySem.W.SharedT) : ob s = hk.obs s.abs := obsMG_eq (HandSHeadRun.getT_eq s)
def loose : List Str := (prog.main.scope.names.filter (fun p => p.2 == .local && p.1 != PySem.Str.ofString "law" && p.1 != PySem.Str.ofString "__name__")).map (·.1)
theorem headrun (w : World) : HandSHeadRun.RunEq R (PySem.W.view R.prog [40]) hk ob 4000 loose w := by
  intro os
  kernel_rfl
theorem hok : ∀ d ∈ ds, d.okB ds cs fr = true := by
  have h : (ds.all fun d => d.okB ds cs fr) = true := by decide +kernel
  exact fun d hd => List.all_eq_true.mp h d hd
theorem hb_is_integer : d_is_integer.fn.body = cBody d_is_integer.G 30 20 d_is_integer.scope d_is_integer.body := by kernel_rfl
theorem hb_common_divisor : d_common_divisor.fn.body = cBody d_common_divisor.G 30 20 d_common_divisor.scope d_common_divisor.body := by kernel_rfl
theorem hb_is_number : d_is_number.fn.body = cBody d_is_number.G 30 20 d_is_number.scope d_is_number.body := by kernel_rfl
theorem hb_reduced : d_reduced.fn.body = cBody d_reduced.G 30 20 d_reduced.scope d_reduced.body := by kernel_rfl
theorem hb_number : d_number.fn.body = cBody d_number.G 30 20 d_number.scope d_number.body := by kernel_rfl
theorem hb_require_number : d_require_number.fn.body = cBody d_require_number.G 30 20 d_require_number.scope d_require_number.body := by kernel_rfl
theorem hb_require_count : d_require_count.fn.body = cBody d_require_count.G 30 20 d_require_count.scope d_require_count.body := by kernel_rfl
theorem hb_added : d_added.fn.body = cBody d_added.G 30 20 d_added.scope d_added.body := by kernel_rfl
theorem hb_multiplied : d_multiplied.fn.body = cBody d_multiplied.G 30 20 d_multiplied.scope d_multiplied.body := by kernel_rfl
theorem hb_opposite : d_opposite.fn.body = cBody d_opposite.G 30 20 d_opposite.scope d_opposite.body := by kernel_rfl
theorem hb_divided : d_divided.fn.body = cBody d_divided.G 30 20 d_divided.scope d_divided.body := by kernel_rfl
theorem hb_sum_of : d_sum_of.fn.body = cBody d_sum_of.G 30 20 d_sum_of.scope d_sum_of.body := by kernel_rfl
theorem hb_plus : d_plus.fn.body = cBody d_plus.G 30 20 d_plus.scope d_plus.body := by kernel_rfl
theorem hb_minus : d_minus.fn.body = cBody d_minus.G 30 20 d_minus.scope d_minus.body := by kernel_rfl
theorem hb_times : d_times.fn.body = cBody d_times.G 30 20 d_times.scope d_times.body := by kernel_rfl
theorem hb_over : d_over.fn.body = cBody d_over.G 30 20 d_over.scope d_over.body := by kernel_rfl
theorem hb_compared : d_compared.fn.body = cBody d_compared.G 30 20 d_compared.scope d_compared.body := by kernel_rfl
theorem hb_total : d_total.fn.body = cBody d_total.G 30 20 d_total.scope d_total.body := by kernel_rfl
theorem hb_power : d_power.fn.body = cBody d_power.G 30 20 d_power.scope d_power.body := by kernel_rfl
theorem hb__law_dice : d__law_dice.fn.body = cBody d__law_dice.G 30 20 d__law_dice.scope d__law_dice.body := by kernel_rfl
theorem hb__law_roll : d__law_roll.fn.body = cBody d__law_roll.G 30 20 d__law_roll.scope d__law_roll.body := by kernel_rfl
theorem hb__law_pick : d__law_pick.fn.body = cBody d__law_pick.G 30 20 d__law_pick.scope d__law_pick.body := by kernel_rfl
theorem hb__law_fr : d__law_fr.fn.body = cBody d__law_fr.G 30 20 d__law_fr.scope d__law_fr.body := by kernel_rfl
theorem hb__law_plus : d__law_plus.fn.body = cBody d__law_plus.G 30 20 d__law_plus.scope d__law_plus.body := by kernel_rfl
theorem hb__law_times : d__law_times.fn.body = cBody d__law_times.G 30 20 d__law_times.scope d__law_times.body := by kernel_rfl
theorem hb__law_minus : d__law_minus.fn.body = cBody d__law_minus.G 30 20 d__law_minus.scope d__law_minus.body := by kernel_rfl
theorem hb__law_integer : d__law_integer.fn.body = cBody d__law_integer.G 30 20 d__law_integer.scope d__law_integer.body := by kernel_rfl
theorem hb__law_drawn : d__law_drawn.fn.body = cBody d__law_drawn.G 30 20 d__law_drawn.scope d__law_drawn.body := by kernel_rfl
theorem hb__law_right : d__law_right.fn.body = cBody d__law_right.G 30 20 d__law_right.scope d__law_right.body := by kernel_rfl
theorem hb_law : d_law.fn.body = cBody d_law.G 30 20 d_law.scope d_law.body := by kernel_rfl
theorem bd_is_integer : d_is_integer.Bd := DefI.bd0 rfl rfl fun _ _ _ _ _ _ us hl => match us, hl with | [_], _ => rfl
theorem bd_common_divisor : d_common_divisor.Bd := DefI.bd0 rfl rfl fun _ _ _ _ _ _ us hl => match us, hl with | [_, _], _ => rfl
theorem bd_is_number : d_is_number.Bd := DefI.bd0 rfl rfl fun _ _ _ _ _ _ us hl => match us, hl with | [_], _ => rfl
theorem bd_reduced : d_reduced.Bd := DefI.bd0 rfl rfl fun _ _ _ _ _ _ us hl => match us, hl with | [_, _], _ => rfl
theorem bd_number : d_number.Bd := DefI.bd1 (by decide) rfl fun n h1 h2 T kV doc pm an cdv ct us its hu hi => by
  replace h1 : n ≤ 2 := h1
  replace h2 : 2 ≤ n + 1 := h2
  have hc : n = 1 ∨ n = 2 := by omega
  rcases hc with rfl | rfl
  · exact match us, its, hu, hi with
    | [_], [_], _, _ => ⟨_, rfl, rfl⟩
  · exact match us, its, hu, hi with
    | [_, _], [_], _, _ => ⟨_, rfl, rfl⟩
theorem bd_require_number : d_require_number.Bd := DefI.bd0 rfl rfl fun _ _ _ _ _ _ us hl => match us, hl with | [_], _ => rfl
theorem bd_require_count : d_require_count.Bd := DefI.bd1 (by decide) rfl fun n h1 h2 T kV doc pm an cdv ct us its hu hi => by
  replace h1 : n ≤ 3 := h1
  replace h2 : 3 ≤ n + 2 := h2
  have hc : n = 1 ∨ n = 2 ∨ n = 3 := by omega
  rcases hc with rfl | rfl | rfl
  · exact match us, its, hu, hi with
    | [_], [_, _], _, _ => ⟨_, rfl, rfl⟩
  · exact match us, its, hu, hi with
    | [_, _], [_, _], _, _ => ⟨_, rfl, rfl⟩
  · exact match us, its, hu, hi with
    | [_, _, _], [_, _], _, _ => ⟨_, rfl, rfl⟩
theorem bd_added : d_added.Bd := DefI.bd0 rfl rfl fun _ _ _ _ _ _ us hl => match us, hl with | [_, _], _ => rfl
theorem bd_multiplied : d_multiplied.Bd := DefI.bd0 rfl rfl fun _ _ _ _ _ _ us hl => match us, hl with | [_, _], _ => rfl
theorem bd_opposite : d_opposite.Bd := DefI.bd0 rfl rfl fun _ _ _ _ _ _ us hl => match us, hl with | [_], _ => rfl
theorem bd_divided : d_divided.Bd := DefI.bd0 rfl rfl fun _ _ _ _ _ _ us hl => match us, hl with | [_, _], _ => rfl
theorem bd_sum_of : d_sum_of.Bd := DefI.bd0 rfl rfl fun _ _ _ _ _ _ us hl => match us, hl with | [_], _ => rfl
theorem bd_plus : d_plus.Bd := DefI.bd0 rfl rfl fun _ _ _ _ _ _ us hl => match us, hl with | [_, _], _ => rfl
theorem bd_minus : d_minus.Bd := DefI.bd0 rfl rfl fun _ _ _ _ _ _ us hl => match us, hl with | [_, _], _ => rfl
theorem bd_times : d_times.Bd := DefI.bd0 rfl rfl fun _ _ _ _ _ _ us hl => match us, hl with | [_, _], _ => rfl
theorem bd_over : d_over.Bd := DefI.bd0 rfl rfl fun _ _ _ _ _ _ us hl => match us, hl with | [_, _], _ => rfl
theorem bd_compared : d_compared.Bd := DefI.bd0 rfl rfl fun _ _ _ _ _ _ us hl => match us, hl with | [_, _], _ => rfl
theorem bd_total : d_total.Bd := DefI.bd0 rfl rfl fun _ _ _ _ _ _ us hl => match us, hl with | [_], _ => rfl
theorem bd_power : d_power.Bd := DefI.bd0 rfl rfl fun _ _ _ _ _ _ us hl => match us, hl with | [_, _], _ => rfl
theorem bd__law_dice : d__law_dice.Bd := DefI.bd0 rfl rfl fun _ _ _ _ _ _ us hl => match us, hl with | [_, _], _ => rfl
theorem bd__law_roll : d__law_roll.Bd := DefI.bd0 rfl rfl fun _ _ _ _ _ _ us hl => match us, hl with | [_, _], _ => rfl
theorem bd__law_pick : d__law_pick.Bd := DefI.bd0 rfl rfl fun _ _ _ _ _ _ us hl => match us, hl with | [_, _], _ => rfl
theorem bd__law_fr : d__law_fr.Bd := DefI.bd0 rfl rfl fun _ _ _ _ _ _ us hl => match us, hl with | [_, _], _ => rfl
theorem bd__law_plus : d__law_plus.Bd := DefI.bd0 rfl rfl fun _ _ _ _ _ _ us hl => match us, hl with | [_, _], _ => rfl
theorem bd__law_times : d__law_times.Bd := DefI.bd0 rfl rfl fun _ _ _ _ _ _ us hl => match us, hl with | [_, _], _ => rfl
theorem bd__law_minus : d__law_minus.Bd := DefI.bd0 rfl rfl fun _ _ _ _ _ _ us hl => match us, hl with | [_, _], _ => rfl
theorem bd__law_integer : d__law_integer.Bd := DefI.bd0 rfl rfl fun _ _ _ _ _ _ us hl => match us, hl with | [_], _ => rfl
theorem bd__law_drawn : d__law_drawn.Bd := DefI.bd0 rfl rfl fun _ _ _ _ _ _ us hl => match us, hl with | [_], _ => rfl
theorem bd__law_right : d__law_right.Bd := DefI.bd0 rfl rfl fun _ _ _ _ _ _ us hl => match us, hl with | [_], _ => rfl
theorem bd_law : d_law.Bd := DefI.bd0 rfl rfl fun _ _ _ _ _ _ us hl => match us, hl with | [_], _ => rfl
theorem t_is_integer : tabOf ds i_is_integer = some d_is_integer.fn := rfl
theorem t_common_divisor : tabOf ds i_common_divisor = some d_common_divisor.fn := rfl
theorem t_is_number : tabOf ds i_is_number = some d_is_number.fn := rfl
theorem t_reduced : tabOf ds i_reduced = some d_reduced.fn := rfl
theorem t_number : tabOf ds i_number = some d_number.fn := rfl
theorem t_require_number : tabOf ds i_require_number = some d_require_number.fn := rfl
theorem t_require_count : tabOf ds i_require_count = some d_require_count.fn := rfl
theorem t_added : tabOf ds i_added = some d_added.fn := rfl
theorem t_multiplied : tabOf ds i_multiplied = some d_multiplied.fn := rfl
theorem t_opposite : tabOf ds i_opposite = some d_opposite.fn := rfl
theorem t_divided : tabOf ds i_divided = some d_divided.fn := rfl
theorem t_sum_of : tabOf ds i_sum_of = some d_sum_of.fn := rfl
theorem t_plus : tabOf ds i_plus = some d_plus.fn := rfl
theorem t_minus : tabOf ds i_minus = some d_minus.fn := rfl
theorem t_times : tabOf ds i_times = some d_times.fn := rfl
theorem t_over : tabOf ds i_over = some d_over.fn := rfl
theorem t_compared : tabOf ds i_compared = some d_compared.fn := rfl
theorem t_total : tabOf ds i_total = some d_total.fn := rfl
theorem t_power : tabOf ds i_power = some d_power.fn := rfl
theorem t__law_dice : tabOf ds i__law_dice = some d__law_dice.fn := rfl
theorem t__law_roll : tabOf ds i__law_roll = some d__law_roll.fn := rfl
theorem t__law_pick : tabOf ds i__law_pick = some d__law_pick.fn := rfl
theorem t__law_fr : tabOf ds i__law_fr = some d__law_fr.fn := rfl
theorem t__law_plus : tabOf ds i__law_plus = some d__law_plus.fn := rfl
theorem t__law_times : tabOf ds i__law_times = some d__law_times.fn := rfl
theorem t__law_minus : tabOf ds i__law_minus = some d__law_minus.fn := rfl
theorem t__law_integer : tabOf ds i__law_integer = some d__law_integer.fn := rfl
theorem t__law_drawn : tabOf ds i__law_drawn = some d__law_drawn.fn := rfl
theorem t__law_right : tabOf ds i__law_right = some d__law_right.fn := rfl
theorem t_law : tabOf ds i_law = some d_law.fn := rfl
theorem forall_ds {P : DefI → Prop} (h0 : P d_is_integer) (h1 : P d_common_divisor) (h2 : P d_is_number) (h3 : P d_reduced) (h4 : P d_number) (h5 : P d_require_number) (h6 : P d_require_count) (h7 : P d_added) (h8 : P d_multiplied) (h9 : P d_opposite) (h10 : P d_divided) (h11 : P d_sum_of) (h12 : P d_plus) (h13 : P d_minus) (h14 : P d_times) (h15 : P d_over) (h16 : P d_compared) (h17 : P d_total) (h18 : P d_power) (h19 : P d__law_dice) (h20 : P d__law_roll) (h21 : P d__law_pick) (h22 : P d__law_fr) (h23 : P d__law_plus) (h24 : P d__law_times) (h25 : P d__law_minus) (h26 : P d__law_integer) (h27 : P d__law_drawn) (h28 : P d__law_right) (h29 : P d_law) : ∀ d ∈ ds, P d := by
  intro d hd
  simp only [ds, List.mem_cons, List.not_mem_nil, or_false] at hd
  rcases hd with rfl | rfl | rfl | rfl | rfl | rfl | rfl | rfl | rfl | rfl | rfl | rfl | rfl | rfl | rfl | rfl | rfl | rfl | rfl | rfl | rfl | rfl | rfl | rfl | rfl | rfl | rfl | rfl | rfl | rfl
  · exact h0
  · exact h1
  · exact h2
  · exact h3
  · exact h4
  · exact h5
  · exact h6
  · exact h7
  · exact h8
  · exact h9
  · exact h10
  · exact h11
  · exact h12
  · exact h13
  · exact h14
  · exact h15
  · exact h16
  · exact h17
  · exact h18
  · exact h19
  · exact h20
  · exact h21
  · exact h22
  · exact h23
  · exact h24
  · exact h25
  · exact h26
  · exact h27
  · exact h28
  · exact h29
theorem hbd : ∀ d ∈ ds, d.Bd := forall_ds bd_is_integer bd_common_divisor bd_is_number bd_reduced bd_number bd_require_number bd_require_count bd_added bd_multiplied bd_opposite bd_divided bd_sum_of bd_plus bd_minus bd_times bd_over bd_compared bd_total bd_power bd__law_dice bd__law_roll bd__law_pick bd__law_fr bd__law_plus bd__law_times bd__law_minus bd__law_integer bd__law_drawn bd__law_right bd_law
theorem hb : ∀ d ∈ ds, d.fn.body = cBody d.G 30 20 d.scope d.body := forall_ds hb_is_integer hb_common_divisor hb_is_number hb_reduced hb_number hb_require_number hb_require_count hb_added hb_multiplied hb_opposite hb_divided hb_sum_of hb_plus hb_minus hb_times hb_over hb_compared hb_total hb_power hb__law_dice hb__law_roll hb__law_pick hb__law_fr hb__law_plus hb__law_times hb__law_minus hb__law_integer hb__law_drawn hb__law_right hb_law
theorem hcs : ∀ d ∈ ds, d.G.cs = cs := forall_ds rfl rfl rfl rfl rfl rfl rfl rfl rfl rfl rfl rfl rfl rfl rfl rfl rfl rfl rfl rfl rfl rfl rfl rfl rfl rfl rfl rfl rfl rfl
theorem h1 : ∀ d ∈ ds, He.Fa.glo d.name ∈ fa := fun d hd => List.mem_append_left _ (List.mem_map.mpr ⟨d, hd, rfl⟩)
theorem h2 : ∀ x ∈ fr, He.Fa.free x ∈ fa := fun x hx => List.mem_append_right _ (List.mem_map.mpr ⟨x, hx, rfl⟩)
end K21
namespace K21
open PySem Mk
theorem r_is_integer (k : Nat) (x : D) (S : Store) : run (tabOf ds) (k + 1) i_is_integer [.d x] S = .ok (B (x.isInt && !x.isBool)) S := by
  rw [run_at t_is_integer]
  cases x <;> simp [runFn, sRet, sSeq, sSet, sAsg, sPar, sPar3, sIf, sExpr, sPass, xV, xC, xBin, xCmp, xCmp2, xNeg, xNot, xAnd, xOr, xIf, xTup, xLst, xIx, xB, xIs, xCall, tV, tNot, tAnd, tOr, tCmp, tCmp2, tYes, aNil, aCons, bin, cmp, dat, tru, ix, at?, I, B, mkTup, allD, mkLst, fin_d, gV, gNil, gCons, gTup, bLen, bAbs, bMax, bMin, bInt, bTuple, isA, d_is_integer, b_is_integer, PyData.isInt, PyData.isBool]
theorem gcd_loop (c : Cl) (S : Store) : ∀ (n : Nat) (b a : Nat), b < n → wLoop (tCmp .gt (xV 1) (xC (.d (.int 0)))) (sPar 0 1 (xV 1) (xBin .mod false (xV 0) (xV 1))) c n [some (I a), some (I b)] S = .nx [some (I (Nat.gcd a b)), some (I 0)] S := by
  intro n
  induction n with
  | zero => intro b a h; omega
  | succ n ih =>
    intro b a h
    unfold wLoop
    by_cases h0 : b = 0
    · subst h0; simp [tCmp, xV, xC, I, cmp]
    · have hp : 0 < b := Nat.pos_of_ne_zero h0
      have hp' : (0 : Int) < b := by omega
      have h2 : a % b < n := by
        have := Nat.mod_lt a hp
        omega
      have := ih (a % b) b h2
      rw [show Nat.gcd b (a % b) = Nat.gcd a b from (Nat.gcd_comm _ _).trans ((Nat.gcd_rec b a).symm.trans (Nat.gcd_comm _ _))] at this
      rw [← this]
      simp [tCmp, xV, xC, I, cmp, sPar, xBin, bin, hp, hp']
theorem r_common_divisor (k : Nat) (a b : Int) (S : Store) : run (tabOf ds) (k + 1) i_common_divisor [I a, I b] S = .ok (I (Int.gcd a b)) S := by
  rw [run_at t_common_divisor]
  have ha : ∀ i : Int, (if i < 0 then -i else i) = (i.natAbs : Int) := fun i => by split <;> omega
  have h := gcd_loop ⟨run (tabOf ds) k⟩ S (fuelOf [some (I a.natAbs), some (I b.natAbs)]) b.natAbs a.natAbs (by simp [fuelOf, I]; omega)
  simp [runFn, sRet, sSeq, sSet, sAsg, sPar, sPar3, sIf, sExpr, sPass, xV, xC, xBin, xCmp, xCmp2, xNeg, xNot, xAnd, xOr, xIf, xTup, xLst, xIx, xB, xIs, xCall, tV, tNot, tAnd, tOr, tCmp, tCmp2, tYes, aNil, aCons, bin, cmp, dat, tru, ix, at?, I, B, mkTup, allD, mkLst, fin_d, gV, gNil, gCons, gTup, bLen, bAbs, bMax, bMin, bInt, bTuple, isA, d_common_divisor, b_common_divisor, sWhile, ha] at h ⊢
  rw [h]
  simp [Int.gcd, fin_d]
theorem r_is_number (k : Nat) (q : Rat) (S : Store) : run (tabOf ds) (k + 2) i_is_number [.d (fq q)] S = .ok (B true) S := by
  rw [run_at t_is_number]
  have h1 : (1 : Int) ≤ q.den := by have := q.den_nz; omega
  have h2 : Int.gcd q.num q.den = 1 := by simpa [Int.gcd] using q.reduced
  have e1 := fun S => r_is_integer k (.int q.num) S
  have e2 := fun S => r_is_integer k (.int q.den) S
  have e3 := r_common_divisor k q.num q.den S
  simp [I] at e1 e2 e3
  simp [runFn, sRet, sSeq, sSet, sAsg, sPar, sPar3, sIf, sExpr, sPass, xV, xC, xBin, xCmp, xCmp2, xNeg, xNot, xAnd, xOr, xIf, xTup, xLst, xIx, xB, xIs, xCall, tV, tNot, tAnd, tOr, tCmp, tCmp2, tYes, aNil, aCons, bin, cmp, dat, tru, ix, at?, I, B, mkTup, allD, mkLst, fin_d, gV, gNil, gCons, gTup, bLen, bAbs, bMax, bMin, bInt, bTuple, isA, d_is_number, b_is_number, fq, PyData.isTuple, xLc, iV, lcRun, lcLoop, lcFin, lcEnd, wipeE, e1, e2, e3, bAll, allT, truD, h1, h2, okD, PyData.plain, PyData.depth, PyData.eqv, PyData.isInt, PyData.isBool, LINE]
theorem r_reduced (k : Nat) (t b : Int) (n : Nat) (hb : b ≠ 0) (h : b.natAbs < 2 ^ n) (hn : n ≤ 8999) (S : Store) : run (tabOf ds) (k + 2) i_reduced [I t, I b] S = .ok (.d (fq (Rat.divInt t b))) S := by
  rw [run_at t_reduced]
  have hd := gcd_divOk (t := t) hb h hn
  have g1 := fr_num (t := t) hb
  have g2 := fr_den (t := t) hb
  by_cases hl : b < 0
  · have e := r_common_divisor k (0 - t) (0 - b) S
    have eg : Int.gcd (0 - t) (0 - b) = Int.gcd t b := by simp
    rw [Int.sign_eq_neg_one_of_neg hl] at g1 g2
    rw [eg] at e
    simp [I] at e
    simp [runFn, sRet, sSeq, sSet, sAsg, sPar, sPar3, sIf, sExpr, sPass, xV, xC, xBin, xCmp, xCmp2, xNeg, xNot, xAnd, xOr, xIf, xTup, xLst, xIx, xB, xIs, xCall, tV, tNot, tAnd, tOr, tCmp, tCmp2, tYes, aNil, aCons, bin, cmp, dat, tru, ix, at?, I, B, mkTup, allD, mkLst, fin_d, gV, gNil, gCons, gTup, bLen, bAbs, bMax, bMin, bInt, bTuple, isA, d_reduced, b_reduced, hl, e, hd, fq, g1, g2]
  · have hs : b.sign = 1 := Int.sign_eq_one_of_pos (by omega)
    have e := r_common_divisor k t b S
    rw [hs] at g1 g2
    simp [I] at e
    simp [runFn, sRet, sSeq, sSet, sAsg, sPar, sPar3, sIf, sExpr, sPass, xV, xC, xBin, xCmp, xCmp2, xNeg, xNot, xAnd, xOr, xIf, xTup, xLst, xIx, xB, xIs, xCall, tV, tNot, tAnd, tOr, tCmp, tCmp2, tYes, aNil, aCons, bin, cmp, dat, tru, ix, at?, I, B, mkTup, allD, mkLst, fin_d, gV, gNil, gCons, gTup, bLen, bAbs, bMax, bMin, bInt, bTuple, isA, d_reduced, b_reduced, hl, e, hd, fq, g1, g2]

theorem r_require_number (k : Nat) (q : Rat) (S : Store) : run (tabOf ds) (k + 3) i_require_number [.d (fq q)] S = .ok (.d .none) S := by
  rw [run_at t_require_number]
  simp [runFn, sRet, sSeq, sSet, sAsg, sPar, sPar3, sIf, sExpr, sPass, xV, xC, xBin, xCmp, xCmp2, xNeg, xNot, xAnd, xOr, xIf, xTup, xLst, xIx, xB, xIs, xCall, tV, tNot, tAnd, tOr, tCmp, tCmp2, tYes, aNil, aCons, bin, cmp, dat, tru, ix, at?, I, B, mkTup, allD, mkLst, fin_d, gV, gNil, gCons, gTup, bLen, bAbs, bMax, bMin, bInt, bTuple, isA, d_require_number, b_require_number, r_is_number]
theorem r_require_count (k : Nat) (v lo hi : Int) (h1 : lo ≤ v) (h2 : v ≤ hi) (S : Store) : run (tabOf ds) (k + 2) i_require_count [I v, I lo, I hi] S = .ok (.d .none) S := by
  rw [run_at t_require_count]
  have e := r_is_integer k (.int v) S
  simp [runFn, sRet, sSeq, sSet, sAsg, sPar, sPar3, sIf, sExpr, sPass, xV, xC, xBin, xCmp, xCmp2, xNeg, xNot, xAnd, xOr, xIf, xTup, xLst, xIx, xB, xIs, xCall, tV, tNot, tAnd, tOr, tCmp, tCmp2, tYes, aNil, aCons, bin, cmp, dat, tru, ix, at?, I, B, mkTup, allD, mkLst, fin_d, gV, gNil, gCons, gTup, bLen, bAbs, bMax, bMin, bInt, bTuple, isA, d_require_count, b_require_count, e, PyData.isInt, PyData.isBool, h1, h2]
theorem r_added (k : Nat) (p q : Rat) (a b : Nat) (hp : Sz a p) (hq : Sz b q) (h : a + b ≤ 8999) (S : Store) : run (tabOf ds) (k + 3) i_added [.d (fq p), .d (fq q)] S = .ok (.d (fq (p + q))) S := by
  rw [run_at t_added]
  have m1 := mulOk_of (i := p.num) (j := q.den) hp.num (by simpa using hq.den) (by omega)
  have m2 := mulOk_of (i := q.num) (j := p.den) hq.num (by simpa using hp.den) (by omega)
  have m3 := mulOk_of (i := p.den) (j := q.den) (by simpa using hp.den) (by simpa using hq.den) (by omega)
  have e := r_reduced k (p.num * q.den + q.num * p.den) (p.den * q.den) (a + b) (den_ne p q) (den_sz hp hq) h S
  rw [← add_eq] at e
  simp [I] at e
  by_cases h1 : p.den = q.den
  · by_cases h2 : q.den = 1
    · have hs : p + q = Rat.divInt (p.num + q.num) 1 := by rw [add_eq]; simp [h1, h2]
      have g1 := fr_num (t := p.num + q.num) (b := 1) (by decide)
      have g2 := fr_den (t := p.num + q.num) (b := 1) (by decide)
      simp at g1 g2
      simp [runFn, sRet, sSeq, sSet, sAsg, sPar, sPar3, sIf, sExpr, sPass, xV, xC, xBin, xCmp, xCmp2, xNeg, xNot, xAnd, xOr, xIf, xTup, xLst, xIx, xB, xIs, xCall, tV, tNot, tAnd, tOr, tCmp, tCmp2, tYes, aNil, aCons, bin, cmp, dat, tru, ix, at?, I, B, mkTup, allD, mkLst, fin_d, gV, gNil, gCons, gTup, bLen, bAbs, bMax, bMin, bInt, bTuple, isA, d_added, b_added, fq, h1, h2, okD, PyData.plain, PyData.depth, PyData.eqv, hs, g1, g2]
    · rw [h1] at m2 m3
      have h2' : ((q.den : Int) == 1) = false := by simp; omega
      simp [fq, h1] at e
      simp [runFn, sRet, sSeq, sSet, sAsg, sPar, sPar3, sIf, sExpr, sPass, xV, xC, xBin, xCmp, xCmp2, xNeg, xNot, xAnd, xOr, xIf, xTup, xLst, xIx, xB, xIs, xCall, tV, tNot, tAnd, tOr, tCmp, tCmp2, tYes, aNil, aCons, bin, cmp, dat, tru, ix, at?, I, B, mkTup, allD, mkLst, fin_d, gV, gNil, gCons, gTup, bLen, bAbs, bMax, bMin, bInt, bTuple, isA, d_added, b_added, fq, h1, h2', okD, PyData.plain, PyData.depth, PyData.eqv, m1, m2, m3, e]
  · have h1' : ((p.den : Int) == q.den) = false := by simp; omega
    simp [fq] at e
    simp [runFn, sRet, sSeq, sSet, sAsg, sPar, sPar3, sIf, sExpr, sPass, xV, xC, xBin, xCmp, xCmp2, xNeg, xNot, xAnd, xOr, xIf, xTup, xLst, xIx, xB, xIs, xCall, tV, tNot, tAnd, tOr, tCmp, tCmp2, tYes, aNil, aCons, bin, cmp, dat, tru, ix, at?, I, B, mkTup, allD, mkLst, fin_d, gV, gNil, gCons, gTup, bLen, bAbs, bMax, bMin, bInt, bTuple, isA, d_added, b_added, fq, h1', okD, PyData.plain, PyData.depth, PyData.eqv, m1, m2, m3, e]
theorem r_multiplied (k : Nat) (p q : Rat) (a b : Nat) (hp : Sz a p) (hq : Sz b q) (h : a + b ≤ 8999) (S : Store) : run (tabOf ds) (k + 3) i_multiplied [.d (fq p), .d (fq q)] S = .ok (.d (fq (p * q))) S := by
  rw [run_at t_multiplied]
  have m1 := mulOk_of (i := p.num) (j := q.num) hp.num hq.num (by omega)
  have m3 := mulOk_of (i := p.den) (j := q.den) (by simpa using hp.den) (by simpa using hq.den) (by omega)
  have e := r_reduced k (p.num * q.num) (p.den * q.den) (a + b) (den_ne p q) (den_sz hp hq) h S
  rw [← mul_eq] at e
  simp [I] at e
  by_cases h1 : p.den = q.den
  · by_cases h2 : q.den = 1
    · have hs : p * q = Rat.divInt (p.num * q.num) 1 := by rw [mul_eq]; simp [h1, h2]
      have g1 := fr_num (t := p.num * q.num) (b := 1) (by decide)
      have g2 := fr_den (t := p.num * q.num) (b := 1) (by decide)
      simp at g1 g2
      simp [runFn, sRet, sSeq, sSet, sAsg, sPar, sPar3, sIf, sExpr, sPass, xV, xC, xBin, xCmp, xCmp2, xNeg, xNot, xAnd, xOr, xIf, xTup, xLst, xIx, xB, xIs, xCall, tV, tNot, tAnd, tOr, tCmp, tCmp2, tYes, aNil, aCons, bin, cmp, dat, tru, ix, at?, I, B, mkTup, allD, mkLst, fin_d, gV, gNil, gCons, gTup, bLen, bAbs, bMax, bMin, bInt, bTuple, isA, d_multiplied, b_multiplied, fq, h1, h2, okD, PyData.plain, PyData.depth, PyData.eqv, hs, g1, g2, m1]
    · rw [h1] at m3
      have h2' : ((q.den : Int) == 1) = false := by simp; omega
      simp [fq, h1] at e
      simp [runFn, sRet, sSeq, sSet, sAsg, sPar, sPar3, sIf, sExpr, sPass, xV, xC, xBin, xCmp, xCmp2, xNeg, xNot, xAnd, xOr, xIf, xTup, xLst, xIx, xB, xIs, xCall, tV, tNot, tAnd, tOr, tCmp, tCmp2, tYes, aNil, aCons, bin, cmp, dat, tru, ix, at?, I, B, mkTup, allD, mkLst, fin_d, gV, gNil, gCons, gTup, bLen, bAbs, bMax, bMin, bInt, bTuple, isA, d_multiplied, b_multiplied, fq, h1, h2', okD, PyData.plain, PyData.depth, PyData.eqv, m1, m3, e]
  · have h1' : ((p.den : Int) == q.den) = false := by simp; omega
    simp [fq] at e
    simp [runFn, sRet, sSeq, sSet, sAsg, sPar, sPar3, sIf, sExpr, sPass, xV, xC, xBin, xCmp, xCmp2, xNeg, xNot, xAnd, xOr, xIf, xTup, xLst, xIx, xB, xIs, xCall, tV, tNot, tAnd, tOr, tCmp, tCmp2, tYes, aNil, aCons, bin, cmp, dat, tru, ix, at?, I, B, mkTup, allD, mkLst, fin_d, gV, gNil, gCons, gTup, bLen, bAbs, bMax, bMin, bInt, bTuple, isA, d_multiplied, b_multiplied, fq, h1', okD, PyData.plain, PyData.depth, PyData.eqv, m1, m3, e]
theorem r_opposite (k : Nat) (p : Rat) (S : Store) : run (tabOf ds) (k + 1) i_opposite [.d (fq p)] S = .ok (.d (fq (-p))) S := by
  rw [run_at t_opposite]
  simp [runFn, sRet, sSeq, sSet, sAsg, sPar, sPar3, sIf, sExpr, sPass, xV, xC, xBin, xCmp, xCmp2, xNeg, xNot, xAnd, xOr, xIf, xTup, xLst, xIx, xB, xIs, xCall, tV, tNot, tAnd, tOr, tCmp, tCmp2, tYes, aNil, aCons, bin, cmp, dat, tru, ix, at?, I, B, mkTup, allD, mkLst, fin_d, gV, gNil, gCons, gTup, bLen, bAbs, bMax, bMin, bInt, bTuple, isA, d_opposite, b_opposite, fq]
theorem r_divided (k : Nat) (p q : Rat) (a b : Nat) (hp : Sz a p) (hq : Sz b q) (h : a + b ≤ 8999) (h0 : q ≠ 0) (S : Store) : run (tabOf ds) (k + 3) i_divided [.d (fq p), .d (fq q)] S = .ok (.d (fq (p / q))) S := by
  rw [run_at t_divided]
  have m1 := mulOk_of (i := p.num) (j := q.den) hp.num (by simpa using hq.den) (by omega)
  have m3 := mulOk_of (i := p.den) (j := q.num) (by simpa using hp.den) hq.num (by omega)
  have e := r_reduced k (p.num * q.den) (p.den * q.num) (a + b) (div_ne p h0) (div_sz2 hp hq) h S
  rw [← div_eq] at e
  simp [I] at e
  simp [runFn, sRet, sSeq, sSet, sAsg, sPar, sPar3, sIf, sExpr, sPass, xV, xC, xBin, xCmp, xCmp2, xNeg, xNot, xAnd, xOr, xIf, xTup, xLst, xIx, xB, xIs, xCall, tV, tNot, tAnd, tOr, tCmp, tCmp2, tYes, aNil, aCons, bin, cmp, dat, tru, ix, at?, I, B, mkTup, allD, mkLst, fin_d, gV, gNil, gCons, gTup, bLen, bAbs, bMax, bMin, bInt, bTuple, isA, d_divided, b_divided, fq, m1, m3] at e ⊢
  rw [e]
  simp [fin_d]
theorem r_plus (k : Nat) (p q : Rat) (a b : Nat) (hp : Sz a p) (hq : Sz b q) (h : a + b ≤ 8999) (S : Store) : run (tabOf ds) (k + 4) i_plus [.d (fq p), .d (fq q)] S = .ok (.d (fq (p + q))) S := by
  rw [run_at t_plus]
  have e := r_added k p q a b hp hq h S
  simp [runFn, sRet, sSeq, sSet, sAsg, sPar, sPar3, sIf, sExpr, sPass, xV, xC, xBin, xCmp, xCmp2, xNeg, xNot, xAnd, xOr, xIf, xTup, xLst, xIx, xB, xIs, xCall, tV, tNot, tAnd, tOr, tCmp, tCmp2, tYes, aNil, aCons, bin, cmp, dat, tru, ix, at?, I, B, mkTup, allD, mkLst, fin_d, gV, gNil, gCons, gTup, bLen, bAbs, bMax, bMin, bInt, bTuple, isA, d_plus, b_plus, r_require_number, e]

theorem r_minus (k : Nat) (p q : Rat) (a b : Nat) (hp : Sz a p) (hq : Sz b q) (h : a + b ≤ 8999) (S : Store) : run (tabOf ds) (k + 4) i_minus [.d (fq p), .d (fq q)] S = .ok (.d (fq (p - q))) S := by
  rw [run_at t_minus]
  have e := r_added k p (-q) a b hp hq.neg h S
  rw [← Rat.sub_eq_add_neg] at e
  simp [runFn, sRet, sSeq, sSet, sAsg, sPar, sPar3, sIf, sExpr, sPass, xV, xC, xBin, xCmp, xCmp2, xNeg, xNot, xAnd, xOr, xIf, xTup, xLst, xIx, xB, xIs, xCall, tV, tNot, tAnd, tOr, tCmp, tCmp2, tYes, aNil, aCons, bin, cmp, dat, tru, ix, at?, I, B, mkTup, allD, mkLst, fin_d, gV, gNil, gCons, gTup, bLen, bAbs, bMax, bMin, bInt, bTuple, isA, d_minus, b_minus, r_require_number, r_opposite, e]
theorem r_times (k : Nat) (p q : Rat) (a b : Nat) (hp : Sz a p) (hq : Sz b q) (h : a + b ≤ 8999) (S : Store) : run (tabOf ds) (k + 4) i_times [.d (fq p), .d (fq q)] S = .ok (.d (fq (p * q))) S := by
  rw [run_at t_times]
  have e := r_multiplied k p q a b hp hq h S
  simp [runFn, sRet, sSeq, sSet, sAsg, sPar, sPar3, sIf, sExpr, sPass, xV, xC, xBin, xCmp, xCmp2, xNeg, xNot, xAnd, xOr, xIf, xTup, xLst, xIx, xB, xIs, xCall, tV, tNot, tAnd, tOr, tCmp, tCmp2, tYes, aNil, aCons, bin, cmp, dat, tru, ix, at?, I, B, mkTup, allD, mkLst, fin_d, gV, gNil, gCons, gTup, bLen, bAbs, bMax, bMin, bInt, bTuple, isA, d_times, b_times, r_require_number, e]
theorem r_over (k : Nat) (p q : Rat) (a b : Nat) (hp : Sz a p) (hq : Sz b q) (h : a + b ≤ 8999) (h0 : q ≠ 0) (S : Store) : run (tabOf ds) (k + 4) i_over [.d (fq p), .d (fq q)] S = .ok (.d (fq (p / q))) S := by
  rw [run_at t_over]
  have e := r_divided k p q a b hp hq h h0 S
  have hn : q.num ≠ 0 := num_ne h0
  have hq0 : PyData.eqv (fq q) c_NOUGHT = false := by simp [fq, c_NOUGHT, PyData.eqv, PyData.eqvAll, hn]
  have ho : okD (fq q) = true := by simp [fq, okD, PyData.plain, PyData.plainAll, PyData.depth, PyData.depthAll]
  have ho2 : okD c_NOUGHT = true := by simp [c_NOUGHT, okD, PyData.plain, PyData.plainAll, PyData.depth, PyData.depthAll]
  simp [runFn, sRet, sSeq, sSet, sAsg, sPar, sPar3, sIf, sExpr, sPass, xV, xC, xBin, xCmp, xCmp2, xNeg, xNot, xAnd, xOr, xIf, xTup, xLst, xIx, xB, xIs, xCall, tV, tNot, tAnd, tOr, tCmp, tCmp2, tYes, aNil, aCons, bin, cmp, dat, tru, ix, at?, I, B, mkTup, allD, mkLst, fin_d, gV, gNil, gCons, gTup, bLen, bAbs, bMax, bMin, bInt, bTuple, isA, d_over, b_over, r_require_number, e, hq0, ho, ho2]
theorem r_compared (k : Nat) (p q : Rat) (a b : Nat) (hp : Sz a p) (hq : Sz b q) (h : a + b ≤ 8999) (S : Store) : run (tabOf ds) (k + 4) i_compared [.d (fq p), .d (fq q)] S = .ok (I (cmpQ p q)) S := by
  rw [run_at t_compared]
  have m1 := mulOk_of (i := p.num) (j := q.den) hp.num (by simpa using hq.den) (by omega)
  have m2 := mulOk_of (i := q.num) (j := p.den) hq.num (by simpa using hp.den) (by omega)
  have e1 := fun S => r_require_number k p S
  have e2 := fun S => r_require_number k q S
  simp [fq] at e1 e2
  have g1 : (q.num * p.den < p.num * q.den) ↔ q < p := (Rat.lt_iff q p).symm
  have g2 : (p.num * q.den < q.num * p.den) ↔ p < q := (Rat.lt_iff p q).symm
  simp [runFn, sRet, sSeq, sSet, sAsg, sPar, sPar3, sIf, sExpr, sPass, xV, xC, xBin, xCmp, xCmp2, xNeg, xNot, xAnd, xOr, xIf, xTup, xLst, xIx, xB, xIs, xCall, tV, tNot, tAnd, tOr, tCmp, tCmp2, tYes, aNil, aCons, bin, cmp, dat, tru, ix, at?, I, B, mkTup, allD, mkLst, fin_d, gV, gNil, gCons, gTup, bLen, bAbs, bMax, bMin, bInt, bTuple, isA, d_compared, b_compared, fq, e1, e2, m1, m2, g1, g2, cmpQ]
theorem r_number (k : Nat) (t b : Int) (ht : t.natAbs < 10 ^ 40) (hb : b.natAbs < 10 ^ 40) (h0 : b ≠ 0) (S : Store) : run (tabOf ds) (k + 3) i_number [I t, I b] S = .ok (.d (fq (Rat.divInt t b))) S := by
  rw [run_at t_number]
  have ha : ∀ i : Int, (if i < 0 then -i else i) = (i.natAbs : Int) := fun i => by split <;> omega
  have e1 := fun S => r_is_integer (k + 1) (.int t) S
  have e2 := fun S => r_is_integer (k + 1) (.int b) S
  have e := r_reduced k t b 133 h0 (Nat.lt_trans hb (by decide)) (by omega) S
  have h0' : (b == 0) = false := by simpa using h0
  have l1 : ¬ (10000000000000000000000000000000000000000 : Int) ≤ t.natAbs := by have : t.natAbs < 10000000000000000000000000000000000000000 := ht; omega
  have l2 : ¬ (10000000000000000000000000000000000000000 : Int) ≤ b.natAbs := by have : b.natAbs < 10000000000000000000000000000000000000000 := hb; omega
  simp [I] at e
  simp [runFn, sRet, sSeq, sSet, sAsg, sPar, sPar3, sIf, sExpr, sPass, xV, xC, xBin, xCmp, xCmp2, xNeg, xNot, xAnd, xOr, xIf, xTup, xLst, xIx, xB, xIs, xCall, tV, tNot, tAnd, tOr, tCmp, tCmp2, tYes, aNil, aCons, bin, cmp, dat, tru, ix, at?, I, B, mkTup, allD, mkLst, fin_d, gV, gNil, gCons, gTup, bLen, bAbs, bMax, bMin, bInt, bTuple, isA, d_number, b_number, e1, e2, e, PyData.isInt, PyData.isBool, ha, l1, l2, h0', c_MOST_PASSED, okD, PyData.plain, PyData.depth, PyData.eqv]

theorem sum_loop (k n : Nat) (S : Store) (x0 : Option Vl) : ∀ (qs : List Rat) (acc : Rat) (m : Nat) (x2 : Option Vl), (∀ q ∈ qs, Sz n q) → Sz m acc → m + (n + 1) * qs.length + n ≤ 8999 →
    ∃ y, fLoop (gV 2) (sSet 1 (xCall i_added (aCons (xV 1) (aCons (xV 2) aNil)) [])) ⟨run (tabOf ds) (k + 3)⟩ (qs.map fun q => .d (fq q)) [x0, some (.d (fq acc)), x2] S = .nx [x0, some (.d (fq (qs.foldl (· + ·) acc))), y] S
  | [], acc, m, x2, _, _, _ => ⟨x2, rfl⟩
  | q :: qs, acc, m, x2, h1, h2, h3 => by
    rw [List.length_cons, Nat.mul_succ] at h3
    obtain ⟨y, e⟩ := sum_loop k n S x0 qs (acc + q) (m + n + 1) (some (.d (fq q))) (fun x hx => h1 x (List.mem_cons_of_mem _ hx)) (h2.add (h1 q List.mem_cons_self)) (by omega)
    refine ⟨y, ?_⟩
    have e1 := r_added k acc q m n h2 (h1 q List.mem_cons_self) (by omega) S
    rw [List.map_cons]
    unfold fLoop
    simp [runFn, sRet, sSeq, sSet, sAsg, sPar, sPar3, sIf, sExpr, sPass, xV, xC, xBin, xCmp, xCmp2, xNeg, xNot, xAnd, xOr, xIf, xTup, xLst, xIx, xB, xIs, xCall, tV, tNot, tAnd, tOr, tCmp, tCmp2, tYes, aNil, aCons, bin, cmp, dat, tru, ix, at?, I, B, mkTup, allD, mkLst, fin_d, gV, gNil, gCons, gTup, bLen, bAbs, bMax, bMin, bInt, bTuple, isA, e1]
    exact e
theorem r_sum_of (k n : Nat) (qs : List Rat) (h : ∀ q ∈ qs, Sz n q) (hl : 1 + (n + 1) * qs.length + n ≤ 8999) (S : Store) : run (tabOf ds) (k + 4) i_sum_of [.d (.tuple (qs.map fq))] S = .ok (.d (fq (sumQ qs))) S := by
  rw [run_at t_sum_of]
  obtain ⟨y, e⟩ := sum_loop k n S (some (.d (.tuple (qs.map fq)))) qs 0 1 none h Sz.zero hl
  have e0 : c_NOUGHT = fq 0 := rfl
  have e2 : (qs.map fq).map Vl.d = qs.map fun q => .d (fq q) := by rw [List.map_map]; rfl
  simp [runFn, sRet, sSeq, sSet, sAsg, sPar, sPar3, sIf, sExpr, sPass, xV, xC, xBin, xCmp, xCmp2, xNeg, xNot, xAnd, xOr, xIf, xTup, xLst, xIx, xB, xIs, xCall, tV, tNot, tAnd, tOr, tCmp, tCmp2, tYes, aNil, aCons, bin, cmp, dat, tru, ix, at?, I, B, mkTup, allD, mkLst, fin_d, gV, gNil, gCons, gTup, bLen, bAbs, bMax, bMin, bInt, bTuple, isA, d_sum_of, b_sum_of, sFor, iV, e0, e2, e, sumQ]
theorem r_total (k n : Nat) (qs : List Rat) (h : ∀ q ∈ qs, Sz n q) (hl : 1 + (n + 1) * qs.length + n ≤ 8999) (S : Store) : run (tabOf ds) (k + 5) i_total [.d (.tuple (qs.map fq))] S = .ok (.d (fq (sumQ qs))) S := by
  rw [run_at t_total]
  have e := r_sum_of k n qs h hl S
  have hL : qs.length ≤ LINE := by
    have : qs.length ≤ (n + 1) * qs.length := Nat.le_mul_of_pos_left _ (by omega)
    unfold LINE
    omega
  have c1 : xLc false [1] (iV (xV 0)) (gV 1) tYes (xCall i_is_number (aCons (xV 1) aNil) []) ⟨run (tabOf ds) (k + 4)⟩ [some (Vl.d (.tuple (qs.map fq))), none] S = .ok (.d (.list (((qs.map fq).map Vl.d |>.filter fun _ => true).map fun _ => PyData.bool true))) S := by
    refine (xLc_pure (xs := (qs.map fq).map Vl.d) (p := fun _ => true) (f := fun _ => PyData.bool true) (S1 := S) (by simp [iV, xV]) (by simpa using hL) (fun x hx => ?_) false)
    obtain ⟨d, hd, rfl⟩ := List.mem_map.mp hx
    obtain ⟨q, hq, rfl⟩ := List.mem_map.mp hd
    refine ⟨[some (.d (.tuple (qs.map fq))), some (.d (fq q))], by simp [gV, wipeE], fun S => rfl, fun _ S => ?_⟩
    have := r_is_number (k + 2) q S
    simp [runFn, sRet, sSeq, sSet, sAsg, sPar, sPar3, sIf, sExpr, sPass, xV, xC, xBin, xCmp, xCmp2, xNeg, xNot, xAnd, xOr, xIf, xTup, xLst, xIx, xB, xIs, xCall, tV, tNot, tAnd, tOr, tCmp, tCmp2, tYes, aNil, aCons, bin, cmp, dat, tru, ix, at?, I, B, mkTup, allD, mkLst, fin_d, gV, gNil, gCons, gTup, bLen, bAbs, bMax, bMin, bInt, bTuple, isA, this]
  have a1 : allT (((qs.map fq).map Vl.d |>.filter fun _ => true).map fun _ => PyData.bool true) = some true := allT_true fun d hd => by
    obtain ⟨x, _, rfl⟩ := List.mem_map.mp hd
    rfl
  obtain ⟨L, a2, c2⟩ : ∃ L, allT L = some true ∧ xLc false [1] (iV (xV 0)) (gV 1) tYes (xCall i_is_number (aCons (xV 1) aNil) []) ⟨run (tabOf ds) (k + 4)⟩ [some (Vl.d (.tuple (qs.map fq))), none] S = .ok (.d (.list L)) S := ⟨_, a1, c1⟩
  simp [runFn, sRet, sSeq, sSet, sAsg, sPar, sPar3, sIf, sExpr, sPass, xV, xC, xBin, xCmp, xCmp2, xNeg, xNot, xAnd, xOr, xIf, xTup, xLst, xIx, xB, xIs, xCall, tV, tNot, tAnd, tOr, tCmp, tCmp2, tYes, aNil, aCons, bin, cmp, dat, tru, ix, at?, I, B, mkTup, allD, mkLst, fin_d, gV, gNil, gCons, gTup, bLen, bAbs, bMax, bMin, bInt, bTuple, isA, d_total, b_total, PyData.isTuple, c2, bAll, a2, e]
theorem power_loop (k n : Nat) (S : Store) (x0 : Option Vl) (q : Rat) (hq : Sz n q) : ∀ (ts : List Vl) (acc : Rat) (m : Nat) (x1 x3 : Option Vl), x0 = some (.d (fq q)) → Sz m acc → m + n * ts.length ≤ 8999 →
    ∃ y, fLoop (gV 3) (sSet 2 (xCall i_multiplied (aCons (xV 2) (aCons (xV 0) aNil)) [])) ⟨run (tabOf ds) (k + 3)⟩ ts [x0, x1, some (.d (fq acc)), x3] S = .nx [x0, x1, some (.d (fq (acc * q ^ ts.length))), y] S
  | [], acc, m, x1, x3, _, _, _ => ⟨x3, by simp [fLoop, Rat.pow_zero, Rat.mul_one]⟩
  | t :: ts, acc, m, x1, x3, h0, h2, h3 => by
    rw [List.length_cons, Nat.mul_succ] at h3
    obtain ⟨y, e⟩ := power_loop k n S x0 q hq ts (acc * q) (m + n) x1 (some t) h0 (h2.mul hq) (by omega)
    refine ⟨y, ?_⟩
    subst h0
    have e1 := r_multiplied k acc q m n h2 hq (by omega) S
    have e2 : acc * q ^ (t :: ts).length = acc * q * q ^ ts.length := by rw [List.length_cons, Rat.pow_succ]; grind
    rw [e2]
    unfold fLoop
    simp [runFn, sRet, sSeq, sSet, sAsg, sPar, sPar3, sIf, sExpr, sPass, xV, xC, xBin, xCmp, xCmp2, xNeg, xNot, xAnd, xOr, xIf, xTup, xLst, xIx, xB, xIs, xCall, tV, tNot, tAnd, tOr, tCmp, tCmp2, tYes, aNil, aCons, bin, cmp, dat, tru, ix, at?, I, B, mkTup, allD, mkLst, fin_d, gV, gNil, gCons, gTup, bLen, bAbs, bMax, bMin, bInt, bTuple, isA, e1]
    exact e
theorem r_power (k n : Nat) (q : Rat) (many : Nat) (hq : Sz n q) (hm : many ≤ 60) (hl : 1 + n * many ≤ 8999) (S : Store) : run (tabOf ds) (k + 4) i_power [.d (fq q), I many] S = .ok (.d (fq (q ^ many))) S := by
  rw [run_at t_power]
  obtain ⟨y, e⟩ := power_loop k n S (some (.d (fq q))) q hq (rng 0 many) 1 1 (some (I many)) none rfl Sz.one (by rw [rng_len]; simpa using hl)
  have e0 : c_ONE = fq 1 := rfl
  have e1 := r_require_number k q S
  have e2 := r_require_count (k + 1) many 0 60 (by omega) (by omega) S
  have hr : rngOk (many : Int) = true := rngOk_nat (by omega)
  rw [rng_len, Rat.one_mul] at e
  simp [I] at e e2
  simp [runFn, sRet, sSeq, sSet, sAsg, sPar, sPar3, sIf, sExpr, sPass, xV, xC, xBin, xCmp, xCmp2, xNeg, xNot, xAnd, xOr, xIf, xTup, xLst, xIx, xB, xIs, xCall, tV, tNot, tAnd, tOr, tCmp, tCmp2, tYes, aNil, aCons, bin, cmp, dat, tru, ix, at?, I, B, mkTup, allD, mkLst, fin_d, gV, gNil, gCons, gTup, bLen, bAbs, bMax, bMin, bInt, bTuple, isA, d_power, b_power, sFor, iRng1, e0, e1, e2, hr, e]

theorem r_dice (k : Nat) (ns : List Int) (spot : Int) (h0 : 0 ≤ spot) (S : Store) : ∃ a b c : Int, run (tabOf ds) (k + 1) i__law_dice [.sc (ns.map .int), I spot] S = .ok (.r S.length) (S ++ [.lst [.int a, .int b, .int c]]) := by
  rw [run_at t__law_dice]
  have p1 : powOk 10 53 = true := by decide
  have p2 : powOk 100000000000000000000000000000000000000000000000000000 6 = true := by decide +kernel
  have p3 : powOk 10 16 = true := by decide
  by_cases hl : spot < ns.length
  · have hx : (ns.map PyData.int)[spot.toNat]? = some (.int (ns[spot.toNat]'(by omega))) := by
      rw [List.getElem?_map, List.getElem?_eq_getElem (by omega)]
      rfl
    generalize ns[spot.toNat]'(by omega) = v at hx
    simp [runFn, sRet, sSeq, sSet, sAsg, sPar, sPar3, sIf, sExpr, sPass, xV, xC, xBin, xCmp, xCmp2, xNeg, xNot, xAnd, xOr, xIf, xTup, xLst, xIx, xB, xIs, xCall, tV, tNot, tAnd, tOr, tCmp, tCmp2, tYes, aNil, aCons, bin, cmp, dat, tru, ix, at?, I, B, mkTup, allD, mkLst, fin_d, gV, gNil, gCons, gTup, bLen, bAbs, bMax, bMin, bInt, bTuple, isA, d__law_dice, b__law_dice, hl, ixS, h0, hx, p1, p2, p3, mulOk, fin]
  · simp [runFn, sRet, sSeq, sSet, sAsg, sPar, sPar3, sIf, sExpr, sPass, xV, xC, xBin, xCmp, xCmp2, xNeg, xNot, xAnd, xOr, xIf, xTup, xLst, xIx, xB, xIs, xCall, tV, tNot, tAnd, tOr, tCmp, tCmp2, tYes, aNil, aCons, bin, cmp, dat, tru, ix, at?, I, B, mkTup, allD, mkLst, fin_d, gV, gNil, gCons, gTup, bLen, bAbs, bMax, bMin, bInt, bTuple, isA, d__law_dice, b__law_dice, hl, p1, p2, p3, mulOk, fin]
theorem r_roll (k : Nat) (i : Nat) (S : Store) (a b c many : Int) (h : S[i]? = some (.lst [.int a, .int b, .int c])) (hm : 0 < many) (hm2 : many.natAbs.log2 < 9000) :
    ∃ v a' b' c' : Int, 0 ≤ v ∧ v < many ∧ run (tabOf ds) (k + 1) i__law_roll [.r i, I many] S = .ok (I v) (S.set i (.lst [.int a', .int b', .int c'])) := by
  rw [run_at t__law_roll]
  have hs : ∀ X, (S.set i X)[i]? = some X := fun X => List.getElem?_set_self (List.getElem?_eq_some_iff.mp h).1
  have ht : ∀ X : Store, X.length = S.length → List.take S.length X = X := fun X e => by rw [← e, List.take_length]
  have hd : divOk many = true := by unfold divOk; simp [hm, hm2]
  have hd2 : divOk 65587 = true := by decide
  by_cases ha : 0 < a
  · refine ⟨a % many, a / many, b, c, Int.emod_nonneg _ (by omega), Int.emod_lt_of_pos _ hm, ?_⟩
    simp [runFn, sRet, sSeq, sSet, sAsg, sPar, sPar3, sIf, sExpr, sPass, xV, xC, xBin, xCmp, xCmp2, xNeg, xNot, xAnd, xOr, xIf, xTup, xLst, xIx, xB, xIs, xCall, tV, tNot, tAnd, tOr, tCmp, tCmp2, tYes, aNil, aCons, bin, cmp, dat, tru, ix, at?, I, B, mkTup, allD, mkLst, fin_d, gV, gNil, gCons, gTup, bLen, bAbs, bMax, bMin, bInt, bTuple, isA, d__law_roll, b__law_roll, h, ha, hm, hd, sSetIx, setAt, hs, fin, ht]
  · have m1 : ∀ x : Int, mulOk 49979687 x = true := fun x => by simp [mulOk]
    have m2 : ∀ x : Int, mulOk 131 x = true := fun x => by simp [mulOk]
    have m3 : ∀ x : Int, mulOk x 32452843 = true := fun x => by simp [mulOk]
    have m4 : ∀ x y : Int, mulOk (x % 2305843009213693951) y = true := fun x y => by
      have h1 := Int.emod_nonneg x (show (2305843009213693951 : Int) ≠ 0 by decide)
      have h2 := Int.emod_lt_of_pos x (show (0 : Int) < 2305843009213693951 by decide)
      have h3 : (x % 2305843009213693951).natAbs < 18446744073709551616 := by omega
      simp [mulOk, h3]
    refine ⟨(((b + 49979687 * (c + 1)) % 2305843009213693951 * ((b + 49979687 * (c + 1)) % 2305843009213693951) + 131 * (c + 1)) % 2305843009213693921 * 32452843 + (b + 49979687 * (c + 1)) % 2305843009213693951) / 65587 % many, a, b, c + 1, Int.emod_nonneg _ (by omega), Int.emod_lt_of_pos _ hm, ?_⟩
    simp [runFn, sRet, sSeq, sSet, sAsg, sPar, sPar3, sIf, sExpr, sPass, xV, xC, xBin, xCmp, xCmp2, xNeg, xNot, xAnd, xOr, xIf, xTup, xLst, xIx, xB, xIs, xCall, tV, tNot, tAnd, tOr, tCmp, tCmp2, tYes, aNil, aCons, bin, cmp, dat, tru, ix, at?, I, B, mkTup, allD, mkLst, fin_d, gV, gNil, gCons, gTup, bLen, bAbs, bMax, bMin, bInt, bTuple, isA, d__law_roll, b__law_roll, h, ha, hm, hd, hd2, sSetIx, setAt, hs, fin, ht, m1, m2, m3, m4]
theorem r_pick (k : Nat) (i : Nat) (S : Store) (a b c : Int) (xs : List D) (h : S[i]? = some (.lst [.int a, .int b, .int c])) (hx : xs ≠ []) (hm2 : xs.length < 2 ^ 64) :
    ∃ (x : D) (a' b' c' : Int), x ∈ xs ∧ run (tabOf ds) (k + 2) i__law_pick [.r i, .d (.list xs)] S = .ok (.d x) (S.set i (.lst [.int a', .int b', .int c'])) := by
  have hp : 0 < xs.length := List.length_pos_iff.mpr hx
  obtain ⟨v, a', b', c', h1, h2, e⟩ := r_roll k i S a b c xs.length h (by omega) (by
    have : (xs.length : Int).natAbs = xs.length := by omega
    rw [this]
    have := log_lt hm2 (by decide)
    omega)
  have hv : v.toNat < xs.length := by omega
  refine ⟨xs[v.toNat], a', b', c', List.getElem_mem hv, ?_⟩
  rw [run_at t__law_pick]
  simp [I] at e
  simp [runFn, sRet, sSeq, sSet, sAsg, sPar, sPar3, sIf, sExpr, sPass, xV, xC, xBin, xCmp, xCmp2, xNeg, xNot, xAnd, xOr, xIf, xTup, xLst, xIx, xB, xIs, xCall, tV, tNot, tAnd, tOr, tCmp, tCmp2, tYes, aNil, aCons, bin, cmp, dat, tru, ix, at?, I, B, mkTup, allD, mkLst, fin_d, gV, gNil, gCons, gTup, bLen, bAbs, bMax, bMin, bInt, bTuple, isA, d__law_pick, b__law_pick, e, h1, List.getElem?_eq_getElem hv, fin]

theorem fr_loop (c : Cl) (S : Store) (x0 x1 x4 : Option Vl) : ∀ (n : Nat) (b a : Nat), b < n → wLoop (tCmp .gt (xV 3) (xC (.d (.int 0)))) (sPar 2 3 (xV 3) (xBin .mod false (xV 2) (xV 3))) c n [x0, x1, some (I a), some (I b), x4] S = .nx [x0, x1, some (I (Nat.gcd a b)), some (I 0), x4] S := by
  intro n
  induction n with
  | zero => intro b a h; omega
  | succ n ih =>
    intro b a h
    unfold wLoop
    by_cases h0 : b = 0
    · subst h0; simp [tCmp, xV, xC, I, cmp]
    · have hp : 0 < b := Nat.pos_of_ne_zero h0
      have hp' : (0 : Int) < b := by omega
      have h2 : a % b < n := by
        have := Nat.mod_lt a hp
        omega
      have := ih (a % b) b h2
      rw [show Nat.gcd b (a % b) = Nat.gcd a b from (Nat.gcd_comm _ _).trans ((Nat.gcd_rec b a).symm.trans (Nat.gcd_comm _ _))] at this
      rw [← this]
      simp [tCmp, xV, xC, I, cmp, sPar, xBin, bin, hp, hp']
theorem r_fr (k : Nat) (t b : Int) (n : Nat) (hb : b ≠ 0) (h : b.natAbs < 2 ^ n) (hn : n ≤ 8999) (S : Store) : run (tabOf ds) (k + 1) i__law_fr [I t, I b] S = .ok (.d (fq (Rat.divInt t b))) S := by
  rw [run_at t__law_fr]
  have ha : ∀ i : Int, (if i < 0 then -i else i) = (i.natAbs : Int) := fun i => by split <;> omega
  have hd := gcd_divOk (t := t) hb h hn
  have g1 := fr_num (t := t) hb
  have g2 := fr_den (t := t) hb
  have m1 : ∀ x : Int, mulOk 1 x = true := fun x => by simp [mulOk]
  have m2 : ∀ x : Int, mulOk (-1) x = true := fun x => by simp [mulOk]
  have e := fr_loop ⟨run (tabOf ds) k⟩ S (some (I t)) (some (I b)) none (fuelOf [some (I t), some (I b), some (I t.natAbs), some (I b.natAbs), none]) b.natAbs t.natAbs (by simp [fuelOf, I]; omega)
  have eg : Nat.gcd t.natAbs b.natAbs = Int.gcd t b := rfl
  rw [eg] at e
  simp [I] at e
  by_cases hl : b < 0
  · rw [Int.sign_eq_neg_one_of_neg hl] at g1 g2
    simp [runFn, sRet, sSeq, sSet, sAsg, sPar, sPar3, sIf, sExpr, sPass, xV, xC, xBin, xCmp, xCmp2, xNeg, xNot, xAnd, xOr, xIf, xTup, xLst, xIx, xB, xIs, xCall, tV, tNot, tAnd, tOr, tCmp, tCmp2, tYes, aNil, aCons, bin, cmp, dat, tru, ix, at?, I, B, mkTup, allD, mkLst, fin_d, gV, gNil, gCons, gTup, bLen, bAbs, bMax, bMin, bInt, bTuple, isA, d__law_fr, b__law_fr, sWhile, ha, e, hl, hd, fq, g1, g2, m1, m2]
  · have hs : b.sign = 1 := Int.sign_eq_one_of_pos (by omega)
    rw [hs] at g1 g2
    simp [runFn, sRet, sSeq, sSet, sAsg, sPar, sPar3, sIf, sExpr, sPass, xV, xC, xBin, xCmp, xCmp2, xNeg, xNot, xAnd, xOr, xIf, xTup, xLst, xIx, xB, xIs, xCall, tV, tNot, tAnd, tOr, tCmp, tCmp2, tYes, aNil, aCons, bin, cmp, dat, tru, ix, at?, I, B, mkTup, allD, mkLst, fin_d, gV, gNil, gCons, gTup, bLen, bAbs, bMax, bMin, bInt, bTuple, isA, d__law_fr, b__law_fr, sWhile, ha, e, hl, hd, fq, g1, g2, m1, m2]
theorem r_law_plus (k : Nat) (p q : Rat) (a b : Nat) (hp : Sz a p) (hq : Sz b q) (h : a + b ≤ 8999) (S : Store) : run (tabOf ds) (k + 2) i__law_plus [.d (fq p), .d (fq q)] S = .ok (.d (fq (p + q))) S := by
  rw [run_at t__law_plus]
  have m1 := mulOk_of (i := p.num) (j := q.den) hp.num (by simpa using hq.den) (by omega)
  have m2 := mulOk_of (i := q.num) (j := p.den) hq.num (by simpa using hp.den) (by omega)
  have m3 := mulOk_of (i := p.den) (j := q.den) (by simpa using hp.den) (by simpa using hq.den) (by omega)
  have e := r_fr k (p.num * q.den + q.num * p.den) (p.den * q.den) (a + b) (den_ne p q) (den_sz hp hq) h S
  rw [← add_eq] at e
  simp [I, fq] at e
  simp [runFn, sRet, sSeq, sSet, sAsg, sPar, sPar3, sIf, sExpr, sPass, xV, xC, xBin, xCmp, xCmp2, xNeg, xNot, xAnd, xOr, xIf, xTup, xLst, xIx, xB, xIs, xCall, tV, tNot, tAnd, tOr, tCmp, tCmp2, tYes, aNil, aCons, bin, cmp, dat, tru, ix, at?, I, B, mkTup, allD, mkLst, fin_d, gV, gNil, gCons, gTup, bLen, bAbs, bMax, bMin, bInt, bTuple, isA, d__law_plus, b__law_plus, fq, m1, m2, m3, e]
theorem r_law_minus (k : Nat) (p q : Rat) (a b : Nat) (hp : Sz a p) (hq : Sz b q) (h : a + b ≤ 8999) (S : Store) : run (tabOf ds) (k + 2) i__law_minus [.d (fq p), .d (fq q)] S = .ok (.d (fq (p - q))) S := by
  rw [run_at t__law_minus]
  have m1 := mulOk_of (i := p.num) (j := q.den) hp.num (by simpa using hq.den) (by omega)
  have m2 := mulOk_of (i := q.num) (j := p.den) hq.num (by simpa using hp.den) (by omega)
  have m3 := mulOk_of (i := p.den) (j := q.den) (by simpa using hp.den) (by simpa using hq.den) (by omega)
  have e := r_fr k (p.num * q.den - q.num * p.den) (p.den * q.den) (a + b) (den_ne p q) (den_sz hp hq) h S
  rw [← sub_eq] at e
  simp [I, fq] at e
  simp [runFn, sRet, sSeq, sSet, sAsg, sPar, sPar3, sIf, sExpr, sPass, xV, xC, xBin, xCmp, xCmp2, xNeg, xNot, xAnd, xOr, xIf, xTup, xLst, xIx, xB, xIs, xCall, tV, tNot, tAnd, tOr, tCmp, tCmp2, tYes, aNil, aCons, bin, cmp, dat, tru, ix, at?, I, B, mkTup, allD, mkLst, fin_d, gV, gNil, gCons, gTup, bLen, bAbs, bMax, bMin, bInt, bTuple, isA, d__law_minus, b__law_minus, fq, m1, m2, m3, e]
theorem r_law_times (k : Nat) (p q : Rat) (a b : Nat) (hp : Sz a p) (hq : Sz b q) (h : a + b ≤ 8999) (S : Store) : run (tabOf ds) (k + 2) i__law_times [.d (fq p), .d (fq q)] S = .ok (.d (fq (p * q))) S := by
  rw [run_at t__law_times]
  have m1 := mulOk_of (i := p.num) (j := q.num) hp.num hq.num (by omega)
  have m3 := mulOk_of (i := p.den) (j := q.den) (by simpa using hp.den) (by simpa using hq.den) (by omega)
  have e := r_fr k (p.num * q.num) (p.den * q.den) (a + b) (den_ne p q) (den_sz hp hq) h S
  rw [← mul_eq] at e
  simp [I, fq] at e
  simp [runFn, sRet, sSeq, sSet, sAsg, sPar, sPar3, sIf, sExpr, sPass, xV, xC, xBin, xCmp, xCmp2, xNeg, xNot, xAnd, xOr, xIf, xTup, xLst, xIx, xB, xIs, xCall, tV, tNot, tAnd, tOr, tCmp, tCmp2, tYes, aNil, aCons, bin, cmp, dat, tru, ix, at?, I, B, mkTup, allD, mkLst, fin_d, gV, gNil, gCons, gTup, bLen, bAbs, bMax, bMin, bInt, bTuple, isA, d__law_times, b__law_times, fq, m1, m3, e]
theorem r_integer (k : Nat) (i : Nat) (S : Store) (a b c : Int) (h : S[i]? = some (.lst [.int a, .int b, .int c])) :
    ∃ (v a' b' c' : Int), v ≠ 0 ∧ v.natAbs < 2 ^ 64 ∧ run (tabOf ds) (k + 3) i__law_integer [.r i] S = .ok (I v) (S.set i (.lst [.int a', .int b', .int c'])) := by
  have hl : i < S.length := (List.getElem?_eq_some_iff.mp h).1
  obtain ⟨x, a1, b1, c1, hx, e1⟩ := r_pick k i S a b c [.int 10, .int 10, .int 10, .int 100, .int 1000000, .int 10000000000000000000] h (by simp) (by simp)
  obtain ⟨n, rfl, hn0, hn⟩ : ∃ n : Int, x = .int n ∧ 0 < n ∧ n ≤ 10000000000000000000 := by
    simp at hx
    rcases hx with rfl | rfl | rfl | rfl <;> exact ⟨_, rfl, by decide, by decide⟩
  obtain ⟨v, a2, b2, c2, v0, v1, e2⟩ := r_roll (k + 1) i (S.set i (.lst [.int a1, .int b1, .int c1])) a1 b1 c1 n (set_get hl) hn0 (by
    have h2 : n.natAbs < 2 ^ 64 := by omega
    have := log_lt h2 (by decide)
    omega)
  obtain ⟨y, a3, b3, c3, hy, e3⟩ := r_pick k i (S.set i (.lst [.int a2, .int b2, .int c2])) a2 b2 c2 [.int 1, .int (-1)] (set_get hl) (by simp) (by simp)
  obtain ⟨s, rfl, hs⟩ : ∃ s : Int, y = .int s ∧ (s = 1 ∨ s = -1) := by
    simp at hy
    rcases hy with rfl | rfl <;> exact ⟨_, rfl, by decide⟩
  refine ⟨(1 + v) * s, a3, b3, c3, ?_, ?_, ?_⟩
  · rcases hs with rfl | rfl <;> omega
  · rcases hs with rfl | rfl <;> omega
  · rw [run_at t__law_integer]
    have p1 : powOk 10 6 = true := by decide
    have p2 : powOk 10 19 = true := by decide
    have m1 : mulOk (1 + v) s = true := by
      rcases hs with rfl | rfl <;> simp [mulOk]
    simp [I] at e1 e2 e3
    simp [runFn, sRet, sSeq, sSet, sAsg, sPar, sPar3, sIf, sExpr, sPass, xV, xC, xBin, xCmp, xCmp2, xNeg, xNot, xAnd, xOr, xIf, xTup, xLst, xIx, xB, xIs, xCall, tV, tNot, tAnd, tOr, tCmp, tCmp2, tYes, aNil, aCons, bin, cmp, dat, tru, ix, at?, I, B, mkTup, allD, mkLst, fin_d, gV, gNil, gCons, gTup, bLen, bAbs, bMax, bMin, bInt, bTuple, isA, d__law_integer, b__law_integer, p1, p2, e1, e2, e3, m1]
theorem r_drawn (k : Nat) (i : Nat) (S : Store) (a b c : Int) (h : S[i]? = some (.lst [.int a, .int b, .int c])) :
    ∃ (q : Rat) (a' b' c' : Int), Sz 64 q ∧ run (tabOf ds) (k + 4) i__law_drawn [.r i] S = .ok (.d (fq q)) (S.set i (.lst [.int a', .int b', .int c'])) := by
  have hl : i < S.length := (List.getElem?_eq_some_iff.mp h).1
  obtain ⟨v, a1, b1, c1, v0, v1, e1⟩ := r_roll (k + 2) i S a b c 6 h (by decide) (by decide)
  by_cases hv : v = 0
  · subst hv
    refine ⟨0, a1, b1, c1, ⟨by decide, by decide⟩, ?_⟩
    rw [run_at t__law_drawn]
    simp [I] at e1
    simp [runFn, sRet, sSeq, sSet, sAsg, sPar, sPar3, sIf, sExpr, sPass, xV, xC, xBin, xCmp, xCmp2, xNeg, xNot, xAnd, xOr, xIf, xTup, xLst, xIx, xB, xIs, xCall, tV, tNot, tAnd, tOr, tCmp, tCmp2, tYes, aNil, aCons, bin, cmp, dat, tru, ix, at?, I, B, mkTup, allD, mkLst, fin_d, gV, gNil, gCons, gTup, bLen, bAbs, bMax, bMin, bInt, bTuple, isA, d__law_drawn, b__law_drawn, e1, okD, PyData.plain, PyData.depth, PyData.eqv, fq]
  · obtain ⟨t, a2, b2, c2, t0, t1, e2⟩ := r_integer k i (S.set i (.lst [.int a1, .int b1, .int c1])) a1 b1 c1 (set_get hl)
    obtain ⟨u, a3, b3, c3, u0, u1, e3⟩ := r_integer k i (S.set i (.lst [.int a2, .int b2, .int c2])) a2 b2 c2 (set_get hl)
    have un : ((u.natAbs : Nat) : Int) ≠ 0 := by omega
    have e4 := r_fr (k + 2) t u.natAbs 64 un (by simpa using u1) (by decide) (S.set i (.lst [.int a3, .int b3, .int c3]))
    refine ⟨Rat.divInt t u.natAbs, a3, b3, c3, Sz.divInt un t1 (by simpa using u1), ?_⟩
    rw [run_at t__law_drawn]
    have ha : ∀ i : Int, (if i < 0 then -i else i) = (i.natAbs : Int) := fun i => by split <;> omega
    have hv' : (v == 0) = false := by simpa using hv
    simp [I] at e1 e2 e3 e4
    simp [runFn, sRet, sSeq, sSet, sAsg, sPar, sPar3, sIf, sExpr, sPass, xV, xC, xBin, xCmp, xCmp2, xNeg, xNot, xAnd, xOr, xIf, xTup, xLst, xIx, xB, xIs, xCall, tV, tNot, tAnd, tOr, tCmp, tCmp2, tYes, aNil, aCons, bin, cmp, dat, tru, ix, at?, I, B, mkTup, allD, mkLst, fin_d, gV, gNil, gCons, gTup, bLen, bAbs, bMax, bMin, bInt, bTuple, isA, d__law_drawn, b__law_drawn, e1, hv', e2, e3, e4, ha, okD, PyData.plain, PyData.depth, PyData.eqv]

/-- the drawn row -/
theorem row_loop (k i n : Nat) (γ : Mk.Env) (hγ : γ[0]? = some (some (.r i))) (h11 : 11 < γ.length) : ∀ (ts : List Vl) (S : Store) (out : List D) (a b c : Int), S[i]? = some (.lst [.int a, .int b, .int c]) → S[n]? = some (.lst out) → i ≠ n → out.length + ts.length ≤ LINE →
    ∃ (qs : List Rat) (a' b' c' : Int), qs.length = ts.length ∧ (∀ q ∈ qs, Sz 64 q) ∧ lcLoop (gV 11) tYes (xCall i__law_drawn (aCons (xV 0) aNil) []) ⟨run (tabOf ds) (k + 4)⟩ γ n ts S = .ok () ((S.set i (.lst [.int a', .int b', .int c'])).set n (.lst (out ++ qs.map fq)))
  | [], S, out, a, b, c, h1, h2, _, _ => by
    refine ⟨[], a, b, c, rfl, fun _ z => (nomatch z), ?_⟩
    have e1 : S.set i (.lst [.int a, .int b, .int c]) = S := set_same h1
    rw [e1, List.map_nil, List.append_nil, set_same h2]
    rfl
  | t :: ts, S, out, a, b, c, h1, h2, h3, h4 => by
    rw [List.length_cons] at h4
    have hi : i < S.length := (List.getElem?_eq_some_iff.mp h1).1
    have hn : n < S.length := (List.getElem?_eq_some_iff.mp h2).1
    obtain ⟨q, a1, b1, c1, hq, e1⟩ := r_drawn k i S a b c h1
    have hn2 : (S.set i (.lst [.int a1, .int b1, .int c1]))[n]? = some (.lst out) := by rw [List.getElem?_set_ne h3]; exact h2
    obtain ⟨qs, a2, b2, c2, l, hs, e2⟩ := row_loop k i n γ hγ h11 ts ((S.set i (.lst [.int a1, .int b1, .int c1])).set n (.lst (out ++ [fq q]))) (out ++ [fq q]) a1 b1 c1 (by rw [List.getElem?_set_ne (Ne.symm h3)]; exact set_get hi) (set_get (by simpa using hn)) h3 (by simp; omega)
    refine ⟨q :: qs, a2, b2, c2, by simp [l], fun x hx => by rcases List.mem_cons.mp hx with rfl | hx; exact hq; exact hs x hx, ?_⟩
    unfold lcLoop
    have hg : (γ.set 11 (some t))[0]? = some (some (.r i)) := by rw [List.getElem?_set_ne (by decide)]; exact hγ
    simp [gV, tYes, xCall, aCons, aNil, xV, hg, e1, hn2, show out.length < LINE by omega]
    rw [e2]
    congr 1
    refine List.ext_getElem? fun j => ?_
    by_cases e : j = n
    · subst e
      rw [set_get (by simpa using hn), set_get (by simpa using hn)]
      simp
    · rw [List.getElem?_set_ne (Ne.symm e), List.getElem?_set_ne (Ne.symm e)]
      by_cases e' : j = i
      · subst e'
        rw [set_get (by simpa using hi), set_get (by simpa using hi)]
      · rw [List.getElem?_set_ne (Ne.symm e'), List.getElem?_set_ne (Ne.symm e'), List.getElem?_set_ne (Ne.symm e), List.getElem?_set_ne (Ne.symm e')]
theorem r_row (k i : Nat) (γ : Mk.Env) (hγ : γ[0]? = some (some (.r i))) (h11 : 11 < γ.length) (m : Nat) (hm : m ≤ 1000) (it : TIt) (S S1 : Store) (hit : it ⟨run (tabOf ds) (k + 4)⟩ γ S = .ok (.its (rng 0 m)) S1) (a b c : Int) (h1 : S1[i]? = some (.lst [.int a, .int b, .int c])) :
    ∃ (qs : List Rat) (a' b' c' : Int), qs.length = m ∧ (∀ q ∈ qs, Sz 64 q) ∧ xLc false [11] it (gV 11) tYes (xCall i__law_drawn (aCons (xV 0) aNil) []) ⟨run (tabOf ds) (k + 4)⟩ γ S = .ok (.d (.list (qs.map fq))) (S1.set i (.lst [.int a', .int b', .int c'])) := by
  have hi : i < S1.length := (List.getElem?_eq_some_iff.mp h1).1
  have hγ' : (wipeE γ [11])[0]? = some (some (.r i)) := by
    show (γ.set 11 none)[0]? = _
    rw [List.getElem?_set_ne (by decide)]; exact hγ
  obtain ⟨qs, a', b', c', l, hs, e⟩ := row_loop k i S1.length (wipeE γ [11]) hγ' (by show 11 < (γ.set 11 none).length; simpa using h11) (rng 0 m) (S1 ++ [Ob.lst []] : List Ob) [] a b c (by rw [List.getElem?_append_left hi]; exact h1) (by simp) (by omega) (by rw [rng_len]; unfold LINE; simp; omega)
  refine ⟨qs, a', b', c', by rw [l, rng_len]; simp, hs, ?_⟩
  unfold xLc
  rw [hit]
  have e2 : lcRun (gV 11) tYes (xCall i__law_drawn (aCons (xV 0) aNil) []) ⟨run (tabOf ds) (k + 4)⟩ (wipeE γ [11]) S1.length (.its (rng 0 m)) (S1 ++ [Ob.lst []]) = _ := e
  show lcFin false S1.length (lcRun (gV 11) tYes (xCall i__law_drawn (aCons (xV 0) aNil) []) ⟨run (tabOf ds) (k + 4)⟩ (wipeE γ [11]) S1.length (.its (rng 0 m)) (S1 ++ [Ob.lst []])) = _
  rw [e2]
  unfold lcFin lcEnd
  simp [List.set_append_left _ _ hi]
theorem due_loop (k n : Nat) (S : Store) : ∀ (qs : List Rat) (acc : Rat) (m : Nat) (γ : Mk.Env), (∀ q ∈ qs, Sz n q) → Sz m acc → m + (n + 1) * qs.length + n ≤ 8999 → γ[5]? = some (some (.d (fq acc))) → 9 < γ.length →
    ∃ y, fLoop (gV 9) (sSet 5 (xCall i__law_plus (aCons (xV 5) (aCons (xV 9) aNil)) [])) ⟨run (tabOf ds) (k + 2)⟩ (qs.map fun q => .d (fq q)) γ S = .nx ((γ.set 5 (some (.d (fq (qs.foldl (· + ·) acc))))).set 9 y) S
  | [], acc, m, γ, _, _, _, h5, h9 => ⟨γ[9], by
    have e1 : γ.set 5 (some (.d (fq acc))) = γ := set_same h5
    show RS.nx γ S = _
    rw [List.foldl_nil, e1, set_same (List.getElem?_eq_getElem h9)]⟩
  | q :: qs, acc, m, γ, h1, h2, h3, h5, h9 => by
    rw [List.length_cons, Nat.mul_succ] at h3
    have e1 := r_law_plus k acc q m n h2 (h1 q List.mem_cons_self) (by omega) S
    have g5 : (γ.set 9 (some (.d (fq q))))[5]? = some (some (.d (fq acc))) := by rw [List.getElem?_set_ne (by decide)]; exact h5
    have g9 : (γ.set 9 (some (Vl.d (fq q))))[9]? = some (some (.d (fq q))) := set_get h9
    obtain ⟨y, e⟩ := due_loop k n S qs (acc + q) (m + n + 1) ((γ.set 9 (some (.d (fq q)))).set 5 (some (.d (fq (acc + q))))) (fun x hx => h1 x (List.mem_cons_of_mem _ hx)) (h2.add (h1 q List.mem_cons_self)) (by omega) (set_get (by simp; omega)) (by simpa using h9)
    refine ⟨y, ?_⟩
    rw [List.map_cons]
    unfold fLoop
    simp [gV, sSet, xCall, aCons, aNil, xV, g5, g9, e1]
    rw [e]
    congr 1
    rw [List.set_comm _ _ (show (9 : Nat) ≠ 5 by decide), List.set_comm _ _ (show (9 : Nat) ≠ 5 by decide), List.set_set, List.set_set]
theorem mul_loop (k n : Nat) (S : Store) (q : Rat) (hq : Sz n q) : ∀ (ts : List Vl) (acc : Rat) (m : Nat) (γ : Mk.Env), Sz m acc → m + n * ts.length ≤ 8999 → γ[5]? = some (some (.d (fq acc))) → γ[1]? = some (some (.d (fq q))) → 11 < γ.length →
    ∃ y, fLoop (gV 11) (sSet 5 (xCall i__law_times (aCons (xV 5) (aCons (xV 1) aNil)) [])) ⟨run (tabOf ds) (k + 2)⟩ ts γ S = .nx ((γ.set 5 (some (.d (fq (acc * q ^ ts.length))))).set 11 y) S
  | [], acc, m, γ, _, _, h5, h1, h9 => ⟨γ[11], by
    have e1 : γ.set 5 (some (.d (fq (acc * q ^ 0)))) = γ := set_same (by rw [Rat.pow_zero, Rat.mul_one]; exact h5)
    show RS.nx γ S = _
    rw [List.length_nil, e1, set_same (List.getElem?_eq_getElem h9)]⟩
  | t :: ts, acc, m, γ, h2, h3, h5, h1, h9 => by
    rw [List.length_cons, Nat.mul_succ] at h3
    have e1 := r_law_times k acc q m n h2 hq (by omega) S
    have g5 : (γ.set 11 (some t))[5]? = some (some (.d (fq acc))) := by rw [List.getElem?_set_ne (by decide)]; exact h5
    have g1 : (γ.set 11 (some t))[1]? = some (some (.d (fq q))) := by rw [List.getElem?_set_ne (by decide)]; exact h1
    obtain ⟨y, e⟩ := mul_loop k n S q hq ts (acc * q) (m + n) ((γ.set 11 (some t)).set 5 (some (.d (fq (acc * q))))) (h2.mul hq) (by omega) (set_get (by simp; omega)) (by rw [List.getElem?_set_ne (by decide)]; exact g1) (by simpa using h9)
    refine ⟨y, ?_⟩
    have e2 : acc * q ^ (t :: ts).length = acc * q * q ^ ts.length := by rw [List.length_cons, Rat.pow_succ]; grind
    rw [e2]
    unfold fLoop
    simp [gV, sSet, xCall, aCons, aNil, xV, g5, g1, e1]
    rw [e]
    congr 1
    rw [List.set_comm _ _ (show (11 : Nat) ≠ 5 by decide), List.set_comm _ _ (show (11 : Nat) ≠ 5 by decide), List.set_set, List.set_set]

theorem r_right (k i : Nat) (S : Store) (a b c : Int) (h : S[i]? = some (.lst [.int a, .int b, .int c])) :
    ∃ (a' b' c' : Int), run (tabOf ds) (k + 6) i__law_right [.r i] S = .ok (B true) (S.set i (.lst [.int a', .int b', .int c'])) := by
  have hi : i < S.length := (List.getElem?_eq_some_iff.mp h).1
  obtain ⟨p, a1, b1, c1, hp, d1⟩ := r_drawn (k + 1) i S a b c h
  obtain ⟨q, a2, b2, c2, hq, d2⟩ := r_drawn (k + 1) i (S.set i (.lst [.int a1, .int b1, .int c1])) a1 b1 c1 (set_get hi)
  obtain ⟨r, a3, b3, c3, hr, d3⟩ := r_drawn (k + 1) i (S.set i (.lst [.int a2, .int b2, .int c2])) a2 b2 c2 (set_get hi)
  simp at d2 d3
  obtain ⟨x4, hx4⟩ : ∃ x4 : D, x4 = .list [fq (p + q), fq (p - q), fq (p * q), fq p] := ⟨_, rfl⟩
  obtain ⟨x5, hx5⟩ : ∃ x5 : Option Vl, x5 = if q = 0 then none else some (.d (fq (p / q))) := ⟨_, rfl⟩
  -- the drawn row
  obtain ⟨v, a4, b4, c4, v0, v1, d4⟩ := r_roll (k + 4) i (S.set i (.lst [.int a3, .int b3, .int c3])) a3 b3 c3 6 (set_get hi) (by decide) (by decide)
  obtain ⟨m, rfl⟩ := Int.eq_ofNat_of_zero_le v0
  simp [I] at d4
  obtain ⟨qs, a5, b5, c5, lq, hqs, d5⟩ := r_row (k + 1) i [some (.r i), some (.d (fq p)), some (.d (fq q)), some (.d (fq r)), some (.d x4), x5, some (I (p.num * q.den)), some (I (q.num * p.den)), none, none, none, none, none, none] rfl (by simp) m (by omega) (iRng1 (xCall i__law_roll (aCons (xV 0) (aCons (xC (.d (.int 6))) aNil)) [])) (S.set i (.lst [.int a3, .int b3, .int c3])) (S.set i (.lst [.int a4, .int b4, .int c4])) (by
    have hg : rngOk (m : Int) = true := rngOk_nat (by omega)
    simp [iRng1, xCall, aCons, aNil, xV, xC, d4, hg]) a4 b4 c4 (set_get hi)
  obtain ⟨y, d6⟩ := due_loop (k + 3) 64 (S.set i (.lst [.int a5, .int b5, .int c5])) qs 0 1 [some (.r i), some (.d (fq p)), some (.d (fq q)), some (.d (fq r)), some (.d x4), some (.d (fq 0)), some (I (p.num * q.den)), some (I (q.num * p.den)), some (.d (.list (qs.map fq))), none, none, none, none, none] hqs Sz.zero (by omega) rfl (by simp)
  have t1 := r_total k 64 qs hqs (by omega) (S.set i (.lst [.int a5, .int b5, .int c5]))
  have t2 := r_total k 64 qs.reverse (fun x hx => hqs x (List.mem_reverse.mp hx)) (by rw [List.length_reverse]; omega) (S.set i (.lst [.int a5, .int b5, .int c5]))
  rw [sumQ_reverse, List.map_reverse] at t2
  -- the powers
  obtain ⟨v', a7, b7, c7, v0', v1', d7⟩ := r_roll (k + 4) i (S.set i (.lst [.int a5, .int b5, .int c5])) a5 b5 c5 7 (set_get hi) (by decide) (by decide)
  obtain ⟨m2, rfl⟩ := Int.eq_ofNat_of_zero_le v0'
  obtain ⟨y2, d8⟩ := mul_loop (k + 3) 64 (S.set i (.lst [.int a7, .int b7, .int c7])) p hp (rng 0 m2) 1 1 [some (.r i), some (.d (fq p)), some (.d (fq q)), some (.d (fq r)), some (.d x4), some (.d (fq 1)), some (I (p.num * q.den)), some (I (q.num * p.den)), some (.d (.list (qs.map fq))), y, some (I m2), none, none, none] Sz.one (by rw [rng_len]; simp; omega) rfl rfl (by simp)
  rw [rng_len, Rat.one_mul] at d8
  have w1 := r_power (k + 1) 64 p m2 hp (by omega) (by omega) (S.set i (.lst [.int a7, .int b7, .int c7]))
  have w2 := r_power (k + 1) 64 p 0 hp (by omega) (by omega) (S.set i (.lst [.int a7, .int b7, .int c7]))
  -- the last draws
  obtain ⟨t, a8, b8, c8, t0, tz, d9⟩ := r_integer (k + 2) i (S.set i (.lst [.int a7, .int b7, .int c7])) a7 b7 c7 (set_get hi)
  obtain ⟨z, a9, b9, c9, hz, d10⟩ := r_pick (k + 3) i (S.set i (.lst [.int a8, .int b8, .int c8])) a8 b8 c8 [.int 0, .int t] (set_get hi) (by simp) (by simp)
  obtain ⟨top, rfl, htop⟩ : ∃ s : Int, z = .int s ∧ s.natAbs < 2 ^ 64 := by
    simp at hz
    rcases hz with rfl | rfl
    · exact ⟨0, rfl, by decide⟩
    · exact ⟨t, rfl, tz⟩
  obtain ⟨u, a10, b10, c10, u0, uz, d11⟩ := r_integer (k + 2) i (S.set i (.lst [.int a9, .int b9, .int c9])) a9 b9 c9 (set_get hi)
  have n1 := r_number (k + 2) top u (Nat.lt_trans htop (by decide)) (Nat.lt_trans uz (by decide)) u0 (S.set i (.lst [.int a10, .int b10, .int c10]))
  have n2 := r_number (k + 2) top 1 (Nat.lt_trans htop (by decide)) (by decide) (by decide) (S.set i (.lst [.int a10, .int b10, .int c10]))
  have n3 := r_fr (k + 4) top u 64 u0 uz (by decide) (S.set i (.lst [.int a10, .int b10, .int c10]))
  have g1 := fr_num (t := top) (b := 1) (by decide)
  have g2 := fr_den (t := top) (b := 1) (by decide)
  have n4 : fq (Rat.divInt top 1) = .tuple [.int top, .int 1] := by simp at g1 g2; simp [fq, g1, g2]
  rw [n4] at n2
  have n5 : reprOk (.tuple [.int top, .int 1]) = true := by
    rw [← n4]
    exact (Wd.fq (Sz.divInt (n := 64) (by decide) htop (by decide)) (by decide) (by decide)).ok (by decide) (by decide)
  refine ⟨a10, b10, c10, ?_⟩
  -- the sums
  have e1 := fun S => r_plus (k + 1) p q 64 64 hp hq (by decide) S
  have e2 := fun S => r_minus (k + 1) p q 64 64 hp hq (by decide) S
  have e3 := fun S => r_times (k + 1) p q 64 64 hp hq (by decide) S
  have e4 := fun S => r_plus (k + 1) (p - q) q 129 64 (hp.sub hq) hq (by decide) S
  rw [Rat.sub_add_cancel] at e4
  have f1 := fun S => r_law_plus (k + 3) p q 64 64 hp hq (by decide) S
  have f2 := fun S => r_law_minus (k + 3) p q 64 64 hp hq (by decide) S
  have f3 := fun S => r_law_times (k + 3) p q 64 64 hp hq (by decide) S
  have o1 : reprOk x4 = true := by
    subst hx4
    refine (Wd.list (w := 281) (k := 2) fun d hd => ?_).ok (by simp [LINE]) (by decide)
    simp at hd
    rcases hd with rfl | rfl | rfl | rfl
    · exact (Wd.fq (hp.add hq) (by decide) (by decide)).mono (by decide) (by decide)
    · exact (Wd.fq (hp.sub hq) (by decide) (by decide)).mono (by decide) (by decide)
    · exact (Wd.fq (hp.mul hq) (by decide) (by decide)).mono (by decide) (by decide)
    · exact (Wd.fq hp (by decide) (by decide)).mono (by decide) (by decide)
  have s1 := fun S => r_compared (k + 1) p q 64 64 hp hq (by decide) S
  have s2 := fun S => r_compared (k + 1) p p 64 64 hp hp (by decide) S
  have h1 := fun S => r_times (k + 1) (p + q) r 129 64 (hp.add hq) hr (by decide) S
  have h2 := fun S => r_times (k + 1) p r 64 64 hp hr (by decide) S
  have h3 := fun S => r_times (k + 1) q r 64 64 hq hr (by decide) S
  have h4 := fun S => r_plus (k + 1) (p * r) (q * r) 128 128 (hp.mul hr) (hq.mul hr) (by decide) S
  rw [Rat.add_mul] at h1
  have pd : (p.den : Int).natAbs < 2 ^ 64 := hp.den
  have qd : (q.den : Int).natAbs < 2 ^ 64 := hq.den
  have j1 := mulOk_of (i := p.num) (j := q.den) hp.num qd (by decide)
  have j2 := mulOk_of (i := q.num) (j := p.den) hq.num pd (by decide)
  have j3 := mulOk_of (i := (p.den : Int)) (j := q.num) pd hq.num (by decide)
  have l1 : (q.num * p.den < p.num * q.den) ↔ q < p := (Rat.lt_iff q p).symm
  have l2 : (p.num * q.den < q.num * p.den) ↔ p < q := (Rat.lt_iff p q).symm
  have k1 : cmpQ p q = (if q < p then 1 else 0) - (if p < q then 1 else 0) := rfl
  have k2 : cmpQ p p = 0 := by unfold cmpQ; simp [Rat.lt_irrefl]
  have i0 : PyData.tuple [.int 0, .int 1] = fq 0 := rfl
  have i1 : PyData.tuple [.int 1, .int 1] = fq 1 := rfl
  have ix0 : ∀ x : Rat, ix (.d (fq x)) (.d (.int 0)) = fun S => .ok (.d (.int x.num)) S := fun x => by funext S; simp [ix, fq, dat, at?]
  have ix1 : ∀ x : Rat, ix (.d (fq x)) (.d (.int 1)) = fun S => .ok (.d (.int x.den)) S := fun x => by funext S; simp [ix, fq, dat, at?]
  have oi : ∀ i : Int, okD (.int i) = true := fun i => by simp [okD, PyData.plain, PyData.depth]
  have os : ∀ s : Str, okD (.str s) = true := fun s => by simp [okD, PyData.plain, PyData.depth]
  have ei : ∀ i j : Int, PyData.eqv (.int i) (.int j) = (i == j) := fun i j => rfl
  have es : ∀ i j : Str, PyData.eqv (.str i) (.str j) = (i == j) := fun i j => rfl
  simp [I] at d4 d6 d7 d8 d9 d10 d11 w1 w2 n1 n2 n3 s1 s2
  rw [run_at t__law_right]
  have o1' : reprOk (.list [fq (p + q), fq (p - q), fq (p * q), fq p]) = true := hx4 ▸ o1
  subst hx4
  simp [I] at d5
  have cm : List.map (Vl.d ∘ fq) qs = qs.map fun q => Vl.d (fq q) := rfl
  have hr7 : rngOk (m2 : Int) = true := rngOk_nat (by omega)
  by_cases hz0 : q = 0
  · rw [if_pos hz0] at hx5
    subst hx5
    have q0 : (q.num == 0) = true := by simp [hz0]
    simp [runFn, sRet, sSeq, sSet, sAsg, sPar, sPar3, sIf, sExpr, sPass, xV, xC, xBin, xCmp, xCmp2, xNeg, xNot, xAnd, xOr, xIf, xTup, xLst, xIx, xB, xIs, xCall, tV, tNot, tAnd, tOr, tCmp, tCmp2, tYes, aNil, aCons, bin, cmp, dat, tru, I, B, mkTup, allD, mkLst, fin_d, gV, gNil, gCons, gTup, bLen, bAbs, bMax, bMin, bInt, bTuple, isA, d__law_right, b__law_right, sFor, iV, iRng1, bRepr, d1, d2, d3, d4, d5, d6, d7, d8, d9, d10, d11, o1', e1, e2, e3, e4, f1, f2, f3, s1, s2, h1, h2, h3, h4, t1, t2, w1, w2, n1, n2, n3, n4, n5, k1, k2, l1, l2, i0, i1, ix0, ix1, q0, oi, os, ei, es, okD_fq, eqv_fq, j1, j2, j3, hr7, cm, sumQ, xRev]
  · rw [if_neg hz0] at hx5
    subst hx5
    have q0 : (q.num == 0) = false := by simpa using num_ne hz0
    have m1 := fun S => r_over (k + 1) p q 64 64 hp hq (by decide) hz0 S
    have m2 := fun S => r_times (k + 1) (p / q) q 128 64 (hp.div hq hz0) hq (by decide) S
    rw [Rat.div_mul_cancel hz0] at m2
    have m3 := fun S => r_fr (k + 4) (p.num * q.den) (p.den * q.num) 128 (div_ne p hz0) (div_sz2 hp hq) (by decide) S
    rw [← div_eq] at m3
    have m4 : reprOk (fq (p / q)) = true := (Wd.fq (hp.div hq hz0) (by decide) (by decide)).ok (by decide) (by decide)
    simp [I] at m3
    simp [runFn, sRet, sSeq, sSet, sAsg, sPar, sPar3, sIf, sExpr, sPass, xV, xC, xBin, xCmp, xCmp2, xNeg, xNot, xAnd, xOr, xIf, xTup, xLst, xIx, xB, xIs, xCall, tV, tNot, tAnd, tOr, tCmp, tCmp2, tYes, aNil, aCons, bin, cmp, dat, tru, I, B, mkTup, allD, mkLst, fin_d, gV, gNil, gCons, gTup, bLen, bAbs, bMax, bMin, bInt, bTuple, isA, d__law_right, b__law_right, sFor, iV, iRng1, bRepr, d1, d2, d3, d4, d5, d6, d7, d8, d9, d10, d11, o1', e1, e2, e3, e4, f1, f2, f3, s1, s2, h1, h2, h3, h4, t1, t2, w1, w2, n1, n2, n3, n4, n5, k1, k2, l1, l2, i0, i1, ix0, ix1, q0, oi, os, ei, es, okD_fq, eqv_fq, j1, j2, j3, hr7, cm, sumQ, xRev, m1, m2, m3, m4]

theorem inner_loop (k j : Nat) : ∀ (ts : List Vl) (x0 x1 x3 x4 x5 : Option Vl) (S : Store) (a b c : Int), S[j]? = some (.lst [.int a, .int b, .int c]) →
    ∃ (y : Option Vl) (S' : Store), fLoop (gV 3) (sIf (tNot (tV (xCall i__law_right (aCons (xV 2) aNil) []))) (sRet (xC (.d (.bool false)))) sPass) ⟨run (tabOf ds) (k + 6)⟩ ts [x0, x1, some (.r j), x3, x4, x5] S = .nx [x0, x1, some (.r j), y, x4, x5] S'
  | [], x0, x1, x3, x4, x5, S, a, b, c, _ => ⟨x3, S, rfl⟩
  | t :: ts, x0, x1, x3, x4, x5, S, a, b, c, h => by
    obtain ⟨a', b', c', e⟩ := r_right k j S a b c h
    obtain ⟨y, S', e2⟩ := inner_loop k j ts x0 x1 (some t) x4 x5 (S.set j (.lst [.int a', .int b', .int c'])) a' b' c' (set_get (List.getElem?_eq_some_iff.mp h).1)
    refine ⟨y, S', ?_⟩
    unfold fLoop
    simp [runFn, sRet, sSeq, sSet, sAsg, sPar, sPar3, sIf, sExpr, sPass, xV, xC, xBin, xCmp, xCmp2, xNeg, xNot, xAnd, xOr, xIf, xTup, xLst, xIx, xB, xIs, xCall, tV, tNot, tAnd, tOr, tCmp, tCmp2, tYes, aNil, aCons, bin, cmp, dat, tru, ix, at?, I, B, mkTup, allD, mkLst, fin_d, gV, gNil, gCons, gTup, bLen, bAbs, bMax, bMin, bInt, bTuple, isA, e, e2]
theorem outer_loop (k : Nat) (ns : List Int) : ∀ (ts : List Vl) (x1 x2 x3 x4 x5 : Option Vl) (S : Store), (∀ t ∈ ts, ∃ v : Int, t = I v ∧ 0 ≤ v) →
    ∃ (y1 y2 y3 : Option Vl) (S' : Store), fLoop (gV 1) (sSeq (sSet 2 (xCall i__law_dice (aCons (xV 0) (aCons (xV 1) aNil)) [])) (sFor (iRng1 (xC (.d (.int 3)))) (gV 3) (sIf (tNot (tV (xCall i__law_right (aCons (xV 2) aNil) []))) (sRet (xC (.d (.bool false)))) sPass))) ⟨run (tabOf ds) (k + 6)⟩ ts [some (.sc (ns.map .int)), x1, x2, x3, x4, x5] S = .nx [some (.sc (ns.map .int)), y1, y2, y3, x4, x5] S'
  | [], x1, x2, x3, x4, x5, S, _ => ⟨x1, x2, x3, S, rfl⟩
  | t :: ts, x1, x2, x3, x4, x5, S, h => by
    obtain ⟨v, rfl, hv⟩ := h t List.mem_cons_self
    obtain ⟨a, b, c, e⟩ := r_dice (k + 5) ns v hv S
    obtain ⟨y, S', e2⟩ := inner_loop k S.length (rng 0 3) (some (.sc (ns.map .int))) (some (I v)) x3 x4 x5 (S ++ [.lst [.int a, .int b, .int c]]) a b c (by simp)
    obtain ⟨y1, y2, y3, S2, e3⟩ := outer_loop k ns ts (some (I v)) (some (.r S.length)) y x4 x5 S' fun t ht => h t (List.mem_cons_of_mem _ ht)
    refine ⟨y1, y2, y3, S2, ?_⟩
    have hr : rngOk 3 = true := by decide
    unfold fLoop
    simp [I] at e e2 e3
    simp [runFn, sRet, sSeq, sSet, sAsg, sPar, sPar3, sIf, sExpr, sPass, xV, xC, xBin, xCmp, xCmp2, xNeg, xNot, xAnd, xOr, xIf, xTup, xLst, xIx, xB, xIs, xCall, tV, tNot, tAnd, tOr, tCmp, tCmp2, tYes, aNil, aCons, bin, cmp, dat, tru, ix, at?, I, B, mkTup, allD, mkLst, fin_d, gV, gNil, gCons, gTup, bLen, bAbs, bMax, bMin, bInt, bTuple, isA, sFor, iRng1, hr, e, e2, e3]
def G : Rat := { num := 1000000000000000000000000000000000000000000000000000000000001, den := 100000000000000000000000000000000000000000000000000000000003, den_nz := by decide, reduced := by decide +kernel }
def T3 : Rat := { num := 1, den := 3, den_nz := by decide, reduced := by decide }
def H2 : Rat := { num := -1, den := 2, den_nz := by decide, reduced := by decide }
def H3 : Rat := { num := -1, den := 3, den_nz := by decide, reduced := by decide }
def lvl : Nat := 20
theorem hrun (ns : List Int) (_ : ns.length ≤ 63) : ∃ S, Mk.run (tabOf ds) lvl i_law [.sc (ns.map .int)] [] = .ok (B true) S := by
  show ∃ S, Mk.run (tabOf ds) (13 + 6 + 1) i_law [.sc (ns.map .int)] [] = .ok (B true) S
  rw [run_at t_law]
  have hm : ∃ m : Nat, m ≤ 6 ∧ (if (if (ns.length : Int) < 6 then (ns.length : Int) else 6) > 1 then (if (ns.length : Int) < 6 then (ns.length : Int) else 6) else 1) = (m : Int) := by
    by_cases h : (ns.length : Int) < 6
    · rw [if_pos h]
      by_cases h1 : (ns.length : Int) > 1
      · exact ⟨ns.length, by omega, by rw [if_pos h1]⟩
      · exact ⟨1, by omega, by rw [if_neg h1]; rfl⟩
    · rw [if_neg h]
      exact ⟨6, by omega, rfl⟩
  obtain ⟨m, hm6, hm⟩ := hm
  obtain ⟨y1, y2, y3, S, e⟩ := outer_loop 13 ns (rng 0 m) none none none none none [] fun t ht => by
    unfold rng at ht
    obtain ⟨x, _, rfl⟩ := List.mem_map.mp ht
    exact ⟨_, rfl, by omega⟩
  have hr : rngOk (m : Int) = true := rngOk_nat (by omega)
  have sG : Sz 210 G := ⟨by decide +kernel, by decide +kernel⟩
  have sT : Sz 2 T3 := ⟨by decide, by decide⟩
  have sH : Sz 2 H2 := ⟨by decide, by decide⟩
  have sH3 : Sz 2 H3 := ⟨by decide, by decide⟩
  have a1 := r_plus 15 G T3 210 2 sG sT (by decide) S
  have a2 := r_law_plus 17 G T3 210 2 sG sT (by decide) S
  have a3 := r_power 15 2 H2 60 sH (by decide) (by decide) S
  have a4 := r_number 16 1000000000000000000000000000000000000000 (-1000000000000000000000000000000000000000) (by decide +kernel) (by decide +kernel) (by decide) S
  have a5 := r_number 16 (-6) 4 (by decide) (by decide) (by decide) S
  have a6 := r_total 14 1 [] (fun _ z => nomatch z) (by decide) S
  have a7 := r_compared 15 H2 H3 2 2 sH sH3 (by decide) S
  have b3n : (H2 ^ 60).num = 1 := by decide +kernel
  have b3d : ((H2 ^ 60).den : Int) = 1152921504606846976 := by decide +kernel
  have b3 : fq (H2 ^ 60) = .tuple [.int 1, .int 1152921504606846976] := by simp only [fq, b3n, b3d]
  have b4n : (Rat.divInt 1000000000000000000000000000000000000000 (-1000000000000000000000000000000000000000)).num = -1 := by decide +kernel
  have b4d : ((Rat.divInt 1000000000000000000000000000000000000000 (-1000000000000000000000000000000000000000)).den : Int) = 1 := by decide +kernel
  have b4 : fq (Rat.divInt 1000000000000000000000000000000000000000 (-1000000000000000000000000000000000000000)) = .tuple [.int (-1), .int 1] := by simp only [fq, b4n, b4d]
  have b5n : (Rat.divInt (-6) 4).num = -3 := by decide +kernel
  have b5d : ((Rat.divInt (-6) 4).den : Int) = 2 := by decide +kernel
  have b5 : fq (Rat.divInt (-6) 4) = .tuple [.int (-3), .int 2] := by simp only [fq, b5n, b5d]
  have b6 : fq (sumQ []) = .tuple [.int 0, .int 1] := rfl
  have b7 : cmpQ H2 H3 = -1 := by decide +kernel
  have gG : fq G = .tuple [.int 1000000000000000000000000000000000000000000000000000000000001, .int 100000000000000000000000000000000000000000000000000000000003] := rfl
  have gT : fq T3 = .tuple [.int 1, .int 3] := rfl
  have gH : fq H2 = .tuple [.int (-1), .int 2] := rfl
  have gH3 : fq H3 = .tuple [.int (-1), .int 3] := rfl
  rw [gG, gT] at a1 a2
  rw [gH, b3] at a3
  rw [b4] at a4
  rw [b5] at a5
  rw [b6, List.map_nil] at a6
  rw [gH, gH3, b7] at a7
  have p1 : powOk 10 60 = true := by decide
  have p2 : powOk 10 59 = true := by decide
  have p3 : powOk 10 39 = true := by decide
  have oq := okD_fq (G + T3)
  unfold okD at oq
  simp only [Bool.and_eq_true, decide_eq_true_eq] at oq
  have eq := eqv_fq (G + T3) (G + T3)
  simp [I] at a3 a4 a5 a7 e
  refine ⟨[], ?_⟩
  simp [runFn, sRet, sSeq, sSet, sAsg, sPar, sPar3, sIf, sExpr, sPass, xV, xC, xBin, xCmp, xCmp2, xNeg, xNot, xAnd, xOr, xIf, xTup, xLst, xIx, xB, xIs, xCall, tV, tNot, tAnd, tOr, tCmp, tCmp2, tYes, aNil, aCons, bin, cmp, dat, tru, ix, at?, I, B, mkTup, allD, mkLst, fin_d, gV, gNil, gCons, gTup, bLen, bAbs, bMax, bMin, bInt, bTuple, isA, d_law, b_law, sFor, iRng1, hm, hr, e, a1, a2, a3, a4, a5, a6, a7, p1, p2, p3, oq, eq, okD, PyData.plain, PyData.plainAll, PyData.depth, PyData.depthAll, PyData.eqv, PyData.eqvAll, LINE]

end K21
open PySem PySem.W PySem.Calls PyProof.Rows
theorem PySem.Challenge.cw_makesmore_k21_whole_numbers_holds : PySem.Challenge.rw_makesmore_k21_whole_numbers.Holds := by
  w_on; o_law
  refine HandSHeadRun.head_any (r := OpenLaw.row PySem.Challenge.rw_makesmore_k21_whole_numbers) (q := view (OpenLaw.row PySem.Challenge.rw_makesmore_k21_whole_numbers).prog [40]) (H := K21.hk) (ob := K21.ob) (M := 4000) (loose := K21.loose) (d := HandSHeadRun.topDef (OpenLaw.row PySem.Challenge.rw_makesmore_k21_whole_numbers).prog 40) (kwd := []) K21.ob_eq
    (by kernel_rfl) (fun s => by kernel_rfl) K21.headrun (by kernel_rfl) (by kernel_rfl) (by kernel_rfl) (by rfl) (by first | assumption | decide +kernel) (by decide +kernel) ⟨rfl, rfl, rfl, rfl, rfl, by decide +kernel⟩ ?hw ?hc
  case hw => w_witness2
  case hc =>
    exact Mk.law_of (l := PySem.Challenge.rw_makesmore_k21_whole_numbers) (k := K21.lvl) (iL := K21.i_law) (ds := K21.ds) (cs := K21.cs) (fr := K21.fr) (fa := K21.fa) (dL := K21.d_law) (m := 30) (n := 20) (fun w h y => y) rfl (by kernel_rfl) ⟨rfl, by decide, by decide⟩ (by kernel_rfl) rfl rfl rfl
      (fun _ _ _ _ _ _ us hl => match us, hl with | [_], _ => rfl) K21.h1 K21.h2 K21.hok K21.hcs K21.hbd K21.hb K21.hrun
