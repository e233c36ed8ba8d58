import PyProof.Rows.All
import KE.DataEq
import KE.DataIsa
import PyProof.ReprReads
import Wide.All
import OpenK.AllK
import Wide.FinOn
import PyProof.EqAt
import PyProof.EqKinds
import PyProof.TupleCall
import KE.DataAny
import HandS.ForMost
import HandS.ForExc
import HandS.TupAny
import HandS.TupMul
import HandS.Wide
import HandS.Flow
import HandS.Zip
import HandS.Style
import HandS.IsInst
import HandS.Defaults
import HandS.WordsExc
import HandS.Lambda
import HandS.WordsDict
import HandS.Small
import HandS.Star
import HandS.Conv
import HandS.SortInts
import HandS.DictComp
import PyProof.DictUpdate
import PyProof.ListMulRoad
import PyProof.FactsAll.tuple_2
import HandS.Ends
import PyProof.CallFns
import HandS.Iter
import KE.GoesEnum
import KE.KLam
import HandS.Dict
import HandS.TryMany
import HandS.ExcField
import KE.KSuper
import KE.KExcSuper
import KE.KExcInit
import HandS.ExcInit
import HandS.ExcSuper
import HandS.FStr
import PyProof.FString2
import PyProof.FString4
import PyProof.ReprRoads
import HandS.ExcValue
import HandS.ExcOwn
import PyProof.ExcBaseAll.IndexError
import PyProof.ExcBaseAll.LookupError
import PyProof.ExcBaseAll.ArithmeticError
import PyProof.ExcBaseAll.OverflowError
import PyProof.ExcBaseAll.ValueError
import PyProof.InstStoreFacts
import HandS.Head0
import HandS.Head1
import HandS.Head2
import HandS.HeadEnd
import HandS.HeadHook1
import HandS.HeadHook2
import KE.KStateDown
import KE.KNest
import KE.KNestM
import HandS.More
import HandS.EndTab
import PyProof.ReprLen
import PyProof.FitsInt
import Lean
import PySem.Challenge.RW_makesmore_k38_errors_of_who_needs_whom
set_option autoImplicit false
set_option Elab.async false
set_option linter.all false
set_option maxRecDepth 100000
set_option maxHeartbeats 0
/-! Mk1: values, store, the evaluator's combinators. -/
namespace Mk
open PySem (PyData Str)
abbrev D := PyData
/-- a lambda's text, without parameters; caps: the names it captures -/
structure LamT where
  qual : Str
  body : PySem.Expr
  scope : PySem.Scope
  caps : List Str

/-- a value: data; the script (a list that is only read); the i-th object of the store; a def; a tuple that holds no mere data; a lambda made by this very frame; a lambda with what it captured; a list that doesn't change and holds no mere data; a caught error -/
inductive Vl where
  | d (x : D)
  | sc (xs : List D)
  | r (i : Nat)
  | fn (f : Nat)
  | tv (xs : List Vl)
  | co (l : LamT)
  | cv (l : LamT) (vals : List Vl)
  | lv (xs : List Vl)
  | ex (k : Nat) (x : D)
/-- an object that may change -/
inductive Ob where
  | lst (xs : List D)
  | dct (kvs : List (D × D))
/-- an object as data -/
@[simp] def obD : Ob → D
  | .lst xs => .list xs
  | .dct kvs => .dict kvs
abbrev Store := List Ob
abbrev Env := List (Option Vl)
inductive R (α : Type) where
  | ok (a : α) (S : Store)
  | er (c : Nat) (x : D) (S : Store)
  | stuck
inductive RS where
  | nx (γ : Env) (S : Store)
  | rt (v : Vl) (S : Store)
  | bk (γ : Env) (S : Store)
  | ct (γ : Env) (S : Store)
  | er (c : Nat) (x : D) (γ : Env) (S : Store)
  | stuck
structure Cl where
  call : Nat → List Vl → Store → R Vl
  lam : LamT → List Vl → Store → R Vl
abbrev TEx := Cl → Env → Store → R Vl
abbrev TTs := Cl → Env → Store → R Bool
abbrev TSt := Cl → Env → Store → RS
abbrev TAr := Cl → Env → Store → R (List Vl)

def R.bind {α β : Type} (m : R α) (f : α → Store → R β) : R β := match m with
  | .ok a S => f a S
  | .er c x S => .er c x S
  | .stuck => .stuck
/-- an expression's outcome goes on as a statement -/
def R.next {α : Type} (m : R α) (γ : Env) (f : α → Store → RS) : RS := match m with
  | .ok a S => f a S
  | .er c x S => .er c x γ S
  | .stuck => .stuck

/-! ### data -/
def I (i : Int) : Vl := .d (.int i)
def B (b : Bool) : Vl := .d (.bool b)
def LINE : Nat := 16777216
/-- all are data -/
def allD : List Vl → Option (List D)
  | [] => some []
  | .d x :: r => match allD r with
    | some xs => some (x :: xs)
    | none => none
  | _ :: _ => none
/-- a tuple of values -/
def mkTup (xs : List Vl) : Vl := match allD xs with
  | some ds => .d (.tuple ds)
  | none => .tv xs
/-- a new list: data, or an object of the store (m) -/
def mkLst (m : Bool) (xs : List D) (S : Store) : R Vl := match m with
  | true => .ok (.r S.length) (S ++ [.lst xs])
  | false => .ok (.d (.list xs)) S
/-- what is held now: data as it stands -/
def dat (S : Store) : Vl → Option D
  | .d x => some x
  | .r i => match S[i]? with
    | some (.lst xs) => some (.list xs)
    | _ => none
  | _ => none
/-! ### dicts: keys are ints and texts -/
def isK : D → Bool
  | .int _ => true
  | .str _ => true
  | _ => false
def eqK : D → D → Bool
  | .int i, .int j => decide (i = j)
  | .str a, .str b => decide (a = b)
  | _, _ => false
def getK : List (D × D) → D → Option D
  | [], _ => none
  | (k, v) :: r, x => if eqK k x then some v else getK r x
def replK : List (D × D) → D → D → List (D × D)
  | [], _, _ => []
  | (k, v) :: r, x, y => (if eqK k x then (k, y) else (k, v)) :: replK r x y
def putD (kvs : List (D × D)) (x y : D) : List (D × D) := if (getK kvs x).isSome then replK kvs x y else kvs ++ [(x, y)]
def mergeD (kvs more : List (D × D)) : List (D × D) := more.foldl (fun acc kv => putD acc kv.1 kv.2) kvs
/-- what a dict holds now -/
def dko (S : Store) : Vl → Option (List (D × D))
  | .d (.dict kvs) => some kvs
  | .r i => match S[i]? with
    | some (.dct kvs) => some kvs
    | _ => none
  | _ => none
/-- a new dict: data, or an object of the store (m) -/
def mkDct (m : Bool) (kvs : List (D × D)) (S : Store) : R Vl := match m with
  | true => .ok (.r S.length) (S ++ [.dct kvs])
  | false => .ok (.d (.dict kvs)) S
/-- a key of a dict -/
def inD (x y : Vl) (S : Store) : Option Bool := match dko S y, x with
  | some kvs, .d k => if isK k then some (getK kvs k).isSome else none
  | _, _ => none
def okD (x : D) : Bool := x.plain && decide (x.depth ≤ 60)

/-- a list's items, a tuple's -/
def lit (S : Store) : Vl → Option (List Vl)
  | .d (.list xs) => some (xs.map .d)
  | .r i => match S[i]? with
    | some (.lst xs) => some (xs.map .d)
    | _ => none
  | .lv xs => some xs
  | _ => none
def tit : Vl → Option (List Vl)
  | .d (.tuple xs) => some (xs.map .d)
  | .tv xs => some xs
  | _ => none
/-! ### lambdas: what was captured -/
mutual
/-- nothing of this very frame -/
def flat : Vl → Bool
  | .co _ => false
  | .ex _ _ => false
  | .tv xs => flats xs
  | .lv xs => flats xs
  | .cv _ xs => flats xs
  | _ => true
def flats : List Vl → Bool
  | [] => true
  | x :: xs => flat x && flats xs
end
mutual
/-- lambdas of this frame become lambdas with what they captured -/
def clsV (cp : LamT → Option (List Vl)) : Vl → Option Vl
  | .co l => match cp l with
    | some vs => some (.cv l vs)
    | none => none
  | .ex _ _ => none
  | .tv xs => match clsVs cp xs with
    | some ys => some (.tv ys)
    | none => none
  | .lv xs => match clsVs cp xs with
    | some ys => some (.lv ys)
    | none => none
  | .d x => some (.d x)
  | .sc xs => some (.sc xs)
  | .r i => some (.r i)
  | .fn f => some (.fn f)
  | .cv l xs => if flats xs then some (.cv l xs) else none
def clsVs (cp : LamT → Option (List Vl)) : List Vl → Option (List Vl)
  | [] => some []
  | x :: xs => match clsV cp x, clsVs cp xs with
    | some y, some ys => some (y :: ys)
    | _, _ => none
end
def idx : List Str → Str → Option Nat
  | [], _ => none
  | y :: r, x => if y = x then some 0 else match idx r x with
    | some n => some (n + 1)
    | none => none
/-- the values of names -/
def capt (N : List Str) (γ : Env) : List Str → Option (List Vl)
  | [] => some []
  | y :: r => match idx N y with
    | some i => match γ[i]?, capt N γ r with
      | some (some v), some vs => if flat v then some (v :: vs) else none
      | _, _ => none
    | none => none
def cpOf (N : List Str) (γ : Env) : LamT → Option (List Vl) := fun l => capt N γ l.caps
def clsE (cp : LamT → Option (List Vl)) (γ : Env) : Env := γ.map fun o => match o with
  | some v => clsV cp v
  | none => none

/-! ### operators -/
inductive BO where | add | sub | mul | fdiv | mod | pow
inductive CO where | eq | ne | lt | le | gt | ge | isN | isNotN | inn | notIn
def mulOk (i j : Int) : Bool := decide (i.natAbs < 18446744073709551616) || decide (j.natAbs < 18446744073709551616) || decide (i.natAbs.log2 + j.natAbs.log2 < 1000000)
def divOk (j : Int) : Bool := decide (0 < j) && decide (j.natAbs.log2 < 9000)
def powOk (i j : Int) : Bool := decide (0 ≤ j) && decide (j ≤ 1000) && decide (i.natAbs.log2 ≤ 1000)
def bin (o : BO) (m : Bool) (x y : Vl) (S : Store) : R Vl := match o with
  | .add => match dat S x, dat S y with
    | some (.int i), some (.int j) => .ok (I (i + j)) S
    | some (.str a), some (.str b) => if a.length + b.length ≤ LINE then .ok (.d (.str (a ++ b))) S else .stuck
    | some (.tuple xs), some (.tuple ys) => if xs.length + ys.length ≤ LINE then .ok (.d (.tuple (xs ++ ys))) S else .stuck
    | some (.list xs), some (.list ys) => if xs.length + ys.length ≤ LINE then mkLst m (xs ++ ys) S else .stuck
    | _, _ => match lit S x, lit S y with
      | some xs, some ys => if xs.length + ys.length ≤ LINE then .ok (.lv (xs ++ ys)) S else .stuck
      | _, _ => .stuck
  | .sub => match x, y with
    | .d (.int i), .d (.int j) => .ok (I (i - j)) S
    | _, _ => .stuck
  | .mul => match dat S x, y with
    | some (.int i), .d (.int j) => if mulOk i j then .ok (I (i * j)) S else .stuck
    | some (.tuple xs), .d (.int j) => if 0 ≤ j ∧ j ≤ 1000 ∧ xs.length ≤ 1000 then .ok (.d (.tuple (List.replicate j.toNat xs).flatten)) S else .stuck
    | some (.list xs), .d (.int j) => if 0 ≤ j ∧ xs.length * j.toNat ≤ LINE ∧ j ≤ LINE then mkLst m (List.replicate j.toNat xs).flatten S else .stuck
    | _, _ => .stuck
  | .fdiv => match x, y with
    | .d (.int i), .d (.int j) => if divOk j then .ok (I (i / j)) S else .stuck
    | _, _ => .stuck
  | .mod => match x, y with
    | .d (.int i), .d (.int j) => if 0 < j then .ok (I (i % j)) S else .stuck
    | _, _ => .stuck
  | .pow => match x, y with
    | .d (.int i), .d (.int j) => if powOk i j then .ok (I (i ^ j.toNat)) S else .stuck
    | _, _ => .stuck
def cmp (o : CO) (x y : Vl) (S : Store) : Option Bool := match o with
  | .isN => match y with
    | .d .none => match x with
      | .d .none => some true
      | _ => some false
    | _ => none
  | .isNotN => match y with
    | .d .none => match x with
      | .d .none => some false
      | _ => some true
    | _ => none
  | .eq => match dat S x, dat S y with
    | some a, some b => if okD a && okD b then some (PyData.eqv a b) else none
    | _, _ => none
  | .ne => match dat S x, dat S y with
    | some a, some b => if okD a && okD b then some (!PyData.eqv a b) else none
    | _, _ => none
  | .lt => match x, y with
    | .d (.int i), .d (.int j) => some (decide (i < j))
    | .d (.str a), .d (.str b) => some (decide (a.cps.toList < b.cps.toList))
    | _, _ => none
  | .le => match x, y with
    | .d (.int i), .d (.int j) => some (decide (i ≤ j))
    | .d (.str a), .d (.str b) => some (!decide (b.cps.toList < a.cps.toList))
    | _, _ => none
  | .gt => match x, y with
    | .d (.int i), .d (.int j) => some (decide (j < i))
    | .d (.str a), .d (.str b) => some (decide (b.cps.toList < a.cps.toList))
    | _, _ => none
  | .ge => match x, y with
    | .d (.int i), .d (.int j) => some (decide (j ≤ i))
    | .d (.str a), .d (.str b) => some (!decide (a.cps.toList < b.cps.toList))
    | _, _ => none
  | .inn => match dat S x, dat S y with
    | some a, some (.list ys) => if okD a && okD (.list ys) then some (ys.any fun y => PyData.eqv y a) else none
    | some a, some (.tuple ys) => if okD a && okD (.tuple ys) then some (ys.any fun y => PyData.eqv y a) else none
    | some (.str a), some (.str z) => match a.cps.toList with
      | [c] => some (decide (c ∈ z.cps.toList))
      | _ => none
    | _, _ => inD x y S
  | .notIn => match dat S x, dat S y with
    | some a, some (.list ys) => if okD a && okD (.list ys) then some (!ys.any fun y => PyData.eqv y a) else none
    | some a, some (.tuple ys) => if okD a && okD (.tuple ys) then some (!ys.any fun y => PyData.eqv y a) else none
    | some (.str a), some (.str z) => match a.cps.toList with
      | [c] => some (!decide (c ∈ z.cps.toList))
      | _ => none
    | _, _ => match inD x y S with
      | some b => some (!b)
      | none => none
/-- a value's truth -/
def tru (S : Store) (x : Vl) : Option Bool := match dat S x with
  | some (.bool b) => some b
  | some .none => some false
  | some (.int i) => some (i != 0)
  | some (.list xs) => some (!xs.isEmpty)
  | some (.tuple xs) => some (!xs.isEmpty)
  | _ => none
/-- a place that may count from behind -/
def at? {α : Type} (xs : List α) (i : Int) : Option α :=
  if 0 ≤ i then xs[i.toNat]? else if -(xs.length : Int) ≤ i then xs[(i + xs.length).toNat]? else none
def ixS (x y : Vl) (S : Store) : R Vl := match x, y with
  | .sc xs, .d (.int i) => match at? xs i with
    | some v => .ok (.d v) S
    | none => .stuck
  | .lv xs, .d (.int i) => match at? xs i with
    | some v => .ok v S
    | none => .stuck
  | .tv xs, .d (.int i) => match at? xs i with
    | some v => .ok v S
    | none => .stuck
  | _, _ => .stuck
def ix (x y : Vl) (S : Store) : R Vl := match dat S x, y with
  | some (.list xs), .d (.int i) => match at? xs i with
    | some v => .ok (.d v) S
    | none => .stuck
  | some (.tuple xs), .d (.int i) => match at? xs i with
    | some v => .ok (.d v) S
    | none => .stuck
  | some (.str z), .d (.int i) => if z.length ≤ LINE then match at? z.cps.toList i with
    | some ch => .ok (.d (.str ⟨#[ch]⟩)) S
    | none => .stuck else .stuck
  | _, _ => match dko S x, y with
    | some kvs, .d k => if isK k then match getK kvs k with
      | some v => .ok (.d v) S
      | none => .stuck else .stuck
    | _, _ => ixS x y S
/-- a bound of a slice -/
def sIx (n dflt : Nat) : Option Int → Nat
  | none => dflt
  | some v => if v < 0 then (max (v + n) 0).toNat else (min v n).toNat
def cut {α : Type} (xs : List α) (lo hi : Option Int) : List α := (xs.drop (sIx xs.length 0 lo)).take (sIx xs.length xs.length hi - sIx xs.length 0 lo)
def sl (m : Bool) (x : Vl) (lo hi : Option Int) (S : Store) : R Vl := match dat S x with
  | some (.list xs) => mkLst m (cut xs lo hi) S
  | some (.tuple xs) => .ok (.d (.tuple (cut xs lo hi))) S
  | _ => .stuck

/-! ### built-ins -/
inductive Ty where | int | bool | str | tuple | list | dict | none
def isA : Ty → D → Bool
  | .int, x => x.isInt
  | .bool, x => x.isBool
  | .str, x => x.isStr
  | .tuple, x => x.isTuple
  | .list, x => x.isList
  | .dict, x => x.isDict
  | .none, x => x.isNoneType
def truD : D → Option Bool
  | .bool b => some b
  | _ => none
def allT : List D → Option Bool
  | [] => some true
  | x :: xs => match truD x with
    | some true => allT xs
    | some false => match allT xs with
      | some _ => some false
      | none => none
    | none => none
def anyT : List D → Option Bool
  | [] => some false
  | x :: xs => match truD x with
    | some false => anyT xs
    | some true => match anyT xs with
      | some _ => some true
      | none => none
    | none => none
mutual
/-- no list in it -/
def noL : D → Bool
  | .list _ => false
  | .tuple xs => noLs xs
  | .dict kvs => noLk kvs
  | _ => true
def noLs : List D → Bool
  | [] => true
  | x :: xs => noL x && noLs xs
def noLk : List (D × D) → Bool
  | [] => true
  | (k, x) :: r => noL k && (noL x && noLk r)
end
def reprOk (x : D) : Bool := x.showable && (!x.hasDict || noL x) && decide (x.depth ≤ 60) && decide (x.shown.length ≤ LINE)
def sumI : List D → Option Int
  | [] => some 0
  | .int i :: xs => match sumI xs with
    | some s => some (i + s)
    | none => none
  | _ :: _ => none
def bLen (xs : List Vl) (S : Store) : R Vl := match xs with
  | [.sc xs] => .ok (I xs.length) S
  | [.lv xs] => .ok (I xs.length) S
  | [.tv xs] => .ok (I xs.length) S
  | [x] => match dat S x with
    | some (.list xs) => .ok (I xs.length) S
    | some (.tuple xs) => .ok (I xs.length) S
    | some (.str a) => if a.length ≤ LINE then .ok (I a.length) S else .stuck
    | _ => match dko S x with
      | some kvs => .ok (I kvs.length) S
      | none => .stuck
  | _ => .stuck
def bAbs (xs : List Vl) (S : Store) : R Vl := match xs with
  | [.d (.int i)] => .ok (I (if i < 0 then -i else i)) S
  | _ => .stuck
def bMax (xs : List Vl) (S : Store) : R Vl := match xs with
  | [.d (.int i), .d (.int j)] => .ok (I (if j > i then j else i)) S
  | _ => .stuck
def bMin (xs : List Vl) (S : Store) : R Vl := match xs with
  | [.d (.int i), .d (.int j)] => .ok (I (if j < i then j else i)) S
  | _ => .stuck
def bInt (xs : List Vl) (S : Store) : R Vl := match xs with
  | [.d (.int i)] => .ok (I i) S
  | [.d (.bool b)] => .ok (I (if b then 1 else 0)) S
  | _ => .stuck
def bRepr (xs : List Vl) (S : Store) : R Vl := match xs with
  | [x] => match dat S x with
    | some a => if reprOk a then .ok (.d (.str a.shown)) S else .stuck
    | none => .stuck
  | _ => .stuck
def bTuple (xs : List Vl) (S : Store) : R Vl := match xs with
  | [x] => match dat S x with
    | some (.list xs) => .ok (.d (.tuple xs)) S
    | some (.tuple xs) => .ok (.d (.tuple xs)) S
    | _ => .stuck
  | _ => .stuck
def bList (m : Bool) (xs : List Vl) (S : Store) : R Vl := match xs with
  | [x] => match dat S x with
    | some (.list xs) => mkLst m xs S
    | some (.tuple xs) => mkLst m xs S
    | _ => .stuck
  | _ => .stuck
/-- all are ints; in sequence -/
def allInt : List D → Option (List Int)
  | [] => some []
  | .int i :: r => match allInt r with
    | some is => some (i :: is)
    | none => none
  | _ :: _ => none
def insI (i : Int) : List Int → List Int
  | [] => [i]
  | j :: r => if i ≤ j then i :: j :: r else j :: insI i r
def sortI : List Int → List Int
  | [] => []
  | i :: r => insI i (sortI r)
def bSorted (m : Bool) (xs : List Vl) (S : Store) : R Vl := match xs with
  | [x] => match dat S x with
    | some (.list ys) => match allInt ys with
      | some is => mkLst m ((sortI is).map .int) S
      | none => .stuck
    | _ => match dko S x with
      | some kvs => match allInt (kvs.map (·.1)) with
        | some is => if is.length < 64 then mkLst m ((sortI is).map .int) S else .stuck
        | none => .stuck
      | none => .stuck
  | _ => .stuck
/-- list(range(e)) -/
def xLRng (m : Bool) (a : TEx) : TEx := fun c γ S => (a c γ S).bind fun x S1 => match x with
  | .d (.int j) => if 0 ≤ j ∧ j ≤ LINE then mkLst m ((List.range j.toNat).map fun (k : Nat) => .int k) S1 else .stuck
  | _ => .stuck
def bAll (xs : List Vl) (S : Store) : R Vl := match xs with
  | [x] => match dat S x with
    | some (.list xs) => match allT xs with
      | some b => .ok (B b) S
      | none => .stuck
    | _ => .stuck
  | _ => .stuck
def bAny (xs : List Vl) (S : Store) : R Vl := match xs with
  | [x] => match dat S x with
    | some (.list xs) => match anyT xs with
      | some b => .ok (B b) S
      | none => .stuck
    | _ => .stuck
  | _ => .stuck
def bSum (xs : List Vl) (S : Store) : R Vl := match xs with
  | [x] => match dat S x with
    | some (.list xs) => match sumI xs with
      | some s => .ok (I s) S
      | none => .stuck
    | _ => .stuck
  | _ => .stuck

/-! ### expressions -/
def xV (i : Nat) : TEx := fun _ γ S => match γ[i]? with
  | some (some v) => .ok v S
  | _ => .stuck
def xC (v : Vl) : TEx := fun _ _ S => .ok v S
def xBin (o : BO) (m : Bool) (a b : TEx) : TEx := fun c γ S => (a c γ S).bind fun x S1 => (b c γ S1).bind fun y S2 => bin o m x y S2
def xCmp (o : CO) (a b : TEx) : TEx := fun c γ S => (a c γ S).bind fun x S1 => (b c γ S1).bind fun y S2 => match cmp o x y S2 with
  | some k => .ok (B k) S2
  | none => .stuck
/-- a o b p c -/
def xCmp2 (o p : CO) (a b e : TEx) : TEx := fun c γ S => (a c γ S).bind fun x S1 => (b c γ S1).bind fun y S2 => match cmp o x y S2 with
  | some true => (e c γ S2).bind fun z S3 => match cmp p y z S3 with
    | some k => .ok (B k) S3
    | none => .stuck
  | some false => .ok (B false) S2
  | none => .stuck
def xNeg (a : TEx) : TEx := fun c γ S => (a c γ S).bind fun x S1 => match x with
  | .d (.int i) => .ok (I (-i)) S1
  | _ => .stuck
/-- not, and, or as values: bools -/
def xNot (a : TEx) : TEx := fun c γ S => (a c γ S).bind fun x S1 => match x with
  | .d (.bool k) => .ok (B (!k)) S1
  | _ => .stuck
def xAnd (a b : TEx) : TEx := fun c γ S => (a c γ S).bind fun x S1 => match x with
  | .d (.bool true) => b c γ S1
  | .d (.bool false) => .ok (B false) S1
  | _ => .stuck
def xOr (a b : TEx) : TEx := fun c γ S => (a c γ S).bind fun x S1 => match x with
  | .d (.bool false) => b c γ S1
  | .d (.bool true) => .ok (B true) S1
  | _ => .stuck
def xIf (t : TTs) (a b : TEx) : TEx := fun c γ S => (t c γ S).bind fun k S1 => match k with
  | true => a c γ S1
  | false => b c γ S1
def aNil : TAr := fun _ _ S => .ok [] S
def aCons (a : TEx) (r : TAr) : TAr := fun c γ S => (a c γ S).bind fun x S1 => (r c γ S1).bind fun xs S2 => .ok (x :: xs) S2
/-- *e: a tuple's items, a list's as they stand -/
def spl (S : Store) (x : Vl) : Option (List Vl) := match tit x with
  | some xs => some xs
  | none => lit S x
def aStar (a : TEx) (r : TAr) : TAr := fun c γ S => (a c γ S).bind fun x S1 => match spl S1 x with
  | some xs => (r c γ S1).bind fun ys S2 => .ok (xs ++ ys) S2
  | none => .stuck
def aFew (r : TAr) : TAr := fun c γ S => (r c γ S).bind fun xs S1 => if xs.length ≤ 1000 then .ok xs S1 else .stuck
def xTup (a : TAr) : TEx := fun c γ S => (a c γ S).bind fun xs S1 => .ok (mkTup xs) S1
def xLst (m : Bool) (a : TAr) : TEx := fun c γ S => (a c γ S).bind fun xs S1 => match allD xs with
  | some ds => mkLst m ds S1
  | none => match m with
    | false => .ok (.lv xs) S1
    | true => .stuck
def xIx (a b : TEx) : TEx := fun c γ S => (a c γ S).bind fun x S1 => (b c γ S1).bind fun y S2 => ix x y S2
/-- a part of a slice -/
abbrev TPt := Cl → Env → Store → R (Option Int)
def pNo : TPt := fun _ _ S => .ok none S
def pSome (a : TEx) : TPt := fun c γ S => (a c γ S).bind fun x S1 => match x with
  | .d (.int i) => .ok (some i) S1
  | _ => .stuck
def xSl (m : Bool) (a : TEx) (l h : TPt) : TEx := fun c γ S => (a c γ S).bind fun x S1 => (l c γ S1).bind fun lo S2 => (h c γ S2).bind fun hi S3 => sl m x lo hi S3
/-- xs[::-1] -/
def xRev (m : Bool) (a : TEx) : TEx := fun c γ S => (a c γ S).bind fun x S1 => match dat S1 x with
  | some (.list xs) => mkLst m xs.reverse S1
  | _ => .stuck
def xB (f : List Vl → Store → R Vl) (a : TAr) : TEx := fun c γ S => (a c γ S).bind fun xs S1 => f xs S1
def xIs (a : TEx) (t : Ty) : TEx := fun c γ S => (a c γ S).bind fun x S1 => match dat S1 x with
  | some v => .ok (B (isA t v)) S1
  | none => .stuck
def xCall (f : Nat) (a : TAr) (dflt : List Vl) : TEx := fun c γ S => (a c γ S).bind fun xs S1 => c.call f (xs ++ dflt) S1
/-- a lambda -/
def xLam (l : LamT) : TEx := fun _ _ S => .ok (.co l) S
/-- a def is called by a frame that makes lambdas -/
def xCallL (N : List Str) (f : Nat) (a : TAr) (dflt : List Vl) : TEx := fun c γ S => (a c γ S).bind fun xs S1 => match clsVs (cpOf N γ) xs with
  | some ys => c.call f (ys ++ dflt) S1
  | none => .stuck
/-- what a local name holds is called: a lambda, without arguments -/
def xCallV (N : List Str) (i : Nat) : TEx := fun c γ S => (xV i c γ S).bind fun v S1 => match clsV (cpOf N γ) v with
  | some (.cv l vs) => c.lam l vs S1
  | _ => .stuck

/-- what a local name holds is called, in a frame that makes no lambdas -/
def xCallW (i : Nat) : TEx := fun c γ S => (xV i c γ S).bind fun v S1 => match v with
  | .cv l vs => c.lam l vs S1
  | _ => .stuck

/-- what a local name holds is called: a def -/
def xCallFG (cnv : Env → List Vl → Option (List Vl)) (i : Nat) (a : TAr) : TEx := fun c γ S => (xV i c γ S).bind fun v S1 => match v with
  | .fn f => (a c γ S1).bind fun xs S2 => match cnv γ xs with
    | some ys => c.call f ys S2
    | none => .stuck
  | _ => .stuck
def xCallF (i : Nat) (a : TAr) : TEx := xCallFG (fun _ xs => some xs) i a
def xCallFL (N : List Str) (i : Nat) (a : TAr) : TEx := xCallFG (fun γ xs => clsVs (cpOf N γ) xs) i a

/-! ### tests -/
/-- the truth of a value -/
def tV (a : TEx) : TTs := fun c γ S => (a c γ S).bind fun x S1 => match tru S1 x with
  | some k => .ok k S1
  | none => .stuck
def tNot (t : TTs) : TTs := fun c γ S => (t c γ S).bind fun k S1 => .ok (!k) S1
def tAnd (t u : TTs) : TTs := fun c γ S => (t c γ S).bind fun k S1 => match k with
  | true => u c γ S1
  | false => .ok false S1
def tOr (t u : TTs) : TTs := fun c γ S => (t c γ S).bind fun k S1 => match k with
  | true => .ok true S1
  | false => u c γ S1
def tIfx (t u v : TTs) : TTs := fun c γ S => (t c γ S).bind fun k S1 => match k with
  | true => u c γ S1
  | false => v c γ S1
def tCmp (o : CO) (a b : TEx) : TTs := fun c γ S => (a c γ S).bind fun x S1 => (b c γ S1).bind fun y S2 => match cmp o x y S2 with
  | some k => .ok k S2
  | none => .stuck
def tCmp2 (o p : CO) (a b e : TEx) : TTs := fun c γ S => (a c γ S).bind fun x S1 => (b c γ S1).bind fun y S2 => match cmp o x y S2 with
  | some true => (e c γ S2).bind fun z S3 => match cmp p y z S3 with
    | some k => .ok k S3
    | none => .stuck
  | some false => .ok false S2
  | none => .stuck

/-! ### targets, what is walked -/
abbrev TTg := Vl → Env → Option Env
def gV (i : Nat) : TTg := fun v γ => some (γ.set i (some v))
def gNil : List Vl → Env → Option Env := fun vs γ => match vs with
  | [] => some γ
  | _ => none
def gCons (g : TTg) (r : List Vl → Env → Option Env) : List Vl → Env → Option Env := fun vs γ => match vs with
  | v :: ws => match g v γ with
    | some γ' => r ws γ'
    | none => none
  | [] => none
def gTup (g : List Vl → Env → Option Env) : TTg := fun v γ => match v with
  | .d (.tuple ds) => g (ds.map .d) γ
  | .tv xs => g xs γ
  | _ => none
/-- what is walked: its items; or an object of the store, place by place as it stands -/
inductive Itr where
  | its (xs : List Vl)
  | ref (i : Nat)
abbrev TIt := Cl → Env → Store → R Itr
def iV (a : TEx) : TIt := fun c γ S => (a c γ S).bind fun x S1 => match x with
  | .d (.list xs) => .ok (.its (xs.map .d)) S1
  | .d (.tuple xs) => .ok (.its (xs.map .d)) S1
  | .d (.str z) => .ok (.its (z.cps.toList.map fun ch => .d (.str ⟨#[ch]⟩))) S1
  | .tv xs => .ok (.its xs) S1
  | .lv xs => .ok (.its xs) S1
  | .r i => match S1[i]? with
    | some (.lst _) => .ok (.ref i) S1
    | _ => .stuck
  | _ => .stuck
def rngOk (i : Int) : Bool := decide (i.natAbs < 4611686018427387904)
def rng (lo hi : Int) : List Vl := (List.range (hi - lo).toNat).map fun (k : Nat) => I (lo + k)
def iRng1 (a : TEx) : TIt := fun c γ S => (a c γ S).bind fun x S1 => match x with
  | .d (.int j) => if rngOk j then .ok (.its (rng 0 j)) S1 else .stuck
  | _ => .stuck
def iRng2 (a b : TEx) : TIt := fun c γ S => (a c γ S).bind fun x S1 => (b c γ S1).bind fun y S2 => match x, y with
  | .d (.int i), .d (.int j) => if rngOk i && rngOk j then .ok (.its (rng i j)) S2 else .stuck
  | _, _ => .stuck
/-- a list's or a tuple's data -/
def dItems : Vl → Option (List D)
  | .d (.list xs) => some xs
  | .d (.tuple xs) => some xs
  | _ => none
def pairs (xs ys : List D) : List Vl := (xs.zip ys).map fun p => .d (.tuple [p.1, p.2])
def iZip (a b : TEx) : TIt := fun c γ S => (a c γ S).bind fun x S1 => (b c γ S1).bind fun y S2 => match x, y with
  | .d (.list xs), .d (.list ys) => .ok (.its (pairs xs ys)) S2
  | .d (.tuple xs), .d (.tuple ys) => .ok (.its (pairs xs ys)) S2
  | _, _ => .stuck
def enumD (xs : List D) : List Vl := (List.range xs.length).zip xs |>.map fun p => .d (.tuple [.int (p.1 : Nat), p.2])
def iEnum (a : TEx) : TIt := fun c γ S => (a c γ S).bind fun x S1 => match x with
  | .d (.list xs) => .ok (.its (enumD xs)) S1
  | .d (.tuple xs) => .ok (.its (enumD xs)) S1
  | _ => .stuck

/-! ### comprehensions -/
/-- one clause: the target's slots are the block's own; the n-th object is the list that is made -/
def lcLoop (g : TTg) (t : TTs) (e : TEx) (c : Cl) (γ : Env) (n : Nat) : List Vl → Store → R Unit
  | [], S => .ok () S
  | x :: xs, S => match g x γ with
    | none => .stuck
    | some γ1 => match t c γ1 S with
      | .ok true S1 => match e c γ1 S1 with
        | .ok (.d d) S2 => match S2[n]? with
          | some (.lst out) => if out.length < LINE then lcLoop g t e c γ n xs (S2.set n (.lst (out ++ [d]))) else .stuck
          | _ => .stuck
        | _ => .stuck
      | .ok false S1 => lcLoop g t e c γ n xs S1
      | _ => .stuck
def lcRef (g : TTg) (t : TTs) (e : TEx) (c : Cl) (γ : Env) (n : Nat) (i : Nat) : Nat → Nat → Store → R Unit
  | 0, _, _ => .stuck
  | f + 1, k, S => match S[i]? with
    | some (.lst xs) => match xs[k]? with
      | none => .ok () S
      | some x => match g (.d x) γ with
        | none => .stuck
        | some γ1 => match t c γ1 S with
          | .ok true S1 => match e c γ1 S1 with
            | .ok (.d d) S2 => match S2[n]? with
              | some (.lst out) => if out.length < LINE then lcRef g t e c γ n i f (k + 1) (S2.set n (.lst (out ++ [d]))) else .stuck
              | _ => .stuck
            | _ => .stuck
          | .ok false S1 => lcRef g t e c γ n i f (k + 1) S1
          | _ => .stuck
    | _ => .stuck
def tYes : TTs := fun _ _ S => .ok true S
/-- the block's own slots are forgotten -/
def wipeE (γ : Env) : List Nat → Env
  | [] => γ
  | i :: r => wipeE (γ.set i none) r
def lcEnd (m : Bool) (n : Nat) (S : Store) : R Vl := if S.length = n + 1 then match S[n]? with
    | some (.lst out) => match m with
      | true => .ok (.r n) S
      | false => .ok (.d (.list out)) (S.take n)
    | _ => .stuck
  else .stuck
def lcFin (m : Bool) (n : Nat) (r : R Unit) : R Vl := match r with
  | .ok _ S => lcEnd m n S
  | _ => .stuck
def lcRun (g : TTg) (t : TTs) (e : TEx) (c : Cl) (γ : Env) (n : Nat) (J : Itr) (S : Store) : R Unit := match J with
  | .its xs => lcLoop g t e c γ n xs S
  | .ref i => lcRef g t e c γ n i (LINE + 1) 0 S
def xLc (m : Bool) (w : List Nat) (it : TIt) (g : TTg) (t : TTs) (e : TEx) : TEx := fun c γ S => (it c γ S).bind fun J S1 => lcFin m S1.length (lcRun g t e c (wipeE γ w) S1.length J (S1 ++ [.lst []]))
/-- in a frame that makes lambdas -/
def clsI (cp : LamT → Option (List Vl)) : Itr → Option Itr
  | .its xs => match clsVs cp xs with
    | some ys => some (.its ys)
    | none => none
  | .ref i => some (.ref i)
def xLcL (N : List Str) (m : Bool) (w : List Nat) (it : TIt) (g : TTg) (t : TTs) (e : TEx) : TEx := fun c γ S => (it c γ S).bind fun J S1 => match clsI (cpOf N γ) J with
  | some J' => lcFin m S1.length (lcRun g t e c (wipeE (clsE (cpOf N γ) γ) w) S1.length J' (S1 ++ [.lst []]))
  | none => .stuck

/-! ### comprehensions of lists and dicts, one clause or two, without lambdas -/
/-- what a turn adds to the n-th object -/
abbrev TEm := Cl → Env → Nat → Store → R Unit
def emL (e : TEx) : TEm := fun c γ n S => match e c γ S with
  | .ok (.d d) S2 => match S2[n]? with
    | some (.lst out) => if out.length < LINE then .ok () (S2.set n (.lst (out ++ [d]))) else .stuck
    | _ => .stuck
  | _ => .stuck
def emD (k v : TEx) : TEm := fun c γ n S => match k c γ S with
  | .ok (.d y) S2 => match v c γ S2 with
    | .ok (.d z) S3 => match S3[n]? with
      | some (.dct kvs) => if isK y && decide (kvs.length < LINE) then .ok () (S3.set n (.dct (putD kvs y z))) else .stuck
      | _ => .stuck
    | _ => .stuck
  | _ => .stuck
def gLoop (g : TTg) (t : TTs) (em : TEm) (c : Cl) (γ : Env) (n : Nat) : List Vl → Store → R Unit
  | [], S => .ok () S
  | x :: xs, S => match g x γ with
    | none => .stuck
    | some γ1 => match t c γ1 S with
      | .ok true S1 => match em c γ1 n S1 with
        | .ok _ S2 => gLoop g t em c γ n xs S2
        | _ => .stuck
      | .ok false S1 => gLoop g t em c γ n xs S1
      | _ => .stuck
def gRef (g : TTg) (t : TTs) (em : TEm) (c : Cl) (γ : Env) (n : Nat) (i : Nat) : Nat → Nat → Store → R Unit
  | 0, _, _ => .stuck
  | f + 1, k, S => match S[i]? with
    | some (.lst xs) => match xs[k]? with
      | none => .ok () S
      | some x => match g (.d x) γ with
        | none => .stuck
        | some γ1 => match t c γ1 S with
          | .ok true S1 => match em c γ1 n S1 with
            | .ok _ S2 => gRef g t em c γ n i f (k + 1) S2
            | _ => .stuck
          | .ok false S1 => gRef g t em c γ n i f (k + 1) S1
          | _ => .stuck
    | _ => .stuck
def gRun (g : TTg) (t : TTs) (em : TEm) (c : Cl) (γ : Env) (n : Nat) (J : Itr) (S : Store) : R Unit := match J with
  | .its xs => gLoop g t em c γ n xs S
  | .ref i => gRef g t em c γ n i (LINE + 1) 0 S
/-- an inner clause -/
def emIn (w : List Nat) (it : TIt) (g : TTg) (t : TTs) (em : TEm) : TEm := fun c γ n S => match it c γ S with
  | .ok J S1 => gRun g t em c (wipeE γ w) n J S1
  | _ => .stuck
mutual
/-- no lambda in it -/
def noC : Vl → Bool
  | .co _ => false
  | .ex _ _ => false
  | .cv _ _ => false
  | .tv xs => noCs xs
  | .lv xs => noCs xs
  | _ => true
def noCs : List Vl → Bool
  | [] => true
  | x :: xs => noC x && noCs xs
end
def dropE (γ : Env) : Env := γ.map fun o => match o with
  | some v => if noC v then some v else none
  | none => none
def dropI : Itr → Option Itr
  | .its xs => if noCs xs then some (.its xs) else none
  | .ref i => some (.ref i)
def cmEnd (m : Bool) (n : Nat) (S : Store) : R Vl := if S.length = n + 1 then match S[n]? with
    | some o => match m with
      | true => .ok (.r n) S
      | false => .ok (.d (obD o)) (S.take n)
    | none => .stuck
  else .stuck
def cmFin (m : Bool) (n : Nat) (r : R Unit) : R Vl := match r with
  | .ok _ S => cmEnd m n S
  | _ => .stuck
def xCm (m : Bool) (o : Ob) (w : List Nat) (it : TIt) (g : TTg) (t : TTs) (em : TEm) : TEx := fun c γ S => (it c γ S).bind fun J S1 => match dropI J with
  | some J' => cmFin m S1.length (gRun g t em c (wipeE (dropE γ) w) S1.length J' (S1 ++ [o]))
  | none => .stuck

/-- {k: v} -/
def xDp1 (m : Bool) (k v : TEx) : TEx := fun c γ S => match k c γ (S ++ [.dct []]) with
  | .ok (.d y) S2 => match v c γ S2 with
    | .ok (.d z) S3 => match S3[S.length]? with
      | some (.dct []) => if isK y then cmEnd m S.length (S3.set S.length (.dct [(y, z)])) else .stuck
      | _ => .stuck
    | _ => .stuck
  | _ => .stuck
/-! ### statements -/
def sPass : TSt := fun _ γ S => .nx γ S
def sSeq (s : TSt) (r : TSt) : TSt := fun c γ S => match s c γ S with
  | .nx γ' S' => r c γ' S'
  | o => o
def sSet (i : Nat) (e : TEx) : TSt := fun c γ S => (e c γ S).next γ fun x S1 => .nx (γ.set i (some x)) S1
def sAsg (g : TTg) (e : TEx) : TSt := fun c γ S => (e c γ S).next γ fun x S1 => match g x γ with
  | some γ' => .nx γ' S1
  | none => .stuck
/-- a, b = x, y: plain local names -/
def sPar (i j : Nat) (a b : TEx) : TSt := fun c γ S => (a c γ S).next γ fun x S1 => (b c γ S1).next γ fun y S2 => .nx ((γ.set i (some x)).set j (some y)) S2
def sPar3 (i j l : Nat) (a b e : TEx) : TSt := fun c γ S => (a c γ S).next γ fun x S1 => (b c γ S1).next γ fun y S2 => (e c γ S2).next γ fun z S3 => .nx (((γ.set i (some x)).set j (some y)).set l (some z)) S3
/-- o[i] = e -/
def setAt (v : Vl) (k : Vl) (x : Vl) (S : Store) : Option Store := match v, k, x with
  | .r i, .d (.int j), .d y => match S[i]? with
    | some (.lst xs) => if 0 ≤ j ∧ j < xs.length then some (S.set i (.lst (xs.set j.toNat y))) else if j < 0 ∧ -(xs.length : Int) ≤ j then some (S.set i (.lst (xs.set (j + xs.length).toNat y))) else none
    | _ => none
  | _, _, _ => none
def setD (v : Vl) (k : Vl) (x : Vl) (S : Store) : Option Store := match v, k, x with
  | .r i, .d y, .d z => match S[i]? with
    | some (.dct kvs) => if isK y && decide (kvs.length < LINE) then some (S.set i (.dct (putD kvs y z))) else none
    | _ => none
  | _, _, _ => none
def sSetIx (o i e : TEx) : TSt := fun c γ S => (e c γ S).next γ fun x S1 => (o c γ S1).next γ fun v S2 => (i c γ S2).next γ fun k S3 => match setAt v k x S3 with
  | some S4 => .nx γ S4
  | none => match setD v k x S3 with
    | some S4 => .nx γ S4
    | none => .stuck
def sAug (i : Nat) (o : BO) (e : TEx) : TSt := fun c γ S => match γ[i]? with
  | some (some (.d (.int x))) => (e c γ S).next γ fun y S1 => match o, y with
    | .add, .d (.int k) => .nx (γ.set i (some (I (x + k)))) S1
    | _, _ => .stuck
  | _ => .stuck
def sRet (e : TEx) : TSt := fun c γ S => (e c γ S).next γ fun x S1 => .rt x S1
def sExpr (e : TEx) : TSt := fun c γ S => (e c γ S).next γ fun _ S1 => .nx γ S1
def sIf (t : TTs) (a b : TSt) : TSt := fun c γ S => (t c γ S).next γ fun k S1 => match k with
  | true => a c γ S1
  | false => b c γ S1
def sBrk : TSt := fun _ γ S => .bk γ S
def sCnt : TSt := fun _ γ S => .ct γ S
def sNo : TSt := fun _ _ _ => .stuck
def fLoop (g : TTg) (b : TSt) (c : Cl) : List Vl → Env → Store → RS
  | [], γ, S => .nx γ S
  | x :: xs, γ, S => match g x γ with
    | none => .stuck
    | some γ1 => match b c γ1 S with
      | .nx γ' S' => fLoop g b c xs γ' S'
      | .ct γ' S' => fLoop g b c xs γ' S'
      | .bk γ' S' => .nx γ' S'
      | o => o
def rLoop (g : TTg) (b : TSt) (c : Cl) (i : Nat) : Nat → Nat → Env → Store → RS
  | 0, _, _, _ => .stuck
  | n + 1, k, γ, S => match S[i]? with
    | some (.lst xs) => match xs[k]? with
      | none => .nx γ S
      | some x => match g (.d x) γ with
        | none => .stuck
        | some γ1 => match b c γ1 S with
          | .nx γ' S' => rLoop g b c i n (k + 1) γ' S'
          | .ct γ' S' => rLoop g b c i n (k + 1) γ' S'
          | .bk γ' S' => .nx γ' S'
          | o => o
    | _ => .stuck
def sFor (it : TIt) (g : TTg) (b : TSt) : TSt := fun c γ S => (it c γ S).next γ fun J S1 => match J with
  | .its xs => fLoop g b c xs γ S1
  | .ref i => rLoop g b c i (LINE + 1) 0 γ S1
/-- turns that a while may take: more than any int at hand -/
def fuelOf (γ : Env) : Nat := match γ with
  | [] => 1099511627776
  | some (.d (.int i)) :: r => fuelOf r + i.natAbs
  | _ :: r => fuelOf r
def wLoop (t : TTs) (b : TSt) (c : Cl) : Nat → Env → Store → RS
  | 0, _, _ => .stuck
  | n + 1, γ, S => (t c γ S).next γ fun k S1 => match k with
    | false => .nx γ S1
    | true => match b c γ S1 with
      | .nx γ' S' => wLoop t b c n γ' S'
      | .ct γ' S' => wLoop t b c n γ' S'
      | .bk γ' S' => .nx γ' S'
      | o => o
def sWhile (t : TTs) (b : TSt) : TSt := fun c γ S => wLoop t b c (fuelOf γ) γ S
/-- o.append(e) -/
def app1 (v x : Vl) (S : Store) : Option Store := match v, x with
  | .r i, .d y => match S[i]? with
    | some (.lst xs) => if xs.length < LINE then some (S.set i (.lst (xs ++ [y]))) else none
    | _ => none
  | _, _ => none
def sApp (o e : TEx) : TSt := fun c γ S => (o c γ S).next γ fun v S1 => match v with
  | .r i => match S1[i]? with
    | some (.lst _) => (e c γ S1).next γ fun x S2 => match app1 (.r i) x S2 with
      | some S3 => .nx γ S3
      | none => .stuck
    | _ => .stuck
  | _ => .stuck
/-- o.extend(e) -/
def ext1 (i : Nat) (x : Vl) (S : Store) : Option Store := match S[i]?, dat S x with
  | some (.lst xs), some (.list ys) => if xs.length + ys.length ≤ LINE then some (S.set i (.lst (xs ++ ys))) else none
  | _, _ => none
def sExt (o e : TEx) : TSt := fun c γ S => (o c γ S).next γ fun v S1 => match v with
  | .r i => match S1[i]? with
    | some (.lst _) => (e c γ S1).next γ fun x S2 => match ext1 i x S2 with
      | some S3 => .nx γ S3
      | none => .stuck
    | _ => .stuck
  | _ => .stuck
/-- o.update(e) -/
def isRef (i : Nat) : Vl → Bool
  | .r j => decide (i = j)
  | _ => false
def upd1 (i : Nat) (x : Vl) (S : Store) : Option Store := match S[i]?, dko S x with
  | some (.dct kvs), some more => if decide (kvs.length + more.length ≤ LINE) && !isRef i x then some (S.set i (.dct (mergeD kvs more))) else none
  | _, _ => none
def sUpd (o e : TEx) : TSt := fun c γ S => (o c γ S).next γ fun v S1 => match v with
  | .r i => match S1[i]? with
    | some (.dct _) => (e c γ S1).next γ fun x S2 => match upd1 i x S2 with
      | some S3 => .nx γ S3
      | none => .stuck
    | _ => .stuck
  | _ => .stuck

/-! ### errors -/
def MLEN : Nat := 8000000
/-- a value whose text fits -/
def txtOk (x : D) : Bool := reprOk x && decide (x.shown.length ≤ MLEN) && (match x with
  | .str z => decide (z.length ≤ MLEN)
  | _ => true)
def sErr (k : Nat) : TSt := fun _ γ S => .er k .none γ S
/-- an error that keeps a value -/
def sErrX (k : Nat) (e : TEx) : TSt := fun c γ S => (e c γ S).next γ fun v S1 => match v with
  | .d d => if txtOk d then .er k d γ S1 else .stuck
  | _ => .stuck
/-- what an error of the sort k keeps -/
def xFld (k : Nat) (e : TEx) : TEx := fun c γ S => (e c γ S).bind fun v S1 => match v with
  | .ex j x => if j = k then .ok (.d x) S1 else .stuck
  | _ => .stuck
def flatE (γ : Env) : Env := γ.map fun o => match o with
  | some v => if flat v then some v else none
  | none => none
/-- an except clause: the sorts of errors, the slot of its name, its suite -/
structure Hd where
  ks : List Nat
  slot : Option Nat
  b : TSt
def unslot (γ : Env) : Option Nat → Env
  | some i => γ.set i none
  | none => γ
def endSu (o : Option Nat) (r : RS) : RS := match r with
  | .nx γ S => .nx (unslot (flatE γ) o) S
  | .bk γ S => .bk (unslot (flatE γ) o) S
  | .ct γ S => .ct (unslot (flatE γ) o) S
  | .rt v S => if flat v then .rt v S else .stuck
  | _ => .stuck
def inSu (γ : Env) (k : Nat) (x : D) : Option Nat → Env
  | some i => (flatE γ).set i (some (.ex k x))
  | none => flatE γ
def tryH (c : Cl) (k : Nat) (x : D) (γ : Env) (S : Store) : List Hd → RS
  | [] => .er k x γ S
  | h :: r => if h.ks.contains k then endSu h.slot (h.b c (inSu γ k x h.slot) S) else tryH c k x γ S r
def sTry (b : TSt) (hs : List Hd) : TSt := fun c γ S => match b c γ S with
  | .er k x γ' S' => tryH c k x γ' S' hs
  | o => o

/-! ### defs -/
/-- np parameters, ns slots; keep: what is handed back may be a new object that changes on -/
structure Fn where
  np : Nat
  ns : Nat
  body : TSt
  keep : Bool := false
/-- what a def hands back: objects of its own are data from now on (or stay objects, keep), the rest is forgotten -/
def fin (keep : Bool) (n : Nat) (v : Vl) (S : Store) : R Vl := match v with
  | .r i => if i < n then .ok (.r i) (S.take n) else match S[i]? with
    | some o => if keep then .ok (.r n) (S.take n ++ [o]) else .ok (.d (obD o)) (S.take n)
    | none => .stuck
  | .d x => .ok (.d x) (S.take n)
  | _ => .stuck
def runFn (fd : Fn) (c : Cl) (args : List Vl) (S : Store) : R Vl := if args.length = fd.np then
    match fd.body c (args.map some ++ List.replicate (fd.ns - fd.np) none) S with
    | .rt v S' => fin fd.keep S.length v S'
    | .nx _ S' => fin fd.keep S.length (.d .none) S'
    | .er k x _ S' => .er k x (S'.take S.length)
    | _ => .stuck
  else .stuck
/-- calls that go k deep: defs by number, lambdas by their text -/
def cls (tab : Nat → Option Fn) (lf : LamT → Fn) : Nat → Cl
  | 0 => ⟨fun _ _ _ => .stuck, fun _ _ _ => .stuck⟩
  | k + 1 => ⟨fun f args S => match tab f with
    | some fd => runFn fd (cls tab lf k) args S
    | none => .stuck, fun l vs S => runFn (lf l) (cls tab lf k) vs S⟩
def run (tab : Nat → Option Fn) (lf : LamT → Fn) (k : Nat) (f : Nat) (args : List Vl) (S : Store) : R Vl := (cls tab lf k).call f args S
end Mk
/-! Mk2: what the evaluator says is what the model does: relations, readings. -/
namespace Mk
open PySem PySem.Spec PyProof.Rows L2

/-! ### data and values in the abstract heap; ρ: the store's objects, by address -/
mutual
def RepD (K : PySem.W.Frag) (ρ : List Addr) (H : Hp) : PyData → L2.V → Prop
  | .none, v => v = .non
  | .bool b, v => v = .bl b
  | .int i, v => v = .int i
  | .str s, v => v = .str s
  | .tuple xs, v => ∃ a vs, v = .ref a ∧ SqT K H a vs ∧ RepDs K ρ H xs vs
  | .list xs, v => ∃ a vs, v = .ref a ∧ a ∉ ρ ∧ H a = some (.lst vs) ∧ RepDs K ρ H xs vs
  | .dict kvs, v => ∃ a ks, v = .ref a ∧ a ∉ ρ ∧ H a = some (.dK ks) ∧ RepKs K ρ H kvs ks
def RepKs (K : PySem.W.Frag) (ρ : List Addr) (H : Hp) : List (PyData × PyData) → List (L2.Key × L2.V) → Prop
  | [], ks => ks = []
  | (k, x) :: r, ks => ∃ (k' : L2.Key) (v : L2.V) (rs : List (L2.Key × L2.V)), ks = (k', v) :: rs ∧ RepD K ρ H k (L2.kV k') ∧ RepD K ρ H x v ∧ RepKs K ρ H r rs
def RepDs (K : PySem.W.Frag) (ρ : List Addr) (H : Hp) : List PyData → List L2.V → Prop
  | [], vs => vs = []
  | x :: xs, vs => ∃ v r, vs = v :: r ∧ RepD K ρ H x v ∧ RepDs K ρ H xs r
end
/-- a list that does not change: tracked or known, and no object of the store; or one of the module's -/
def ImL (K : PySem.W.Frag) (ρ : List Addr) (H : Hp) (a : Addr) (vs : List L2.V) : Prop := (a ∉ ρ ∧ Rd H a (.lst vs)) ∨ SqL K (fun _ => none) a vs
def noArgs : Arguments := ⟨[], [], none, [], [], none, []⟩
/-- a lambda's text can be read: captured names and globals -/
structure LamK (L : LamT) : Prop where
  kind : L.scope.kind = .function
  co : L.scope.isCoroutine = false
  gen : L.scope.isGenerator = false
  own : ∀ y ∈ L.scope.names, y.2 ≠ .local ∧ y.2 ≠ .cell
  free : ∀ y, (y, NameKind.free) ∈ L.scope.names ↔ y ∈ L.caps
  nd : L.caps.Nodup
/-- where code objects are kept -/
class TabC where
  tabs : List (Addr × Str)
abbrev CA := Addr → Value → Prop
/-- the tables of a program: where defs, classes stand (the same everywhere); the frame's cells, the lambdas it makes; what cells of suspended frames hold; the error that is handled -/
structure Tb where
  fa : Nat → Option Addr
  ca : Nat → Option Addr
  cf : Nat → Option Str
  cells : List (Str × Addr)
  mkd : LamT → Prop
  an : CA
  ex : Option (Addr × Value × Option Addr)
def CloO (L : LamT) (cl : List (Str × Addr)) (pm : Value) (c' : Addr) (ctv : Value) : Obj := PySem.W.kla_obj "<lambda>" L.qual noArgs L.body L.scope cl pm c' ctv
def FunO (f : Addr) (ob : Obj) : HO := .ext fun h => h.get? f = some ob
/-- what a closure's cells hold, name by name -/
structure CapR (an : CA) (cl : List (Str × Addr)) (caps : List Str) (ws : List L2.V) : Prop where
  inj : ∀ y z c, cl.lookup y = some c → cl.lookup z = some c → y = z
  mem : ∀ y c, cl.lookup y = some c → y ∈ caps
  len : ws.length = caps.length
  at_ : ∀ (i : Nat) (y : Str) (w : L2.V), caps[i]? = some y → ws[i]? = some w → ∃ c u, cl.lookup y = some c ∧ an c u ∧ RelV w u
def RepX (T : Tb) (K : PySem.W.Frag) (ρ : List Addr) (H : Hp) (k : Nat) (x : D) (cls : Value) (dd : Option Addr) : Prop :=
  ∃ C, T.ca k = some C ∧ cls = .ref C ∧ match T.cf k with
    | none => dd = none
    | some f => ∃ a v, dd = some a ∧ a ∉ ρ ∧ H a = some (.xd [(f, v)]) ∧ RepD K ρ H x v
mutual
def RepV (T : Tb) (K : PySem.W.Frag) (ρ : List Addr) (H : Hp) : Vl → L2.V → Prop
  | .d x, v => RepD K ρ H x v
  | .sc xs, v => ∃ a vs, v = .ref a ∧ ImL K ρ H a vs ∧ RepDs K ρ H xs vs
  | .r i, v => ∃ a, ρ[i]? = some a ∧ v = .ref a
  | .fn f, v => ∃ a, T.fa f = some a ∧ v = .ref a
  | .tv xs, v => ∃ a vs, v = .ref a ∧ SqT K H a vs ∧ RepVs T K ρ H xs vs
  | .lv xs, v => ∃ a vs, v = .ref a ∧ a ∉ ρ ∧ H a = some (.lst vs) ∧ RepVs T K ρ H xs vs
  | .co L, v => ∃ f pm c' ctv, LamK L ∧ T.mkd L ∧ v = .ref f ∧ H f = some (FunO f (CloO L (cloFrom T.cells L.scope.names []) pm c' ctv)) ∧ H c' = some (LamX.CodeO c' L.qual)
  | .cv L xs, v => ∃ f cl pm c' ctv ws, LamK L ∧ v = .ref f ∧ H f = some (FunO f (CloO L cl pm c' ctv)) ∧ H c' = some (LamX.CodeO c' L.qual) ∧ CapR T.an cl L.caps ws ∧ RepVs T K ρ H xs ws
  | .ex k x, v => ∃ a cls dd, T.ex = some (a, cls, dd) ∧ v = .ref a ∧ RepX T K ρ H k x cls dd
def RepVs (T : Tb) (K : PySem.W.Frag) (ρ : List Addr) (H : Hp) : List Vl → List L2.V → Prop
  | [], vs => vs = []
  | x :: xs, vs => ∃ v r, vs = v :: r ∧ RepV T K ρ H x v ∧ RepVs T K ρ H xs r
end
structure Ext (ρ ρ' : List Addr) (H H' : Hp) : Prop where
  pre : ∃ t, ρ' = ρ ++ t ∧ ∀ a ∈ t, H a = none
  keep : ∀ b o, H b = some o → b ∉ ρ → (∀ ps, o ≠ .tbl ps) → H' b = some o
  stay : ∀ b, H b ≠ none → H' b ≠ none
structure RepE (T : Tb) (K : PySem.W.Frag) (ρ : List Addr) (H : Hp) (γ : Env) (σ : L2.St) : Prop where
  len : γ.length = σ.length
  at_ : ∀ (i : Nat) (v : Vl), γ[i]? = some (some v) → ∃ x, σ[i]? = some (some x) ∧ RepV T K ρ H v x
/-- what the store's objects are -/
inductive MutO : HO → Prop
  | lst (vs : List L2.V) : MutO (.lst vs)
  | dct (ks : List (L2.Key × L2.V)) : MutO (.dK ks)
/-- the store's objects are lists and dicts -/
def TupOut (ρ : List Addr) (H : Hp) : Prop := ∀ a ∈ ρ, ∃ o, H a = some o ∧ MutO o
structure RepS [TabC] (K : PySem.W.Frag) (ρ : List Addr) (H : Hp) (S : Store) : Prop where
  len : ρ.length = S.length
  nd : ρ.Nodup
  out : TupOut ρ H
  tab : LamX.Tabs TabC.tabs H
  at_ : ∀ (i : Nat) (xs : List D), S[i]? = some (Ob.lst xs) → ∃ a vs, ρ[i]? = some a ∧ H a = some (.lst vs) ∧ RepDs K ρ H xs vs
  atd : ∀ (i : Nat) (kvs : List (D × D)), S[i]? = some (Ob.dct kvs) → ∃ a ks, ρ[i]? = some a ∧ H a = some (.dK ks) ∧ RepKs K ρ H kvs ks

section
variable [TabC] {T : Tb} {K : PySem.W.Frag} {ρ ρ' ρ1 ρ2 : List Addr} {H H' H1 H2 : Hp} {γ : Env} {σ : L2.St} {S : Store}
theorem Ext.refl (ρ : List Addr) (H : Hp) : Ext ρ ρ H H := ⟨⟨[], by simp, by simp⟩, fun _ _ h _ _ => h, fun _ h => h⟩
theorem Ext.none_of (e : Ext ρ ρ' H H') {a : Addr} (h : H' a = none) : H a = none := by
  cases q : H a with
  | none => rfl
  | some o => exact absurd h (e.stay a (by rw [q]; exact fun z => nomatch z))
theorem Ext.trans (e : Ext ρ ρ1 H H1) (e' : Ext ρ1 ρ2 H1 H2) : Ext ρ ρ2 H H2 := by
  obtain ⟨⟨t, ht, hn⟩, k, s⟩ := e
  obtain ⟨⟨t', ht', hn'⟩, k', s'⟩ := id e'
  have e0 : Ext ρ ρ1 H H1 := ⟨⟨t, ht, hn⟩, k, s⟩
  refine ⟨⟨t ++ t', by rw [ht', ht, List.append_assoc], fun a ha => ?_⟩, fun b o h m nt => ?_, fun b h => ?_⟩
  · rcases List.mem_append.mp ha with q | q
    · exact hn a q
    · exact e0.none_of (hn' a q)
  · refine k' b o (k b o h m nt) (fun z => ?_) nt
    rw [ht] at z
    rcases List.mem_append.mp z with q | q
    · exact m q
    · rw [hn b q] at h; cases h
  · exact s' b (s b h)
theorem Ext.notin (e : Ext ρ ρ' H H') {a : Addr} {o : HO} (h : H a = some o) (m : a ∉ ρ) : a ∉ ρ' := by
  obtain ⟨⟨t, ht, hn⟩, _, _⟩ := e
  intro z
  rw [ht] at z
  rcases List.mem_append.mp z with q | q
  · exact m q
  · rw [hn a q] at h; cases h
theorem Ext.get (e : Ext ρ ρ' H H') {i : Nat} {a : Addr} (h : ρ[i]? = some a) : ρ'[i]? = some a := by
  obtain ⟨⟨t, ht, _⟩, _, _⟩ := e
  rw [ht, List.getElem?_append_left (List.getElem?_eq_some_iff.mp h).1]
  exact h
theorem SqT.ext (o : TupOut ρ H) (e : Ext ρ ρ' H H') {a : Addr} {vs : List L2.V} (h : SqT K H a vs) : SqT K H' a vs := by
  rcases h with (h | ⟨ob, h⟩) | h
  · refine .inl (.inl (e.keep _ _ h (fun m => ?_) fun _ z => nomatch z))
    obtain ⟨ws, q, mu⟩ := o a m
    rw [h] at q; cases q; cases mu
  · refine .inl (.inr ⟨ob, e.keep _ _ h (fun m => ?_) fun _ z => nomatch z⟩)
    obtain ⟨ws, q, mu⟩ := o a m
    rw [h] at q; cases q; cases mu
  · exact .inr h
theorem ImL.sq {a : Addr} {vs : List L2.V} (h : ImL K ρ H a vs) : SqL K H a vs := by
  rcases h with ⟨_, h⟩ | (h | ⟨ob, h⟩) | h
  · exact .inl h
  · cases h
  · cases h
  · exact .inr h
theorem ImL.mono (e : Ext ρ ρ' H H') {a : Addr} {vs : List L2.V} (h : ImL K ρ H a vs) : ImL K ρ' H' a vs := by
  rcases h with ⟨m, h | ⟨ob, h⟩⟩ | h
  · exact .inl ⟨e.notin h m, .inl (e.keep _ _ h m fun _ z => nomatch z)⟩
  · exact .inl ⟨e.notin h m, .inr ⟨ob, e.keep _ _ h m fun _ z => nomatch z⟩⟩
  · exact .inr h
mutual
theorem RepD.mono (o : TupOut ρ H) (e : Ext ρ ρ' H H') : ∀ {x : PyData} {v : L2.V}, RepD K ρ H x v → RepD K ρ' H' x v
  | .none, v, h => by unfold RepD at *; exact h
  | .bool b, v, h => by unfold RepD at *; exact h
  | .int i, v, h => by unfold RepD at *; exact h
  | .str s, v, h => by unfold RepD at *; exact h
  | .tuple xs, v, h => by
    unfold RepD at *
    obtain ⟨a, vs, h1, h2, h3⟩ := h
    exact ⟨a, vs, h1, SqT.ext o e h2, RepDs.mono o e h3⟩
  | .list xs, v, h => by
    unfold RepD at *
    obtain ⟨a, vs, h1, h2, h3, h4⟩ := h
    exact ⟨a, vs, h1, e.notin h3 h2, e.keep _ _ h3 h2 (fun _ z => nomatch z), RepDs.mono o e h4⟩
  | .dict kvs, v, h => by
    unfold RepD at *
    obtain ⟨a, ks, h1, h2, h3, h4⟩ := h
    exact ⟨a, ks, h1, e.notin h3 h2, e.keep _ _ h3 h2 (fun _ z => nomatch z), RepKs.mono o e h4⟩
theorem RepKs.mono (o : TupOut ρ H) (e : Ext ρ ρ' H H') : ∀ {kvs : List (PyData × PyData)} {ks : List (L2.Key × L2.V)}, RepKs K ρ H kvs ks → RepKs K ρ' H' kvs ks
  | [], ks, h => by unfold RepKs at *; exact h
  | (k, x) :: r, ks, h => by
    unfold RepKs at *
    obtain ⟨k', v, rs, h1, h2, h3, h4⟩ := h
    exact ⟨k', v, rs, h1, RepD.mono o e h2, RepD.mono o e h3, RepKs.mono o e h4⟩
theorem RepDs.mono (o : TupOut ρ H) (e : Ext ρ ρ' H H') : ∀ {xs : List PyData} {vs : List L2.V}, RepDs K ρ H xs vs → RepDs K ρ' H' xs vs
  | [], vs, h => by unfold RepDs at *; exact h
  | x :: xs, vs, h => by
    unfold RepDs at *
    obtain ⟨v, r, h1, h2, h3⟩ := h
    exact ⟨v, r, h1, RepD.mono o e h2, RepDs.mono o e h3⟩
end
theorem RepX.mono (o : TupOut ρ H) (e : Ext ρ ρ' H H') {k : Nat} {x : D} {cls : Value} {dd : Option Addr} (h : RepX T K ρ H k x cls dd) : RepX T K ρ' H' k x cls dd := by
  obtain ⟨C, c1, c2, c3⟩ := h
  refine ⟨C, c1, c2, ?_⟩
  cases q : T.cf k with
  | none => rw [q] at c3; exact c3
  | some f =>
    rw [q] at c3
    obtain ⟨a, v, d1, d2, d3, d4⟩ := c3
    exact ⟨a, v, d1, e.notin d3 d2, e.keep _ _ d3 d2 (fun _ z => nomatch z), d4.mono o e⟩
/-- what is no list, no dict, is no object of the store -/
theorem TupOut.not (o : TupOut ρ H) {a : Addr} {u : HO} (h : H a = some u) (n : ¬ MutO u) : a ∉ ρ := fun m => by
  obtain ⟨vs, q, mu⟩ := o a m
  rw [h] at q
  cases q
  exact n mu
theorem FunO.kept (o : TupOut ρ H) (e : Ext ρ ρ' H H') {f : Addr} {φ : Heap → Prop} (h : H f = some (.ext φ)) : H' f = some (.ext φ) := e.keep _ _ h (o.not h fun z => nomatch z) fun _ z => nomatch z
mutual
theorem RepV.mono (o : TupOut ρ H) (e : Ext ρ ρ' H H') : ∀ {x : Vl} {v : L2.V}, RepV T K ρ H x v → RepV T K ρ' H' x v
  | .d x, v, h => by unfold RepV at *; exact RepD.mono o e h
  | .sc xs, v, h => by
    unfold RepV at *
    obtain ⟨a, vs, h1, h2, h3⟩ := h
    exact ⟨a, vs, h1, h2.mono e, RepDs.mono o e h3⟩
  | .r i, v, h => by
    unfold RepV at *
    obtain ⟨a, h1, h2⟩ := h
    exact ⟨a, e.get h1, h2⟩
  | .fn f, v, h => by unfold RepV at *; exact h
  | .tv xs, v, h => by
    unfold RepV at *
    obtain ⟨a, vs, h1, h2, h3⟩ := h
    exact ⟨a, vs, h1, SqT.ext o e h2, RepVs.mono o e h3⟩
  | .lv xs, v, h => by
    unfold RepV at *
    obtain ⟨a, vs, h1, h2, h3, h4⟩ := h
    exact ⟨a, vs, h1, e.notin h3 h2, e.keep _ _ h3 h2 (fun _ z => nomatch z), RepVs.mono o e h4⟩
  | .co l, v, h => by
    unfold RepV at *
    obtain ⟨f, pm, c', ctv, h1, h2, h3, h4, h5⟩ := h
    exact ⟨f, pm, c', ctv, h1, h2, h3, FunO.kept o e h4, FunO.kept o e h5⟩
  | .cv l xs, v, h => by
    unfold RepV at *
    obtain ⟨f, cl, pm, c', ctv, ws, h1, h3, h4, h5, h6, h7⟩ := h
    exact ⟨f, cl, pm, c', ctv, ws, h1, h3, FunO.kept o e h4, FunO.kept o e h5, h6, RepVs.mono o e h7⟩
  | .ex k x, v, h => by
    unfold RepV at *
    obtain ⟨a, cls, dd, h1, h2, h3⟩ := h
    exact ⟨a, cls, dd, h1, h2, h3.mono o e⟩
theorem RepVs.mono (o : TupOut ρ H) (e : Ext ρ ρ' H H') : ∀ {xs : List Vl} {vs : List L2.V}, RepVs T K ρ H xs vs → RepVs T K ρ' H' xs vs
  | [], vs, h => by unfold RepVs at *; exact h
  | x :: xs, vs, h => by
    unfold RepVs at *
    obtain ⟨v, r, h1, h2, h3⟩ := h
    exact ⟨v, r, h1, RepV.mono o e h2, RepVs.mono o e h3⟩
end
theorem RepE.mono (o : TupOut ρ H) (e : Ext ρ ρ' H H') (h : RepE T K ρ H γ σ) : RepE T K ρ' H' γ σ :=
  ⟨h.len, fun i v q => let ⟨x, h1, h2⟩ := h.at_ i v q; ⟨x, h1, h2.mono o e⟩⟩
theorem RepE.set {i : Nat} {v : Vl} {x : L2.V} (h : RepE T K ρ H γ σ) (r : RepV T K ρ H v x) : RepE T K ρ H (γ.set i (some v)) (σ.set i (some x)) := by
  refine ⟨by simp [h.len], fun j w q => ?_⟩
  by_cases e : i = j
  · subst e
    by_cases l : i < γ.length
    · rw [List.getElem?_set_self l] at q
      cases q
      exact ⟨x, by rw [List.getElem?_set_self (by rw [← h.len]; exact l)], r⟩
    · rw [List.getElem?_eq_none (by simpa using l)] at q; cases q
  · rw [List.getElem?_set_ne e] at q
    obtain ⟨y, h1, h2⟩ := h.at_ j w q
    exact ⟨y, by rw [List.getElem?_set_ne e]; exact h1, h2⟩
theorem RepDs.length : ∀ {xs : List PyData} {vs : List L2.V}, RepDs K ρ H xs vs → vs.length = xs.length
  | [], vs, h => by unfold RepDs at h; rw [h]; rfl
  | x :: xs, vs, h => by
    unfold RepDs at h
    obtain ⟨v, r, rfl, _, h3⟩ := h
    simp [RepDs.length h3]
theorem RepVs.length : ∀ {xs : List Vl} {vs : List L2.V}, RepVs T K ρ H xs vs → vs.length = xs.length
  | [], vs, h => by unfold RepVs at h; rw [h]; rfl
  | x :: xs, vs, h => by
    unfold RepVs at h
    obtain ⟨v, r, rfl, _, h3⟩ := h
    simp [RepVs.length h3]
theorem RepDs.nil : RepDs K ρ H [] [] := by unfold RepDs; rfl
theorem RepDs.cons {x : PyData} {xs : List PyData} {v : L2.V} {vs : List L2.V} (h : RepD K ρ H x v) (hs : RepDs K ρ H xs vs) : RepDs K ρ H (x :: xs) (v :: vs) := by
  unfold RepDs; exact ⟨v, vs, rfl, h, hs⟩
theorem RepDs.get : ∀ {xs : List PyData} {vs : List L2.V} {i : Nat} {x : PyData}, RepDs K ρ H xs vs → xs[i]? = some x → ∃ v, vs[i]? = some v ∧ RepD K ρ H x v
  | [], _, _, _, _, e => by simp at e
  | y :: ys, vs, i, x, h, e => by
    unfold RepDs at h
    obtain ⟨v, r, rfl, h1, h2⟩ := h
    cases i with
    | zero => simp at e; subst e; exact ⟨v, by simp, h1⟩
    | succ i => obtain ⟨w, a, b⟩ := RepDs.get (i := i) h2 (by simpa using e); exact ⟨w, by simpa using a, b⟩
theorem RepDs.get' : ∀ {xs : List PyData} {vs : List L2.V} {i : Nat} {v : L2.V}, RepDs K ρ H xs vs → vs[i]? = some v → ∃ x, xs[i]? = some x ∧ RepD K ρ H x v
  | [], vs, _, _, h, e => by unfold RepDs at h; subst h; simp at e
  | y :: ys, vs, i, x, h, e => by
    unfold RepDs at h
    obtain ⟨v, r, rfl, h1, h2⟩ := h
    cases i with
    | zero => simp at e; subst e; exact ⟨y, by simp, h1⟩
    | succ i => obtain ⟨w, a, b⟩ := RepDs.get' (i := i) h2 (by simpa using e); exact ⟨w, by simpa using a, b⟩
theorem RepDs.append : ∀ {xs ys : List PyData} {vs ws : List L2.V}, RepDs K ρ H xs vs → RepDs K ρ H ys ws → RepDs K ρ H (xs ++ ys) (vs ++ ws)
  | [], _, vs, _, h, k => by unfold RepDs at h; subst h; exact k
  | x :: xs, _, vs, _, h, k => by
    unfold RepDs at h
    obtain ⟨v, r, rfl, h1, h2⟩ := h
    exact RepDs.cons h1 (RepDs.append h2 k)
theorem RepDs.drop : ∀ {xs : List PyData} {vs : List L2.V} (n : Nat), RepDs K ρ H xs vs → RepDs K ρ H (xs.drop n) (vs.drop n)
  | xs, vs, 0, h => h
  | [], vs, n + 1, h => by unfold RepDs at h; subst h; exact RepDs.nil
  | x :: xs, vs, n + 1, h => by
    unfold RepDs at h
    obtain ⟨v, r, rfl, h1, h2⟩ := h
    exact RepDs.drop n h2
theorem RepDs.take : ∀ {xs : List PyData} {vs : List L2.V} (n : Nat), RepDs K ρ H xs vs → RepDs K ρ H (xs.take n) (vs.take n)
  | xs, vs, 0, h => RepDs.nil
  | [], vs, n + 1, h => by unfold RepDs at h; subst h; exact RepDs.nil
  | x :: xs, vs, n + 1, h => by
    unfold RepDs at h
    obtain ⟨v, r, rfl, h1, h2⟩ := h
    exact RepDs.cons h1 (RepDs.take n h2)
theorem RepDs.reverse {xs : List PyData} {vs : List L2.V} (h : RepDs K ρ H xs vs) : RepDs K ρ H xs.reverse vs.reverse := by
  induction xs generalizing vs with
  | nil => unfold RepDs at h; subst h; exact RepDs.nil
  | cons x xs ih =>
    unfold RepDs at h
    obtain ⟨v, r, rfl, h1, h2⟩ := h
    rw [List.reverse_cons, List.reverse_cons]
    exact RepDs.append (ih h2) (RepDs.cons h1 RepDs.nil)
theorem RepDs.set : ∀ {xs : List PyData} {vs : List L2.V} {y : PyData} {w : L2.V} (i : Nat), RepDs K ρ H xs vs → RepD K ρ H y w → RepDs K ρ H (xs.set i y) (vs.set i w)
  | [], vs, _, _, _, h, _ => by unfold RepDs at h; subst h; exact RepDs.nil
  | x :: xs, vs, y, w, i, h, k => by
    unfold RepDs at h
    obtain ⟨v, r, rfl, h1, h2⟩ := h
    cases i with
    | zero => exact RepDs.cons k h2
    | succ i => exact RepDs.cons h1 (RepDs.set i h2 k)
theorem RepDs.rep {xs : List PyData} {vs : List L2.V} (h : RepDs K ρ H xs vs) : ∀ n, RepDs K ρ H (List.replicate n xs).flatten (List.replicate n vs).flatten
  | 0 => RepDs.nil
  | n + 1 => by
    rw [List.replicate_succ, List.replicate_succ, List.flatten_cons, List.flatten_cons]
    exact RepDs.append h (RepDs.rep h n)
/-- all data -/
theorem RepVs.data : ∀ {xs : List Vl} {ds : List D} {vs : List L2.V}, allD xs = some ds → RepVs T K ρ H xs vs → RepDs K ρ H ds vs
  | [], ds, vs, e, h => by
    unfold allD at e; cases e
    unfold RepVs at h; subst h; exact RepDs.nil
  | .d x :: xs, ds, vs, e, h => by
    unfold allD at e
    cases q : allD xs with
    | none => rw [q] at e; cases e
    | some es =>
      rw [q] at e; cases e
      unfold RepVs at h
      obtain ⟨v, r, rfl, h1, h2⟩ := h
      unfold RepV at h1
      exact RepDs.cons h1 (RepVs.data q h2)
  | .r _ :: _, _, _, e, _ => by unfold allD at e; cases e
  | .sc _ :: _, _, _, e, _ => by unfold allD at e; cases e
  | .fn _ :: _, _, _, e, _ => by unfold allD at e; cases e
  | .tv _ :: _, _, _, e, _ => by unfold allD at e; cases e
  | .lv _ :: _, _, _, e, _ => by unfold allD at e; cases e
  | .co _ :: _, _, _, e, _ => by unfold allD at e; cases e
  | .cv _ _ :: _, _, _, e, _ => by unfold allD at e; cases e
  | .ex _ _ :: _, _, _, e, _ => by unfold allD at e; cases e
end
end Mk
/-! Mk3: readings of the evaluator, expressions. -/
namespace Mk
open PySem PySem.Spec PyProof.Rows L2

structure Tx extends Tb
abbrev Rl (α β : Type) := List Addr → Hp → α → β → Prop
section
variable [TabC] (T : Tx) (X : Cx) (W : WX)
def Po {α β : Type} (rel : Rl α β) (σ : L2.St) (ρ : List Addr) (H : Hp) (m : R α) (Q : β → Hp → Prop) : Prop := match m with
  | .ok d S' => ∀ v H' ρ', Ext ρ ρ' H H' → rel ρ' H' d v → RepS X.K ρ' H' S' → Q v H'
  | .er k x S' => ∀ cls dd H' ρ', Ext ρ ρ' H H' → RepS X.K ρ' H' S' → RepX T.toTb X.K ρ' H' k x cls dd → W cls dd σ H'
  | .stuck => False
abbrev rV : Rl Vl L2.V := RepV T.toTb X.K
abbrev rVs : Rl (List Vl) (List L2.V) := RepVs T.toTb X.K
abbrev rB : Rl Bool Bool := fun _ _ k b => b = k
/-- a reading: some environment and store stand for the slots and the heap, and what is told of them is enough -/
def rdG {α β : Type} (rel : Rl α β) (c : Cl) (x : Cl → Env → Store → R α) : L2.St → Hp → (β → Hp → Prop) → Prop := fun σ H Q =>
  ∃ (γ : Env) (S : Store) (ρ : List Addr), RepE T.toTb X.K ρ H γ σ ∧ RepS X.K ρ H S ∧ Po T X W rel σ ρ H (x c γ S) Q
abbrev rdE (c : Cl) (x : TEx) : TE := rdG T X W (rV T X) c x
abbrev rdT (c : Cl) (x : TTs) : TT := rdG T X W rB c x
abbrev rdA (c : Cl) (x : TAr) : TA := rdG T X W (rVs T X) c x
end

section
variable [TabC] {T : Tx} {X : Cx} {W : WX} {α α' β β' : Type} {rel : Rl α β} {rel' : Rl α' β'} {σ : L2.St} {ρ ρ' : List Addr} {H H' : Hp} {γ : Env} {S : Store} {c : Cl}
theorem Po.imp {m : R α} {Q Q' : β → Hp → Prop} (h : Po T X W rel σ ρ H m Q) (hq : ∀ v H', Q v H' → Q' v H') : Po T X W rel σ ρ H m Q' := by
  cases m with
  | ok d S' => exact fun v H' ρ' e r s => hq _ _ (h v H' ρ' e r s)
  | er k x S' => exact h
  | stuck => exact h
theorem Po.later {m : R α} {Q : β → Hp → Prop} (e : Ext ρ ρ' H H') (h : Po T X W rel σ ρ H m Q) : Po T X W rel σ ρ' H' m Q := by
  cases m with
  | ok d S' => exact fun v H2 ρ2 e2 r s => h v H2 ρ2 (e.trans e2) r s
  | er k x S' => exact fun cls dd H2 ρ2 e2 s r => h cls dd H2 ρ2 (e.trans e2) s r
  | stuck => exact h
theorem Po.bind {m : R α} {f : α → Store → R α'} {Q : β' → Hp → Prop} (h : Po T X W rel' σ ρ H (m.bind f) Q) :
    Po T X W rel σ ρ H m fun v H1 => ∃ (d : α) (S1 : Store) (ρ1 : List Addr), Ext ρ ρ1 H H1 ∧ rel ρ1 H1 d v ∧ RepS X.K ρ1 H1 S1 ∧ m = .ok d S1 ∧ Po T X W rel' σ ρ1 H1 (f d S1) Q := by
  cases m with
  | ok d S' => exact fun v H' ρ' e r s => ⟨d, S', ρ', e, r, s, rfl, Po.later e h⟩
  | er k x S' => exact h
  | stuck => exact h
/-- the heart: a reading of the first part, and what follows -/
theorem rd_bind {x : Cl → Env → Store → R α} {f : α → Store → R α'} {Q : β' → Hp → Prop} (hE : RepE T.toTb X.K ρ H γ σ) (hS : RepS X.K ρ H S) (h : Po T X W rel' σ ρ H ((x c γ S).bind f) Q)
    {Q1 : β → Hp → Prop} (k : ∀ v H1 d S1 ρ1, Ext ρ ρ1 H H1 → rel ρ1 H1 d v → RepE T.toTb X.K ρ1 H1 γ σ → RepS X.K ρ1 H1 S1 → Po T X W rel' σ ρ1 H1 (f d S1) Q → Q1 v H1) : rdG T X W rel c x σ H Q1 :=
  ⟨γ, S, ρ, hE, hS, (Po.bind h).imp fun v H1 ⟨d, S1, ρ1, e, r, s, _, p⟩ => k v H1 d S1 ρ1 e r (hE.mono hS.out e) s p⟩
theorem _root_.L2.PE.imp {X : Cx} {e : Expr} {t t' : TE} (h : PE X e t) (k : ∀ σ H Q, t' σ H Q → t σ H Q) : PE X e t' := ⟨fun pins s σ H Q I q => h.run pins s σ H Q I (k σ H Q q)⟩
theorem _root_.L2.PT.imp {X : Cx} {e : Expr} {t t' : TT} (h : PT X e t) (k : ∀ σ H Q, t' σ H Q → t σ H Q) : PT X e t' := ⟨fun pins s σ H Q I q => h.run pins s σ H Q I (k σ H Q q)⟩
theorem _root_.L2.PW.imp {X : Cx} {e : Expr} {t t' : TT} (h : PW X e t) (k : ∀ σ H Q, t' σ H Q → t σ H Q) : PW X e t' := ⟨fun wh pins s σ H Q I q => h.run wh pins s σ H Q I (k σ H Q q)⟩
theorem _root_.L2.PA.imp {X : Cx} {es : List Expr} {t t' : TA} (h : PA X es t) (k : ∀ σ H Q, t' σ H Q → t σ H Q) : PA X es t' := ⟨fun pos pins s σ H Q I q => h.run pos pins s σ H Q I (k σ H Q q)⟩

/-! ### heaps that grow -/
theorem Ext.new {p : Addr} {o : HO} (h : H p = none) : Ext ρ ρ H (upd H p o) :=
  ⟨⟨[], by simp, by simp⟩, fun b u q _ _ => by rw [upd_ne (ne_of_none q h)]; exact q, fun b q => by
    by_cases e : b = p
    · subst e; rw [upd_same]; exact fun z => nomatch z
    · rw [upd_ne e]; exact q⟩
theorem Ext.newMem {p : Addr} {o : HO} (h : H p = none) : Ext ρ (ρ ++ [p]) H (upd H p o) :=
  ⟨⟨[p], rfl, by simp [h]⟩, fun b u q _ _ => by rw [upd_ne (ne_of_none q h)]; exact q, fun b q => by
    by_cases e : b = p
    · subst e; rw [upd_same]; exact fun z => nomatch z
    · rw [upd_ne e]; exact q⟩
/-- an object of the store is changed -/
theorem Ext.chg {p : Addr} {o : HO} (h : p ∈ ρ) : Ext ρ ρ H (upd H p o) :=
  ⟨⟨[], by simp, by simp⟩, fun b u q m _ => by rw [upd_ne (fun e => m (by rw [e]; exact h))]; exact q, fun b q => by
    by_cases e : b = p
    · subst e; rw [upd_same]; exact fun z => nomatch z
    · rw [upd_ne e]; exact q⟩
theorem TupOut.notin (o : TupOut ρ H) {p : Addr} (h : H p = none) : p ∉ ρ := fun m => by
  obtain ⟨vs, q, _⟩ := o p m
  rw [h] at q; cases q
theorem TupOut.new {p : Addr} {o : HO} (s : TupOut ρ H) (h : H p = none) : TupOut ρ (upd H p o) := fun a m => by
  obtain ⟨vs, q, mu⟩ := s a m
  exact ⟨vs, by rw [upd_ne (ne_of_none q h)]; exact q, mu⟩
theorem tab_new {p : Addr} {o : HO} (t : LamX.Tabs TabC.tabs H) (h : H p = none) : LamX.Tabs TabC.tabs (upd H p o) := t.ext fun b u q => by rw [upd_ne (ne_of_none q h)]; exact q
theorem tab_chg {p : Addr} {o u : HO} (t : LamX.Tabs TabC.tabs H) (h : H p = some u) (mu : MutO u) : LamX.Tabs TabC.tabs (upd H p o) := fun q hq => by
  obtain ⟨ps, h1, h2, h3⟩ := t q hq
  refine ⟨ps, by rw [upd_ne (ne_of h1 h (fun z => by subst z; cases mu))]; exact h1, h2, fun pos cv hc => ?_⟩
  obtain ⟨c, e1, e2⟩ := h3 pos cv hc
  exact ⟨c, e1, by rw [upd_ne (ne_of e2 h (fun z => by subst z; cases mu))]; exact e2⟩
theorem RepS.new {p : Addr} {o : HO} (s : RepS X.K ρ H S) (h : H p = none) : RepS X.K ρ (upd H p o) S :=
  ⟨s.len, s.nd, s.out.new h, tab_new s.tab h, fun i xs q => by
    obtain ⟨a, vs, h1, h2, h3⟩ := s.at_ i xs q
    exact ⟨a, vs, h1, by rw [upd_ne (ne_of_none h2 h)]; exact h2, h3.mono s.out (Ext.new h)⟩, fun i xs q => by
    obtain ⟨a, vs, h1, h2, h3⟩ := s.atd i xs q
    exact ⟨a, vs, h1, by rw [upd_ne (ne_of_none h2 h)]; exact h2, h3.mono s.out (Ext.new h)⟩⟩
/-- what an object of the store is in the heap -/
def RepO (K : PySem.W.Frag) (ρ : List Addr) (H : Hp) : Ob → HO → Prop
  | .lst xs, o => ∃ vs, o = .lst vs ∧ RepDs K ρ H xs vs
  | .dct kvs, o => ∃ ks, o = .dK ks ∧ RepKs K ρ H kvs ks
theorem RepO.mut {b : Ob} {o : HO} (r : RepO X.K ρ H b o) : MutO o := by
  cases b with
  | lst xs => obtain ⟨vs, rfl, _⟩ := r; exact .lst vs
  | dct kvs => obtain ⟨vs, rfl, _⟩ := r; exact .dct vs
theorem RepO.mono (t : TupOut ρ H) (e : Ext ρ ρ' H H') {b : Ob} {o : HO} (r : RepO X.K ρ H b o) : RepO X.K ρ' H' b o := by
  cases b with
  | lst xs => obtain ⟨vs, h1, h2⟩ := r; exact ⟨vs, h1, h2.mono t e⟩
  | dct kvs => obtain ⟨vs, h1, h2⟩ := r; exact ⟨vs, h1, h2.mono t e⟩
theorem RepS.ob (s : RepS X.K ρ H S) {i : Nat} {b : Ob} (q : S[i]? = some b) : ∃ a o, ρ[i]? = some a ∧ H a = some o ∧ RepO X.K ρ H b o := by
  cases b with
  | lst xs => obtain ⟨a, vs, h1, h2, h3⟩ := s.at_ i xs q; exact ⟨a, _, h1, h2, vs, rfl, h3⟩
  | dct kvs => obtain ⟨a, vs, h1, h2, h3⟩ := s.atd i kvs q; exact ⟨a, _, h1, h2, vs, rfl, h3⟩
theorem RepS.mk' (len : ρ.length = S.length) (nd : ρ.Nodup) (out : TupOut ρ H) (tab : LamX.Tabs TabC.tabs H) (h : ∀ (i : Nat) (b : Ob), S[i]? = some b → ∃ a o, ρ[i]? = some a ∧ H a = some o ∧ RepO X.K ρ H b o) : RepS X.K ρ H S :=
  ⟨len, nd, out, tab, fun i xs q => by
    obtain ⟨a, o, h1, h2, vs, h3, h4⟩ := h i _ q
    subst h3
    exact ⟨a, vs, h1, h2, h4⟩, fun i xs q => by
    obtain ⟨a, o, h1, h2, vs, h3, h4⟩ := h i _ q
    subst h3
    exact ⟨a, vs, h1, h2, h4⟩⟩
theorem RepS.newOb {p : Addr} {b : Ob} {o : HO} (s : RepS X.K ρ H S) (h : H p = none) (r : RepO X.K ρ H b o) : RepS X.K (ρ ++ [p]) (upd H p o) (S ++ [b]) := by
  have e : Ext ρ (ρ ++ [p]) H (upd H p o) := Ext.newMem h
  refine RepS.mk' (by simp [s.len]) (List.nodup_append.mpr ⟨s.nd, by simp, fun a ha b hb => ?_⟩) (fun a ha => ?_) (tab_new s.tab h) fun i ys q => ?_
  · have : b = p := by simpa using hb
    subst this
    intro z
    subst z
    exact s.out.notin h ha
  · rcases List.mem_append.mp ha with z | z
    · exact s.out.new h a z
    · have : a = p := by simpa using z
      subst this
      exact ⟨o, upd_same, r.mut⟩
  · by_cases l : i < S.length
    · rw [List.getElem?_append_left l] at q
      obtain ⟨a, ws, h1, h2, h3⟩ := s.ob q
      exact ⟨a, ws, e.get h1, by rw [upd_ne (ne_of_none h2 h)]; exact h2, h3.mono s.out e⟩
    · rw [List.getElem?_append_right (Nat.le_of_not_lt l)] at q
      have : i - S.length = 0 := by
        cases z : i - S.length with
        | zero => rfl
        | succ n => rw [z] at q; simp at q
      rw [this] at q
      have q' : b = ys := by simpa using q
      subst q'
      refine ⟨p, o, ?_, upd_same, r.mono s.out e⟩
      rw [List.getElem?_append_right (by rw [s.len]; omega), s.len, this]
      rfl
theorem RepS.chgOb {i : Nat} {p : Addr} {b : Ob} {o : HO} (s : RepS X.K ρ H S) (hi : ρ[i]? = some p) (r : RepO X.K ρ H b o) : RepS X.K ρ (upd H p o) (S.set i b) := by
  have m : p ∈ ρ := List.mem_of_getElem? hi
  have e : Ext ρ ρ H (upd H p o) := Ext.chg m
  have li : i < ρ.length := (List.getElem?_eq_some_iff.mp hi).1
  refine RepS.mk' (by simp [s.len]) s.nd (fun b hb => ?_) (by obtain ⟨us, z, mu⟩ := s.out p m; exact tab_chg s.tab z mu) fun j ys q => ?_
  · by_cases e : b = p
    · subst e; exact ⟨o, upd_same, r.mut⟩
    · obtain ⟨ws, q, mu⟩ := s.out b hb
      exact ⟨ws, by rw [upd_ne e]; exact q, mu⟩
  by_cases ij : i = j
  · subst ij
    rw [List.getElem?_set_self (by rw [← s.len]; exact li)] at q
    have q' : b = ys := by simpa using q
    subst q'
    exact ⟨p, o, hi, upd_same, r.mono s.out e⟩
  · rw [List.getElem?_set_ne ij] at q
    obtain ⟨a, ws, h1, h2, h3⟩ := s.ob q
    refine ⟨a, ws, h1, ?_, h3.mono s.out e⟩
    rw [upd_ne ?_]
    · exact h2
    · intro z
      subst z
      have h1' := (List.getElem?_eq_some_iff.mp h1)
      have hi' := (List.getElem?_eq_some_iff.mp hi)
      obtain ⟨l1, e1⟩ := h1'
      obtain ⟨l2, e2⟩ := hi'
      exact ij ((List.getElem_inj s.nd).mp (e2.trans e1.symm))
theorem RepS.newMem {p : Addr} {xs : List D} {vs : List L2.V} (s : RepS X.K ρ H S) (h : H p = none) (r : RepDs X.K ρ H xs vs) : RepS X.K (ρ ++ [p]) (upd H p (.lst vs)) (S ++ [.lst xs]) := s.newOb h ⟨vs, rfl, r⟩
theorem RepS.chg {i : Nat} {p : Addr} {xs : List D} {vs : List L2.V} (s : RepS X.K ρ H S) (hi : ρ[i]? = some p) (r : RepDs X.K ρ H xs vs) : RepS X.K ρ (upd H p (.lst vs)) (S.set i (.lst xs)) := s.chgOb hi ⟨vs, rfl, r⟩

/-! ### what is held now -/
def NowD (K : PySem.W.Frag) (ρ : List Addr) (H : Hp) : PyData → L2.V → Prop
  | .list xs, v => ∃ a vs, v = .ref a ∧ H a = some (.lst vs) ∧ RepDs K ρ H xs vs
  | d, v => RepD K ρ H d v
theorem RepD.now {d : D} {v : L2.V} (r : RepD X.K ρ H d v) : NowD X.K ρ H d v := by
  cases d with
  | list xs =>
    unfold RepD at r
    obtain ⟨a, vs, h1, _, h3, h4⟩ := r
    exact ⟨a, vs, h1, h3, h4⟩
  | _ => exact r
theorem dat_rep {x : Vl} {d : D} {v : L2.V} (s : RepS X.K ρ H S) (r : RepV T.toTb X.K ρ H x v) (e : dat S x = some d) : NowD X.K ρ H d v := by
  cases x with
  | d y =>
    have e' : some y = some d := e
    cases e'
    unfold RepV at r
    exact r.now
  | r i =>
    unfold RepV at r
    obtain ⟨a, h1, rfl⟩ := r
    unfold dat at e
    dsimp only at e
    cases q : S[i]? with
    | none => rw [q] at e; cases e
    | some o =>
      cases o with
      | lst xs =>
        rw [q] at e
        cases e
        obtain ⟨b, vs, h2, h3, h4⟩ := s.at_ i xs q
        rw [h1] at h2; cases h2
        exact ⟨a, vs, rfl, h3, h4⟩
      | dct kvs => rw [q] at e; cases e
  | fn f => cases e
  | sc xs => cases e
  | tv xs => cases e
  | lv xs => cases e
  | co l => cases e
  | cv l xs => cases e
  | ex k x => cases e
/-! data of the heap as the library reads it -/
theorem key_reads {h : Heap} {k : L2.Key} {d : D} {u : Value} (hk : keyIs k u = true) (r : RepD X.K ρ H d (kV k)) : Reads h u d [] := by
  rcases keyIs_shape hk with ⟨i, t, rfl, rfl⟩ | ⟨x, t, rfl, rfl⟩
  · cases d <;> unfold RepD kV at r
    case int j => injection r with r; subst r; exact .int i t
    case tuple => obtain ⟨_, _, z, _⟩ := r; cases z
    case list => obtain ⟨_, _, z, _⟩ := r; cases z
    case dict => obtain ⟨_, _, z, _⟩ := r; cases z
    all_goals cases r
  · cases d <;> unfold RepD kV at r
    case str j => injection r with r; subst r; exact .str x t
    case tuple => obtain ⟨_, _, z, _⟩ := r; cases z
    case list => obtain ⟨_, _, z, _⟩ := r; cases z
    case dict => obtain ⟨_, _, z, _⟩ := r; cases z
    all_goals cases r
mutual
theorem RepD.reads {pins : List (Addr × Obj)} {s : Shared} (I : Inv X pins σ H s) : ∀ {d : D} {v : L2.V} {u : Value}, RepD X.K ρ H d v → RelV v u → ∃ as, Reads s.heap u d as ∧ (noL d = true → sysModules ∉ as)
  | .none, v, u, r, rv => by unfold RepD at r; subst r; cases rv; exact ⟨_, .none, fun _ => by simp⟩
  | .bool b, v, u, r, rv => by unfold RepD at r; subst r; cases rv; exact ⟨_, .bool b, fun _ => by simp⟩
  | .int i, v, u, r, rv => by unfold RepD at r; subst r; obtain ⟨t, rfl⟩ := rv; exact ⟨_, .int i t, fun _ => by simp⟩
  | .str z, v, u, r, rv => by unfold RepD at r; subst r; obtain ⟨t, rfl⟩ := rv; exact ⟨_, .str z t, fun _ => by simp⟩
  | .tuple xs, v, u, r, rv => by
    unfold RepD at r
    obtain ⟨a, vs, rfl, h2, h3⟩ := r
    cases rv
    obtain ⟨its, r1, ⟨ob, e1, e2, n, e3⟩, _⟩ := I.tuple h2
    obtain ⟨as, q, qn⟩ := RepDs.reads I h3 r1
    exact ⟨_, .tuple e1 e2 e3 (by simpa using q), fun z => qn (by unfold noL at z; exact z)⟩
  | .list xs, v, u, r, rv => by
    unfold RepD at r
    obtain ⟨a, vs, rfl, _, h2, h3⟩ := r
    cases rv
    obtain ⟨its, r1, ⟨ob, n, e1, e2, _, e3⟩, _⟩ := I.list (SqL.of h2)
    obtain ⟨as, q, _⟩ := RepDs.reads I h3 r1
    exact ⟨_, .list e1 e2 e3 (by simpa using q), fun z => by unfold noL at z; cases z⟩
  | .dict kvs, v, u, r, rv => by
    unfold RepD at r
    obtain ⟨a, ks, rfl, _, h2, h3⟩ := r
    cases rv
    have z := I.hok a _ h2
    unfold ObjOk at z
    obtain ⟨_, na, vs, kv, ob, es, ep, e1, ⟨e2, _, _⟩, e3, _, pr, _⟩ := z
    obtain ⟨as, bs, q1, q2, qn⟩ := RepKs.reads I h3 kv pr
    refine ⟨_, .dict e1 e2 e3 q1 q2, fun z => ?_⟩
    obtain ⟨n1, n2⟩ := qn (by unfold noL at z; exact z)
    simp only [List.cons_append, List.mem_cons, List.mem_append, not_or]
    exact ⟨fun z => by rw [← z] at na; simp at na, n1, n2⟩
theorem RepKs.reads {pins : List (Addr × Obj)} {s : Shared} (I : Inv X pins σ H s) : ∀ {kvs : List (D × D)} {ks : List (L2.Key × L2.V)} {vs : List (L2.Key × Value)} {es : List DictEntry}, RepKs X.K ρ H kvs ks → KV ks vs → Pairs (mixKind X.prog X.w) es vs →
    ∃ as bs, ReadsAll s.heap (es.map (·.key)) (kvs.map (·.1)) as ∧ ReadsAll s.heap (es.map (·.val)) (kvs.map (·.2)) bs ∧ (noLk kvs = true → sysModules ∉ as ∧ sysModules ∉ bs)
  | [], ks, vs, es, r, kv, pr => by unfold RepKs at r; subst r; cases kv; cases pr; exact ⟨_, _, .nil, .nil, fun _ => by simp⟩
  | (k, x) :: rest, ks, vs, es, r, kv, pr => by
    unfold RepKs at r
    obtain ⟨k', v, rs, rfl, h2, h3, h4⟩ := r
    cases kv with
    | cons kk kv2 =>
      obtain ⟨k1, k2⟩ := kk
      cases pr with
      | cons p1 p2 p3 =>
        obtain ⟨as, bs, q1, q2, qn⟩ := RepKs.reads I h4 kv2 p3
        obtain ⟨cs, q3, qn3⟩ := RepD.reads I h3 k2
        rw [← k1] at p1
        have q4 := key_reads (h := s.heap) p1 h2
        rw [← p2] at q3
        refine ⟨_, _, .cons q4 q1, .cons q3 q2, fun z => ?_⟩
        unfold noLk at z
        simp only [Bool.and_eq_true] at z
        obtain ⟨n1, n2⟩ := qn z.2.2
        exact ⟨by simpa using n1, fun m => (List.mem_append.mp m).elim (qn3 z.2.1) n2⟩
theorem RepDs.reads {pins : List (Addr × Obj)} {s : Shared} (I : Inv X pins σ H s) : ∀ {ds : List D} {vs : List L2.V} {us : List Value}, RepDs X.K ρ H ds vs → Vals vs us → ∃ as, ReadsAll s.heap us ds as ∧ (noLs ds = true → sysModules ∉ as)
  | [], vs, us, r, rv => by unfold RepDs at r; subst r; cases rv; exact ⟨_, .nil, fun _ => by simp⟩
  | d :: ds, vs, us, r, rv => by
    unfold RepDs at r
    obtain ⟨v, w, rfl, h1, h2⟩ := r
    cases rv with
    | cons r1 r2 =>
      obtain ⟨as, q1, n1⟩ := RepD.reads I h1 r1
      obtain ⟨bs, q2, n2⟩ := RepDs.reads I h2 r2
      refine ⟨_, .cons q1 q2, fun z => ?_⟩
      unfold noLs at z
      simp only [Bool.and_eq_true] at z
      exact fun m => (List.mem_append.mp m).elim (n1 z.1) (n2 z.2)
end
theorem NowD.reads2 {pins : List (Addr × Obj)} {s : Shared} (I : Inv X pins σ H s) {d : D} {v : L2.V} {u : Value} (r : NowD X.K ρ H d v) (rv : RelV v u) : ∃ as, Reads s.heap u d as ∧ (noL d = true → sysModules ∉ as) := by
  cases d with
  | list xs =>
    obtain ⟨a, vs, rfl, h2, h3⟩ := r
    cases rv
    obtain ⟨its, r1, ⟨ob, n, e1, e2, _, e3⟩, _⟩ := I.list (SqL.of h2)
    obtain ⟨as, q, _⟩ := RepDs.reads I h3 r1
    exact ⟨_, .list e1 e2 e3 (by simpa using q), fun z => by unfold noL at z; cases z⟩
  | none => exact RepD.reads (ρ := ρ) I r rv
  | bool b => exact RepD.reads (ρ := ρ) I r rv
  | int i => exact RepD.reads (ρ := ρ) I r rv
  | str z => exact RepD.reads (ρ := ρ) I r rv
  | tuple xs => exact RepD.reads (ρ := ρ) I r rv
  | dict k => exact RepD.reads (ρ := ρ) I r rv
theorem NowD.reads {pins : List (Addr × Obj)} {s : Shared} (I : Inv X pins σ H s) {d : D} {v : L2.V} {u : Value} (r : NowD X.K ρ H d v) (rv : RelV v u) : ∃ as, Reads s.heap u d as :=
  let ⟨as, h, _⟩ := NowD.reads2 I r rv
  ⟨as, h⟩

/-! ### new lists, new tuples -/
theorem new_lst {m : Bool} {xs : List D} {vs : List L2.V} {Q : L2.V → Hp → Prop} (s : RepS X.K ρ H S) (r : RepDs X.K ρ H xs vs) (h : Po T X W (rV T X) σ ρ H (mkLst m xs S) Q) {p : Addr} (hp : H p = none) : Q (.ref p) (upd H p (.lst vs)) := by
  cases m with
  | false =>
    refine h _ _ ρ (Ext.new hp) ?_ (s.new hp)
    unfold rV RepV RepD
    exact ⟨p, vs, rfl, s.out.notin hp, upd_same, r.mono s.out (Ext.new hp)⟩
  | true =>
    refine h _ _ (ρ ++ [p]) (Ext.newMem hp) ?_ (s.newMem hp r)
    unfold rV RepV
    exact ⟨p, by rw [← s.len, List.getElem?_append_right (Nat.le_refl _), Nat.sub_self] <;> rfl, rfl⟩
theorem new_tup {xs : List D} {vs : List L2.V} {Q : L2.V → Hp → Prop} (s : RepS X.K ρ H S) (r : RepDs X.K ρ H xs vs) (h : Po T X W (rV T X) σ ρ H (.ok (.d (.tuple xs)) S) Q) {p : Addr} (hp : H p = none) : Q (.ref p) (upd H p (.tup vs)) := by
  refine h _ _ ρ (Ext.new hp) ?_ (s.new hp)
  unfold rV RepV RepD
  exact ⟨p, vs, rfl, SqT.of upd_same, r.mono s.out (Ext.new hp)⟩
theorem old_val {x : Vl} {v : L2.V} {Q : L2.V → Hp → Prop} (s : RepS X.K ρ H S) (r : RepV T.toTb X.K ρ H x v) (h : Po T X W (rV T X) σ ρ H (.ok x S) Q) : Q v H := h _ _ ρ (Ext.refl ρ H) r s
theorem rep_int {i : Int} : RepV T.toTb X.K ρ H (I i) (.int i) := by unfold I RepV RepD; rfl
theorem rep_bl {b : Bool} : RepV T.toTb X.K ρ H (B b) (.bl b) := by unfold B RepV RepD; rfl
theorem rep_str {z : Str} : RepV T.toTb X.K ρ H (.d (.str z)) (.str z) := by unfold RepV RepD; rfl
theorem repds_vs : ∀ {xs : List D} {vs : List L2.V}, RepDs X.K ρ H xs vs → RepVs T.toTb X.K ρ H (xs.map .d) vs
  | [], vs, h => by unfold RepDs at h; subst h; unfold List.map RepVs; rfl
  | x :: xs, vs, h => by
    unfold RepDs at h
    obtain ⟨v, r, rfl, h1, h2⟩ := h
    unfold List.map RepVs
    exact ⟨v, r, rfl, by unfold RepV; exact h1, repds_vs h2⟩
theorem RepVs.append : ∀ {xs ys : List Vl} {vs ws : List L2.V}, RepVs T.toTb X.K ρ H xs vs → RepVs T.toTb X.K ρ H ys ws → RepVs T.toTb X.K ρ H (xs ++ ys) (vs ++ ws)
  | [], _, vs, _, h, k => by unfold RepVs at h; subst h; exact k
  | x :: xs, _, vs, _, h, k => by
    unfold RepVs at h
    obtain ⟨v, r, rfl, h1, h2⟩ := h
    show RepVs _ _ _ _ (x :: (xs ++ _)) (v :: (r ++ _))
    unfold RepVs
    exact ⟨v, _, rfl, h1, RepVs.append h2 k⟩
theorem RepVs.get : ∀ {xs : List Vl} {vs : List L2.V} {i : Nat} {x : Vl}, RepVs T.toTb X.K ρ H xs vs → xs[i]? = some x → ∃ v, vs[i]? = some v ∧ RepV T.toTb X.K ρ H x v
  | [], _, _, _, _, e => by simp at e
  | y :: ys, vs, i, x, h, e => by
    unfold RepVs at h
    obtain ⟨v, r, rfl, h1, h2⟩ := h
    cases i with
    | zero => simp at e; subst e; exact ⟨v, by simp, h1⟩
    | succ i => obtain ⟨w, a, b⟩ := RepVs.get (i := i) h2 (by simpa using e); exact ⟨w, by simpa using a, b⟩
/-- a list's items now -/
theorem lit_rep {x : Vl} {xs : List Vl} {v : L2.V} (s : RepS X.K ρ H S) (r : RepV T.toTb X.K ρ H x v) (e : lit S x = some xs) : ∃ a vs, v = .ref a ∧ H a = some (.lst vs) ∧ RepVs T.toTb X.K ρ H xs vs := by
  unfold lit at e
  split at e
  · cases e
    unfold RepV RepD at r
    obtain ⟨a, vs, h1, _, h3, h4⟩ := r
    exact ⟨a, vs, h1, h3, repds_vs h4⟩
  · rename_i i
    unfold RepV at r
    obtain ⟨a, h1, rfl⟩ := r
    cases q : S[i]? with
    | none => rw [q] at e; cases e
    | some o =>
      cases o with
      | lst xs =>
        rw [q] at e
        cases e
        obtain ⟨b, vs, h2, h3, h4⟩ := s.at_ i xs q
        rw [h1] at h2; cases h2
        exact ⟨a, vs, rfl, h3, repds_vs h4⟩
      | dct kvs => rw [q] at e; cases e
  · cases e
    unfold RepV at r
    obtain ⟨a, vs, h1, _, h3, h4⟩ := r
    exact ⟨a, vs, h1, h3, h4⟩
  · cases e
theorem tit_rep {x : Vl} {xs : List Vl} {v : L2.V} (r : RepV T.toTb X.K ρ H x v) (e : tit x = some xs) : ∃ a vs, v = .ref a ∧ SqT X.K H a vs ∧ RepVs T.toTb X.K ρ H xs vs := by
  unfold tit at e
  split at e
  · cases e
    unfold RepV RepD at r
    obtain ⟨a, vs, h1, h3, h4⟩ := r
    exact ⟨a, vs, h1, h3, repds_vs h4⟩
  · cases e
    unfold RepV at r
    exact r
  · cases e
theorem new_lv {xs : List Vl} {vs : List L2.V} {Q : L2.V → Hp → Prop} (s : RepS X.K ρ H S) (r : RepVs T.toTb X.K ρ H xs vs) (h : Po T X W (rV T X) σ ρ H (.ok (.lv xs) S) Q) {p : Addr} (hp : H p = none) : Q (.ref p) (upd H p (.lst vs)) := by
  refine h _ _ ρ (Ext.new hp) ?_ (s.new hp)
  unfold rV RepV
  exact ⟨p, vs, rfl, s.out.notin hp, upd_same, RepVs.mono s.out (Ext.new hp) r⟩
/-! ### dicts -/
def dKy : L2.Key → D
  | .inl i => .int i
  | .inr x => .str x
theorem repd_key {k : D} {k' : L2.Key} (r : RepD X.K ρ H k (kV k')) : k = dKy k' := by
  cases k' with
  | inl i =>
    cases k <;> unfold RepD kV at r
    case int j => injection r with r; subst r; rfl
    case tuple => obtain ⟨_, _, z, _⟩ := r; cases z
    case list => obtain ⟨_, _, z, _⟩ := r; cases z
    case dict => obtain ⟨_, _, z, _⟩ := r; cases z
    all_goals cases r
  | inr x =>
    cases k <;> unfold RepD kV at r
    case str j => injection r with r; subst r; rfl
    case tuple => obtain ⟨_, _, z, _⟩ := r; cases z
    case list => obtain ⟨_, _, z, _⟩ := r; cases z
    case dict => obtain ⟨_, _, z, _⟩ := r; cases z
    all_goals cases r
theorem key_repd (k' : L2.Key) : RepD X.K ρ H (dKy k') (kV k') := by
  cases k' <;> (unfold dKy RepD kV; rfl)
theorem key_of_isK {k : D} {v : L2.V} (h : isK k = true) (r : RepD X.K ρ H k v) : ∃ k', k = dKy k' ∧ v = kV k' := by
  cases k
  case int i => unfold RepD at r; exact ⟨.inl i, rfl, r⟩
  case str x => unfold RepD at r; exact ⟨.inr x, rfl, r⟩
  all_goals (unfold isK at h; cases h)
theorem eqK_iff (a b : L2.Key) : eqK (dKy a) (dKy b) = decide (a = b) := by
  cases a <;> cases b <;> simp [dKy, eqK]
theorem getK_rep : ∀ {kvs : List (D × D)} {ks : List (L2.Key × L2.V)} (k : L2.Key), RepKs X.K ρ H kvs ks → (getK kvs (dKy k) = none ∧ valV ks k = none) ∨ ∃ d v, getK kvs (dKy k) = some d ∧ valV ks k = some v ∧ RepD X.K ρ H d v
  | [], ks, k, r => by unfold RepKs at r; subst r; exact .inl ⟨rfl, rfl⟩
  | (k0, x) :: rest, ks, k, r => by
    unfold RepKs at r
    obtain ⟨k', v, rs, rfl, h2, h3, h4⟩ := r
    have := repd_key h2
    subst this
    unfold getK
    rw [eqK_iff]
    by_cases e : k' = k
    · subst e
      rw [decide_eq_true rfl, if_pos rfl]
      exact .inr ⟨x, v, rfl, valV_pos rfl, h3⟩
    · rw [decide_eq_false e, if_neg Bool.false_ne_true, valV_neg (p := (k', v)) e]
      exact getK_rep k h4
theorem replK_rep : ∀ {kvs : List (D × D)} {ks : List (L2.Key × L2.V)} (k : L2.Key) {y : D} {w : L2.V}, RepKs X.K ρ H kvs ks → RepD X.K ρ H y w → RepKs X.K ρ H (replK kvs (dKy k) y) (ks.map fun kv => if kv.1 = k then (kv.1, w) else kv)
  | [], ks, k, y, w, r, ry => by unfold RepKs at r; subst r; unfold replK RepKs; rfl
  | (k0, x) :: rest, ks, k, y, w, r, ry => by
    unfold RepKs at r
    obtain ⟨k', v, rs, rfl, h2, h3, h4⟩ := r
    have := repd_key h2
    subst this
    have ih := replK_rep k h4 ry
    unfold replK
    rw [eqK_iff, List.map_cons]
    by_cases e : k' = k
    · subst e
      rw [decide_eq_true rfl, if_pos rfl, if_pos rfl]
      unfold RepKs
      exact ⟨k', w, _, rfl, h2, ry, ih⟩
    · rw [decide_eq_false e, if_neg Bool.false_ne_true, if_neg e]
      unfold RepKs
      exact ⟨k', v, _, rfl, h2, h3, ih⟩
theorem RepKs.snoc : ∀ {kvs : List (D × D)} {ks : List (L2.Key × L2.V)} {k : D} {k' : L2.Key} {y : D} {w : L2.V}, RepKs X.K ρ H kvs ks → RepD X.K ρ H k (kV k') → RepD X.K ρ H y w → RepKs X.K ρ H (kvs ++ [(k, y)]) (ks ++ [(k', w)])
  | [], ks, k, k', y, w, r, rk, ry => by
    unfold RepKs at r; subst r
    show RepKs _ _ _ [(k, y)] [(k', w)]
    unfold RepKs
    exact ⟨k', w, [], rfl, rk, ry, by unfold RepKs; rfl⟩
  | (k0, x) :: rest, ks, k, k', y, w, r, rk, ry => by
    unfold RepKs at r
    obtain ⟨k2, v, rs, rfl, h2, h3, h4⟩ := r
    show RepKs _ _ _ ((k0, x) :: (rest ++ [(k, y)])) ((k2, v) :: (rs ++ [(k', w)]))
    unfold RepKs
    exact ⟨k2, v, _, rfl, h2, h3, RepKs.snoc h4 rk ry⟩
theorem RepKs.put {kvs : List (D × D)} {ks : List (L2.Key × L2.V)} (k : L2.Key) {y : D} {w : L2.V} (r : RepKs X.K ρ H kvs ks) (ry : RepD X.K ρ H y w) : RepKs X.K ρ H (putD kvs (dKy k) y) (putK ks k w) := by
  unfold putD putK
  rw [valV_any]
  rcases getK_rep k r with ⟨h1, h2⟩ | ⟨d, v, h1, h2, _⟩
  · rw [h1, h2]
    exact r.snoc (key_repd k) ry
  · rw [h1, h2]
    exact replK_rep k r ry
theorem RepKs.len : ∀ {kvs : List (D × D)} {ks : List (L2.Key × L2.V)}, RepKs X.K ρ H kvs ks → ks.length = kvs.length
  | [], ks, r => by unfold RepKs at r; subst r; rfl
  | (k0, x) :: rest, ks, r => by
    unfold RepKs at r
    obtain ⟨k2, v, rs, rfl, h2, h3, h4⟩ := r
    rw [List.length_cons, List.length_cons, RepKs.len h4]
theorem RepKs.nil : RepKs X.K ρ H [] [] := by unfold RepKs; rfl
theorem RepKs.mergeD : ∀ {more : List (D × D)} {ms : List (L2.Key × L2.V)} {kvs : List (D × D)} {ks : List (L2.Key × L2.V)}, RepKs X.K ρ H more ms → RepKs X.K ρ H kvs ks → RepKs X.K ρ H (mergeD kvs more) (mergeK ks ms)
  | [], ms, kvs, ks, r, r2 => by unfold RepKs at r; subst r; exact r2
  | (k0, x) :: rest, ms, kvs, ks, r, r2 => by
    unfold RepKs at r
    obtain ⟨k2, v, rs, rfl, h2, h3, h4⟩ := r
    have := repd_key h2
    subst this
    show RepKs _ _ _ (Mk.mergeD (putD kvs (dKy k2) x) rest) (mergeK (putK ks k2 v) rs)
    exact RepKs.mergeD h4 (r2.put k2 h3)
/-- what a dict holds now -/
theorem dko_rep {x : Vl} {kvs : List (D × D)} {v : L2.V} (s : RepS X.K ρ H S) (r : RepV T.toTb X.K ρ H x v) (e : dko S x = some kvs) : ∃ a ks, v = .ref a ∧ H a = some (.dK ks) ∧ RepKs X.K ρ H kvs ks := by
  unfold dko at e
  split at e
  · cases e
    unfold RepV RepD at r
    obtain ⟨a, vs, h1, _, h3, h4⟩ := r
    exact ⟨a, vs, h1, h3, h4⟩
  · rename_i i
    unfold RepV at r
    obtain ⟨a, h1, rfl⟩ := r
    cases q : S[i]? with
    | none => rw [q] at e; cases e
    | some o =>
      cases o with
      | lst xs => rw [q] at e; cases e
      | dct xs =>
        rw [q] at e
        cases e
        obtain ⟨b, vs, h2, h3, h4⟩ := s.atd i _ q
        rw [h1] at h2; cases h2
        exact ⟨a, vs, rfl, h3, h4⟩
  · cases e
theorem new_dct {m : Bool} {kvs : List (D × D)} {ks : List (L2.Key × L2.V)} {Q : L2.V → Hp → Prop} (s : RepS X.K ρ H S) (r : RepKs X.K ρ H kvs ks) (h : Po T X W (rV T X) σ ρ H (mkDct m kvs S) Q) {p : Addr} (hp : H p = none) : Q (.ref p) (upd H p (.dK ks)) := by
  cases m with
  | false =>
    refine h _ _ ρ (Ext.new hp) ?_ (s.new hp)
    unfold rV RepV RepD
    exact ⟨p, ks, rfl, s.out.notin hp, upd_same, r.mono s.out (Ext.new hp)⟩
  | true =>
    refine h _ _ (ρ ++ [p]) (Ext.newMem hp) ?_ (s.newOb hp ⟨ks, rfl, r⟩)
    unfold rV RepV
    exact ⟨p, by rw [← s.len, List.getElem?_append_right (Nat.le_refl _), Nat.sub_self] <;> rfl, rfl⟩
end
end Mk
/-! Mk4: operators by values. -/
namespace Mk
open PySem PySem.Spec PyProof.Rows L2
section
variable [TabC] (T : Tx) (X : Cx) (W : WX)
/-- an operation on two values does what the evaluator's does -/
def OpV (f : Value → Value → Sem Value) (o : Vl → Vl → Store → R Vl) : Prop :=
  ∀ (pins : List (Addr × Obj)) (s : Shared) (σ : L2.St) (H : Hp) (ρ : List Addr) (S : Store) (x y : Vl) (v w : L2.V) (vv ww : Value) (Q : VK), Inv X pins σ H s → RelV v vv → RelV w ww →
    RepV T.toTb X.K ρ H x v → RepV T.toTb X.K ρ H y w → RepS X.K ρ H S → Po T X W (rV T X) σ ρ H (o x y S) Q → wpAny (model X.prog X.w) X.A (f vv ww) (EP X pins σ Q) X.xe s
/-- the like, a bool -/
def CmV (f : Value → Value → Sem Value) (o : Vl → Vl → Store → Option Bool) : Prop :=
  ∀ (pins : List (Addr × Obj)) (s : Shared) (σ : L2.St) (H : Hp) (ρ : List Addr) (S : Store) (x y : Vl) (v w : L2.V) (vv ww : Value) (k : Bool) (Q : VK), Inv X pins σ H s → RelV v vv → RelV w ww →
    RepV T.toTb X.K ρ H x v → RepV T.toTb X.K ρ H y w → RepS X.K ρ H S → o x y S = some k → Q (.bl k) H → wpAny (model X.prog X.w) X.A (f vv ww) (EP X pins σ Q) X.xe s
end
section
variable [TabC] {T : Tx} {X : Cx} {W : WX} {σ : L2.St} {ρ : List Addr} {H : Hp} {S : Store}
theorem rep_intV {i : Int} {v : L2.V} (r : RepV T.toTb X.K ρ H (.d (.int i)) v) : v = .int i := by unfold RepV RepD at r; exact r
theorem now_int {i : Int} {v : L2.V} (r : NowD X.K ρ H (.int i) v) : v = .int i := by unfold NowD RepD at r; exact r
theorem now_str {z : Str} {v : L2.V} (r : NowD X.K ρ H (.str z) v) : v = .str z := by unfold NowD RepD at r; exact r
theorem now_bl {b : Bool} {v : L2.V} (r : NowD X.K ρ H (.bool b) v) : v = .bl b := by unfold NowD RepD at r; exact r
theorem now_non {v : L2.V} (r : NowD X.K ρ H .none v) : v = .non := by unfold NowD RepD at r; exact r
theorem now_tup {xs : List D} {v : L2.V} (r : NowD X.K ρ H (.tuple xs) v) : ∃ a vs, v = .ref a ∧ SqT X.K H a vs ∧ RepDs X.K ρ H xs vs := by unfold NowD RepD at r; exact r
theorem now_lst {xs : List D} {v : L2.V} (r : NowD X.K ρ H (.list xs) v) : ∃ a vs, v = .ref a ∧ H a = some (.lst vs) ∧ RepDs X.K ρ H xs vs := r
omit [TabC] in
theorem line_eq : sizeLine = LINE := by rw [sizeLine_eq]; rfl
theorem opv_of {f : Value → Value → Sem Value} {r : R2} {o : Vl → Vl → Store → R Vl} (h : OpR X f r)
    (k : ∀ (σ : L2.St) (H : Hp) (ρ : List Addr) (S : Store) (x y : Vl) (v w : L2.V) (Q : VK), RepV T.toTb X.K ρ H x v → RepV T.toTb X.K ρ H y w → RepS X.K ρ H S → Po T X W (rV T X) σ ρ H (o x y S) Q → r v w H Q) : OpV T X W f o :=
  fun pins s σ H ρ S x y v w vv ww Q I r1 r2 p1 p2 hs hP => h pins s σ H v w vv ww Q I r1 r2 (k σ H ρ S x y v w Q p1 p2 hs hP)

theorem opv_add {m : Bool} : OpV T X W (binaryOp .Add) (bin .add m) := by
  refine opv_of (op_add.or (op_add_str.or (op_catA.or op_cat))) fun σ H ρ S x y v w Q p1 p2 hs hP => ?_
  unfold bin at hP
  dsimp only at hP
  split at hP
  · rename_i i j e1 e2
    have a1 := now_int (dat_rep hs p1 e1)
    have a2 := now_int (dat_rep hs p2 e2)
    subst a1 a2
    exact .inl ⟨i, j, rfl, rfl, old_val hs rep_int hP⟩
  · rename_i a b e1 e2
    have a1 := now_str (dat_rep hs p1 e1)
    have a2 := now_str (dat_rep hs p2 e2)
    subst a1 a2
    split at hP
    · rename_i hl
      exact .inr (.inl ⟨a, b, rfl, rfl, by rw [line_eq]; exact hl, old_val hs rep_str hP⟩)
    · exact hP.elim
  · rename_i xs ys e1 e2
    obtain ⟨a, vs, rfl, ha, ra⟩ := now_tup (dat_rep hs p1 e1)
    obtain ⟨b, ws, rfl, hb, rb⟩ := now_tup (dat_rep hs p2 e2)
    split at hP
    · rename_i hl
      refine .inr (.inr (.inl ⟨a, b, vs, ws, rfl, rfl, ha, hb, by rw [line_eq, ra.length, rb.length]; exact hl, fun e => ?_, fun _ e => ?_, fun _ _ p hp => ?_⟩))
      · subst e
        have e0 : xs = [] := List.eq_nil_of_length_eq_zero ra.length.symm
        subst e0
        exact old_val hs (by unfold RepV RepD; exact ⟨b, ws, rfl, hb, rb⟩) hP
      · subst e
        have e0 : ys = [] := List.eq_nil_of_length_eq_zero rb.length.symm
        subst e0
        rw [List.append_nil] at hP
        exact old_val hs (by unfold RepV RepD; exact ⟨a, vs, rfl, ha, ra⟩) hP
      · exact new_tup hs (ra.append rb) hP hp
    · exact hP.elim
  · rename_i xs ys e1 e2
    obtain ⟨a, vs, rfl, ha, ra⟩ := now_lst (dat_rep hs p1 e1)
    obtain ⟨b, ws, rfl, hb, rb⟩ := now_lst (dat_rep hs p2 e2)
    split at hP
    · rename_i hl
      exact .inr (.inr (.inr ⟨a, b, vs, ws, rfl, rfl, ha, hb, by rw [line_eq, ra.length, rb.length]; exact hl, fun p hp => new_lst hs (ra.append rb) hP hp⟩))
    · exact hP.elim
  · split at hP
    case h_2 => exact hP.elim
    rename_i xs ys e1 e2
    obtain ⟨a, vs, rfl, ha, ra⟩ := lit_rep hs p1 e1
    obtain ⟨b, ws, rfl, hb, rb⟩ := lit_rep hs p2 e2
    split at hP
    · rename_i hl
      exact .inr (.inr (.inr ⟨a, b, vs, ws, rfl, rfl, ha, hb, by rw [line_eq, ra.length, rb.length]; exact hl, fun p hp => new_lv hs (ra.append rb) hP hp⟩))
    · exact hP.elim
theorem opv_sub {m : Bool} : OpV T X W (binaryOp .Sub) (bin .sub m) := by
  refine opv_of op_sub fun σ H ρ S x y v w Q p1 p2 hs hP => ?_
  unfold bin at hP
  dsimp only at hP
  split at hP
  · rename_i i j
    have a1 := rep_intV p1
    have a2 := rep_intV p2
    subst a1 a2
    exact ⟨i, j, rfl, rfl, old_val hs rep_int hP⟩
  · exact hP.elim
theorem opv_fdiv {m : Bool} : OpV T X W (binaryOp .FloorDiv) (bin .fdiv m) := by
  refine opv_of op_fdivW fun σ H ρ S x y v w Q p1 p2 hs hP => ?_
  unfold bin at hP
  dsimp only at hP
  split at hP
  · rename_i i j
    have a1 := rep_intV p1
    have a2 := rep_intV p2
    subst a1 a2
    split at hP
    · rename_i c
      unfold divOk at c
      simp only [Bool.and_eq_true, decide_eq_true_eq] at c
      exact ⟨i, j, rfl, rfl, c, old_val hs rep_int hP⟩
    · exact hP.elim
  · exact hP.elim
theorem opv_mod {m : Bool} : OpV T X W (binaryOp .Mod) (bin .mod m) := by
  refine opv_of op_mod fun σ H ρ S x y v w Q p1 p2 hs hP => ?_
  unfold bin at hP
  dsimp only at hP
  split at hP
  · rename_i i j
    have a1 := rep_intV p1
    have a2 := rep_intV p2
    subst a1 a2
    split at hP
    · rename_i c
      exact ⟨i, j, rfl, rfl, c, old_val hs rep_int hP⟩
    · exact hP.elim
  · exact hP.elim
theorem intBits_le {x : Int} : Builtin.Int.intBits x ≤ x.natAbs.log2 + 1 := by
  unfold Builtin.Int.intBits
  split <;> omega
theorem opv_pow {m : Bool} : OpV T X W (binaryOp .Pow) (bin .pow m) := by
  intro pins s σ H ρ S x y v w vv ww Q I r1 r2 p1 p2 hs hP
  unfold bin at hP
  dsimp only at hP
  split at hP
  · rename_i i j
    have a1 := rep_intV p1
    have a2 := rep_intV p2
    subst a1 a2
    split at hP
    · rename_i c
      unfold powOk at c
      simp only [Bool.and_eq_true, decide_eq_true_eq] at c
      obtain ⟨⟨c1, c2⟩, c3⟩ := c
      obtain ⟨t, rfl⟩ := r1
      obtain ⟨u, rfl⟩ := r2
      refine pow_int c1 ?_ ⟨.int (i ^ j.toNat), H, I.tok _, ⟨_, rfl⟩, old_val hs rep_int hP⟩
      have b := intBits_le (x := i)
      have b2 : (Builtin.Int.intBits i : Int) ≤ 1001 := by omega
      have : (Builtin.Int.intBits i : Int) * j ≤ 1001 * 1000 := Int.mul_le_mul b2 c2 c1 (by decide)
      have e : (2 : Int) ^ 27 = 134217728 := by decide
      omega
    · exact hP.elim
  · exact hP.elim
end
end Mk
/-! Mk5: products, comparisons. -/
namespace Mk
open PySem PySem.Spec PyProof.Rows L2
/-- t * n where the tuple itself comes back (n = 1, or nothing in it), or an empty one (n < 1) -/
theorem tuple_mul_same (l : Addr) (items : Array Value) (n : Nat) (dd : Option Addr) (sl : Array (Option Value)) (x : Int) (u : Tok) (c0 : (decide (x < -(2 ^ 63)) || decide (x ≥ 2 ^ 63)) = false) (c1 : (items.isEmpty || x == 1) = true) :
    Meets (Builtin.«tuple.__mul__» ⟨[.ref l, .int x u], []⟩) (fun _ R s => s.heap.get? l = some { cls := .type "tuple", dict := dd, data := .seq items n, slots := sl } ∧
      R (.ok (.ret (Value.ref l))) s) :=
  .of_wp fun prog w A R s h => by
    obtain ⟨hp, g, d, tk, os⟩ := s
    obtain ⟨hl, h⟩ := h
    have f1 := AutoSeq1.idx_int
    wp_walk using wpAny_loadPart' hl
    repeat (first
      | (refine wpAny_ite_false (decide_eq_false (by rw [c0]; exact Bool.false_ne_true)) ?_; wp_walk using wpAny_loadPart' hl)
      | (refine wpAny_ite_true (decide_eq_true c1) ?_; wp_walk using wpAny_loadPart' hl))
    exact ⟨_, rfl, h⟩
theorem tuple_mul_none (l : Addr) (items : Array Value) (n : Nat) (dd : Option Addr) (sl : Array (Option Value)) (x : Int) (u : Tok) (c0 : (decide (x < -(2 ^ 63)) || decide (x ≥ 2 ^ 63)) = false) (c1 : (items.isEmpty || x == 1) = false) (c2 : (decide (x ≤ 0) || items.isEmpty) = true) :
    Meets (Builtin.«tuple.__mul__» ⟨[.ref l, .int x u], []⟩) (fun _ R s => s.heap.get? l = some { cls := .type "tuple", dict := dd, data := .seq items n, slots := sl } ∧
      R (.ok (.ret (Value.ref s.heap.objs.size))) { s with heap := s.heap.push { cls := Value.type "tuple", data := Data.seq #[] }, toks := s.toks }) :=
  .of_wp fun prog w A R s h => by
    obtain ⟨hp, g, d, tk, os⟩ := s
    obtain ⟨hl, h⟩ := h
    have f1 := AutoSeq1.idx_int
    wp_walk using wpAny_loadPart' hl
    repeat (first
      | (refine wpAny_ite_false (decide_eq_false (by rw [c0]; exact Bool.false_ne_true)) ?_; wp_walk using wpAny_loadPart' hl)
      | (refine wpAny_ite_false (decide_eq_false (by rw [c1]; exact Bool.false_ne_true)) ?_; wp_walk using wpAny_loadPart' hl)
      | (refine wpAny_ite_true (decide_eq_true c2) ?_; wp_walk using wpAny_loadPart' hl))
    exact ⟨_, rfl, h⟩
section
variable [TabC] {T : Tx} {X : Cx} {W : WX} {σ : L2.St} {ρ : List Addr} {H : Hp} {S : Store}
/-- t * n, n from nought on -/
def rMulT (K : PySem.W.Frag) : R2 := fun x y H Q => ∃ l k xs, x = .ref l ∧ y = .int k ∧ SqT K H l xs ∧ 0 ≤ k ∧ k ≤ 1000 ∧ xs.length ≤ 1000 ∧ (xs = [] ∨ k = 1 → Q (.ref l) H) ∧
  (xs ≠ [] → k ≠ 1 → ∀ p, H p = none → Q (.ref p) (upd H p (.tup (List.replicate k.toNat xs).flatten)))
theorem op_mulT : OpR X (binaryOp .Mult) (rMulT X.K) := by
  intro pins s σ H x y v u Q I rx ry h
  obtain ⟨l, k, xs, rfl, rfl, hT, h0, h1, hz, q0, q1⟩ := h
  by_cases hb : xs = [] ∨ k = 1
  case neg =>
    have hne : xs ≠ [] := fun e => hb (.inl e)
    have hk1 : k ≠ 1 := fun e => hb (.inr e)
    by_cases h2 : 2 ≤ k
    · exact op_repT pins s σ H _ _ v u Q I rx ry ⟨l, k, xs, rfl, rfl, hT, hne, h2, h1, hz, q1 hne hk1⟩
    · have hk : k = 0 := by omega
      subst hk
      cases rx
      obtain ⟨t, rfl⟩ := ry
      obtain ⟨its, r, ⟨⟨cls, dd, data, sl⟩, ho, hc, n, hd⟩, hs⟩ := I.tuple hT
      simp only at hc hd
      subst hc hd
      have hle : its.length = xs.length := r.length.symm
      have hi : its.toArray.isEmpty = false := by
        cases its with
        | nil => exact absurd (List.eq_nil_of_length_eq_zero hle.symm) hne
        | cons a b => rfl
      have c0 : (decide ((0 : Int) < -(2 ^ 63)) || decide ((0 : Int) ≥ 2 ^ 63)) = false := by decide
      have c1 : (its.toArray.isEmpty || (0 : Int) == 1) = false := by rw [hi]; rfl
      have c2 : (decide ((0 : Int) ≤ 0) || its.toArray.isEmpty) = true := by rw [hi]; rfl
      refine wpAny_binaryOp_repeat_ref (T := "tuple") (U := "int") (by decide) ⟨_, ho, rfl⟩ (fun s' => typeIs_int s' 0 t) noFill_tuple_mul F.fills_int_mul F.slot_int_rmul repeat_tuple F.slot_int_index.lookup
        (call_meets F.slot_int_rmul (typeIs_int s 0 t) F.entry_int_rmul (F.args_int_rmul_2 _ _) (int_rmul_tuple 0 t l its.toArray n dd sl)
          ⟨ho, rfl, ⟨_, ho, rfl⟩, call_meets F.slot_tuple_mul ⟨_, ho, rfl⟩ F.entry_tuple_mul (F.args_tuple_mul_2 _ _) (tuple_mul_none l its.toArray n dd sl 0 t c0 c1 c2) ⟨ho, ?_⟩⟩)
      refine ⟨.ref s.heap.objs.size, _, I.laid (t' := s.toks) (o := .tup (List.replicate (0 : Int).toNat xs).flatten) (fun b ob q => Heap.get?_push_of_some _ q) (Nat.le_refl _) ?_, rfl, q1 hne hk1 _ (I.hok.fresh (Nat.le_refl _))⟩
      exact ⟨Nat.zero_le _, [], .nil, IsTup.new _ _⟩
  case pos =>
    cases rx
    obtain ⟨t, rfl⟩ := ry
    obtain ⟨its, r, ⟨⟨cls, dd, data, sl⟩, ho, hc, n, hd⟩, hs⟩ := I.tuple hT
    simp only at hc hd
    subst hc hd
    have hle : its.length = xs.length := r.length.symm
    have c0 : (decide (k < -(2 ^ 63)) || decide (k ≥ 2 ^ 63)) = false := by
      rw [decide_eq_false (by omega), decide_eq_false (by omega)] <;> rfl
    have c1 : (its.toArray.isEmpty || k == 1) = true := by
      rcases hb with e | e
      · subst e
        have : its = [] := List.eq_nil_of_length_eq_zero hle
        subst this
        rfl
      · subst e
        simp
    refine wpAny_binaryOp_repeat_ref (T := "tuple") (U := "int") (by decide) ⟨_, ho, rfl⟩ (fun s' => typeIs_int s' k t) noFill_tuple_mul F.fills_int_mul F.slot_int_rmul repeat_tuple F.slot_int_index.lookup
      (call_meets F.slot_int_rmul (typeIs_int s k t) F.entry_int_rmul (F.args_int_rmul_2 _ _) (int_rmul_tuple k t l its.toArray n dd sl)
        ⟨ho, rfl, ⟨_, ho, rfl⟩, call_meets F.slot_tuple_mul ⟨_, ho, rfl⟩ F.entry_tuple_mul (F.args_tuple_mul_2 _ _) (tuple_mul_same l its.toArray n dd sl k t c0 c1) ⟨ho, ?_⟩⟩)
    exact ⟨.ref l, H, I, rfl, q0 hb⟩
theorem opv_mul {m : Bool} : OpV T X W (binaryOp .Mult) (bin .mul m) := by
  refine opv_of (op_mul.or (op_mulW.or (op_mulT.or op_rep))) fun σ H ρ S x y v w Q p1 p2 hs hP => ?_
  unfold bin at hP
  dsimp only at hP
  split at hP
  · rename_i i j e1
    have a1 := now_int (dat_rep hs p1 e1)
    have a2 := rep_intV p2
    subst a1 a2
    split at hP
    · rename_i c
      have q := old_val hs (T := T) (X := X) (W := W) (σ := σ) (rep_int (i := i * j)) hP
      unfold mulOk at c
      simp only [Bool.or_eq_true, decide_eq_true_eq] at c
      rcases c with (c | c) | c
      · exact .inl ⟨i, j, rfl, rfl, .inl (by omega), q⟩
      · exact .inl ⟨i, j, rfl, rfl, .inr (by omega), q⟩
      · exact .inr (.inl ⟨i, j, rfl, rfl, c, q⟩)
    · exact hP.elim
  · rename_i xs j e1
    obtain ⟨a, vs, rfl, ha, ra⟩ := now_tup (dat_rep hs p1 e1)
    have a2 := rep_intV p2
    subst a2
    split at hP
    · rename_i c
      obtain ⟨c1, c2, c3⟩ := c
      refine .inr (.inr (.inl ⟨a, j, vs, rfl, rfl, ha, c1, c2, by rw [ra.length]; exact c3, fun e => ?_, fun _ _ p hp => new_tup hs (ra.rep _) hP hp⟩))
      have e2 : (List.replicate j.toNat xs).flatten = xs := by
        rcases e with e | e
        · subst e
          have : xs = [] := List.eq_nil_of_length_eq_zero ra.length.symm
          subst this
          simp
        · subst e
          simp
      rw [e2] at hP
      exact old_val hs (by unfold RepV RepD; exact ⟨a, vs, rfl, ha, ra⟩) hP
    · exact hP.elim
  · rename_i xs j e1
    obtain ⟨a, vs, rfl, ha, ra⟩ := now_lst (dat_rep hs p1 e1)
    have a2 := rep_intV p2
    subst a2
    split at hP
    · rename_i c
      obtain ⟨c1, c2, c3⟩ := c
      exact .inr (.inr (.inr ⟨a, j, vs, rfl, rfl, ha, by omega, by unfold LINE at c3; omega, by rw [line_eq, ra.length]; exact c2, fun p hp => new_lst hs (ra.rep _) hP hp⟩))
    · exact hP.elim
  · exact hP.elim

/-! ### comparisons -/
theorem cmv_of {f : Value → Value → Sem Value} {r : R2} {o : Vl → Vl → Store → Option Bool} (h : OpR X f r)
    (k : ∀ (σ : L2.St) (H : Hp) (ρ : List Addr) (S : Store) (x y : Vl) (v w : L2.V) (k : Bool) (Q : VK), RepV T.toTb X.K ρ H x v → RepV T.toTb X.K ρ H y w → RepS X.K ρ H S → o x y S = some k → Q (.bl k) H → r v w H Q) : CmV T X f o :=
  fun pins s σ H ρ S x y v w vv ww b Q I r1 r2 p1 p2 hs e q => h pins s σ H v w vv ww Q I r1 r2 (k σ H ρ S x y v w b Q p1 p2 hs e q)
theorem okD_of {x : D} (h : okD x = true) : x.plain = true ∧ x.depth ≤ 60 := by
  unfold okD at h
  simp only [Bool.and_eq_true, decide_eq_true_eq] at h
  exact h
theorem rep_strV {z : Str} {v : L2.V} (r : RepV T.toTb X.K ρ H (.d (.str z)) v) : v = .str z := by unfold RepV RepD at r; exact r
theorem sgn1_of {a : Str} {c : Nat} (h : a.cps.toList = [c]) : a = ⟨#[c]⟩ := by
  cases a with
  | mk cps =>
    have : cps = #[c] := by
      have h' : cps.toList = [c] := h
      rw [← Array.toList_inj, h']
    rw [this]
theorem cmv_eq (hu : X.A.units + 100 < cLine) : CmV T X (compareOp .Eq) (cmp .eq) := by
  intro pins s σ H ρ S x y v w vv ww k Q I r1 r2 p1 p2 hs e q
  unfold cmp at e
  dsimp only at e
  split at e
  · rename_i a b e1 e2
    split at e
    · rename_i c
      cases e
      simp only [Bool.and_eq_true] at c
      obtain ⟨c1, c2⟩ := c
      obtain ⟨d1, d2⟩ := okD_of c1
      obtain ⟨d3, d4⟩ := okD_of c2
      obtain ⟨as, ra⟩ := (dat_rep hs p1 e1).reads I r1
      obtain ⟨bs, rb⟩ := (dat_rep hs p2 e2).reads I r2
      exact PySem.SeqAt.eq_plain ra rb d1 d3 (by omega) ⟨.bl _, H, I, rfl, q⟩
    · cases e
  · cases e
theorem cmv_ne (hu : X.A.units + 100 < cLine) : CmV T X (compareOp .NotEq) (cmp .ne) := by
  intro pins s σ H ρ S x y v w vv ww k Q I r1 r2 p1 p2 hs e q
  unfold cmp at e
  dsimp only at e
  split at e
  · rename_i a b e1 e2
    split at e
    · rename_i c
      cases e
      simp only [Bool.and_eq_true] at c
      obtain ⟨c1, c2⟩ := c
      obtain ⟨d1, d2⟩ := okD_of c1
      obtain ⟨d3, d4⟩ := okD_of c2
      obtain ⟨as, ra⟩ := (dat_rep hs p1 e1).reads I r1
      obtain ⟨bs, rb⟩ := (dat_rep hs p2 e2).reads I r2
      exact PySem.SeqAt.ne_plain ra rb d1 d3 (by omega) ⟨.bl _, H, I, rfl, q⟩
    · cases e
  · cases e
theorem plainAll_of {xs : List D} (h : (PyData.list xs).plain = true) : PyData.plainAll xs = true := by unfold PyData.plain at h; exact h
theorem plainAll_of' {xs : List D} (h : (PyData.tuple xs).plain = true) : PyData.plainAll xs = true := by unfold PyData.plain at h; exact h
theorem depthAll_of {xs : List D} (h : (PyData.list xs).depth ≤ 60) : PyData.depthAll xs ≤ 60 := by unfold PyData.depth at h; omega
theorem depthAll_of' {xs : List D} (h : (PyData.tuple xs).depth ≤ 60) : PyData.depthAll xs ≤ 60 := by unfold PyData.depth at h; omega
/-- a key that is, or is not, in a dict -/
theorem inD_rep {x y : Vl} {v w : L2.V} {k : Bool} (p1 : RepV T.toTb X.K ρ H x v) (p2 : RepV T.toTb X.K ρ H y w) (hs : RepS X.K ρ H S) (e : inD x y S = some k) : ∃ (a : Addr) (o : Option L2.V), w = .ref a ∧ DGet H a v o ∧ o.isSome = k := by
  unfold inD at e
  split at e
  · rename_i kvs kk e1
    split at e
    case isFalse => cases e
    rename_i hk
    cases e
    unfold RepV at p1
    obtain ⟨k', rfl, rfl⟩ := key_of_isK hk p1
    obtain ⟨a, ks, rfl, ha, hr⟩ := dko_rep hs p2 e1
    refine ⟨a, valV ks k', rfl, DGet.k ha, ?_⟩
    rcases getK_rep k' hr with ⟨h1, h2⟩ | ⟨d, u, h1, h2, _⟩ <;> rw [h1, h2] <;> rfl
  · cases e
theorem cmv_in (hu : X.A.units + 100 < cLine) : CmV T X (compareOp .In) (cmp .inn) := by
  intro pins s σ H ρ S x y v w vv ww k Q I r1 r2 p1 p2 hs e q
  unfold cmp at e
  dsimp only at e
  split at e
  · rename_i a b e1 e2
    split at e
    · rename_i c
      cases e
      simp only [Bool.and_eq_true] at c
      obtain ⟨c1, c2⟩ := c
      obtain ⟨d1, d2⟩ := okD_of c1
      obtain ⟨d3, d4⟩ := okD_of c2
      obtain ⟨as, ra⟩ := (dat_rep hs p1 e1).reads I r1
      obtain ⟨bs, rb⟩ := (dat_rep hs p2 e2).reads I r2
      exact PySem.SeqAt.in_list_data rb ra (plainAll_of d3) d1 (by have := depthAll_of d4; omega) ⟨.bl _, H, I, rfl, q⟩
    · cases e
  · rename_i a b e1 e2
    split at e
    · rename_i c
      cases e
      simp only [Bool.and_eq_true] at c
      obtain ⟨c1, c2⟩ := c
      obtain ⟨d1, d2⟩ := okD_of c1
      obtain ⟨d3, d4⟩ := okD_of c2
      obtain ⟨as, ra⟩ := (dat_rep hs p1 e1).reads I r1
      obtain ⟨bs, rb⟩ := (dat_rep hs p2 e2).reads I r2
      exact PySem.SeqAt.in_tuple_data rb ra (plainAll_of' d3) d1 (by have := depthAll_of' d4; omega) ⟨.bl _, H, I, rfl, q⟩
    · cases e
  · rename_i a z e1 e2
    split at e
    case h_2 => cases e
    rename_i ch ea
    cases e
    have a1 := now_str (dat_rep hs p1 e1)
    have a2 := now_str (dat_rep hs p2 e2)
    subst a1 a2
    have a3 := sgn1_of ea
    exact op_in_sign pins s σ H _ _ vv ww Q I r1 r2 ⟨ch, z, by rw [a3], rfl, q⟩
  · obtain ⟨a, o, rfl, g, ho⟩ := inD_rep p1 p2 hs e
    obtain rfl : ww = Value.ref a := r2
    exact d_in (by omega) I g r1 fun s' I' => ⟨.bl k, H, I', by rw [ho]; rfl, q⟩
theorem cmv_notIn (hu : X.A.units + 100 < cLine) : CmV T X (compareOp .NotIn) (cmp .notIn) := by
  intro pins s σ H ρ S x y v w vv ww k Q I r1 r2 p1 p2 hs e q
  unfold cmp at e
  dsimp only at e
  split at e
  · rename_i a b e1 e2
    split at e
    · rename_i c
      cases e
      simp only [Bool.and_eq_true] at c
      obtain ⟨c1, c2⟩ := c
      obtain ⟨d1, d2⟩ := okD_of c1
      obtain ⟨d3, d4⟩ := okD_of c2
      obtain ⟨as, ra⟩ := (dat_rep hs p1 e1).reads I r1
      obtain ⟨bs, rb⟩ := (dat_rep hs p2 e2).reads I r2
      exact PySem.SeqAt.notIn_list_data rb ra (plainAll_of d3) d1 (by have := depthAll_of d4; omega) ⟨.bl _, H, I, rfl, q⟩
    · cases e
  · rename_i a b e1 e2
    split at e
    · rename_i c
      cases e
      simp only [Bool.and_eq_true] at c
      obtain ⟨c1, c2⟩ := c
      obtain ⟨d1, d2⟩ := okD_of c1
      obtain ⟨d3, d4⟩ := okD_of c2
      obtain ⟨as, ra⟩ := (dat_rep hs p1 e1).reads I r1
      obtain ⟨bs, rb⟩ := (dat_rep hs p2 e2).reads I r2
      exact PySem.SeqAt.notIn_tuple_data rb ra (plainAll_of' d3) d1 (by have := depthAll_of' d4; omega) ⟨.bl _, H, I, rfl, q⟩
    · cases e
  · rename_i a z e1 e2
    split at e
    case h_2 => cases e
    rename_i ch ea
    cases e
    have a1 := now_str (dat_rep hs p1 e1)
    have a2 := now_str (dat_rep hs p2 e2)
    subst a1 a2
    have a3 := sgn1_of ea
    exact op_notIn_sign pins s σ H _ _ vv ww Q I r1 r2 ⟨ch, z, by rw [a3], rfl, q⟩
  · split at e
    case h_2 => cases e
    rename_i k0 e0
    cases e
    obtain ⟨a, o, rfl, g, ho⟩ := inD_rep p1 p2 hs e0
    obtain rfl : ww = Value.ref a := r2
    exact d_notIn (by omega) I g r1 fun s' I' => ⟨.bl _, H, I', by rw [ho]; rfl, q⟩
theorem cmv_lt : CmV T X (compareOp .Lt) (cmp .lt) := by
  refine cmv_of (op_lt.or op_lt_str) fun σ H ρ S x y v w k Q p1 p2 hs e q => ?_
  unfold cmp at e
  dsimp only at e
  split at e
  · cases e
    have a1 := rep_intV p1
    have a2 := rep_intV p2
    subst a1 a2
    exact .inl ⟨_, _, rfl, rfl, q⟩
  · cases e
    have a1 := rep_strV p1
    have a2 := rep_strV p2
    subst a1 a2
    exact .inr ⟨_, _, rfl, rfl, q⟩
  · cases e
theorem cmv_le : CmV T X (compareOp .LtE) (cmp .le) := by
  refine cmv_of (op_le.or op_le_str) fun σ H ρ S x y v w k Q p1 p2 hs e q => ?_
  unfold cmp at e
  dsimp only at e
  split at e
  · cases e
    have a1 := rep_intV p1
    have a2 := rep_intV p2
    subst a1 a2
    exact .inl ⟨_, _, rfl, rfl, q⟩
  · cases e
    have a1 := rep_strV p1
    have a2 := rep_strV p2
    subst a1 a2
    exact .inr ⟨_, _, rfl, rfl, q⟩
  · cases e
theorem cmv_gt : CmV T X (compareOp .Gt) (cmp .gt) := by
  refine cmv_of (op_gt.or op_gt_str) fun σ H ρ S x y v w k Q p1 p2 hs e q => ?_
  unfold cmp at e
  dsimp only at e
  split at e
  · cases e
    have a1 := rep_intV p1
    have a2 := rep_intV p2
    subst a1 a2
    exact .inl ⟨_, _, rfl, rfl, q⟩
  · cases e
    have a1 := rep_strV p1
    have a2 := rep_strV p2
    subst a1 a2
    exact .inr ⟨_, _, rfl, rfl, q⟩
  · cases e
theorem cmv_ge : CmV T X (compareOp .GtE) (cmp .ge) := by
  refine cmv_of (op_ge.or op_ge_str) fun σ H ρ S x y v w k Q p1 p2 hs e q => ?_
  unfold cmp at e
  dsimp only at e
  split at e
  · cases e
    have a1 := rep_intV p1
    have a2 := rep_intV p2
    subst a1 a2
    exact .inl ⟨_, _, rfl, rfl, q⟩
  · cases e
    have a1 := rep_strV p1
    have a2 := rep_strV p2
    subst a1 a2
    exact .inr ⟨_, _, rfl, rfl, q⟩
  · cases e
theorem rep_non {v : L2.V} (r : RepV T.toTb X.K ρ H (.d .none) v) : v = .non := by unfold RepV RepD at r; exact r
theorem rep_notnon {x : Vl} {v : L2.V} (r : RepV T.toTb X.K ρ H x v) (h : x ≠ .d .none) : v ≠ .non := by
  cases x with
  | d y =>
    cases y with
    | none => exact absurd rfl h
    | bool b => unfold RepV RepD at r; subst r; exact fun z => nomatch z
    | int i => unfold RepV RepD at r; subst r; exact fun z => nomatch z
    | str z => unfold RepV RepD at r; subst r; exact fun z => nomatch z
    | tuple xs => unfold RepV RepD at r; obtain ⟨a, vs, rfl, _⟩ := r; exact fun z => nomatch z
    | list xs => unfold RepV RepD at r; obtain ⟨a, vs, rfl, _⟩ := r; exact fun z => nomatch z
    | dict k => unfold RepV RepD at r; obtain ⟨a, vs, rfl, _⟩ := r; exact fun z => nomatch z
  | r i => unfold RepV at r; obtain ⟨a, _, rfl⟩ := r; exact fun z => nomatch z
  | fn f => unfold RepV at r; obtain ⟨a, _, rfl⟩ := r; exact fun z => nomatch z
  | tv xs => unfold RepV at r; obtain ⟨a, vs, rfl, _⟩ := r; exact fun z => nomatch z
  | sc xs => unfold RepV at r; obtain ⟨a, vs, rfl, _⟩ := r; exact fun z => nomatch z
  | lv xs => unfold RepV at r; obtain ⟨a, vs, rfl, _⟩ := r; exact fun z => nomatch z
  | co l => unfold RepV at r; obtain ⟨f, pm, c', ctv, _, _, rfl, _⟩ := r; exact fun z => nomatch z
  | cv l xs => unfold RepV at r; obtain ⟨f, cl, pm, c', ctv, ws, _, rfl, _⟩ := r; exact fun z => nomatch z
  | ex k x => unfold RepV at r; obtain ⟨a, cls, dd, _, rfl, _⟩ := r; exact fun z => nomatch z
theorem cmv_isN : CmV T X (compareOp .Is) (cmp .isN) := by
  refine cmv_of op_isN fun σ H ρ S x y v w k Q p1 p2 hs e q => ?_
  unfold cmp at e
  dsimp only at e
  split at e
  · refine ⟨rep_non p2, ?_⟩
    split at e
    · cases e
      rw [rep_non p1]
      simpa using q
    · rename_i hn
      cases e
      rw [decide_eq_false (rep_notnon p1 hn)]
      exact q
  · cases e
theorem cmv_isNotN : CmV T X (compareOp .IsNot) (cmp .isNotN) := by
  refine cmv_of op_notN fun σ H ρ S x y v w k Q p1 p2 hs e q => ?_
  unfold cmp at e
  dsimp only at e
  split at e
  · refine ⟨rep_non p2, ?_⟩
    split at e
    · cases e
      rw [rep_non p1]
      simpa using q
    · rename_i hn
      cases e
      rw [decide_eq_false (rep_notnon p1 hn)]
      exact q
  · cases e
end
end Mk
/-! Mk6: expressions and tests. -/
namespace Mk
open PySem PySem.Spec PyProof.Rows L2
section
variable [TabC] {T : Tx} {X : Cx} {W : WX} {c : Cl} {σ : L2.St} {ρ : List Addr} {H : Hp} {γ : Env} {S : Store} {pos : Pos}
/-! ### expressions -/
theorem ok_var {i : Nat} {x : Str} (hN : X.N[i]? = some x) (hv : Vis X.env.scope x) (hd : (x == ("__debug__" : Str)) = false) (hcd : (x == ("__classdict__" : Str)) = false) : PE X (.Name x pos) (rdE T X W c (xV i)) := by
  refine (pe_var hN hv hd hcd).imp fun σ H Q ⟨γ, S, ρ, hE, hS, hP⟩ => ?_
  unfold xV at hP
  split at hP
  · rename_i v e
    obtain ⟨x', h1, h2⟩ := hE.at_ i v e
    exact ⟨x', h1, old_val hS h2 hP⟩
  · exact hP.elim
theorem ok_const {e : Expr} {v : L2.V} {x : Vl} (h : PE X e (tC v)) (r : ∀ ρ H, RepS X.K ρ H [] → RepV T.toTb X.K ρ H x v) (r' : ∀ ρ H, RepV T.toTb X.K ρ H x v) : PE X e (rdE T X W c (xC x)) := by
  refine h.imp fun σ H Q ⟨γ, S, ρ, hE, hS, hP⟩ => ?_
  exact old_val hS (r' ρ H) hP
theorem ok_c {e : Expr} {v : L2.V} {x : Vl} (h : PE X e (tC v)) (r : ∀ ρ H, RepV T.toTb X.K ρ H x v) : PE X e (rdE T X W c (xC x)) := by
  refine h.imp fun σ H Q ⟨γ, S, ρ, hE, hS, hP⟩ => ?_
  exact old_val hS (r ρ H) hP
theorem ok_bin {op : Operator} {o : BO} {m : Bool} {a b : Expr} {xa xb : TEx} (ho : OpV T X W (binaryOp op) (bin o m)) (ha : PE X a (rdE T X W c xa)) (hb : PE X b (rdE T X W c xb)) : PE X (.BinOp a op b pos) (rdE T X W c (xBin o m xa xb)) := by
  refine ⟨fun pins s σ H Q I ⟨γ, S, ρ, hE, hS, hP⟩ => ?_⟩
  refine wpAny_BinOp (binT ha hb (R := fun x y H2 => ∃ (ρ2 : List Addr) (S2 : Store) (d1 d2 : Vl), RepV T.toTb X.K ρ2 H2 d1 x ∧ RepV T.toTb X.K ρ2 H2 d2 y ∧ RepS X.K ρ2 H2 S2 ∧ Po T X W (rV T X) σ ρ2 H2 (bin o m d1 d2 S2) Q) I ?_ fun v u s2 x y H2 I2 rx ry ⟨ρ2, S2, d1, d2, q1, q2, q3, q4⟩ => ho pins s2 σ H2 ρ2 S2 d1 d2 x y v u Q I2 rx ry q1 q2 q3 q4)
  exact rd_bind hE hS hP fun v H1 d S1 ρ1 e r hE1 hS1 hP1 => rd_bind hE1 hS1 hP1 fun w H2 d2 S2 ρ2 e2 r2 hE2 hS2 hP2 => ⟨ρ2, S2, d, d2, RepV.mono hS1.out e2 r, r2, hS2, hP2⟩
theorem ok_cmp {op : CmpOp} {o : CO} {a b : Expr} {xa xb : TEx} (ho : CmV T X (compareOp op) (cmp o)) (ha : PE X a (rdE T X W c xa)) (hb : PE X b (rdE T X W c xb)) (hm : behindInMarks op b = false) : PE X (.Compare a [op] [b] pos) (rdE T X W c (xCmp o xa xb)) := by
  refine ⟨fun pins s σ H Q I ⟨γ, S, ρ, hE, hS, hP⟩ => ?_⟩
  refine wpAny_Compare1 (binT ha hb (R := fun x y H2 => ∃ (ρ2 : List Addr) (S2 : Store) (d1 d2 : Vl) (k : Bool), RepV T.toTb X.K ρ2 H2 d1 x ∧ RepV T.toTb X.K ρ2 H2 d2 y ∧ RepS X.K ρ2 H2 S2 ∧ cmp o d1 d2 S2 = some k ∧ Q (.bl k) H2) I ?_ fun v u s2 x y H2 I2 rx ry ⟨ρ2, S2, d1, d2, k, q1, q2, q3, q4, q5⟩ => ho pins s2 σ H2 ρ2 S2 d1 d2 x y v u k Q I2 rx ry q1 q2 q3 q4 q5) hm
  refine rd_bind hE hS hP fun v H1 d S1 ρ1 e r hE1 hS1 hP1 => rd_bind hE1 hS1 hP1 fun w H2 d2 S2 ρ2 e2 r2 hE2 hS2 hP2 => ?_
  cases q : cmp o d d2 S2 with
  | none => rw [q] at hP2; exact hP2.elim
  | some k =>
    rw [q] at hP2
    exact ⟨ρ2, S2, d, d2, k, RepV.mono hS1.out e2 r, r2, hS2, q, old_val hS2 rep_bl hP2⟩
theorem okt_cmp {op : CmpOp} {o : CO} {a b : Expr} {xa xb : TEx} (ho : CmV T X (compareOp op) (cmp o)) (ha : PE X a (rdE T X W c xa)) (hb : PE X b (rdE T X W c xb)) (hm : behindInMarks op b = false) : PT X (.Compare a [op] [b] pos) (rdT T X W c (tCmp o xa xb)) := by
  refine ⟨fun pins s σ H Q I ⟨γ, S, ρ, hE, hS, hP⟩ => ?_⟩
  refine wpAny_isTrue_Compare1 (binT ha hb (R := fun x y H2 => ∃ (ρ2 : List Addr) (S2 : Store) (d1 d2 : Vl) (k : Bool), RepV T.toTb X.K ρ2 H2 d1 x ∧ RepV T.toTb X.K ρ2 H2 d2 y ∧ RepS X.K ρ2 H2 S2 ∧ cmp o d1 d2 S2 = some k ∧ Q k H2) I ?_ fun v u s2 x y H2 I2 rx ry ⟨ρ2, S2, d1, d2, k, q1, q2, q3, q4, q5⟩ =>
    thn (ho pins s2 σ H2 ρ2 S2 d1 d2 x y v u k (fun z H3 => z = .bl k ∧ H3 = H2) I2 rx ry q1 q2 q3 q4 ⟨rfl, rfl⟩) fun cc s3 ⟨z, H3, I3, r3, e1, e2⟩ => ?_) hm
  · refine rd_bind hE hS hP fun v H1 d S1 ρ1 e r hE1 hS1 hP1 => rd_bind hE1 hS1 hP1 fun w H2 d2 S2 ρ2 e2 r2 hE2 hS2 hP2 => ?_
    cases q : cmp o d d2 S2 with
    | none => rw [q] at hP2; exact hP2.elim
    | some k =>
      rw [q] at hP2
      exact ⟨ρ2, S2, d, d2, k, RepV.mono hS1.out e2 r, r2, hS2, q, hP2 k H2 ρ2 (Ext.refl _ _) rfl hS2⟩
  · subst e1 e2
    cases r3
    exact wpAny_truthy_bool ⟨_, I3, q5⟩
theorem ok_cmp2 {op op' : CmpOp} {o o' : CO} {a b e : Expr} {xa xb xe : TEx} (ho : CmV T X (compareOp op) (cmp o)) (ho' : CmV T X (compareOp op') (cmp o')) (ha : PE X a (rdE T X W c xa)) (hb : PE X b (rdE T X W c xb)) (he : PE X e (rdE T X W c xe))
    (hm : lastMarks [op, op'] [b, e] = false) : PE X (.Compare a [op, op'] [b, e] pos) (rdE T X W c (xCmp2 o o' xa xb xe)) := by
  refine ⟨fun pins s σ H Q I ⟨γ, S, ρ, hE, hS, hP⟩ => ?_⟩
  refine Compare_chain (thn (ha.run pins s σ H _ I (rd_bind hE hS hP fun v H1 d S1 ρ1 e r hE1 hS1 hP1 => ?_ : rdE T X W c xa σ H fun x H1 => ∃ (d : Vl) (S1 : Store) (ρ1 : List Addr), RepV T.toTb X.K ρ1 H1 d x ∧ RepE T.toTb X.K ρ1 H1 γ σ ∧ RepS X.K ρ1 H1 S1 ∧
      Po T X W (rV T X) σ ρ1 H1 ((xb c γ S1).bind fun y S2 => match cmp o d y S2 with
        | some true => (xe c γ S2).bind fun z S3 => match cmp o' y z S3 with
          | some k => .ok (B k) S3
          | none => .stuck
        | some false => .ok (B false) S2
        | none => .stuck) Q)) fun v s1 ⟨x, H1, I1, r1, d, S1, ρ1, p1, hE1, hS1, hP1⟩ => chain_link ?_) hm
  · exact ⟨d, S1, ρ1, r, hE1, hS1, hP1⟩
  · refine thn (hb.run pins s1 σ H1 _ I1 (rd_bind hE1 hS1 hP1 fun w H2 d2 S2 ρ2 e2 r2 hE2 hS2 hP2 => ?_ : rdE T X W c xb σ H1 fun y H2 => ∃ (d2 : Vl) (S2 : Store) (ρ2 : List Addr), RepV T.toTb X.K ρ2 H2 d x ∧ RepV T.toTb X.K ρ2 H2 d2 y ∧ RepE T.toTb X.K ρ2 H2 γ σ ∧ RepS X.K ρ2 H2 S2 ∧
      Po T X W (rV T X) σ ρ2 H2 (match cmp o d d2 S2 with
        | some true => (xe c γ S2).bind fun z S3 => match cmp o' d2 z S3 with
          | some k => .ok (B k) S3
          | none => .stuck
        | some false => .ok (B false) S2
        | none => .stuck) Q)) fun u s2 ⟨y, H2, I2, r2, d2, S2, ρ2, p1', p2, hE2, hS2, hP2⟩ => ?_
    · exact ⟨d2, S2, ρ2, RepV.mono hS1.out e2 p1, r2, hE2, hS2, hP2⟩
    · cases q : cmp o d d2 S2 with
      | none => rw [q] at hP2; exact hP2.elim
      | some k =>
        rw [q] at hP2
        refine thn (ho pins s2 σ H2 ρ2 S2 d d2 x y v u k (fun z H3 => z = .bl k ∧ H3 = H2) I2 r1 r2 p1' p2 hS2 q ⟨rfl, rfl⟩) fun cc s3 ⟨z, H3, I3, r3, e1, e2⟩ => ?_
        subst e1 e2
        cases r3
        refine wpAny_truthy_bool ?_
        cases k with
        | false => exact ite_ff ⟨.bl false, _, I3, rfl, old_val hS2 rep_bl hP2⟩
        | true =>
          refine ite_tt (chain_last (thn (he.run pins s3 σ H3 _ I3 (rd_bind hE2 hS2 hP2 fun w3 H4 d3 S3 ρ3 e3 r3 hE3 hS3 hP3 => ?_ : rdE T X W c xe σ H3 fun z H4 => ∃ (d3 : Vl) (S3 : Store) (ρ3 : List Addr) (k : Bool), RepV T.toTb X.K ρ3 H4 d2 y ∧ RepV T.toTb X.K ρ3 H4 d3 z ∧ RepS X.K ρ3 H4 S3 ∧ cmp o' d2 d3 S3 = some k ∧ Q (.bl k) H4)) fun w' s4 ⟨z', H4, I4, r4, d3, S3, ρ3, k, a1, a2, a3, a4, a5⟩ => ho' pins s4 σ H4 ρ3 S3 d2 d3 y z' u w' k Q I4 r2 r4 a1 a2 a3 a4 a5))
          cases q3 : cmp o' d2 d3 S3 with
          | none => rw [q3] at hP3; exact hP3.elim
          | some k3 =>
            rw [q3] at hP3
            exact ⟨d3, S3, ρ3, k3, RepV.mono hS2.out e3 p2, r3, hS3, q3, old_val hS3 rep_bl hP3⟩
theorem okt_cmp2 {op op' : CmpOp} {o o' : CO} {a b e : Expr} {xa xb xe : TEx} (ho : CmV T X (compareOp op) (cmp o)) (ho' : CmV T X (compareOp op') (cmp o')) (ha : PE X a (rdE T X W c xa)) (hb : PE X b (rdE T X W c xb)) (he : PE X e (rdE T X W c xe))
    (hm : lastMarks [op, op'] [b, e] = false) : PT X (.Compare a [op, op'] [b, e] pos) (rdT T X W c (tCmp2 o o' xa xb xe)) := by
  refine ⟨fun pins s σ H Q I ⟨γ, S, ρ, hE, hS, hP⟩ => ?_⟩
  refine isTrue_chain (thn (ha.run pins s σ H _ I (rd_bind hE hS hP fun v H1 d S1 ρ1 e r hE1 hS1 hP1 => ?_ : rdE T X W c xa σ H fun x H1 => ∃ (d : Vl) (S1 : Store) (ρ1 : List Addr), RepV T.toTb X.K ρ1 H1 d x ∧ RepE T.toTb X.K ρ1 H1 γ σ ∧ RepS X.K ρ1 H1 S1 ∧
      Po T X W rB σ ρ1 H1 ((xb c γ S1).bind fun y S2 => match cmp o d y S2 with
        | some true => (xe c γ S2).bind fun z S3 => match cmp o' y z S3 with
          | some k => .ok k S3
          | none => .stuck
        | some false => .ok false S2
        | none => .stuck) Q)) fun v s1 ⟨x, H1, I1, r1, d, S1, ρ1, p1, hE1, hS1, hP1⟩ => test_link ?_) hm
  · exact ⟨d, S1, ρ1, r, hE1, hS1, hP1⟩
  · refine thn (hb.run pins s1 σ H1 _ I1 (rd_bind hE1 hS1 hP1 fun w H2 d2 S2 ρ2 e2 r2 hE2 hS2 hP2 => ?_ : rdE T X W c xb σ H1 fun y H2 => ∃ (d2 : Vl) (S2 : Store) (ρ2 : List Addr), RepV T.toTb X.K ρ2 H2 d x ∧ RepV T.toTb X.K ρ2 H2 d2 y ∧ RepE T.toTb X.K ρ2 H2 γ σ ∧ RepS X.K ρ2 H2 S2 ∧
      Po T X W rB σ ρ2 H2 (match cmp o d d2 S2 with
        | some true => (xe c γ S2).bind fun z S3 => match cmp o' d2 z S3 with
          | some k => .ok k S3
          | none => .stuck
        | some false => .ok false S2
        | none => .stuck) Q)) fun u s2 ⟨y, H2, I2, r2, d2, S2, ρ2, p1', p2, hE2, hS2, hP2⟩ => ?_
    · exact ⟨d2, S2, ρ2, RepV.mono hS1.out e2 p1, r2, hE2, hS2, hP2⟩
    · cases q : cmp o d d2 S2 with
      | none => rw [q] at hP2; exact hP2.elim
      | some k =>
        rw [q] at hP2
        refine thn (ho pins s2 σ H2 ρ2 S2 d d2 x y v u k (fun z H3 => z = .bl k ∧ H3 = H2) I2 r1 r2 p1' p2 hS2 q ⟨rfl, rfl⟩) fun cc s3 ⟨z, H3, I3, r3, e1, e2⟩ => ?_
        subst e1 e2
        cases r3
        refine wpAny_truthy_bool ?_
        cases k with
        | false => exact ite_ff ⟨_, I3, hP2 false _ ρ2 (Ext.refl _ _) rfl hS2⟩
        | true =>
          refine ite_tt (test_last (thn (he.run pins s3 σ H3 _ I3 (rd_bind hE2 hS2 hP2 fun w3 H4 d3 S3 ρ3 e3 r3 hE3 hS3 hP3 => ?_ : rdE T X W c xe σ H3 fun z H4 => ∃ (d3 : Vl) (S3 : Store) (ρ3 : List Addr) (k : Bool), RepV T.toTb X.K ρ3 H4 d2 y ∧ RepV T.toTb X.K ρ3 H4 d3 z ∧ RepS X.K ρ3 H4 S3 ∧ cmp o' d2 d3 S3 = some k ∧ Q k H4)) fun w' s4 ⟨z', H4, I4, r4, d3, S3, ρ3, k, a1, a2, a3, a4, a5⟩ =>
            thn (ho' pins s4 σ H4 ρ3 S3 d2 d3 y z' u w' k (fun z H5 => z = .bl k ∧ H5 = H4) I4 r2 r4 a1 a2 a3 a4 ⟨rfl, rfl⟩) fun dd s5 ⟨z5, H5, I5, r5, b1, b2⟩ => ?_))
          · cases q3 : cmp o' d2 d3 S3 with
            | none => rw [q3] at hP3; exact hP3.elim
            | some k3 =>
              rw [q3] at hP3
              exact ⟨d3, S3, ρ3, k3, RepV.mono hS2.out e3 p2, r3, hS3, q3, hP3 k3 H4 ρ3 (Ext.refl _ _) rfl hS3⟩
          · subst b1 b2
            cases r5
            exact wpAny_truthy_bool ⟨_, I5, a5⟩
theorem ok_neg {a : Expr} {xa : TEx} (ha : PE X a (rdE T X W c xa)) : PE X (.UnaryOp .USub a pos) (rdE T X W c (xNeg xa)) := by
  refine (pe_un un_neg ha).imp fun σ H Q ⟨γ, S, ρ, hE, hS, hP⟩ => rd_bind hE hS hP fun v H1 d S1 ρ1 e r hE1 hS1 hP1 => ?_
  split at hP1
  · rename_i i
    have a1 := rep_intV r
    subst a1
    exact ⟨i, rfl, old_val hS1 rep_int hP1⟩
  · exact hP1.elim
theorem rep_blV {b : Bool} {v : L2.V} (r : RepV T.toTb X.K ρ H (.d (.bool b)) v) : v = .bl b := by unfold RepV RepD at r; exact r
theorem ok_not {a : Expr} {xa : TEx} (ha : PE X a (rdE T X W c xa)) : PE X (.UnaryOp .Not a pos) (rdE T X W c (xNot xa)) := by
  refine (pe_not ha).imp fun σ H Q ⟨γ, S, ρ, hE, hS, hP⟩ => rd_bind hE hS hP fun v H1 d S1 ρ1 e r hE1 hS1 hP1 => ?_
  split at hP1
  · rename_i k
    have a1 := rep_blV r
    subst a1
    exact ⟨k, rfl, old_val hS1 rep_bl hP1⟩
  · exact hP1.elim
theorem ok_one {op : BoolOp} {a : Expr} {xa : TEx} (ha : PE X a (rdE T X W c xa)) : PE X (.BoolOp op [a] pos) (rdE T X W c xa) := pe_one ha
theorem ok_and {a b : Expr} {rest : List Expr} {xa xb : TEx} (ha : PE X a (rdE T X W c xa)) (hb : PE X (.BoolOp .And (b :: rest) pos) (rdE T X W c xb)) : PE X (.BoolOp .And (a :: b :: rest) pos) (rdE T X W c (xAnd xa xb)) := by
  refine (pe_and ha hb).imp fun σ H Q ⟨γ, S, ρ, hE, hS, hP⟩ => rd_bind hE hS hP fun v H1 d S1 ρ1 e r hE1 hS1 hP1 => ?_
  split at hP1
  · have a1 := rep_blV r
    subst a1
    exact ⟨true, rfl, by rw [if_pos rfl]; exact ⟨γ, S1, ρ1, hE1, hS1, hP1⟩⟩
  · have a1 := rep_blV r
    subst a1
    exact ⟨false, rfl, by rw [if_neg Bool.false_ne_true]; exact old_val hS1 rep_bl hP1⟩
  · exact hP1.elim
theorem ok_or {a b : Expr} {rest : List Expr} {xa xb : TEx} (ha : PE X a (rdE T X W c xa)) (hb : PE X (.BoolOp .Or (b :: rest) pos) (rdE T X W c xb)) : PE X (.BoolOp .Or (a :: b :: rest) pos) (rdE T X W c (xOr xa xb)) := by
  refine (pe_or ha hb).imp fun σ H Q ⟨γ, S, ρ, hE, hS, hP⟩ => rd_bind hE hS hP fun v H1 d S1 ρ1 e r hE1 hS1 hP1 => ?_
  split at hP1
  · have a1 := rep_blV r
    subst a1
    exact ⟨false, rfl, by rw [if_neg Bool.false_ne_true]; exact ⟨γ, S1, ρ1, hE1, hS1, hP1⟩⟩
  · have a1 := rep_blV r
    subst a1
    exact ⟨true, rfl, by rw [if_pos rfl]; exact old_val hS1 rep_bl hP1⟩
  · exact hP1.elim
theorem ok_ifx {t a b : Expr} {xt : TTs} {xa xb : TEx} (ht : PT X t (rdT T X W c xt)) (ha : PE X a (rdE T X W c xa)) (hb : PE X b (rdE T X W c xb)) : PE X (.IfExp t a b pos) (rdE T X W c (xIf xt xa xb)) := by
  refine (pe_ifExp ht ha hb).imp fun σ H Q ⟨γ, S, ρ, hE, hS, hP⟩ => rd_bind hE hS hP fun v H1 d S1 ρ1 e r hE1 hS1 hP1 => ?_
  have r' : v = d := r
  subst r'
  cases v with
  | true => rw [if_pos rfl]; exact ⟨γ, S1, ρ1, hE1, hS1, hP1⟩
  | false => rw [if_neg Bool.false_ne_true]; exact ⟨γ, S1, ρ1, hE1, hS1, hP1⟩

/-! ### tests -/
theorem okt_not {a : Expr} {ta : TTs} (ha : PT X a (rdT T X W c ta)) : PT X (.UnaryOp .Not a pos) (rdT T X W c (tNot ta)) := by
  refine (pt_not ha).imp fun σ H Q ⟨γ, S, ρ, hE, hS, hP⟩ => rd_bind hE hS hP fun v H1 d S1 ρ1 e r hE1 hS1 hP1 => ?_
  have r' : v = d := r
  subst r'
  exact hP1 _ H1 ρ1 (Ext.refl _ _) rfl hS1
theorem okw_one {op : BoolOp} {a : Expr} {ta : TTs} (ha : PT X a (rdT T X W c ta)) : PW X (.BoolOp op [a] pos) (rdT T X W c ta) := by
  cases op with
  | And => exact pw_and1 ha
  | Or => exact pw_or1 ha
theorem okw_and {a b : Expr} {rest : List Expr} {ta tb : TTs} (ha : PT X a (rdT T X W c ta)) (hb : PW X (.BoolOp .And (b :: rest) pos) (rdT T X W c tb)) : PW X (.BoolOp .And (a :: b :: rest) pos) (rdT T X W c (tAnd ta tb)) := by
  refine (pw_and ha hb).imp fun σ H Q ⟨γ, S, ρ, hE, hS, hP⟩ => rd_bind hE hS hP fun v H1 d S1 ρ1 e r hE1 hS1 hP1 => ?_
  have r' : v = d := r
  subst r'
  cases v with
  | true => rw [if_pos rfl]; exact ⟨γ, S1, ρ1, hE1, hS1, hP1⟩
  | false => rw [if_neg Bool.false_ne_true]; exact hP1 _ H1 ρ1 (Ext.refl _ _) rfl hS1
theorem okw_or {a b : Expr} {rest : List Expr} {ta tb : TTs} (ha : PT X a (rdT T X W c ta)) (hb : PW X (.BoolOp .Or (b :: rest) pos) (rdT T X W c tb)) : PW X (.BoolOp .Or (a :: b :: rest) pos) (rdT T X W c (tOr ta tb)) := by
  refine (pw_or ha hb).imp fun σ H Q ⟨γ, S, ρ, hE, hS, hP⟩ => rd_bind hE hS hP fun v H1 d S1 ρ1 e r hE1 hS1 hP1 => ?_
  have r' : v = d := r
  subst r'
  cases v with
  | false => rw [if_neg Bool.false_ne_true]; exact ⟨γ, S1, ρ1, hE1, hS1, hP1⟩
  | true => rw [if_pos rfl]; exact hP1 _ H1 ρ1 (Ext.refl _ _) rfl hS1
theorem pt_ifx {t a b : Expr} {tt ta tb : TT} (ht : PT X t tt) (ha : PT X a ta) (hb : PT X b tb) : PT X (.IfExp t a b pos) (fun σ H Q => tt σ H fun k H1 => if k = true then ta σ H1 Q else tb σ H1 Q) := by
  refine ⟨fun pins s σ H Q I h => ?_⟩
  have e : isTrue (.IfExp t a b pos) X.env (eval (.IfExp t a b pos) X.env) = (do
    if ← isTrue t X.env (eval t X.env) then isTrue a X.env (eval a X.env) else isTrue b X.env (eval b X.env)) := by rfl
  rw [e]
  refine wpAny_bind (thn (ht.run pins s σ H _ I h) fun k s1 ⟨H1, I1, q⟩ => ?_)
  cases k with
  | true => rw [if_pos rfl] at q; exact ha.run pins s1 σ H1 Q I1 q
  | false => rw [if_neg Bool.false_ne_true] at q; exact hb.run pins s1 σ H1 Q I1 q
theorem okt_ifx {t a b : Expr} {tt ta tb : TTs} (ht : PT X t (rdT T X W c tt)) (ha : PT X a (rdT T X W c ta)) (hb : PT X b (rdT T X W c tb)) : PT X (.IfExp t a b pos) (rdT T X W c (tIfx tt ta tb)) := by
  refine (pt_ifx ht ha hb).imp fun σ H Q ⟨γ, S, ρ, hE, hS, hP⟩ => rd_bind hE hS hP fun v H1 d S1 ρ1 e r hE1 hS1 hP1 => ?_
  have r' : v = d := r
  subst r'
  cases v with
  | true => rw [if_pos rfl]; exact ⟨γ, S1, ρ1, hE1, hS1, hP1⟩
  | false => rw [if_neg Bool.false_ne_true]; exact ⟨γ, S1, ρ1, hE1, hS1, hP1⟩
theorem tru_rep {x : Vl} {v : L2.V} {k : Bool} (s : RepS X.K ρ H S) (r : RepV T.toTb X.K ρ H x v) (e : tru S x = some k) : TruV X.K v H k := by
  unfold tru at e
  split at e
  · rename_i b q
    cases e
    have := now_bl (dat_rep s r q); subst this; rfl
  · rename_i q
    cases e
    have := now_non (dat_rep s r q); subst this; rfl
  · rename_i i q
    cases e
    have := now_int (dat_rep s r q); subst this; rfl
  · rename_i xs q
    cases e
    obtain ⟨a, vs, rfl, ha, ra⟩ := now_lst (dat_rep s r q)
    have hl := ra.length
    refine .inl ⟨vs, SqL.of ha, ?_⟩
    cases vs <;> cases xs <;> first | rfl | (simp at hl)
  · rename_i xs q
    cases e
    obtain ⟨a, vs, rfl, ha, ra⟩ := now_tup (dat_rep s r q)
    have hl := ra.length
    refine .inr (.inl ⟨vs, ha, ?_⟩)
    cases vs <;> cases xs <;> first | rfl | (simp at hl)
  · cases e
theorem okt_val {a : Expr} {xa : TEx} (ha : PE X a (rdE T X W c xa)) (he : ∀ whole, isTrue a X.env whole = (do let v ← whole; standAt a.pos; holding [v] (truthy v))) : PT X a (rdT T X W c (tV xa)) := by
  refine (pt_truth ha he).imp fun σ H Q ⟨γ, S, ρ, hE, hS, hP⟩ => rd_bind hE hS hP fun v H1 d S1 ρ1 e r hE1 hS1 hP1 => ?_
  cases q : tru S1 d with
  | none => rw [q] at hP1; exact hP1.elim
  | some k =>
    rw [q] at hP1
    exact ⟨k, tru_rep hS1 r q, hP1 _ H1 ρ1 (Ext.refl _ _) rfl hS1⟩

/-! ### lists of arguments, displays -/
theorem oka_nil : PA X [] (rdA T X W c aNil) := by
  refine pa_nil.imp fun σ H Q ⟨γ, S, ρ, hE, hS, hP⟩ => ?_
  exact hP [] H ρ (Ext.refl _ _) (by unfold rVs RepVs; rfl) hS
theorem oka_cons {e : Expr} {es : List Expr} {xe : TEx} {xs : TAr} (he : PE X e (rdE T X W c xe)) (hs : PA X es (rdA T X W c xs)) (hst : starEach (e :: es) X.env = (false, eval e X.env) :: starEach es X.env) : PA X (e :: es) (rdA T X W c (aCons xe xs)) := by
  refine (pa_cons he hs hst).imp fun σ H Q ⟨γ, S, ρ, hE, hS, hP⟩ => rd_bind hE hS hP fun v H1 d S1 ρ1 e1 r hE1 hS1 hP1 => rd_bind hE1 hS1 hP1 fun vs H2 ds S2 ρ2 e2 r2 hE2 hS2 hP2 => ?_
  refine hP2 (v :: vs) H2 ρ2 (Ext.refl _ _) ?_ hS2
  unfold rVs RepVs
  exact ⟨v, vs, rfl, RepV.mono hS1.out e2 r, r2⟩
theorem ok_tup {es : List Expr} {k : Nat} {xs : TAr} (h : PA X es (rdA T X W c xs)) (hn : ∀ γ S vs S', xs c γ S = .ok vs S' → vs.length ≤ 1000) : PE X (.Tuple es k pos) (rdE T X W c (xTup xs)) := by
  refine (pe_tup h).imp fun σ H Q ⟨γ, S, ρ, hE, hS, hP⟩ => ⟨γ, S, ρ, hE, hS, (Po.bind hP).imp fun vs H1 ⟨ds, S1, ρ1, e1, r, hS1, em, hP1⟩ => ?_⟩
  have hlen := hn _ _ _ _ em
  refine ⟨by rw [r.length, sizeLine_eq]; omega, fun p hp => ?_⟩
  unfold mkTup at hP1
  cases q : allD ds with
  | some xs =>
    rw [q] at hP1
    exact new_tup hS1 (RepVs.data q r) hP1 hp
  | none =>
    rw [q] at hP1
    refine hP1 _ _ ρ1 (Ext.new hp) ?_ (hS1.new hp)
    unfold rV RepV
    exact ⟨p, vs, rfl, SqT.of upd_same, RepVs.mono hS1.out (Ext.new hp) r⟩
theorem ok_lst {m : Bool} {es : List Expr} {xs : TAr} (h : PA X es (rdA T X W c xs)) (hn : ∀ γ S vs S', xs c γ S = .ok vs S' → vs.length ≤ 1000) : PE X (.List es pos) (rdE T X W c (xLst m xs)) := by
  refine (pe_lst h).imp fun σ H Q ⟨γ, S, ρ, hE, hS, hP⟩ => ⟨γ, S, ρ, hE, hS, (Po.bind hP).imp fun vs H1 ⟨ds, S1, ρ1, e1, r, hS1, em, hP1⟩ => ?_⟩
  have hlen := hn _ _ _ _ em
  refine ⟨by rw [r.length, sizeLine_eq]; omega, fun p hp => ?_⟩
  cases q : allD ds with
  | some xs =>
    rw [q] at hP1
    exact new_lst hS1 (RepVs.data q r) hP1 hp
  | none =>
    rw [q] at hP1
    cases m with
    | true => exact hP1.elim
    | false => exact new_lv hS1 r hP1 hp
end
end Mk
/-! Mk7: subscripts, slices, built-ins, calls. -/
namespace Mk
open PySem PySem.Spec PyProof.Rows L2
section
variable [TabC] {T : Tx} {X : Cx} {W : WX} {c : Cl} {σ : L2.St} {ρ : List Addr} {H : Hp} {γ : Env} {S : Store} {pos : Pos}
/-! ### o[i] -/
theorem at_eq {α : Type} (xs : List α) (i : Int) : atI xs i = at? xs i := by
  unfold atI at? ixN
  by_cases h0 : 0 ≤ i
  · rw [if_pos h0, if_pos h0]
    by_cases h1 : i < xs.length
    · rw [if_pos h1]; rfl
    · rw [if_neg h1]
      exact (List.getElem?_eq_none (by omega)).symm
  · rw [if_neg h0, if_neg h0]
    by_cases h1 : -(xs.length : Int) ≤ i
    · rw [if_pos h1, if_pos h1]; rfl
    · rw [if_neg h1, if_neg h1]; rfl
theorem at_get {α : Type} {xs : List α} {i : Int} {v : α} (h : at? xs i = some v) : ∃ j : Nat, xs[j]? = some v ∧ ∀ {β : Type} (ys : List β), ys.length = xs.length → at? ys i = ys[j]? := by
  unfold at? at h
  by_cases h0 : 0 ≤ i
  · rw [if_pos h0] at h
    exact ⟨_, h, fun ys _ => by unfold at?; rw [if_pos h0]⟩
  · rw [if_neg h0] at h
    by_cases h1 : -(xs.length : Int) ≤ i
    · rw [if_pos h1] at h
      exact ⟨_, h, fun ys e => by unfold at?; rw [if_neg h0, if_pos (by rw [e]; exact h1), e]⟩
    · rw [if_neg h1] at h; cases h
theorem RepDs.at {xs : List D} {vs : List L2.V} {i : Int} {x : D} (r : RepDs X.K ρ H xs vs) (h : at? xs i = some x) : ∃ v, atI vs i = some v ∧ RepD X.K ρ H x v := by
  obtain ⟨j, e1, e2⟩ := at_get h
  obtain ⟨v, e3, q⟩ := r.get e1
  exact ⟨v, by rw [at_eq, e2 vs r.length]; exact e3, q⟩
theorem RepVs.at {xs : List Vl} {vs : List L2.V} {i : Int} {x : Vl} (r : RepVs T.toTb X.K ρ H xs vs) (h : at? xs i = some x) : ∃ v, atI vs i = some v ∧ RepV T.toTb X.K ρ H x v := by
  obtain ⟨j, e1, e2⟩ := at_get h
  obtain ⟨v, e3, q⟩ := r.get e1
  exact ⟨v, by rw [at_eq, e2 vs r.length]; exact e3, q⟩
/-- d[k] -/
def rIxDc : R2 := fun x y H Q => ∃ a v, x = .ref a ∧ DGet H a y (some v) ∧ Q v H
theorem ix_dct (hu : X.A.units + 1 < cLine) : IxR X rIxDc := by
  intro value slice pins s σ H x y v u Q I rx ry h hs
  obtain ⟨a, w, rfl, g, q⟩ := h
  obtain rfl : v = Value.ref a := rx
  exact tail_any (dict_typeIs I g) PySem.F.slot_dict_getitem.lookup (d_getItem hu I g ry fun w' s' I' rw' => ⟨w, H, I', rw', q⟩) hs
theorem ok_ix {a b : Expr} {xa xb : TEx} (hu : X.A.units + 100 < cLine) (ha : PE X a (rdE T X W c xa)) (hb : PE X b (rdE T X W c xb)) (hp : PlainIx b) : PE X (.Subscript a b pos) (rdE T X W c (xIx xa xb)) := by
  refine (pe_ix (ix_seq.or (ix_dct (by omega))) ha hb hp).imp fun σ H Q ⟨γ, S, ρ, hE, hS, hP⟩ => rd_bind hE hS hP fun v H1 d S1 ρ1 e r hE1 hS1 hP1 => rd_bind hE1 hS1 hP1 fun w H2 d2 S2 ρ2 e2 r2 hE2 hS2 hP2 => ?_
  have r' := RepV.mono hS1.out e2 r
  unfold ix at hP2
  split at hP2
  · rename_i xs i q
    obtain ⟨a, vs, rfl, ha, ra⟩ := now_lst (dat_rep hS2 r' q)
    have a2 := rep_intV r2
    subst a2
    cases q2 : at? xs i with
    | none => rw [q2] at hP2; exact hP2.elim
    | some x =>
      rw [q2] at hP2
      obtain ⟨v, e3, q3⟩ := ra.at q2
      exact .inl (.inl ⟨a, vs, i, v, rfl, rfl, SqL.of ha, e3, old_val hS2 (by unfold RepV; exact q3) hP2⟩)
  · rename_i xs i q
    obtain ⟨a, vs, rfl, ha, ra⟩ := now_tup (dat_rep hS2 r' q)
    have a2 := rep_intV r2
    subst a2
    cases q2 : at? xs i with
    | none => rw [q2] at hP2; exact hP2.elim
    | some x =>
      rw [q2] at hP2
      obtain ⟨v, e3, q3⟩ := ra.at q2
      exact .inl (.inr (.inl ⟨a, vs, i, v, rfl, rfl, ha, e3, old_val hS2 (by unfold RepV; exact q3) hP2⟩))
  · rename_i z i q
    have ez := now_str (dat_rep hS2 r' q)
    subst ez
    have a2 := rep_intV r2
    subst a2
    split at hP2
    case isFalse => exact hP2.elim
    rename_i hl
    cases q2 : at? z.cps.toList i with
    | none => rw [q2] at hP2; exact hP2.elim
    | some x =>
      rw [q2] at hP2
      exact .inl (.inr (.inr ⟨z, i, x, rfl, rfl, by rw [line_eq]; exact hl, by rw [at_eq]; exact q2, old_val hS2 rep_str hP2⟩))
  · split at hP2
    · rename_i kvs kk q1 _ _ _
      split at hP2
      case isFalse => exact hP2.elim
      rename_i hk
      unfold RepV at r2
      obtain ⟨k', rfl, rfl⟩ := key_of_isK hk r2
      obtain ⟨a, ks, rfl, ha, hr⟩ := dko_rep hS2 r' q1
      rcases getK_rep k' hr with ⟨h1, h2⟩ | ⟨y, u, h1, h2, h3⟩
      · rw [h1] at hP2; exact hP2.elim
      · rw [h1] at hP2
        exact .inr ⟨a, u, rfl, by rw [← h2]; exact DGet.k ha, old_val hS2 (by unfold RepV; exact h3) hP2⟩
    · unfold ixS at hP2
      split at hP2
      · rename_i xs i _ _ _ _
        unfold RepV at r'
        obtain ⟨a, vs, rfl, ha, ra⟩ := r'
        have a2 := rep_intV r2
        subst a2
        cases q2 : at? xs i with
        | none => rw [q2] at hP2; exact hP2.elim
        | some x =>
          rw [q2] at hP2
          obtain ⟨v, e3, q3⟩ := ra.at q2
          exact .inl (.inl ⟨a, vs, i, v, rfl, rfl, ha.sq, e3, old_val hS2 (by unfold RepV; exact q3) hP2⟩)
      · rename_i xs i _ _ _ _
        unfold RepV at r'
        obtain ⟨a, vs, rfl, _, ha, ra⟩ := r'
        have a2 := rep_intV r2
        subst a2
        cases q2 : at? xs i with
        | none => rw [q2] at hP2; exact hP2.elim
        | some x =>
          rw [q2] at hP2
          obtain ⟨v, e3, q3⟩ := ra.at q2
          exact .inl (.inl ⟨a, vs, i, v, rfl, rfl, SqL.of ha, e3, old_val hS2 q3 hP2⟩)
      · rename_i xs i _ _ _ _
        unfold RepV at r'
        obtain ⟨a, vs, rfl, ha, ra⟩ := r'
        have a2 := rep_intV r2
        subst a2
        cases q2 : at? xs i with
        | none => rw [q2] at hP2; exact hP2.elim
        | some x =>
          rw [q2] at hP2
          obtain ⟨v, e3, q3⟩ := ra.at q2
          exact .inl (.inr (.inl ⟨a, vs, i, v, rfl, rfl, ha, e3, old_val hS2 q3 hP2⟩))
      · exact hP2.elim
/-! ### slices -/
theorem sIx_eq (n d : Nat) (hd : d ≤ n) (o : Option Int) : HT.sIx n d o = sIx n d o := by
  cases o with
  | none => rfl
  | some v =>
    have h1 := HT.clip_eq v n d
    unfold sIx
    dsimp only
    split
    · rename_i h
      rw [if_pos h] at h1
      omega
    · rename_i h
      rw [if_neg h] at h1
      omega
theorem cut_eq (vs : List L2.V) (lo hi : Option Int) : cutV vs lo hi = cut vs lo hi := by
  unfold cutV cut
  rw [sIx_eq _ _ (Nat.zero_le _), sIx_eq _ _ (Nat.le_refl _)]
theorem RepDs.cut {xs : List D} {vs : List L2.V} (r : RepDs X.K ρ H xs vs) (lo hi : Option Int) : RepDs X.K ρ H (cut xs lo hi) (Mk.cut vs lo hi) := by
  unfold Mk.cut
  rw [r.length]
  exact (r.drop _).take _
abbrev rdP (T : Tx) (X : Cx) (W : WX) (c : Cl) (x : TPt) : TO := rdG T X W (fun _ _ (o : Option Int) (o' : Option Int) => o' = o) c x
theorem okp_no : PO X none (rdP T X W c pNo) := ⟨fun pins s σ H Q I ⟨γ, S, ρ, hE, hS, hP⟩ => po_none.run pins s σ H Q I (hP none H ρ (Ext.refl _ _) rfl hS)⟩
theorem okp_some {a : Expr} {xa : TEx} (ha : PE X a (rdE T X W c xa)) : PO X (some a) (rdP T X W c (pSome xa)) := ⟨fun pins s σ H Q I ⟨γ, S, ρ, hE, hS, hP⟩ => by
  refine (po_some ha).run pins s σ H Q I (rd_bind hE hS hP fun v H1 d S1 ρ1 e r hE1 hS1 hP1 => ?_)
  split at hP1
  · rename_i i
    have a2 := rep_intV r
    subst a2
    exact ⟨i, rfl, hP1 _ H1 ρ1 (Ext.refl _ _) rfl hS1⟩
  · exact hP1.elim⟩
theorem ok_sl {m : Bool} {a : Expr} {lo hi : Option Expr} {xa : TEx} {l h : TPt} {p2 : Pos} (ha : PE X a (rdE T X W c xa)) (hl : PO X lo (rdP T X W c l)) (hh : PO X hi (rdP T X W c h)) : PE X (.Subscript a (.Slice lo hi none p2) pos) (rdE T X W c (xSl m xa l h)) := by
  refine (pe_slice (sl_list.or sl_tupA) ha hl hh).imp fun σ H Q ⟨γ, S, ρ, hE, hS, hP⟩ => rd_bind hE hS hP fun v H1 d S1 ρ1 e r hE1 hS1 hP1 => rd_bind hE1 hS1 hP1 fun lo' H2 lo S2 ρ2 e2 r2 hE2 hS2 hP2 => rd_bind hE2 hS2 hP2 fun hi' H3 hi S3 ρ3 e3 r3 hE3 hS3 hP3 => ?_
  have r' := RepV.mono hS2.out e3 (RepV.mono hS1.out e2 r)
  have r2' : lo' = lo := r2
  have r3' : hi' = hi := r3
  subst r2' r3'
  unfold sl at hP3
  split at hP3
  · rename_i xs q
    obtain ⟨a, vs, rfl, ha, ra⟩ := now_lst (dat_rep hS3 r' q)
    exact .inl ⟨a, vs, rfl, SqL.of ha, fun p hp => by rw [cut_eq]; exact new_lst hS3 (ra.cut _ _) hP3 hp⟩
  · rename_i xs q
    obtain ⟨a, vs, rfl, ha, ra⟩ := now_tup (dat_rep hS3 r' q)
    refine .inr ⟨a, vs, rfl, ha, fun ⟨q1, q2⟩ => ?_, fun _ p hp => by rw [cut_eq]; exact new_tup hS3 (ra.cut _ _) hP3 hp⟩
    have ec : cut xs lo' hi' = xs := by
      unfold cut
      rw [sIx_eq _ _ (Nat.zero_le _), ra.length] at q1
      rw [sIx_eq _ _ (Nat.le_refl _), ra.length] at q2
      rw [q1, q2]
      simp
    rw [ec] at hP3
    exact old_val hS3 (by unfold RepV RepD; exact ⟨a, vs, rfl, ha, ra⟩) hP3
  · exact hP3.elim
theorem ok_rev {m : Bool} {a : Expr} {xa : TEx} {k : Nat} {p1 p2 p3 : Pos} (ha : PE X a (rdE T X W c xa)) : PE X (.Subscript a (.Slice none none (some (.UnaryOp .USub (.Constant (.int 1) k p1) p2)) p3) pos) (rdE T X W c (xRev m xa)) := by
  refine (pe_revL ha).imp fun σ H Q ⟨γ, S, ρ, hE, hS, hP⟩ => rd_bind hE hS hP fun v H1 d S1 ρ1 e r hE1 hS1 hP1 => ?_
  split at hP1
  · rename_i xs q
    obtain ⟨a, vs, rfl, ha, ra⟩ := now_lst (dat_rep hS1 r q)
    exact ⟨a, vs, rfl, SqL.of ha, fun p hp => new_lst hS1 ra.reverse hP1 hp⟩
  · exact hP1.elim

/-! ### built-ins -/
/-- a built-in's call on values -/
def BiV (T : Tx) (X : Cx) (W : WX) (f : Value) (o : List Vl → Store → R Vl) : Prop :=
  ∀ (pins : List (Addr × Obj)) (s : Shared) (σ : L2.St) (H : Hp) (ρ : List Addr) (S : Store) (xs : List Vl) (vs : List L2.V) (us : List Value) (Q : VK), Inv X pins σ H s → Vals vs us →
    RepVs T.toTb X.K ρ H xs vs → RepS X.K ρ H S → Po T X W (rV T X) σ ρ H (o xs S) Q → wpAny (model X.prog X.w) X.A (call f us) (EP X pins σ Q) X.xe s
theorem biv_of {f : Value} {r : List L2.V → Hp → VK → Prop} {o : List Vl → Store → R Vl} (h : CallR X f r)
    (k : ∀ (σ : L2.St) (H : Hp) (ρ : List Addr) (S : Store) (xs : List Vl) (vs : List L2.V) (Q : VK), RepVs T.toTb X.K ρ H xs vs → RepS X.K ρ H S → Po T X W (rV T X) σ ρ H (o xs S) Q → r vs H Q) : BiV T X W f o :=
  fun pins s σ H ρ S xs vs us Q I r1 p hs hP => h pins s σ H vs us Q I r1 (k σ H ρ S xs vs Q p hs hP)
theorem repvs1 {x : Vl} {vs : List L2.V} (h : RepVs T.toTb X.K ρ H [x] vs) : ∃ v, vs = [v] ∧ RepV T.toTb X.K ρ H x v := by
  unfold RepVs at h
  obtain ⟨v, r, rfl, h1, h2⟩ := h
  unfold RepVs at h2
  subst h2
  exact ⟨v, rfl, h1⟩
theorem repvs2 {x y : Vl} {vs : List L2.V} (h : RepVs T.toTb X.K ρ H [x, y] vs) : ∃ v w, vs = [v, w] ∧ RepV T.toTb X.K ρ H x v ∧ RepV T.toTb X.K ρ H y w := by
  unfold RepVs at h
  obtain ⟨v, r, rfl, h1, h2⟩ := h
  obtain ⟨w, rfl, h3⟩ := repvs1 h2
  exact ⟨v, w, rfl, h1, h3⟩
theorem one_of {f : Vl → Store → R Vl} {xs : List Vl} {S : Store} {Q : VK} (hP : Po T X W (rV T X) σ ρ H (match xs with
  | [x] => f x S
  | _ => .stuck) Q) : ∃ x, xs = [x] ∧ Po T X W (rV T X) σ ρ H (f x S) Q := by
  split at hP
  · exact ⟨_, rfl, hP⟩
  · exact hP.elim
theorem biv_len : BiV T X W (.builtin "len") bLen := by
  refine biv_of ((call_len_seq.or call_len_str).or call_lenD) fun σ H ρ S xs vs Q p hs hP => ?_
  unfold bLen at hP
  split at hP
  case h_5 => exact hP.elim
  · obtain ⟨v, rfl, r⟩ := repvs1 p
    unfold RepV at r
    obtain ⟨a, vs, rfl, ha, ra⟩ := r
    exact .inl (.inl ⟨a, vs, rfl, .inl ha.sq, by rw [ra.length]; exact old_val hs rep_int hP⟩)
  · obtain ⟨v, rfl, r⟩ := repvs1 p
    unfold RepV at r
    obtain ⟨a, vs, rfl, _, ha, ra⟩ := r
    exact .inl (.inl ⟨a, vs, rfl, .inl (SqL.of ha), by rw [ra.length]; exact old_val hs rep_int hP⟩)
  · obtain ⟨v, rfl, r⟩ := repvs1 p
    unfold RepV at r
    obtain ⟨a, vs, rfl, ha, ra⟩ := r
    exact .inl (.inl ⟨a, vs, rfl, .inr ha, by rw [ra.length]; exact old_val hs rep_int hP⟩)
  obtain ⟨v, rfl, r⟩ := repvs1 p
  split at hP
  · rename_i xs q
    obtain ⟨a, vs, rfl, ha, ra⟩ := now_lst (dat_rep hs r q)
    exact .inl (.inl ⟨a, vs, rfl, .inl (SqL.of ha), by rw [ra.length]; exact old_val hs rep_int hP⟩)
  · rename_i xs q
    obtain ⟨a, vs, rfl, ha, ra⟩ := now_tup (dat_rep hs r q)
    exact .inl (.inl ⟨a, vs, rfl, .inr ha, by rw [ra.length]; exact old_val hs rep_int hP⟩)
  · rename_i z q
    have := now_str (dat_rep hs r q)
    subst this
    split at hP
    · rename_i hl
      exact .inl (.inr ⟨z, rfl, by rw [line_eq]; exact hl, old_val hs rep_int hP⟩)
    · exact hP.elim
  · split at hP
    · rename_i kvs q
      obtain ⟨a, ks, rfl, ha, hr⟩ := dko_rep hs r q
      exact .inr ⟨a, ks, rfl, ha, by rw [hr.len]; exact old_val hs rep_int hP⟩
    · exact hP.elim
theorem biv_abs : BiV T X W (.builtin "abs") bAbs := by
  refine biv_of call_abs fun σ H ρ S xs vs Q p hs hP => ?_
  unfold bAbs at hP
  split at hP
  · obtain ⟨v, rfl, r⟩ := repvs1 p
    have := rep_intV r
    subst this
    exact ⟨_, rfl, old_val hs rep_int hP⟩
  · exact hP.elim
theorem biv_max (hc : X.calm = true) : BiV T X W (.builtin "max") bMax := by
  refine biv_of (call_max2 hc) fun σ H ρ S xs vs Q p hs hP => ?_
  unfold bMax at hP
  split at hP
  · obtain ⟨v, w, rfl, r, r2⟩ := repvs2 p
    have := rep_intV r
    have := rep_intV r2
    subst_vars
    exact ⟨_, _, rfl, old_val hs rep_int hP⟩
  · exact hP.elim
theorem biv_min (hc : X.calm = true) : BiV T X W (.builtin "min") bMin := by
  refine biv_of (call_min2 hc) fun σ H ρ S xs vs Q p hs hP => ?_
  unfold bMin at hP
  split at hP
  · obtain ⟨v, w, rfl, r, r2⟩ := repvs2 p
    have := rep_intV r
    have := rep_intV r2
    subst_vars
    exact ⟨_, _, rfl, old_val hs rep_int hP⟩
  · exact hP.elim
theorem biv_int : BiV T X W (.type "int") bInt := by
  refine biv_of call_int1 fun σ H ρ S xs vs Q p hs hP => ?_
  unfold bInt at hP
  split at hP
  · obtain ⟨v, rfl, r⟩ := repvs1 p
    have := rep_intV r
    subst this
    exact .inl ⟨_, rfl, old_val hs rep_int hP⟩
  · obtain ⟨v, rfl, r⟩ := repvs1 p
    have := rep_blV r
    subst this
    exact .inr ⟨_, rfl, old_val hs rep_int hP⟩
  · exact hP.elim
theorem biv_list {m : Bool} : BiV T X W (.type "list") (bList m) := by
  refine biv_of call_list_of fun σ H ρ S xs vs Q p hs hP => ?_
  unfold bList at hP
  split at hP
  case h_2 => exact hP.elim
  obtain ⟨v, rfl, r⟩ := repvs1 p
  split at hP
  · rename_i xs q
    obtain ⟨a, vs, rfl, ha, ra⟩ := now_lst (dat_rep hs r q)
    exact ⟨a, vs, rfl, .inl (SqL.of ha), fun l hl => new_lst hs ra hP hl⟩
  · rename_i xs q
    obtain ⟨a, vs, rfl, ha, ra⟩ := now_tup (dat_rep hs r q)
    exact ⟨a, vs, rfl, .inr ha, fun l hl => new_lst hs ra hP hl⟩
  · exact hP.elim
theorem biv_tuple : BiV T X W (.type "tuple") bTuple := by
  refine biv_of call_tuple_of fun σ H ρ S xs vs Q p hs hP => ?_
  unfold bTuple at hP
  split at hP
  case h_2 => exact hP.elim
  obtain ⟨v, rfl, r⟩ := repvs1 p
  split at hP
  · rename_i xs q
    obtain ⟨a, vs, rfl, ha, ra⟩ := now_lst (dat_rep hs r q)
    exact ⟨a, vs, rfl, .inl ⟨SqL.of ha, fun l hl => new_tup hs ra hP hl⟩⟩
  · rename_i xs q
    obtain ⟨a, vs, rfl, ha, ra⟩ := now_tup (dat_rep hs r q)
    exact ⟨a, vs, rfl, .inr ⟨ha, old_val hs (by unfold RepV RepD; exact ⟨a, vs, rfl, ha, ra⟩) hP⟩⟩
  · exact hP.elim
theorem allT_bools : ∀ {xs : List D} {b : Bool}, allT xs = some b → PyData.plainAll xs = true ∧ (∀ x ∈ xs, x.fits63) ∧ xs.all PyData.truthy = b
  | [], b, h => by cases h; exact ⟨rfl, by simp, rfl⟩
  | x :: xs, b, h => by
    cases x with
    | bool k =>
      unfold allT at h
      cases k with
      | true =>
        have h' : allT xs = some b := h
        obtain ⟨a1, a2, a3⟩ := allT_bools h'
        refine ⟨by rw [PyData.plainAll, a1]; rfl, fun y hy => ?_, by rw [List.all_cons, a3]; rfl⟩
        rcases List.mem_cons.mp hy with e | e
        · subst e; trivial
        · exact a2 y e
      | false =>
        cases q : allT xs with
        | none => simp only [truD, q] at h; cases h
        | some k =>
          simp only [truD, q] at h
          cases h
          obtain ⟨a1, a2, a3⟩ := allT_bools q
          refine ⟨by rw [PyData.plainAll, a1]; rfl, fun y hy => ?_, by rw [List.all_cons]; rfl⟩
          rcases List.mem_cons.mp hy with e | e
          · subst e; trivial
          · exact a2 y e
    | _ => cases h
theorem anyT_bools : ∀ {xs : List D} {b : Bool}, anyT xs = some b → PyData.plainAll xs = true ∧ (∀ x ∈ xs, x.fits63) ∧ xs.any PyData.truthy = b
  | [], b, h => by cases h; exact ⟨rfl, by simp, rfl⟩
  | x :: xs, b, h => by
    cases x with
    | bool k =>
      unfold anyT at h
      cases k with
      | false =>
        have h' : anyT xs = some b := h
        obtain ⟨a1, a2, a3⟩ := anyT_bools h'
        refine ⟨by rw [PyData.plainAll, a1]; rfl, fun y hy => ?_, by rw [List.any_cons, a3]; rfl⟩
        rcases List.mem_cons.mp hy with e | e
        · subst e; trivial
        · exact a2 y e
      | true =>
        cases q : anyT xs with
        | none => simp only [truD, q] at h; cases h
        | some k =>
          simp only [truD, q] at h
          cases h
          obtain ⟨a1, a2, a3⟩ := anyT_bools q
          refine ⟨by rw [PyData.plainAll, a1]; rfl, fun y hy => ?_, by rw [List.any_cons]; rfl⟩
          rcases List.mem_cons.mp hy with e | e
          · subst e; trivial
          · exact a2 y e
    | _ => cases h
theorem biv_all (hc : X.calm = true) : BiV T X W (.builtin "all") bAll := by
  intro pins s σ H ρ S xs vs us Q I r1 p hs hP
  unfold bAll at hP
  split at hP
  case h_2 => exact hP.elim
  obtain ⟨v, rfl, r⟩ := repvs1 p
  obtain ⟨u, rfl, ru⟩ := vals1 r1
  split at hP
  · rename_i xs q
    obtain ⟨a, vs, rfl, ha, ra⟩ := now_lst (dat_rep hs r q)
    cases ru
    cases q2 : allT xs with
    | none => rw [q2] at hP; exact hP.elim
    | some b =>
      rw [q2] at hP
      obtain ⟨a1, a2, a3⟩ := allT_bools q2
      obtain ⟨its, rv, pl, hz⟩ := I.list (SqL.of ha)
      obtain ⟨as, rd, _⟩ := ra.reads I rv
      refine PySem.W.all_list_data (I.ok.hd hc) pl.isList (by simpa using rd) a1 a2 fun h' tk k => ⟨.bl b, H, I.kept k, by rw [a3]; rfl, old_val hs rep_bl hP⟩
  · exact hP.elim
theorem biv_any (hc : X.calm = true) : BiV T X W (.builtin "any") bAny := by
  intro pins s σ H ρ S xs vs us Q I r1 p hs hP
  unfold bAny at hP
  split at hP
  case h_2 => exact hP.elim
  obtain ⟨v, rfl, r⟩ := repvs1 p
  obtain ⟨u, rfl, ru⟩ := vals1 r1
  split at hP
  · rename_i xs q
    obtain ⟨a, vs, rfl, ha, ra⟩ := now_lst (dat_rep hs r q)
    cases ru
    cases q2 : anyT xs with
    | none => rw [q2] at hP; exact hP.elim
    | some b =>
      rw [q2] at hP
      obtain ⟨a1, a2, a3⟩ := anyT_bools q2
      obtain ⟨its, rv, pl, hz⟩ := I.list (SqL.of ha)
      obtain ⟨as, rd, _⟩ := ra.reads I rv
      refine PySem.W.any_list_data (I.ok.hd hc) pl.isList (by simpa using rd) a1 a2 fun h' tk k => ⟨.bl b, H, I.kept k, by rw [a3]; rfl, old_val hs rep_bl hP⟩
  · exact hP.elim
theorem sumI_ints : ∀ {xs : List D} {n : Int} {vs : List L2.V}, sumI xs = some n → RepDs X.K ρ H xs vs → ∃ ns : List Int, vs = ns.map V.int ∧ ns.sum = n
  | [], n, vs, h, r => by
    cases h
    unfold RepDs at r
    subst r
    exact ⟨[], rfl, rfl⟩
  | x :: xs, n, vs, h, r => by
    cases x with
    | int i =>
      unfold sumI at h
      cases q : sumI xs with
      | none => rw [q] at h; cases h
      | some k =>
        rw [q] at h
        cases h
        unfold RepDs at r
        obtain ⟨v, w, rfl, h1, h2⟩ := r
        unfold RepD at h1
        subst h1
        obtain ⟨ns, rfl, e⟩ := sumI_ints q h2
        exact ⟨i :: ns, rfl, by rw [List.sum_cons, e]⟩
    | _ => cases h
theorem biv_sum (hc : X.calm = true) : BiV T X W (.builtin "sum") bSum := by
  refine biv_of (cr_sum hc) fun σ H ρ S xs vs Q p hs hP => ?_
  unfold bSum at hP
  split at hP
  case h_2 => exact hP.elim
  obtain ⟨v, rfl, r⟩ := repvs1 p
  split at hP
  · rename_i xs q
    obtain ⟨a, vs, rfl, ha, ra⟩ := now_lst (dat_rep hs r q)
    cases q2 : sumI xs with
    | none => rw [q2] at hP; exact hP.elim
    | some n =>
      rw [q2] at hP
      obtain ⟨ns, rfl, e⟩ := sumI_ints q2 ra
      subst e
      exact ⟨a, ns, rfl, SqL.of ha, old_val hs rep_int hP⟩
  · exact hP.elim
omit [TabC] in
theorem reprOk_of {x : D} (h : reprOk x = true) : x.showable = true ∧ (x.hasDict = true → noL x = true) ∧ x.depth ≤ 60 ∧ x.shown.length ≤ sizeLine := by
  unfold reprOk at h
  simp only [Bool.and_eq_true, Bool.or_eq_true, Bool.not_eq_true', decide_eq_true_eq] at h
  obtain ⟨⟨⟨h1, h2⟩, h3⟩, h4⟩ := h
  exact ⟨h1, fun z => h2.elim (fun q => by rw [q] at z; cases z) id, h3, by rw [line_eq]; exact h4⟩
end
end Mk
/-! Mk8: repr, isinstance, calls of built-ins, of defs. -/
namespace Mk
open PySem PySem.Spec PyProof.Rows L2
section
variable [TabC] {T : Tx} {X : Cx} {W : WX} {c : Cl} {σ : L2.St} {ρ ρ' : List Addr} {H H' : Hp} {γ : Env} {S : Store} {pos : Pos}
theorem biv_repr (hg : X.A.guards = some []) (hu : X.A.units + 100 < cLine) : BiV T X W (.builtin "repr") bRepr := by
  intro pins s σ H ρ S xs vs us Q I r1 p hs hP
  unfold bRepr at hP
  split at hP
  case h_2 => exact hP.elim
  obtain ⟨v, rfl, r⟩ := repvs1 p
  obtain ⟨u, rfl, ru⟩ := vals1 r1
  split at hP
  case h_2 => exact hP.elim
  rename_i d q
  split at hP
  case isFalse => exact hP.elim
  rename_i ok
  obtain ⟨k1, k2, k3, k4⟩ := reprOk_of ok
  have rn := dat_rep hs r q
  have fin : ∀ (s' : Shared) (t : Tok), Inv X pins σ H s' → EP X pins σ Q (.str d.shown t) s' := fun s' t I' => ⟨.str d.shown, H, I', ⟨t, rfl⟩, old_val hs rep_str hP⟩
  have sq : ∀ (a : Addr) (as : List Addr), u = .ref a → Reads s.heap (.ref a) d as → (noL d = true → sysModules ∉ as) → wpAny (model X.prog X.w) X.A (call (.builtin "repr") [u]) (EP X pins σ Q) X.xe s := fun a as e rd nm => by
    subst e
    exact repr_of_reads' rd k1 (fun h => nm (k2 h)) hg (by omega) (fun _ _ e => e) (fun h' t tk k => fin _ _ (I.kept k)) k4
  obtain ⟨as, rd, nm⟩ := rn.reads2 I ru
  cases d with
  | none =>
    have := now_non rn; subst this; cases ru
    exact PySem.P.repr_of_none (fin _ _ (I.tok _))
  | bool b =>
    have := now_bl rn; subst this; cases ru
    exact PySem.P.repr_of_bool (fin _ _ (I.tok _))
  | int i =>
    have := now_int rn; subst this; obtain ⟨t, rfl⟩ := ru
    exact PySem.P.repr_of_int (by simpa [PyData.showable] using k1) (fin _ _ (I.tok _))
  | str z =>
    have := now_str rn; subst this; obtain ⟨t, rfl⟩ := ru
    exact PySem.P.repr_of_str (fin _ _ (I.tok _)) (by simpa [PyData.shown] using k4)
  | tuple ys =>
    obtain ⟨a, vs, rfl, _, _⟩ := now_tup rn
    cases ru
    exact sq a _ rfl rd nm
  | list ys =>
    obtain ⟨a, vs, rfl, _, _⟩ := now_lst rn
    cases ru
    exact sq a _ rfl rd nm
  | dict kvs =>
    have rn' : RepD X.K ρ H (.dict kvs) v := rn
    unfold RepD at rn'
    obtain ⟨a, vs, rfl, _, _⟩ := rn'
    cases ru
    exact sq a _ rfl rd nm

/-! ### isinstance -/
def tyN : Ty → String
  | .int => "int"
  | .bool => "bool"
  | .str => "str"
  | .tuple => "tuple"
  | .list => "list"
  | .dict => "dict"
  | .none => "NoneType"
def rIsD (K : PySem.W.Frag) (t : Ty) : List L2.V → Hp → VK → Prop := fun xs H Q => ∃ (x : L2.V) (d : D) (ρ : List Addr), xs = [x, .ty (tyN t)] ∧ NowD K ρ H d x ∧ Q (.bl (isA t d)) H
theorem vals2 {x y : L2.V} {us : List Value} (h : Vals [x, y] us) : ∃ u w, us = [u, w] ∧ RelV x u ∧ RelV y w := by
  cases h with
  | cons r h =>
    cases h with
    | cons r2 h =>
      cases h
      exact ⟨_, _, rfl, r, r2⟩
theorem call_isD {t : Ty} : CallR X (.builtin "isinstance") (rIsD X.K t) := by
  intro pins s σ H xs us Q I r1 ⟨x, d, ρ, e, rn, q⟩
  subst e
  obtain ⟨u, w, rfl, ru, rw'⟩ := vals2 r1
  cases rw'
  obtain ⟨as, rd⟩ := rn.reads I ru
  have fin : ∀ tk, EP X pins σ Q (.bool (isA t d)) { s with toks := tk } := fun tk => ⟨.bl (isA t d), H, I.tok _, rfl, q⟩
  cases t with
  | int => exact PySem.W.isinstance_int_data rd fun tk _ => fin tk
  | bool => exact PySem.W.isinstance_bool_data rd fun tk _ => fin tk
  | str => exact PySem.W.isinstance_str_data rd fun tk _ => fin tk
  | tuple => exact PySem.W.isinstance_tuple_data rd fun tk _ => fin tk
  | list => exact PySem.W.isinstance_list_data rd fun tk _ => fin tk
  | dict => exact PySem.W.isinstance_dict_data rd fun tk _ => fin tk
  | none => exact PySem.W.isinstance_NoneType_data rd fun tk _ => fin tk
/-! ### built-ins by name -/
theorem pa_ty {x : Str} {n : String} {a : Expr} {ta : TE} {p : Pos} (ha : PE X a ta) (hg : Gl X x) (hm : X.mg x = none) (hv : bootBuiltins x = some (.type n)) (hn : x ≠ "__name__") (hd : (x == ("__debug__" : Str)) = false)
    (hs : starEach [a, .Name x p] X.env = (false, eval a X.env) :: starEach [.Name x p] X.env) : PA X [a, .Name x p] (tCons ta (tCons (tC (.ty n)) tNil)) := pa_cons ha (pa_cons (pe_bltn hg hm hv rfl hn hd) pa_nil rfl) hs
theorem ok_is {t : Ty} {x : Str} {a : Expr} {xa : TEx} {p p2 : Pos} (ha : PE X a (rdE T X W c xa)) (hgi : Gl X "isinstance") (hmi : X.mg "isinstance" = none) (hg : Gl X x) (hm : X.mg x = none) (hv : bootBuiltins x = some (.type (tyN t))) (hn : x ≠ "__name__") (hd : (x == ("__debug__" : Str)) = false)
    (hs : starEach [a, .Name x p2] X.env = (false, eval a X.env) :: starEach [.Name x p2] X.env) : PE X (.Call (.Name "isinstance" p) [a, .Name x p2] [] pos) (rdE T X W c (xIs xa t)) := by
  refine (pe_callB (call_isD (t := t)) hgi hmi boot_isinstance (pa_ty ha hg hm hv hn hd hs) (by decide) (by decide) hs rfl).imp fun σ H Q ⟨γ, S, ρ, hE, hS, hP⟩ => rd_bind hE hS hP fun v H1 d S1 ρ1 e r hE1 hS1 hP1 => ?_
  cases q : dat S1 d with
  | none => rw [q] at hP1; exact hP1.elim
  | some y =>
    rw [q] at hP1
    exact ⟨v, y, ρ1, rfl, dat_rep hS1 r q, old_val hS1 rep_bl hP1⟩
/-- f(e, ..) of a built-in function -/
theorem ok_biB {f : String} {x : Str} {o : List Vl → Store → R Vl} {e : Expr} {es : List Expr} {xa : TAr} {p : Pos} (hb : BiV T X W (.builtin f) o) (ha : PA X (e :: es) (rdA T X W c xa)) (hg : Gl X x) (hm : X.mg x = none) (hv : bootBuiltins x = some (.builtin f)) (hn : x ≠ "__name__") (hd : (x == ("__debug__" : Str)) = false)
    (he : starEach (e :: es) X.env = (false, eval e X.env) :: starEach es X.env) (hpl : (backTo pos (starEach es X.env)).any (·.1) = false) : PE X (.Call (.Name x p) (e :: es) [] pos) (rdE T X W c (xB o xa)) := by
  refine ⟨fun pins s σ H Q I ⟨γ, S, ρ, hE, hS, hP⟩ => ?_⟩
  refine wpAny_Call_Name_kw (ld_blt I hg hm hv ?_ hn hd)
  refine PyProof.Rows.callWith_builtin1 (thn (ha.run pos pins s σ H _ I (rd_bind hE hS hP fun vs H1 ds S1 ρ1 e1 r hE1 hS1 hP1 => (⟨ds, S1, ρ1, r, hS1, hP1⟩ : ∃ (ds : List Vl) (S1 : Store) (ρ1 : List Addr), RepVs T.toTb X.K ρ1 H1 ds vs ∧ RepS X.K ρ1 H1 S1 ∧ Po T X W (rV T X) σ ρ1 H1 (o ds S1) Q))) fun us s1 ⟨vs, H1, I1, r1, ds, S1, ρ1, q1, q2, q3⟩ => ?_) he hpl
  exact hb pins s1 σ H1 ρ1 S1 ds vs us Q I1 r1 q1 q2 q3
/-- T(e, ..) of a built-in type -/
theorem ok_biT {f : String} {x : Str} {o : List Vl → Store → R Vl} {e : Expr} {es : List Expr} {xa : TAr} {p : Pos} (hb : BiV T X W (.type f) o) (ha : PA X (e :: es) (rdA T X W c xa)) (hg : Gl X x) (hm : X.mg x = none) (hv : bootBuiltins x = some (.type f)) (hn : x ≠ "__name__") (hd : (x == ("__debug__" : Str)) = false)
    (he : starEach (e :: es) X.env = (false, eval e X.env) :: starEach es X.env) (hpl : (backTo pos (starEach es X.env)).any (·.1) = false) : PE X (.Call (.Name x p) (e :: es) [] pos) (rdE T X W c (xB o xa)) := by
  refine ⟨fun pins s σ H Q I ⟨γ, S, ρ, hE, hS, hP⟩ => ?_⟩
  refine wpAny_Call_Name_kw (ld_blt I hg hm hv ?_ hn hd)
  refine PyProof.Rows.callWith_type1 (thn (ha.run pos pins s σ H _ I (rd_bind hE hS hP fun vs H1 ds S1 ρ1 e1 r hE1 hS1 hP1 => (⟨ds, S1, ρ1, r, hS1, hP1⟩ : ∃ (ds : List Vl) (S1 : Store) (ρ1 : List Addr), RepVs T.toTb X.K ρ1 H1 ds vs ∧ RepS X.K ρ1 H1 S1 ∧ Po T X W (rV T X) σ ρ1 H1 (o ds S1) Q))) fun us s1 ⟨vs, H1, I1, r1, ds, S1, ρ1, q1, q2, q3⟩ => ?_) he hpl
  exact hb pins s1 σ H1 ρ1 S1 ds vs us Q I1 r1 q1 q2 q3

/-! ### what lies around: from one table to another -/
/-- what cells of suspended frames hold, now -/
def AnOk (an : CA) (s : Shared) (H : Hp) : Prop := ∀ c u, an c u → s.heap.IsCell c (some u) ∧ H c = none
/-- the table in a def that is called -/
def Tx.inn (T : Tx) (an : CA) : Tx := { T with cells := [], mkd := fun _ => False, an := an, ex := none }
/-- a table over another -/
structure TLe (T T' : Tb) : Prop where
  fa : T'.fa = T.fa
  ca : T'.ca = T.ca
  cf : T'.cf = T.cf
  an : ∀ c u, T.an c u → T'.an c u
theorem TLe.refl (T : Tb) : TLe T T := ⟨rfl, rfl, rfl, fun _ _ h => h⟩
theorem RepX.tr {T T' : Tb} {K : PySem.W.Frag} {k : Nat} {x : D} {cls : Value} {dd : Option Addr} (h : TLe T T') (r : RepX T K ρ H k x cls dd) : RepX T' K ρ H k x cls dd := by
  unfold RepX at *
  rw [h.ca, h.cf]
  exact r
theorem CapR.tr {an an' : CA} {cl : List (Str × Addr)} {caps : List Str} {ws : List L2.V} (h : ∀ c u, an c u → an' c u) (r : CapR an cl caps ws) : CapR an' cl caps ws :=
  ⟨r.inj, r.mem, r.len, fun i y w e1 e2 => let ⟨c, u, h1, h2, h3⟩ := r.at_ i y w e1 e2; ⟨c, u, h1, h _ _ h2, h3⟩⟩
mutual
/-- what is flat stands under any greater table -/
theorem RepV.flat {T T' : Tb} {K : PySem.W.Frag} (h : TLe T T') : ∀ {x : Vl} {v : L2.V}, flat x = true → RepV T K ρ H x v → RepV T' K ρ H x v
  | .d x, v, _, r => by unfold RepV at *; exact r
  | .sc xs, v, _, r => by unfold RepV at *; exact r
  | .r i, v, _, r => by unfold RepV at *; exact r
  | .fn f, v, _, r => by unfold RepV at *; rw [h.fa]; exact r
  | .tv xs, v, f, r => by
    unfold RepV at *
    unfold Mk.flat at f
    obtain ⟨a, vs, h1, h2, h3⟩ := r
    exact ⟨a, vs, h1, h2, RepVs.flat h f h3⟩
  | .lv xs, v, f, r => by
    unfold RepV at *
    unfold Mk.flat at f
    obtain ⟨a, vs, h1, h2, h3, h4⟩ := r
    exact ⟨a, vs, h1, h2, h3, RepVs.flat h f h4⟩
  | .co l, v, f, r => by unfold Mk.flat at f; cases f
  | .ex k x, v, f, r => by unfold Mk.flat at f; cases f
  | .cv l xs, v, f, r => by
    unfold RepV at *
    unfold Mk.flat at f
    obtain ⟨g, cl, pm, c', ctv, ws, h1, h3, h4, h5, h6, h7⟩ := r
    exact ⟨g, cl, pm, c', ctv, ws, h1, h3, h4, h5, h6.tr h.an, RepVs.flat h f h7⟩
theorem RepVs.flat {T T' : Tb} {K : PySem.W.Frag} (h : TLe T T') : ∀ {xs : List Vl} {vs : List L2.V}, flats xs = true → RepVs T K ρ H xs vs → RepVs T' K ρ H xs vs
  | [], vs, _, r => by unfold RepVs at *; exact r
  | x :: xs, vs, f, r => by
    unfold RepVs at *
    unfold Mk.flats at f
    obtain ⟨f1, f2⟩ := Bool.and_eq_true_iff.mp f
    obtain ⟨v, w, h1, h2, h3⟩ := r
    exact ⟨v, w, h1, RepV.flat h f1 h2, RepVs.flat h f2 h3⟩
end
mutual
/-- the frame's own lambdas become closed ones -/
theorem RepV.cls {T T' : Tb} {K : PySem.W.Frag} {cp : LamT → Option (List Vl)} (h : TLe T T') (hc : ∀ l vs v, cp l = some vs → RepV T K ρ H (.co l) v → RepV T' K ρ H (.cv l vs) v) : ∀ {x y : Vl} {v : L2.V}, clsV cp x = some y → RepV T K ρ H x v → RepV T' K ρ H y v
  | .d x, y, v, e, r => by unfold clsV at e; cases e; unfold RepV at *; exact r
  | .sc xs, y, v, e, r => by unfold clsV at e; cases e; unfold RepV at *; exact r
  | .r i, y, v, e, r => by unfold clsV at e; cases e; unfold RepV at *; exact r
  | .fn f, y, v, e, r => by unfold clsV at e; cases e; unfold RepV at *; rw [h.fa]; exact r
  | .tv xs, y, v, e, r => by
    unfold clsV at e
    split at e
    · rename_i ys q
      cases e
      unfold RepV at *
      obtain ⟨a, vs, h1, h2, h3⟩ := r
      exact ⟨a, vs, h1, h2, RepVs.cls h hc q h3⟩
    · cases e
  | .lv xs, y, v, e, r => by
    unfold clsV at e
    split at e
    · rename_i ys q
      cases e
      unfold RepV at *
      obtain ⟨a, vs, h1, h2, h3, h4⟩ := r
      exact ⟨a, vs, h1, h2, h3, RepVs.cls h hc q h4⟩
    · cases e
  | .co l, y, v, e, r => by
    unfold clsV at e
    split at e
    · rename_i vs q
      cases e
      exact hc l vs v q r
    · cases e
  | .ex k x, y, v, e, r => by unfold clsV at e; cases e
  | .cv l xs, y, v, e, r => by
    unfold clsV at e
    split at e
    · rename_i f
      cases e
      exact RepV.flat h (x := .cv l xs) (by unfold Mk.flat; exact f) r
    · cases e
theorem RepVs.cls {T T' : Tb} {K : PySem.W.Frag} {cp : LamT → Option (List Vl)} (h : TLe T T') (hc : ∀ l vs v, cp l = some vs → RepV T K ρ H (.co l) v → RepV T' K ρ H (.cv l vs) v) : ∀ {xs ys : List Vl} {vs : List L2.V}, clsVs cp xs = some ys → RepVs T K ρ H xs vs → RepVs T' K ρ H ys vs
  | [], ys, vs, e, r => by unfold clsVs at e; cases e; unfold RepVs at *; exact r
  | x :: xs, ys, vs, e, r => by
    unfold clsVs at e
    split at e
    · rename_i y ys q1 q2
      cases e
      unfold RepVs at *
      obtain ⟨v, w, h1, h2, h3⟩ := r
      exact ⟨v, w, h1, RepV.cls h hc q1 h2, RepVs.cls h hc q2 h3⟩
    · cases e
end
mutual
/-- without lambdas of its own, without an error at hand: as it stands -/
theorem RepV.up {T T' : Tb} {K : PySem.W.Frag} (h : TLe T T') (hm : ∀ l, ¬ T.mkd l) (hx : T.ex = none) : ∀ {x : Vl} {v : L2.V}, RepV T K ρ H x v → RepV T' K ρ H x v
  | .d x, v, r => by unfold RepV at *; exact r
  | .sc xs, v, r => by unfold RepV at *; exact r
  | .r i, v, r => by unfold RepV at *; exact r
  | .fn f, v, r => by unfold RepV at *; rw [h.fa]; exact r
  | .tv xs, v, r => by
    unfold RepV at *
    obtain ⟨a, vs, h1, h2, h3⟩ := r
    exact ⟨a, vs, h1, h2, RepVs.up h hm hx h3⟩
  | .lv xs, v, r => by
    unfold RepV at *
    obtain ⟨a, vs, h1, h2, h3, h4⟩ := r
    exact ⟨a, vs, h1, h2, h3, RepVs.up h hm hx h4⟩
  | .co l, v, r => by
    unfold RepV at r
    obtain ⟨f, pm, c', ctv, h1, h2, _⟩ := r
    exact (hm l h2).elim
  | .ex k x, v, r => by
    unfold RepV at r
    obtain ⟨a, cls, dd, h1, _⟩ := r
    rw [hx] at h1; cases h1
  | .cv l xs, v, r => by
    unfold RepV at *
    obtain ⟨g, cl, pm, c', ctv, ws, h1, h3, h4, h5, h6, h7⟩ := r
    exact ⟨g, cl, pm, c', ctv, ws, h1, h3, h4, h5, h6.tr h.an, RepVs.up h hm hx h7⟩
theorem RepVs.up {T T' : Tb} {K : PySem.W.Frag} (h : TLe T T') (hm : ∀ l, ¬ T.mkd l) (hx : T.ex = none) : ∀ {xs : List Vl} {vs : List L2.V}, RepVs T K ρ H xs vs → RepVs T' K ρ H xs vs
  | [], vs, r => by unfold RepVs at *; exact r
  | x :: xs, vs, r => by
    unfold RepVs at *
    obtain ⟨v, w, h1, h2, h3⟩ := r
    exact ⟨v, w, h1, RepV.up h hm hx h2, RepVs.up h hm hx h3⟩
end
theorem RepE.up {T T' : Tb} {K : PySem.W.Frag} (h : TLe T T') (hm : ∀ l, ¬ T.mkd l) (hx : T.ex = none) (r : RepE T K ρ H γ σ) : RepE T' K ρ H γ σ :=
  ⟨r.len, fun i v q => let ⟨x, h1, h2⟩ := r.at_ i v q; ⟨x, h1, h2.up h hm hx⟩⟩
theorem RepE.cls {T T' : Tb} {K : PySem.W.Frag} {cp : LamT → Option (List Vl)} (h : TLe T T') (hc : ∀ l vs v, cp l = some vs → RepV T K ρ H (.co l) v → RepV T' K ρ H (.cv l vs) v) (r : RepE T K ρ H γ σ) : RepE T' K ρ H (clsE cp γ) σ := by
  refine ⟨by unfold clsE; rw [List.length_map]; exact r.len, fun i v q => ?_⟩
  unfold clsE at q
  rw [List.getElem?_map] at q
  cases q1 : γ[i]? with
  | none => rw [q1] at q; cases q
  | some o =>
    rw [q1] at q
    cases o with
    | none => cases q
    | some x =>
      have q' : clsV cp x = some v := Option.some.inj q
      obtain ⟨y, h1, h2⟩ := r.at_ i x q1
      exact ⟨y, h1, h2.cls h hc q'⟩
/-- what holds of a table in a context -/
structure Anc (T : Tx) (X : Cx) : Prop where
  an : ∀ c u, T.an c u → X.s_0.heap.IsCell c (some u) ∧ X.H_0 c = none ∧ c ∉ X.ex
  ex : T.ex = none
theorem Anc.now {T : Tx} {X : Cx} (A : Anc T X) {pins : List (Addr × Obj)} {s : Shared} (I : Inv X pins σ H s) : AnOk T.an s H := fun c u h => by
  obtain ⟨⟨o, ho, hd⟩, n, hx⟩ := A.an c u h
  obtain ⟨sl, e⟩ := I.base.any ho n hx
  exact ⟨⟨_, e, hd⟩, I.base.free c o ho n hx⟩
/-- a frame that makes lambdas: lm tells the slots that each captures -/
structure LmOk (T : Tx) (X : Cx) (N : List Str) : Prop where
  cells : T.cells = X.env.cells
  N : X.N = N
  at_ : ∀ L, T.mkd L → ∀ y ∈ L.caps, X.env.scope.names.lookup y = some .cell ∨ X.env.scope.names.lookup y = some .free
/-- cells of the frame, too -/
def anNow (T : Tx) (s : Shared) : CA := fun c u => T.an c u ∨ ((∃ y, T.cells.lookup y = some c) ∧ s.heap.IsCell c (some u))
theorem anNow_ok {T : Tx} {X : Cx} {N : List Str} (A : Anc T X) (L : LmOk T X N) {pins : List (Addr × Obj)} {s : Shared} (I : Inv X pins σ H s) : AnOk (anNow T s) s H := fun c u h => by
  rcases h with h | ⟨⟨y, hy⟩, h⟩
  · exact A.now I c u h
  · exact ⟨h, I.freeC y c (by rw [← L.cells]; exact hy)⟩
theorem clo_lookup {T : Tx} {X : Cx} {N : List Str} (L : LmOk T X N) (ok : X.Ok) {Lt : LamT} (hm : T.mkd Lt) (hk : LamK Lt) : (∀ {y c}, (cloFrom T.cells Lt.scope.names []).lookup y = some c → y ∈ Lt.caps ∧ T.cells.lookup y = some c) ∧ ∀ {y}, y ∈ Lt.caps → ∃ c, (cloFrom T.cells Lt.scope.names []).lookup y = some c ∧ T.cells.lookup y = some c := by
  have has : ∀ {y}, y ∈ Lt.caps → ∃ c, T.cells.lookup y = some c := fun {y} hy => by
    rw [L.cells]
    exact ok.has y (L.at_ Lt hm y hy)
  have one : ∀ {y c}, (cloFrom T.cells Lt.scope.names []).lookup y = some c → y ∈ Lt.caps ∧ T.cells.lookup y = some c := fun {y c} e => by
    rcases cloFrom_mem (PySem.mem_of_lookup e) with hm | ⟨h1, h2⟩
    · cases hm
    · have hy := (hk.free y).mp h1
      obtain ⟨c1, hc⟩ := has hy
      rw [hc] at h2
      cases h2
      exact ⟨hy, hc⟩
  refine ⟨one, fun {y} hy => ?_⟩
  obtain ⟨c, hc⟩ := mem_lookup (cloFrom_has (cells := T.cells) (acc := []) ((hk.free y).mpr hy))
  exact ⟨c, hc, (one hc).2⟩
theorem idx_get : ∀ {N : List Str} {x : Str} {i : Nat}, idx N x = some i → N[i]? = some x
  | [], _, _, h => by cases h
  | y :: r, x, i, h => by
    unfold idx at h
    split at h
    · rename_i e
      cases h
      subst e
      rfl
    · split at h
      · rename_i n e
        cases h
        rw [List.getElem?_cons_succ]
        exact idx_get e
      · cases h
theorem repE_vals {T T' : Tb} {K : PySem.W.Frag} {N : List Str} (ht : TLe T T') (hE : RepE T K ρ H γ σ) : ∀ {ys : List Str} {vs : List Vl}, capt N γ ys = some vs → ∃ ws, RepVs T' K ρ H vs ws ∧ ws.length = ys.length ∧ ∀ (i : Nat) (w : L2.V) (y : Str), ws[i]? = some w → ys[i]? = some y → ∃ j : Nat, N[j]? = some y ∧ σ[j]? = some (some w)
  | [], vs, e => by unfold capt at e; cases e; exact ⟨[], by unfold RepVs; rfl, rfl, fun i w y h => by simp at h⟩
  | y :: ys, vs, e => by
    unfold capt at e
    split at e
    case h_2 => cases e
    rename_i j q0
    split at e
    case h_2 => cases e
    rename_i v vs q1 q2
    split at e
    case isFalse => cases e
    rename_i f
    cases e
    obtain ⟨ws, h1, h0, h2⟩ := repE_vals ht hE q2
    obtain ⟨x, h3, h4⟩ := hE.at_ j v q1
    refine ⟨x :: ws, by unfold RepVs; exact ⟨x, ws, rfl, h4.flat ht f, h1⟩, by simp [h0], fun i w z h hz => ?_⟩
    cases i with
    | zero => simp at h hz; subst h hz; exact ⟨j, idx_get q0, h3⟩
    | succ i => exact h2 i w z (by simpa using h) (by simpa using hz)
/-- a lambda of the frame, closed now -/
theorem close_ok {T : Tx} {X : Cx} {N : List Str} (L : LmOk T X N) {pins : List (Addr × Obj)} {s : Shared} {H0 : Hp} (I : Inv X pins σ H0 s) {T' : Tb} (ht : TLe T.toTb T') (han : ∀ c u, anNow T s c u → T'.an c u) (hE : RepE T.toTb X.K ρ H γ σ) :
    ∀ l vs v, cpOf N γ l = some vs → RepV T.toTb X.K ρ H (.co l) v → RepV T' X.K ρ H (.cv l vs) v := fun l vs v e r => by
  unfold RepV at r
  obtain ⟨f, pm, c', ctv, h1, h2, h3, h4, h5⟩ := r
  obtain ⟨k1, k2⟩ := clo_lookup L I.ok h2 h1
  unfold cpOf at e
  obtain ⟨ws, q1, q0, q2⟩ := repE_vals (T' := T') ht hE e
  unfold RepV
  refine ⟨f, _, pm, c', ctv, ws, h1, h3, h4, h5, ⟨fun y z c a b => ?_, fun y c a => (k1 a).1, q0, fun i y w a b => ?_⟩, q1⟩
  · have a' := (k1 a).2
    have b' := (k1 b).2
    rw [L.cells] at a' b'
    exact I.ok.inj y z c a' b'
  · obtain ⟨j, hn, s2⟩ := q2 i w y b a
    rw [← L.N] at hn
    have hy : y ∈ l.caps := List.mem_of_getElem? a
    obtain ⟨c, c1, c2⟩ := k2 hy
    obtain ⟨m, _, hl⟩ := I.loc
    have hk := L.at_ l h2 y hy
    obtain ⟨u, ru, lk⟩ := hl j y w hn s2 (hk.elim (fun z => .inr (.inl z)) (fun z => .inr (.inr z)))
    refine ⟨c, u, c1, han c u (.inr ⟨⟨y, c2⟩, ?_⟩), ru⟩
    rcases lk with ⟨z, _⟩ | ⟨_, c3, z1, z2⟩
    · have z : X.env.scope.names.lookup y = some .local := z
      rcases hk with hk | hk <;> rw [hk] at z <;> cases z
    · rw [L.cells] at c2
      rw [c2] at z1
      cases z1
      exact z2
/-! ### defs -/
/-- what is handed back: data, or an object of the store -/
def RepF (K : PySem.W.Frag) (ρ : List Addr) (H : Hp) : Vl → L2.V → Prop
  | .d x, v => RepD K ρ H x v
  | .r i, v => ∃ a, ρ[i]? = some a ∧ v = .ref a
  | _, _ => False
theorem RepF.v {T : Tb} {K : PySem.W.Frag} {x : Vl} {v : L2.V} (h : RepF K ρ H x v) : RepV T K ρ H x v := by
  cases x <;> first | (unfold RepF at h; unfold RepV; exact h) | exact h.elim
/-- what a call promises -/
def PoF (T : Tx) (K : PySem.W.Frag) (ρ : List Addr) (H : Hp) (m : R Vl) (Q : VK) (E : XK) : Prop := match m with
  | .ok d S' => ∀ v H' ρ', Ext ρ ρ' H H' → RepF K ρ' H' d v → RepS K ρ' H' S' → Q v H'
  | .er k x S' => ∀ cls dd H' ρ', Ext ρ ρ' H H' → RepS K ρ' H' S' → RepX T.toTb K ρ' H' k x cls dd → E cls dd H'
  | .stuck => False
theorem Po.toF {m : R Vl} {Q : VK} (h : Po T X W (rV T X) σ ρ H m Q) : PoF T X.K ρ H m Q fun cls dd H' => W cls dd σ H' := by
  cases m with
  | ok d S' => exact fun v H' ρ' e r s => h v H' ρ' e r.v s
  | er k x S' => exact h
  | stuck => exact h
theorem PoF.tr {T T' : Tx} {K : PySem.W.Frag} {m : R Vl} {Q : VK} {E : XK} (hc : T'.ca = T.ca) (hf : T'.cf = T.cf) (h : PoF T K ρ H m Q E) : PoF T' K ρ H m Q E := by
  cases m with
  | ok d S' => exact h
  | er k x S' =>
    refine fun cls dd H' ρ' e s r => h cls dd H' ρ' e s ?_
    unfold RepX at *
    rw [hc, hf] at r
    exact r
  | stuck => exact h
abbrev SpA := CA → Sp
def spF (T : Tx) (K : PySem.W.Frag) (np : Nat) (f : List Vl → Store → R Vl) : SpA := fun an vs H Q E => ∃ (args : List Vl) (S : Store) (ρ : List Addr), args.length = np ∧ RepVs (T.inn an).toTb K ρ H args vs ∧ RepS K ρ H S ∧ PoF (T.inn an) K ρ H (f args S) Q E
theorem inn_eq {T T' : Tx} (h : TLe T.toTb T'.toTb) (an : CA) : T'.inn an = T.inn an := by
  unfold Tx.inn
  rw [h.fa, h.ca, h.cf]
theorem spF_eq {T T' : Tx} (h : TLe T.toTb T'.toTb) (K : PySem.W.Frag) (np : Nat) (f : List Vl → Store → R Vl) : spF T' K np f = spF T K np f := by
  unfold spF
  funext an
  rw [inn_eq h]
structure FnM (P : Program) (w : World) (K : PySem.W.Frag) (mg : Str → Option Value) (base : Heap) (k : Nat) (f : Addr) (fd : FuncData) (ps : List Str) (sp : SpA) : Prop where
  len : ∀ an vs H Q E, sp an vs H Q E → vs.length = ps.length
  run : ∀ (A : Around) (outer : List PySem.Env) (s : Shared) (H : Hp) (args : Args) (us : List Value) (vs : List L2.V) (Q : VK) (E : XK) (an : CA), AnOk an s H → Room k A → A.guards = some [] → Env0 P w K mg base A outer s H → BindsTo s fd args (ps.zip us) → Vals vs us → sp an vs H Q E →
    codeAny (model P w) A (.call (.ref f) args) (CR (L2.CX P w) outer P w H s Q E) s
theorem run_fnM {k : Nat} {f : Addr} {fd : FuncData} {ps : List Str} {sp : SpA} {an : CA} {dvs : List L2.V} {ds : List Value} {pins : List (Addr × Obj)} {s : Shared} {Q : VK} {us : List Value} {vs : List L2.V} (F : FnM X.prog X.w X.K X.mg X.base k f fd ps sp) (hr : Room k X.A) (hgd : X.A.guards = some []) (hb : Binds X.K fd ps ds) (hd : Vals dvs ds) (tk : Takes X W)
    (I : Inv X pins σ H s) (ha : AnOk an s H) (r : Vals vs us) (h : sp an (vs ++ dvs) H Q fun cls dd H' => W cls dd σ H') : wpAny (model X.prog X.w) X.A (call (.ref f) us) (EP X pins σ Q) X.xe s := by
  have r2 : Vals (vs ++ dvs) (us ++ ds) := r.append hd
  refine wpAny_call (codeAny_mono (F.run X.A X.stack s H ⟨us, []⟩ (us ++ ds) (vs ++ dvs) Q _ an ha hr hgd I.env0 (hb s us I.kIn (by rw [← r2.length]; exact F.len _ _ _ _ _ h)) r2 h) fun o s' hq => ?_)
  cases o with
  | error e => exact tk e s' (XE.of_call I (fun _ _ _ z => z) hq)
  | ok fl => cases fl <;> first | exact I.after hq | exact False.elim hq
/-- the arguments of a call, by the frame's sort -/
structure CallA (T : Tx) (X : Cx) (cnv : Env → List Vl → Option (List Vl)) : Prop where
  go : ∀ {pins : List (Addr × Obj)} {σ : L2.St} {H : Hp} {s : Shared} {ρ : List Addr} {γ : Env} {xs ys : List Vl} {vs : List L2.V}, Inv X pins σ H s → RepE T.toTb X.K ρ H γ σ → RepVs T.toTb X.K ρ H xs vs → cnv γ xs = some ys → ∃ an, AnOk an s H ∧ RepVs (T.inn an).toTb X.K ρ H ys vs
theorem callA_plain {T : Tx} {X : Cx} (A : Anc T X) (hm : ∀ l, ¬ T.mkd l) : CallA T X fun _ xs => some xs := ⟨fun {pins σ H s ρ γ xs ys vs} I hE r e => by
  cases e
  exact ⟨T.an, A.now I, RepVs.up (T := T.toTb) (T' := (T.inn T.an).toTb) ⟨rfl, rfl, rfl, fun _ _ h => h⟩ hm A.ex r⟩⟩
theorem callA_lam {T : Tx} {X : Cx} {N : List Str} (A : Anc T X) (L : LmOk T X N) : CallA T X fun γ xs => clsVs (cpOf N γ) xs := ⟨fun {pins σ H s ρ γ xs ys vs} I hE r e => by
  have le : TLe T.toTb (T.inn (anNow T s)).toTb := ⟨rfl, rfl, rfl, fun _ _ h => .inl h⟩
  exact ⟨anNow T s, anNow_ok A L I, RepVs.cls le (close_ok L I le (fun _ _ h => h) hE) e r⟩⟩
/-- a block, by the frame's sort: its slots, its values -/
structure BlkA (T : Tx) (X : Cx) (cE : Env → Env) (cV : Env → List Vl → Option (List Vl)) : Prop where
  go : ∀ {pins : List (Addr × Obj)} {σ : L2.St} {H : Hp} {s : Shared} {ρ : List Addr} {γ : Env}, Inv X pins σ H s → TupOut ρ H → RepE T.toTb X.K ρ H γ σ → ∃ T' : Tx, TLe T.toTb T'.toTb ∧ (∀ l, ¬ T'.mkd l) ∧ T'.ex = none ∧ AnOk T'.an s H ∧
    RepE T'.toTb X.K ρ H (cE γ) σ ∧ ∀ xs ys, cV γ xs = some ys → ys.length = xs.length ∧ ∀ (ρ' : List Addr) (H' : Hp) (i : Nat) (x y : Vl) (v : L2.V), Ext ρ ρ' H H' → xs[i]? = some x → ys[i]? = some y → RepV T.toTb X.K ρ' H' x v → RepV T'.toTb X.K ρ' H' y v
theorem blkA_plain {T : Tx} {X : Cx} (A : Anc T X) (hm : ∀ l, ¬ T.mkd l) : BlkA T X (fun γ => γ) fun _ xs => some xs := ⟨fun {pins σ H s ρ γ} I o hE => by
  refine ⟨T, TLe.refl _, hm, A.ex, A.now I, hE, fun xs ys e => ?_⟩
  cases e
  refine ⟨rfl, fun ρ' H' i x y v _ e1 e2 r => ?_⟩
  rw [e1] at e2; cases e2
  exact r⟩
theorem clsVs_get {cp : LamT → Option (List Vl)} : ∀ {xs ys : List Vl}, clsVs cp xs = some ys → ys.length = xs.length ∧ ∀ (i : Nat) (x y : Vl), xs[i]? = some x → ys[i]? = some y → clsV cp x = some y
  | [], ys, e => by unfold clsVs at e; cases e; exact ⟨rfl, fun i x y h => by simp at h⟩
  | x :: xs, ys, e => by
    unfold clsVs at e
    split at e
    · rename_i y ys q1 q2
      cases e
      obtain ⟨h1, h2⟩ := clsVs_get q2
      refine ⟨by simp [h1], fun i a b e1 e2 => ?_⟩
      cases i with
      | zero => simp at e1 e2; subst e1 e2; exact q1
      | succ i => exact h2 i a b (by simpa using e1) (by simpa using e2)
    · cases e
theorem blkA_lam {T : Tx} {X : Cx} {N : List Str} (A : Anc T X) (L : LmOk T X N) : BlkA T X (fun γ => clsE (cpOf N γ) γ) fun γ xs => clsVs (cpOf N γ) xs := ⟨fun {pins σ H s ρ γ} I o hE => by
  have le : TLe T.toTb (T.inn (anNow T s)).toTb := ⟨rfl, rfl, rfl, fun _ _ h => .inl h⟩
  refine ⟨T.inn (anNow T s), le, fun _ z => z, rfl, anNow_ok A L I, RepE.cls le (close_ok L I le (fun _ _ h => h) hE) hE, fun xs ys e => ?_⟩
  obtain ⟨h1, h2⟩ := clsVs_get e
  exact ⟨h1, fun ρ' H' i x y v ex e1 e2 r => RepV.cls le (close_ok L I le (fun _ _ h => h) (hE.mono o ex)) (h2 i x y e1 e2) r⟩⟩
/-- a call's evaluator, by the frame's sort -/
def xCallG (cnv : Env → List Vl → Option (List Vl)) (f : Nat) (a : TAr) (dflt : List Vl) : TEx := fun c γ S => (a c γ S).bind fun xs S1 => match cnv γ xs with
  | some ys => c.call f (ys ++ dflt) S1
  | none => .stuck
theorem ok_call {cnv : Env → List Vl → Option (List Vl)} {f k : Nat} {fa : Addr} {fd : FuncData} {ps : List Str} {x : Str} {p : Pos} {np : Nat} {e : Expr} {es : List Expr} {xa : TAr} {dflt : List Vl} {dvs : List L2.V} {ds : List Value} (C : CallA T X cnv) (F : FnM X.prog X.w X.K X.mg X.base k fa fd ps (spF T X.K np (c.call f))) (hr : Room k X.A) (hgd : X.A.guards = some []) (hg : Gl X x) (hm : X.mg x = some (.ref fa)) (hk : PySem.W.keepIn X.K (.ref fa) = true)
    (hb : Binds X.K fd ps ds) (hd : Vals dvs ds) (hdr : ∀ T ρ H, RepVs T X.K ρ H dflt dvs) (tk : Takes X W) (ha : PA X (e :: es) (rdA T X W c xa)) (hn : ∀ γ S vs S' ys, xa c γ S = .ok vs S' → cnv γ vs = some ys → (ys ++ dflt).length = np) (hdb : (x == ("__debug__" : Str)) = false) (he : starEach (e :: es) X.env = (false, eval e X.env) :: starEach es X.env) (hpl : (backTo pos (starEach es X.env)).any (·.1) = false) :
    PE X (.Call (.Name x p) (e :: es) [] pos) (rdE T X W c (xCallG cnv f xa dflt)) := by
  refine ⟨fun pins s σ H Q I ⟨γ, S, ρ, hE, hS, hP⟩ => ?_⟩
  refine wpAny_Call_Name_kw (ld_glob I hg hm ?_ hdb)
  refine PySem.W.callWith_K (h₀ := X.base) I.ok.mod.kin hk (thn (ha.run pos pins s σ H (fun vs H1 => ∃ (xs : List Vl) (S1 : Store) (ρ1 : List Addr), RepE T.toTb X.K ρ1 H1 γ σ ∧ RepVs T.toTb X.K ρ1 H1 xs vs ∧ RepS X.K ρ1 H1 S1 ∧ xa c γ S = R.ok xs S1 ∧ Po T X W (rV T X) σ ρ1 H1 (match cnv γ xs with
      | some ys => c.call f (ys ++ dflt) S1
      | none => .stuck) Q) I ⟨γ, S, ρ, hE, hS, (Po.bind hP).imp fun vs H1 ⟨xs, S1, ρ1, e1, r, hS1, em, hP1⟩ => ⟨xs, S1, ρ1, hE.mono hS.out e1, r, hS1, em, hP1⟩⟩) fun us s1 ⟨vs, H1, I1, r, xs, S1, ρ1, hE1, rx, hS1, em, hP1⟩ => ⟨I1.kIn, ?_⟩) he hpl
  cases q : cnv γ xs with
  | none => rw [q] at hP1; exact hP1.elim
  | some ys =>
    rw [q] at hP1
    obtain ⟨an, a1, a2⟩ := C.go I1 hE1 rx q
    exact run_fnM F hr hgd hb hd tk I1 a1 r ⟨ys ++ dflt, S1, ρ1, hn _ _ _ _ _ em q, RepVs.append (T := T.inn an) a2 (hdr _ _ _), hS1, hP1.toF.tr rfl rfl⟩
theorem ok_call0 {f k : Nat} {fa : Addr} {fd : FuncData} {ps : List Str} {x : Str} {p : Pos} {np : Nat} {dflt : List Vl} {dvs : List L2.V} {ds : List Value} (A : Anc T X) (F : FnM X.prog X.w X.K X.mg X.base k fa fd ps (spF T X.K np (c.call f))) (hr : Room k X.A) (hgd : X.A.guards = some []) (hg : Gl X x) (hm : X.mg x = some (.ref fa)) (hk : PySem.W.keepIn X.K (.ref fa) = true)
    (hb : Binds X.K fd ps ds) (hd : Vals dvs ds) (hdr : ∀ T ρ H, RepVs T X.K ρ H dflt dvs) (tk : Takes X W) (hn : dflt.length = np) (hdb : (x == ("__debug__" : Str)) = false) :
    PE X (.Call (.Name x p) [] [] pos) (rdE T X W c (xCall f aNil dflt)) := by
  refine ⟨fun pins s σ H Q I ⟨γ, S, ρ, hE, hS, hP⟩ => ?_⟩
  refine wpAny_Call_Name_kw (ld_glob I hg hm ?_ hdb)
  exact PySem.W.callWith_K0 I.kIn hk (run_fnM (us := []) (vs := []) F hr hgd hb hd tk I (A.now I) .nil ⟨dflt, S, ρ, hn, hdr _ _ _, hS, (Po.toF hP).tr rfl rfl⟩)
/-- a def that keeps its promise, by its body -/
theorem fnM_of {P : Program} {w : World} {K : PySem.W.Frag} {mg : Str → Option Value} {base : Heap} {x qual : Str} {params : Arguments} {body : List Stmt} {scope : Scope} {dvs : List L2.V} {kws : List (Str × L2.V)} {f : Addr} {fd : FuncData} {N ps : List Str} {k : Nat} {sp : SpA} (F : FunD K x qual params body scope dvs kws f fd) (Sc : FnScope N ps scope) (len : ∀ an vs H Q E, sp an vs H Q E → vs.length = ps.length)
    (hbody : ∀ (cdv : Value) (A : Around) (outer : List PySem.Env) (s : Shared) (H : Hp) (vs : List L2.V) (Q : VK) (E : XK) (an : CA), fd.code = cdv → AnOk an s H → Room k (A.deeper (envOfC qual scope s.heap.objs.size f cdv)) → A.guards = some [] → sp an vs H Q E →
      ∃ t, PSs (cxOf (L2.CX P w) P w K mg base N qual scope f cdv A outer s H E) body t ∧ t { nx := fun _ H' => Q .non H', rt := Q } (start N vs) H) : FnM P w K mg base (k + 1) f fd ps sp := by
  obtain ⟨oc, od, dV, kV, doc, pm, an, cdv, ct, osl, rfl, lk, hcd, _, _⟩ := F.ex
  refine ⟨len, fun A outer s H args us vs Q E an hA hr hgd e0 hb r hsp => ?_⟩
  have KX : K.In s.heap := e0.mod.kin.keeps fun b o e => (e0.bs b o e).1
  have lim : s.heap.NoLimit := e0.mod.nolimit.keeps fun b o e => (e0.bs b o e).1
  refine codeAny_call_function hr.depth (KX _ _ lk) rfl Sc.co Sc.gen rfl (PySem.W.codeRec_of KX hcd) (hb _ _ _ _ ?_)
  refine wpAny_newFunctionEnv_cells Sc.kind (fun y hy => ?_) fun env he s1 x => ?_
  · rcases Sc.par y.1 (List.of_mem_zip (a := y.1) (b := y.2) hy).1 with q | q
    · exact .inl q
    · exact .inr ⟨q, PySem.W.cellsFrom_some _ _ _ (.inl q)⟩
  subst he
  refine ⟨lim.keeps x.toInCall.keep, codeAny_func ?_⟩
  obtain ⟨t, ht, hq⟩ := hbody cdv A outer s H vs Q E an rfl hA (hr.deeper _) hgd hsp
  have I : Inv (cxOf (L2.CX P w) P w K mg base N qual scope f cdv A outer s H E) [] (start N vs) H s1 := inv_start Sc hr.hd e0 (len _ _ _ _ _ hsp) r x
  refine wpAny_mono (ht.run [] s1 (start N vs) H _ I hq) (fun fl s' hs => ?_) fun e s' hs => hs
  cases fl with
  | ret u =>
    obtain ⟨v, σ', H', J, rv, q⟩ := hs
    exact ⟨v, H', J.os, J.bare, J.base, J.hok, rv, q⟩
  | next =>
    obtain ⟨σ', H', J, q⟩ := hs
    exact ⟨.non, H', J.os, J.bare, J.base, J.hok, rfl, q⟩
  | brk => obtain ⟨_, _, _, q⟩ := hs; exact False.elim q
  | cont => obtain ⟨_, _, _, q⟩ := hs; exact False.elim q
end
end Mk
/-! Mk9: statements, targets, loops. -/
namespace Mk
open PySem PySem.Spec PyProof.Rows L2
section
variable [TabC] (T : Tx) (X : Cx) (W : WX)
def PoS (ρ : List Addr) (H : Hp) (m : RS) (D : Ends) : Prop := match m with
  | .nx γ' S' => ∀ σ' H' ρ', Ext ρ ρ' H H' → RepE T.toTb X.K ρ' H' γ' σ' → RepS X.K ρ' H' S' → D.nx σ' H'
  | .ct γ' S' => ∀ σ' H' ρ', Ext ρ ρ' H H' → RepE T.toTb X.K ρ' H' γ' σ' → RepS X.K ρ' H' S' → D.ct σ' H'
  | .bk γ' S' => ∀ σ' H' ρ', Ext ρ ρ' H H' → RepE T.toTb X.K ρ' H' γ' σ' → RepS X.K ρ' H' S' → D.bk σ' H'
  | .rt v S' => ∀ x H' ρ', Ext ρ ρ' H H' → RepV T.toTb X.K ρ' H' v x → RepS X.K ρ' H' S' → D.rt x H'
  | .er k x γ' S' => ∀ cls dd σ' H' ρ', Ext ρ ρ' H H' → RepE T.toTb X.K ρ' H' γ' σ' → RepS X.K ρ' H' S' → RepX T.toTb X.K ρ' H' k x cls dd → W cls dd σ' H'
  | .stuck => False
def rdS (c : Cl) (s : TSt) : TS := fun D σ H => ∃ (γ : Env) (S : Store) (ρ : List Addr), RepE T.toTb X.K ρ H γ σ ∧ RepS X.K ρ H S ∧ PoS T X W ρ H (s c γ S) D
/-- a target: ws are the slots that it may set -/
def rdTg (g : TTg) (ws : List Nat) : TG := fun v σ H Q => ∃ (x : Vl) (γ γ' : Env) (ρ : List Addr), RepV T.toTb X.K ρ H x v ∧ RepE T.toTb X.K ρ H γ σ ∧ g x γ = some γ' ∧
  ∀ σ', RepE T.toTb X.K ρ H γ' σ' → σ'.length = σ.length → (∀ j, j ∉ ws → σ'[j]? = σ[j]?) → Q σ' H
def rdTgs (g : List Vl → Env → Option Env) (ws : List Nat) : TGs := fun vs σ H Q => ∃ (xs : List Vl) (γ γ' : Env) (ρ : List Addr), RepVs T.toTb X.K ρ H xs vs ∧ RepE T.toTb X.K ρ H γ σ ∧ g xs γ = some γ' ∧
  ∀ σ', RepE T.toTb X.K ρ H γ' σ' → σ'.length = σ.length → (∀ j, j ∉ ws → σ'[j]? = σ[j]?) → Q σ' H
/-- an iterator's items -/
structure Walks (ρ : List Addr) (H : Hp) (J : It) (xs : List Vl) : Prop where
  go : ∀ i ρ' H' x, Ext ρ ρ' H H' → xs[i]? = some x → J.go i H' ∧ ∀ v H2, J.yld i H' v H2 → (H2 = H' ∨ ∃ p o, H' p = none ∧ H2 = upd H' p o) ∧ RepV T.toTb X.K ρ' H2 x v
  stop : ∀ i ρ' H', Ext ρ ρ' H H' → xs.length ≤ i → J.stop i H'
abbrev rI : Rl Itr It := fun ρ H J it => match J with
  | .its xs => TupOut ρ H → Walks T X ρ H it xs
  | .ref i => ∃ a, ρ[i]? = some a ∧ it = Itl X.K a
abbrev rdI (c : Cl) (x : TIt) : TI := rdG T X W (rI T X) c x
end

section
variable [TabC] {T : Tx} {X : Cx} {W : WX} {c : Cl} {σ : L2.St} {ρ ρ' : List Addr} {H H' : Hp} {γ : Env} {S : Store} {pos : Pos}
theorem _root_.L2.PS.imp {X : Cx} {st : Stmt} {t t' : TS} (h : PS X st t) (k : ∀ D σ H, t' D σ H → t D σ H) : PS X st t' := ⟨fun pins s σ H D I q => h.run pins s σ H D I (k D σ H q)⟩
theorem _root_.L2.PSs.imp {X : Cx} {st : List Stmt} {t t' : TS} (h : PSs X st t) (k : ∀ D σ H, t' D σ H → t D σ H) : PSs X st t' := ⟨fun pins s σ H D I q => h.run pins s σ H D I (k D σ H q)⟩
theorem _root_.L2.PG.imp {X : Cx} {e : Expr} {t t' : TG} (h : PG X e t) (k : ∀ v σ H Q, t' v σ H Q → t v σ H Q) : PG X e t' := ⟨fun pins s σ H v u Q I r q => h.run pins s σ H v u Q I r (k v σ H Q q)⟩
theorem _root_.L2.PGs.imp {X : Cx} {e : List Expr} {t t' : TGs} (h : PGs X e t) (k : ∀ v σ H Q, t' v σ H Q → t v σ H Q) : PGs X e t' := ⟨fun pins s σ H v u Q I r q => h.run pins s σ H v u Q I r (k v σ H Q q)⟩
theorem _root_.L2.PI.imp {X : Cx} {tg e : Expr} {t t' : TI} (h : PI X tg e t) (k : ∀ σ H R, t' σ H R → t σ H R) : PI X tg e t' := ⟨fun pins s σ H R I q => h.run pins s σ H R I (k σ H R q)⟩
theorem PoS.later {m : RS} {D : Ends} (e : Ext ρ ρ' H H') (h : PoS T X W ρ H m D) : PoS T X W ρ' H' m D := by
  cases m with
  | nx γ' S' => exact fun σ' H2 ρ2 e2 => h σ' H2 ρ2 (e.trans e2)
  | ct γ' S' => exact fun σ' H2 ρ2 e2 => h σ' H2 ρ2 (e.trans e2)
  | bk γ' S' => exact fun σ' H2 ρ2 e2 => h σ' H2 ρ2 (e.trans e2)
  | rt v S' => exact fun x H2 ρ2 e2 => h x H2 ρ2 (e.trans e2)
  | er k x γ' S' => exact fun cls dd σ' H2 ρ2 e2 => h cls dd σ' H2 ρ2 (e.trans e2)
  | stuck => exact h
/-- an expression ahead of the rest of a statement -/
theorem rs_bind {α β : Type} {rel : Rl α β} {x : Cl → Env → Store → R α} {f : α → Store → RS} {D : Ends} (hE : RepE T.toTb X.K ρ H γ σ) (hS : RepS X.K ρ H S) (h : PoS T X W ρ H ((x c γ S).next γ f) D)
    {Q1 : β → Hp → Prop} (k : ∀ v H1 d S1 ρ1, Ext ρ ρ1 H H1 → rel ρ1 H1 d v → RepE T.toTb X.K ρ1 H1 γ σ → RepS X.K ρ1 H1 S1 → PoS T X W ρ1 H1 (f d S1) D → Q1 v H1) : rdG T X W rel c x σ H Q1 := by
  refine ⟨γ, S, ρ, hE, hS, ?_⟩
  cases q : x c γ S with
  | ok d S1 =>
    rw [q] at h
    exact fun v H1 ρ1 e r s => k v H1 d S1 ρ1 e r (hE.mono hS.out e) s (PoS.later e h)
  | er kk xx S1 =>
    rw [q] at h
    exact fun cls dd H1 ρ1 e s r => h cls dd σ H1 ρ1 e (hE.mono hS.out e) s r
  | stuck => rw [q] at h; exact h

/-! ### plain statements -/
theorem oks_pass : PS X (.Pass pos) (rdS T X W c sPass) := ps_pass.imp fun D σ H ⟨γ, S, ρ, hE, hS, hP⟩ => hP σ H ρ (Ext.refl _ _) hE hS
theorem oks_break : PS X (.Break pos) (rdS T X W c sBrk) := ps_break.imp fun D σ H ⟨γ, S, ρ, hE, hS, hP⟩ => hP σ H ρ (Ext.refl _ _) hE hS
theorem oks_cont : PS X (.Continue pos) (rdS T X W c sCnt) := ps_continue.imp fun D σ H ⟨γ, S, ρ, hE, hS, hP⟩ => hP σ H ρ (Ext.refl _ _) hE hS
theorem oks_doc {x : Str} {j : Nat} {p : Pos} : PS X (.Expr (.Constant (.str x) j p) pos) (rdS T X W c sPass) := ps_doc.imp fun D σ H ⟨γ, S, ρ, hE, hS, hP⟩ => hP σ H ρ (Ext.refl _ _) hE hS
theorem oks_no {st : Stmt} : PS X st (rdS T X W c sNo) := ⟨fun _ _ _ _ _ _ ⟨_, _, _, _, _, hP⟩ => hP.elim⟩
theorem okss_no {st : List Stmt} : PSs X st (rdS T X W c sNo) := ⟨fun _ _ _ _ _ _ ⟨_, _, _, _, _, hP⟩ => hP.elim⟩
theorem okss_nil : PSs X [] (rdS T X W c sPass) := pss_nil.imp fun D σ H ⟨γ, S, ρ, hE, hS, hP⟩ => hP σ H ρ (Ext.refl _ _) hE hS
theorem okss_one {st : Stmt} {t : TSt} (h : PS X st (rdS T X W c t)) : PSs X [st] (rdS T X W c t) := pss_one h
theorem okss_cons {st : Stmt} {rest : List Stmt} {t u : TSt} (h : PS X st (rdS T X W c t)) (k : PSs X rest (rdS T X W c u)) : PSs X (st :: rest) (rdS T X W c (sSeq t u)) := by
  refine (pss_cons h k).imp fun D σ H ⟨γ, S, ρ, hE, hS, hP⟩ => ⟨γ, S, ρ, hE, hS, ?_⟩
  unfold sSeq at hP
  cases q : t c γ S with
  | nx γ' S' =>
    rw [q] at hP
    exact fun σ' H' ρ' e hE' hS' => ⟨γ', S', ρ', hE', hS', PoS.later e hP⟩
  | ct γ' S' => rw [q] at hP; exact hP
  | bk γ' S' => rw [q] at hP; exact hP
  | rt v S' => rw [q] at hP; exact hP
  | er kk x γ' S' => rw [q] at hP; exact hP
  | stuck => rw [q] at hP; exact hP
theorem oks_ret {e : Expr} {xe : TEx} (h : PE X e (rdE T X W c xe)) : PS X (.Return (some e) pos) (rdS T X W c (sRet xe)) :=
  (ps_ret h).imp fun D σ H ⟨γ, S, ρ, hE, hS, hP⟩ => rs_bind hE hS hP fun v H1 d S1 ρ1 e r hE1 hS1 hP1 => hP1 v H1 ρ1 (Ext.refl _ _) r hS1
theorem oks_retN : PS X (.Return none pos) (rdS T X W c (sRet (xC (.d .none)))) :=
  ps_retN.imp fun D σ H ⟨γ, S, ρ, hE, hS, hP⟩ => hP .non H ρ (Ext.refl _ _) (by unfold RepV RepD; rfl) hS
theorem oks_expr {e : Expr} {xe : TEx} (h : PE X e (rdE T X W c xe)) (hs : swapsWith e none pos.line X.env = pure false) : PS X (.Expr e pos) (rdS T X W c (sExpr xe)) :=
  (ps_expr h hs).imp fun D σ H ⟨γ, S, ρ, hE, hS, hP⟩ => rs_bind hE hS hP fun v H1 d S1 ρ1 e r hE1 hS1 hP1 => hP1 σ H1 ρ1 (Ext.refl _ _) hE1 hS1
theorem oks_if {t : Expr} {a b : List Stmt} {tt : TTs} {ta tb : TSt} (h : PT X t (rdT T X W c tt)) (ha : PSs X a (rdS T X W c ta)) (hb : PSs X b (rdS T X W c tb)) : PS X (.If t a b pos) (rdS T X W c (sIf tt ta tb)) :=
  (ps_if h ha hb).imp fun D σ H ⟨γ, S, ρ, hE, hS, hP⟩ => rs_bind hE hS hP fun v H1 d S1 ρ1 e r hE1 hS1 hP1 => by
    have r' : v = d := r
    subst r'
    cases v with
    | true => rw [if_pos rfl]; exact ⟨γ, S1, ρ1, hE1, hS1, hP1⟩
    | false => rw [if_neg Bool.false_ne_true]; exact ⟨γ, S1, ρ1, hE1, hS1, hP1⟩
/-! ### targets -/
theorem okg_name {i : Nat} {x : Str} (hN : X.N.Nodup) (hi : X.N[i]? = some x) (hx : Loc X.env.scope x) (hf : X.fn x = true ∨ X.env.scope.names.lookup x = some .local) : PG X (.Name x pos) (rdTg T X (gV i) [i]) := by
  refine (pg_name hN hi hx hf).imp fun v σ H Q ⟨x, γ, γ', ρ, r, hE, e, k⟩ => ?_
  unfold gV at e
  · cases e
    exact k _ (hE.set r) (by simp) fun j hj => by rw [List.getElem?_set_ne (fun z => hj (by simp [z]))]
theorem okgs_nil : PGs X [] (rdTgs T X gNil []) := by
  refine pgs_nil.imp fun vs σ H Q ⟨xs, γ, γ', ρ, r, hE, e, k⟩ => ?_
  unfold gNil at e
  split at e
  · cases e
    unfold RepVs at r
    exact ⟨r, k _ hE rfl fun j _ => rfl⟩
  · cases e
theorem okgs_cons {e : Expr} {es : List Expr} {g : TTg} {gs : List Vl → Env → Option Env} {ws ws' : List Nat} (h1 : PG X e (rdTg T X g ws)) (h2 : PGs X es (rdTgs T X gs ws')) (hs : (assignEach (e :: es) X.env).map (·.2) = assign e X.env :: (assignEach es X.env).map (·.2)) : PGs X (e :: es) (rdTgs T X (gCons g gs) (ws ++ ws')) := by
  refine (pgs_cons h1 h2 hs).imp fun vs σ H Q ⟨xs, γ, γ', ρ, r, hE, e, k⟩ => ?_
  unfold gCons at e
  split at e
  · rename_i x xs
    unfold RepVs at r
    obtain ⟨v, rr, rfl, r1, r2⟩ := r
    split at e
    · rename_i γ1 e1
      exact ⟨v, rr, rfl, x, γ, γ1, ρ, r1, hE, e1, fun σ1 hE1 l1 k1 => ⟨xs, γ1, γ', ρ, r2, hE1, e, fun σ2 hE2 l2 k2 => k σ2 hE2 (l2.trans l1) fun j hj => by
        rw [k2 j (fun z => hj (List.mem_append_right _ z)), k1 j (fun z => hj (List.mem_append_left _ z))]⟩⟩
    · cases e
  · cases e
theorem okg_tup {es : List Expr} {k n : Nat} {gs : List Vl → Env → Option Env} {ws : List Nat} (hc : X.calm = true) (h : PGs X es (rdTgs T X gs ws)) (hn : (assignEach es X.env).length = n) (hst : (assignEach es X.env).findIdx? (·.1) = none)
    (hl : ∀ vs γ γ', gs vs γ = some γ' → vs.length = n) : PG X (.Tuple es k pos) (rdTg T X (gTup gs) ws) := by
  refine (pg_tup (n := n) hc h hn hst).imp fun v σ H Q ⟨x, γ, γ', ρ, r, hE, e, k⟩ => ?_
  unfold gTup at e
  split at e
  · rename_i ds
    unfold RepV RepD at r
    obtain ⟨a, vs, rfl, h1, h2⟩ := r
    have r' := repds_vs (T := T) h2
    exact ⟨a, vs, rfl, h1, by rw [r'.length]; exact hl _ _ _ e, ds.map .d, γ, γ', ρ, r', hE, e, k⟩
  · rename_i xs
    unfold RepV at r
    obtain ⟨a, vs, rfl, h1, h2⟩ := r
    exact ⟨a, vs, rfl, h1, by rw [h2.length]; exact hl _ _ _ e, xs, γ, γ', ρ, h2, hE, e, k⟩
  · cases e
theorem oks_set {i : Nat} {x : Str} {e : Expr} {xe : TEx} {p : Pos} (hN : X.N.Nodup) (hi : X.N[i]? = some x) (hx : Loc X.env.scope x) (h : PE X e (rdE T X W c xe)) (hs : swapsWith e (some (.Name x p)) pos.line X.env = pure false) (hf : X.fn x = true ∨ X.env.scope.names.lookup x = some .local) :
    PS X (.Assign [.Name x p] e pos) (rdS T X W c (sSet i xe)) :=
  (ps_set hN hi hx h hs hf).imp fun D σ H ⟨γ, S, ρ, hE, hS, hP⟩ => rs_bind hE hS hP fun v H1 d S1 ρ1 e r hE1 hS1 hP1 => hP1 _ H1 ρ1 (Ext.refl _ _) (hE1.set r) hS1
theorem oks_asg {tg e : Expr} {g : TTg} {ws : List Nat} {xe : TEx} (h : PE X e (rdE T X W c xe)) (hg : PG X tg (rdTg T X g ws)) (hs : swapsWithSole [tg] e pos.line X.env = pure false) (hw : swappedStores [tg] e X.env = pure none) (h1 : (assignEach [tg] X.env).map (·.2) = [assign tg X.env]) :
    PS X (.Assign [tg] e pos) (rdS T X W c (sAsg g xe)) :=
  (ps_asg h hg hs hw h1).imp fun D σ H ⟨γ, S, ρ, hE, hS, hP⟩ => rs_bind hE hS hP fun v H1 d S1 ρ1 e r hE1 hS1 hP1 => by
    split at hP1
    · rename_i γ' e1
      exact ⟨d, γ, γ', ρ1, r, hE1, e1, fun σ' hE' _ _ => hP1 _ H1 ρ1 (Ext.refl _ _) hE' hS1⟩
    · exact hP1.elim
/-! ### loops -/
theorem PoS.turn {m : RS} {k : Env → Store → RS} {D : Ends} {N : L2.St → Hp → Prop}
    (h : PoS T X W ρ H (match m with
      | .nx γ' S' => k γ' S'
      | .ct γ' S' => k γ' S'
      | .bk γ' S' => .nx γ' S'
      | o => o) D)
    (hN : ∀ γ' S' σ' H' ρ', Ext ρ ρ' H H' → RepE T.toTb X.K ρ' H' γ' σ' → RepS X.K ρ' H' S' → PoS T X W ρ' H' (k γ' S') D → N σ' H') : PoS T X W ρ H m { D with nx := N, ct := N, bk := D.nx } := by
  cases m with
  | nx γ' S' => exact fun σ' H' ρ' e hE hS => hN γ' S' σ' H' ρ' e hE hS (PoS.later e h)
  | ct γ' S' => exact fun σ' H' ρ' e hE hS => hN γ' S' σ' H' ρ' e hE hS (PoS.later e h)
  | bk γ' S' => exact h
  | rt v S' => exact h
  | er kk x γ' S' => exact h
  | stuck => exact h
theorem oks_while {t : Expr} {b : List Stmt} {tt : TTs} {tb : TSt} (hp : PassesOwn (model X.prog X.w) X.A X.env X.xe) (h : PT X t (rdT T X W c tt)) (hb : PSs X b (rdS T X W c tb)) : PS X (.While t b [] pos) (rdS T X W c (sWhile tt tb)) := by
  refine (ps_while hp h hb).imp fun D σ H ⟨γ, S, ρ, hE, hS, hP⟩ => ?_
  refine ⟨fun n σ' H' => ∃ γ' S' ρ', RepE T.toTb X.K ρ' H' γ' σ' ∧ RepS X.K ρ' H' S' ∧ PoS T X W ρ' H' (wLoop tt tb c n γ' S') D, ⟨_, γ, S, ρ, hE, hS, hP⟩, fun n σ1 H1 ⟨γ1, S1, ρ1, hE1, hS1, hP1⟩ => ?_⟩
  cases n with
  | zero => exact hP1.elim
  | succ n =>
    refine rs_bind hE1 hS1 hP1 fun v H2 d S2 ρ2 e r hE2 hS2 hP2 => ?_
    have r' : v = d := r
    subst r'
    cases v with
    | false => rw [if_neg Bool.false_ne_true]; exact hP2 _ H2 ρ2 (Ext.refl _ _) hE2 hS2
    | true =>
      rw [if_pos rfl]
      refine ⟨fun σ' H' => ∃ γ' S' ρ', RepE T.toTb X.K ρ' H' γ' σ' ∧ RepS X.K ρ' H' S' ∧ PoS T X W ρ' H' (wLoop tt tb c n γ' S') D, fun σ' H' q => ⟨n, Nat.lt_succ_self _, q⟩, γ1, S2, ρ2, hE2, hS2, ?_⟩
      exact PoS.turn hP2 fun γ' S' σ' H' ρ' e hE' hS' hP' => ⟨γ', S', ρ', hE', hS', hP'⟩
theorem ext_yld {H2 : Hp} (h : H2 = H' ∨ ∃ p o, H' p = none ∧ H2 = upd H' p o) : Ext ρ ρ H' H2 := by
  rcases h with rfl | ⟨p, o, hp, rfl⟩
  · exact Ext.refl _ _
  · exact Ext.new hp
theorem reps_yld {H2 : Hp} (h : H2 = H' ∨ ∃ p o, H' p = none ∧ H2 = upd H' p o) (s : RepS X.K ρ H' S) : RepS X.K ρ H2 S := by
  rcases h with rfl | ⟨p, o, hp, rfl⟩
  · exact s
  · exact s.new hp
theorem oks_for {tg iter : Expr} {b : List Stmt} {it : TIt} {g : TTg} {ws : List Nat} {tb : TSt} (hp : PassesOwn (model X.prog X.w) X.A X.env X.xe) (hc : X.calm = true) (hi : PI X tg iter (rdI T X W c it)) (hg : PG X tg (rdTg T X g ws)) (hb : PSs X b (rdS T X W c tb)) (hs : ∀ x, foldedSetIterable iter X.env x = pure x) :
    PS X (.For tg iter b [] pos) (rdS T X W c (sFor it g tb)) := by
  refine (ps_for hp hc hi hg hb hs).imp fun D σ H ⟨γ, S, ρ, hE, hS, hP⟩ => rs_bind hE hS hP fun J H1 d S1 ρ1 e r hE1 hS1 hP1 => ?_
  cases d with
  | its xs =>
    have wk : Walks T X ρ1 H1 J xs := r hS1.out
    refine ⟨fun i m σ' H' => m = xs.length - i ∧ i ≤ xs.length ∧ ∃ γ' S' ρ', Ext ρ1 ρ' H1 H' ∧ RepE T.toTb X.K ρ' H' γ' σ' ∧ RepS X.K ρ' H' S' ∧ PoS T X W ρ' H' (fLoop g tb c (xs.drop i) γ' S') D, ⟨_, rfl, Nat.zero_le _, γ, S1, ρ1, Ext.refl _ _, hE1, hS1, hP1⟩, ?_⟩
    rintro i m σ' H' ⟨rfl, hl, γ', S', ρ', e', hE', hS', hP'⟩
    by_cases hlt : i < xs.length
    · have hx : xs[i]? = some xs[i] := List.getElem?_eq_getElem hlt
      obtain ⟨g1, g2⟩ := wk.go i ρ' H' _ e' hx
      refine .inr ⟨g1, fun σ2 H2 => ∃ γ2 S2 ρ2, Ext ρ1 ρ2 H1 H2 ∧ RepE T.toTb X.K ρ2 H2 γ2 σ2 ∧ RepS X.K ρ2 H2 S2 ∧ PoS T X W ρ2 H2 (fLoop g tb c (xs.drop (i + 1)) γ2 S2) D, fun σ2 H2 q => ⟨_, by omega, rfl, hlt, q⟩, fun v H2 y => ?_⟩
      obtain ⟨y1, y2⟩ := g2 v H2 y
      have ey : Ext ρ' ρ' H' H2 := ext_yld y1
      rw [List.drop_eq_getElem_cons hlt] at hP'
      unfold fLoop at hP'
      split at hP'
      · exact hP'.elim
      · rename_i γ1 eg
        refine ⟨xs[i], γ', γ1, ρ', y2, hE'.mono hS'.out ey, eg, fun σ2 hE2 _ _ => ⟨γ1, S', ρ', hE2, reps_yld y1 hS', ?_⟩⟩
        exact PoS.turn (PoS.later ey hP') fun γ3 S3 σ3 H3 ρ3 e3 hE3 hS3 hP3 => ⟨γ3, S3, ρ3, (e'.trans ey).trans e3, hE3, hS3, hP3⟩
    · have hi : i = xs.length := by omega
      subst hi
      rw [List.drop_length] at hP'
      exact .inl ⟨wk.stop _ ρ' H' e' (Nat.le_refl _), hP' _ H' ρ' (Ext.refl _ _) hE' hS'⟩
  | ref o =>
    obtain ⟨a, ha, rfl⟩ := r
    refine ⟨fun i m σ' H' => ∃ γ' S' ρ', ρ'[o]? = some a ∧ RepE T.toTb X.K ρ' H' γ' σ' ∧ RepS X.K ρ' H' S' ∧ PoS T X W ρ' H' (rLoop g tb c o m i γ' S') D, ⟨_, γ, S1, ρ1, ha, hE1, hS1, hP1⟩, ?_⟩
    rintro i m σ' H' ⟨γ', S', ρ', ha', hE', hS', hP'⟩
    cases m with
    | zero => exact hP'.elim
    | succ m =>
      unfold rLoop at hP'
      split at hP'
      case h_2 => exact hP'.elim
      rename_i xs eo
      obtain ⟨a', vs, b1, b2, b3⟩ := hS'.at_ o xs eo
      rw [ha'] at b1
      cases b1
      split at hP'
      · rename_i en
        exact .inl ⟨⟨vs, SqL.of b2, by rw [b3.length]; exact List.getElem?_eq_none_iff.mp en⟩, hP' _ H' ρ' (Ext.refl _ _) hE' hS'⟩
      · rename_i x en
        obtain ⟨v, n1, n2⟩ := b3.get en
        refine .inr ⟨⟨vs, v, SqL.of b2, n1⟩, fun σ2 H2 => ∃ γ2 S2 ρ2, ρ2[o]? = some a ∧ RepE T.toTb X.K ρ2 H2 γ2 σ2 ∧ RepS X.K ρ2 H2 S2 ∧ PoS T X W ρ2 H2 (rLoop g tb c o m (i + 1) γ2 S2) D, fun σ2 H2 q => ⟨m, Nat.lt_succ_self _, q⟩, fun v' H2 y => ?_⟩
        obtain ⟨rfl, y2⟩ := y
        have ev := y2 vs (SqL.of b2)
        rw [n1] at ev
        cases ev
        split at hP'
        · exact hP'.elim
        · rename_i γ1 eg
          refine ⟨.d x, γ', γ1, ρ', by unfold RepV; exact n2, hE', eg, fun σ2 hE2 _ _ => ⟨γ1, S', ρ', hE2, hS', ?_⟩⟩
          exact PoS.turn hP' fun γ3 S3 σ3 H3 ρ3 e3 hE3 hS3 hP3 => ⟨γ3, S3, ρ3, e3.get ha', hE3, hS3, hP3⟩
end
end Mk
/-! Mk10: what is walked, comprehensions, stores. -/
namespace Mk
open PySem PySem.Spec PyProof.Rows L2
section
variable [TabC] {T : Tx} {X : Cx} {W : WX} {c : Cl} {σ : L2.St} {ρ ρ' : List Addr} {H H' : Hp} {γ : Env} {S : Store} {pos : Pos}
/-! ### iterables -/
theorem walks_list {xs : List D} {a : Addr} {vs : List L2.V} (o : TupOut ρ H) (hn : a ∉ ρ) (ha : H a = some (.lst vs)) (r : RepDs X.K ρ H xs vs) : Walks T X ρ H (Itl X.K a) (xs.map .d) where
  go := fun i ρ' H' x e hx => by
    rw [List.getElem?_map] at hx
    cases q : xs[i]? with
    | none => rw [q] at hx; cases hx
    | some d =>
      rw [q] at hx; cases hx
      obtain ⟨v, n1, n2⟩ := r.get q
      have hq : SqL X.K H' a vs := SqL.of (e.keep _ _ ha hn fun _ z => nomatch z)
      refine ⟨⟨vs, v, hq, n1⟩, fun v' H2 ⟨e1, y⟩ => ?_⟩
      subst e1
      have := y vs hq
      rw [n1] at this; cases this
      exact ⟨.inl rfl, by unfold RepV; exact n2.mono o e⟩
  stop := fun i ρ' H' e hl => ⟨vs, SqL.of (e.keep _ _ ha hn fun _ z => nomatch z), by rw [r.length]; simpa using hl⟩
theorem walks_lv {xs : List Vl} {a : Addr} {vs : List L2.V} (o : TupOut ρ H) (hn : a ∉ ρ) (ha : H a = some (.lst vs)) (r : RepVs T.toTb X.K ρ H xs vs) : Walks T X ρ H (Itl X.K a) xs where
  go := fun i ρ' H' x e hx => by
    obtain ⟨v, n1, n2⟩ := r.get hx
    have hq : SqL X.K H' a vs := SqL.of (e.keep _ _ ha hn fun _ z => nomatch z)
    refine ⟨⟨vs, v, hq, n1⟩, fun v' H2 ⟨e1, y⟩ => ?_⟩
    subst e1
    have := y vs hq
    rw [n1] at this; cases this
    exact ⟨.inl rfl, n2.mono o e⟩
  stop := fun i ρ' H' e hl => ⟨vs, SqL.of (e.keep _ _ ha hn fun _ z => nomatch z), by rw [r.length]; exact hl⟩
theorem walks_tup {xs : List Vl} {a : Addr} {vs : List L2.V} (o : TupOut ρ H) (ha : SqT X.K H a vs) (r : RepVs T.toTb X.K ρ H xs vs) (hu : ∀ {H' : Hp} {ws us : List L2.V}, SqT X.K H' a ws → SqT X.K H' a us → ws = us → True) : Walks T X ρ H (Itt X.K a) xs where
  go := fun i ρ' H' x e hx => by
    obtain ⟨v, n1, n2⟩ := r.get hx
    have hq : SqT X.K H' a vs := SqT.ext o e ha
    refine ⟨⟨vs, v, hq, n1⟩, fun v' H2 ⟨e1, y⟩ => ?_⟩
    subst e1
    have := y vs hq
    rw [n1] at this; cases this
    exact ⟨.inl rfl, n2.mono o e⟩
  stop := fun i ρ' H' e hl => ⟨vs, SqT.ext o e ha, by rw [r.length]; exact hl⟩
theorem rd_bind' {α α' β β' : Type} {rel : Rl α β} {rel' : Rl α' β'} {x : Cl → Env → Store → R α} {f : α → Store → R α'} {Q : β' → Hp → Prop} (hE : RepE T.toTb X.K ρ H γ σ) (hS : RepS X.K ρ H S) (h : Po T X W rel' σ ρ H ((x c γ S).bind f) Q)
    {Q1 : β → Hp → Prop} (k : ∀ v H1 d S1 ρ1, x c γ S = .ok d S1 → Ext ρ ρ1 H H1 → rel ρ1 H1 d v → RepE T.toTb X.K ρ1 H1 γ σ → RepS X.K ρ1 H1 S1 → Po T X W rel' σ ρ1 H1 (f d S1) Q → Q1 v H1) : rdG T X W rel c x σ H Q1 :=
  ⟨γ, S, ρ, hE, hS, (Po.bind h).imp fun v H1 ⟨d, S1, ρ1, e, r, s, em, p⟩ => k v H1 d S1 ρ1 em e r (hE.mono hS.out e) s p⟩
theorem walks_str {z : Str} : Walks T X ρ H (Its z) (z.cps.toList.map fun ch => .d (.str ⟨#[ch]⟩)) where
  go := fun i ρ' H' x e hx => by
    rw [List.getElem?_map] at hx
    cases q : z.cps.toList[i]? with
    | none => rw [q] at hx; cases hx
    | some ch =>
      rw [q] at hx
      cases hx
      have q' : z.cps[i]? = some ch := by rw [← Array.getElem?_toList]; exact q
      refine ⟨(Array.getElem?_eq_some_iff.mp q').1, fun v H2 ⟨e1, c, y1, y2⟩ => ?_⟩
      subst e1
      rw [q'] at y1
      cases y1
      subst y2
      exact ⟨.inl rfl, rep_str⟩
  stop := fun i ρ' H' e hl => by
    have : z.cps.size ≤ i := by simpa using hl
    exact this
theorem oki_val {tg l : Expr} {xl : TEx} (hl : PE X l (rdE T X W c xl)) : PI X tg l (rdI T X W c (iV xl)) := by
  refine ⟨fun pins s σ H R I ⟨γ, S, ρ, hE, hS, hP⟩ => ?_⟩
  have hPP := hP
  unfold iV at hP
  cases q : xl c γ S with
  | stuck => rw [q] at hP; exact hP.elim
  | er k x S1 => exact (pi_list hl).run pins s σ H R I (rd_bind' hE hS hPP fun v H1 d S1' ρ1 em e r hE1 hS1 hP1 => by rw [q] at em; cases em)
  | ok d S1 =>
    rw [q] at hP
    cases d with
    | d y =>
      cases y with
      | list xs =>
        refine (pi_list hl).run pins s σ H R I (rd_bind' hE hS hPP fun v H1 d S1' ρ1 em e r hE1 hS1 hP1 => ?_)
        rw [q] at em; cases em
        unfold rV RepV RepD at r
        obtain ⟨a, vs, rfl, h1, h2, h3⟩ := r
        exact ⟨a, rfl, ⟨vs, SqL.of h2⟩, hP1 _ H1 ρ1 (Ext.refl _ _) (fun o => walks_list o h1 h2 h3) hS1⟩
      | tuple xs =>
        refine (pi_tup hl).run pins s σ H R I (rd_bind' hE hS hPP fun v H1 d S1' ρ1 em e r hE1 hS1 hP1 => ?_)
        rw [q] at em; cases em
        unfold rV RepV RepD at r
        obtain ⟨a, vs, rfl, h2, h3⟩ := r
        exact ⟨a, rfl, ⟨vs, h2⟩, hP1 _ H1 ρ1 (Ext.refl _ _) (fun o => walks_tup o h2 (repds_vs h3) fun _ _ _ => trivial) hS1⟩
      | str z =>
        refine (pi_str hl).run pins s σ H R I (rd_bind' hE hS hPP fun v H1 d S1' ρ1 em e r hE1 hS1 hP1 => ?_)
        rw [q] at em; cases em
        have a1 := rep_strV r
        subst a1
        exact ⟨z, rfl, hP1 _ H1 ρ1 (Ext.refl _ _) (fun o => walks_str) hS1⟩
      | _ => exact hP.elim
    | sc xs => exact hP.elim
    | r i =>
      refine (pi_list hl).run pins s σ H R I (rd_bind' hE hS hPP fun v H1 d S1' ρ1 em e r hE1 hS1 hP1 => ?_)
      rw [q] at em; cases em
      unfold rV RepV at r
      obtain ⟨a, h1, rfl⟩ := r
      dsimp only at hP1
      cases q2 : S1[i]? with
      | none => rw [q2] at hP1; exact hP1.elim
      | some ob =>
        cases ob with
        | dct kvs => rw [q2] at hP1; exact hP1.elim
        | lst xs =>
          rw [q2] at hP1
          obtain ⟨a', vs, h3, h2, _⟩ := hS1.at_ i xs q2
          rw [h1] at h3; cases h3
          exact ⟨a, rfl, ⟨vs, SqL.of h2⟩, hP1 _ H1 ρ1 (Ext.refl _ _) ⟨a, h1, rfl⟩ hS1⟩
    | fn f => exact hP.elim
    | tv xs =>
      refine (pi_tup hl).run pins s σ H R I (rd_bind' hE hS hPP fun v H1 d S1' ρ1 em e r hE1 hS1 hP1 => ?_)
      rw [q] at em; cases em
      unfold rV RepV at r
      obtain ⟨a, vs, rfl, h2, h3⟩ := r
      exact ⟨a, rfl, ⟨vs, h2⟩, hP1 _ H1 ρ1 (Ext.refl _ _) (fun o => walks_tup o h2 h3 fun _ _ _ => trivial) hS1⟩
    | lv xs =>
      refine (pi_list hl).run pins s σ H R I (rd_bind' hE hS hPP fun v H1 d S1' ρ1 em e r hE1 hS1 hP1 => ?_)
      rw [q] at em; cases em
      unfold rV RepV at r
      obtain ⟨a, vs, rfl, h1, h2, h3⟩ := r
      exact ⟨a, rfl, ⟨vs, SqL.of h2⟩, hP1 _ H1 ρ1 (Ext.refl _ _) (fun o => walks_lv o h1 h2 h3) hS1⟩
    | co l => exact hP.elim
    | cv l xs => exact hP.elim
    | ex k x => exact hP.elim
theorem rng_get {lo hi : Int} {i : Nat} {x : Vl} (h : (rng lo hi)[i]? = some x) : i < (hi - lo).toNat ∧ x = I (lo + i) := by
  unfold rng at h
  rw [List.getElem?_map] at h
  cases q : (List.range (hi - lo).toNat)[i]? with
  | none => rw [q] at h; cases h
  | some k =>
    rw [q] at h
    have hl := (List.getElem?_eq_some_iff.mp q).1
    rw [List.length_range] at hl
    rw [List.getElem?_range hl] at q
    cases q
    cases h
    exact ⟨hl, rfl⟩
theorem rng_len {lo hi : Int} : (rng lo hi).length = (hi - lo).toNat := by unfold rng; simp
theorem walks_rng {lo hi : Int} : Walks T X ρ H (L2.Itr lo (hi - lo).toNat) (rng lo hi) where
  go := fun i ρ' H' x e hx => by
    obtain ⟨h1, rfl⟩ := rng_get hx
    refine ⟨h1, fun v H2 ⟨e1, e2⟩ => ?_⟩
    subst e1 e2
    exact ⟨.inl rfl, rep_int⟩
  stop := fun i ρ' H' e hl => by rw [rng_len] at hl; exact hl
theorem rngOk_of {i : Int} (h : rngOk i = true) : -(2 ^ 62) ≤ i ∧ i < 2 ^ 62 := by
  unfold rngOk at h
  simp only [decide_eq_true_eq] at h
  omega
theorem oki_rng1 {tg a : Expr} {xa : TEx} {p : Pos} (hg : Gl X "range") (hm : X.mg "range" = none) (ha : PE X a (rdE T X W c xa)) (hs : starEach [a] X.env = [(false, eval a X.env)]) : PI X tg (.Call (.Name "range" p) [a] [] pos) (rdI T X W c (iRng1 xa)) := by
  refine (pi_range1 (ta := tCons (rdE T X W c xa) tNil) hg hm (pa_cons ha pa_nil hs) hs).imp fun σ H R ⟨γ, S, ρ, hE, hS, hP⟩ => rd_bind hE hS hP fun v H1 d S1 ρ1 e r hE1 hS1 hP1 => ?_
  split at hP1
  · rename_i j
    split at hP1
    · rename_i hj
      have a1 := rep_intV r
      subst a1
      obtain ⟨j1, j2⟩ := rngOk_of hj
      refine ⟨j, rfl, j1, j2, hP1 _ H1 ρ1 (Ext.refl _ _) (fun o => ?_) hS1⟩
      have := walks_rng (T := T) (X := X) (ρ := ρ1) (H := H1) (lo := 0) (hi := j)
      rwa [Int.sub_zero] at this
    · exact hP1.elim
  · exact hP1.elim
theorem oki_rng2 {tg a b : Expr} {xa xb : TEx} {p : Pos} (hg : Gl X "range") (hm : X.mg "range" = none) (ha : PE X a (rdE T X W c xa)) (hb : PE X b (rdE T X W c xb)) (hs : starEach [a, b] X.env = [(false, eval a X.env), (false, eval b X.env)]) (hs2 : starEach [b] X.env = [(false, eval b X.env)]) :
    PI X tg (.Call (.Name "range" p) [a, b] [] pos) (rdI T X W c (iRng2 xa xb)) := by
  refine (pi_range2 (ta := tCons (rdE T X W c xa) (tCons (rdE T X W c xb) tNil)) hg hm (pa_cons ha (pa_cons hb pa_nil hs2) (by rw [hs, hs2])) hs hs2).imp fun σ H R ⟨γ, S, ρ, hE, hS, hP⟩ => rd_bind hE hS hP fun v H1 d S1 ρ1 e r hE1 hS1 hP1 => rd_bind hE1 hS1 hP1 fun v2 H2 d2 S2 ρ2 e2 r2 hE2 hS2 hP2 => ?_
  split at hP2
  · rename_i i j
    split at hP2
    · rename_i hj
      have a1 := rep_intV r
      have a2 := rep_intV r2
      subst a1 a2
      rw [Bool.and_eq_true] at hj
      obtain ⟨i1, i2⟩ := rngOk_of hj.1
      obtain ⟨j1, j2⟩ := rngOk_of hj.2
      exact ⟨i, j, rfl, ⟨i1, i2, j1, j2⟩, hP2 _ H2 ρ2 (Ext.refl _ _) (fun o => walks_rng) hS2⟩
    · exact hP2.elim
  · exact hP2.elim
theorem pairs_get {xs ys : List D} {i : Nat} {x : Vl} (h : (pairs xs ys)[i]? = some x) : ∃ a b, xs[i]? = some a ∧ ys[i]? = some b ∧ x = .d (.tuple [a, b]) := by
  unfold pairs at h
  rw [List.getElem?_map] at h
  cases q : (xs.zip ys)[i]? with
  | none => rw [q] at h; cases h
  | some p =>
    rw [q] at h
    cases h
    obtain ⟨q1, q2⟩ := List.getElem?_zip_eq_some.mp q
    exact ⟨_, _, q1, q2, rfl⟩
theorem walks_pairs {xs ys : List D} {vs ws : List L2.V} {J : It} (o : TupOut ρ H) (rx : RepDs X.K ρ H xs vs) (ry : RepDs X.K ρ H ys ws)
    (hg : ∀ i ρ' H' x y, Ext ρ ρ' H H' → vs[i]? = some x → ws[i]? = some y → J.go i H' ∧ ∀ v H2, J.yld i H' v H2 → ∃ p, v = .ref p ∧ H' p = none ∧ H2 = upd H' p (.tup [x, y]))
    (hs : ∀ i ρ' H', Ext ρ ρ' H H' → vs.length ≤ i ∨ ws.length ≤ i → J.stop i H') : Walks T X ρ H J (pairs xs ys) where
  go := fun i ρ' H' x e hx => by
    obtain ⟨a, b, q1, q2, rfl⟩ := pairs_get hx
    obtain ⟨x, e1, r1⟩ := rx.get q1
    obtain ⟨y, e2, r2⟩ := ry.get q2
    obtain ⟨g1, g2⟩ := hg i ρ' H' x y e e1 e2
    refine ⟨g1, fun v H2 hy => ?_⟩
    obtain ⟨p, rfl, hp, rfl⟩ := g2 v H2 hy
    refine ⟨.inr ⟨p, _, hp, rfl⟩, ?_⟩
    have e' : Ext ρ ρ' H (upd H' p (.tup [x, y])) := e.trans (Ext.new hp)
    unfold RepV RepD
    exact ⟨p, _, rfl, SqT.of upd_same, RepDs.cons (r1.mono o e') (RepDs.cons (r2.mono o e') RepDs.nil)⟩
  stop := fun i ρ' H' e hl => hs i ρ' H' e (by
    unfold pairs at hl
    rw [List.length_map, List.length_zip] at hl
    rw [rx.length, ry.length]
    omega)
theorem oki_zip {elts : List Expr} {kk : Nat} {tpos : Pos} {a b : Expr} {xa xb : TEx} {p : Pos} (hg : Gl X "zip") (hm : X.mg "zip" = none) (ha : PE X a (rdE T X W c xa)) (hb : PE X b (rdE T X W c xb)) (hs : starEach [a, b] X.env = (false, eval a X.env) :: starEach [b] X.env) (hs2 : starEach [b] X.env = (false, eval b X.env) :: starEach [] X.env) :
    PI X (.Tuple elts kk tpos) (.Call (.Name "zip" p) [a, b] [] pos) (rdI T X W c (iZip xa xb)) := by
  refine (RZ.pi_zipA (ta := tCons (rdE T X W c xa) (tCons (rdE T X W c xb) tNil)) hg hm (pa_cons ha (pa_cons hb pa_nil hs2) hs) hs (by rw [hs2]; rfl)).imp fun σ H R ⟨γ, S, ρ, hE, hS, hP⟩ => rd_bind hE hS hP fun v H1 d S1 ρ1 e r hE1 hS1 hP1 => rd_bind hE1 hS1 hP1 fun v2 H2 d2 S2 ρ2 e2 r2 hE2 hS2 hP2 => ?_
  have r' := RepV.mono hS1.out e2 r
  split at hP2
  · rename_i xs ys
    unfold RepV RepD at r'
    unfold rV RepV RepD at r2
    obtain ⟨a, vs, rfl, a1, a2, a3⟩ := r'
    obtain ⟨b, ws, rfl, b1, b2, b3⟩ := r2
    refine ⟨a, b, vs, ws, rfl, .inl ⟨SqL.of a2, SqL.of b2, hP2 _ H2 ρ2 (Ext.refl _ _) (fun o => walks_pairs o a3 b3 (fun i ρ' H' x y e ex ey => ?_) fun i ρ' H' e hl => ⟨vs, ws, SqL.of (e.keep _ _ a2 a1 fun _ z => nomatch z), SqL.of (e.keep _ _ b2 b1 fun _ z => nomatch z), hl⟩) hS2⟩⟩
    have hq1 : SqL X.K H' a vs := SqL.of (e.keep _ _ a2 a1 fun _ z => nomatch z)
    have hq2 : SqL X.K H' b ws := SqL.of (e.keep _ _ b2 b1 fun _ z => nomatch z)
    refine ⟨⟨vs, ws, x, y, hq1, hq2, ex, ey⟩, fun v H3 hy => ?_⟩
    obtain ⟨p, x', y', e1, e2, e3, e4, e5⟩ := hy
    have := e4 vs hq1; rw [ex] at this; cases this
    have := e5 ws hq2; rw [ey] at this; cases this
    exact ⟨p, e1, e2, e3⟩
  · rename_i xs ys
    unfold RepV RepD at r'
    unfold rV RepV RepD at r2
    obtain ⟨a, vs, rfl, a2, a3⟩ := r'
    obtain ⟨b, ws, rfl, b2, b3⟩ := r2
    refine ⟨a, b, vs, ws, rfl, .inr ⟨a2, b2, hP2 _ H2 ρ2 (Ext.refl _ _) (fun o => walks_pairs o a3 b3 (fun i ρ' H' x y e ex ey => ?_) fun i ρ' H' e hl => ⟨vs, ws, SqT.ext o e a2, SqT.ext o e b2, hl⟩) hS2⟩⟩
    have hq1 : SqT X.K H' a vs := SqT.ext hS2.out e a2
    have hq2 : SqT X.K H' b ws := SqT.ext hS2.out e b2
    refine ⟨⟨vs, ws, x, y, hq1, hq2, ex, ey⟩, fun v H3 hy => ?_⟩
    obtain ⟨p, x', y', e1, e2, e3, e4, e5⟩ := hy
    have := e4 vs hq1; rw [ex] at this; cases this
    have := e5 ws hq2; rw [ey] at this; cases this
    exact ⟨p, e1, e2, e3⟩
  · exact hP2.elim
theorem enumD_get {xs : List D} {i : Nat} {x : Vl} (h : (enumD xs)[i]? = some x) : ∃ a, xs[i]? = some a ∧ x = .d (.tuple [.int i, a]) := by
  unfold enumD at h
  rw [List.getElem?_map] at h
  cases q : ((List.range xs.length).zip xs)[i]? with
  | none => rw [q] at h; cases h
  | some p =>
    rw [q] at h
    cases h
    obtain ⟨q1, q2⟩ := List.getElem?_zip_eq_some.mp q
    have hl : i < xs.length := (List.getElem?_eq_some_iff.mp q2).1
    rw [List.getElem?_range hl] at q1
    cases q1
    exact ⟨_, q2, rfl⟩
end
end Mk
/-! Mk11: comprehensions, stores into objects. -/
namespace Mk
open PySem PySem.Spec PyProof.Rows L2
/-- no exception at all -/
abbrev WF : WX := fun _ _ _ _ => False
section
variable [TabC] {T : Tx} {X : Cx} {W : WX} {c : Cl} {σ : L2.St} {ρ ρ' ρ1 : List Addr} {H H' H1 : Hp} {γ : Env} {S : Store} {pos : Pos}
theorem wipeE_get : ∀ {w : List Nat} {γ : Env} {i : Nat} {v : Vl}, (wipeE γ w)[i]? = some (some v) → γ[i]? = some (some v) ∧ i ∉ w
  | [], γ, i, v, h => ⟨h, by simp⟩
  | j :: w, γ, i, v, h => by
    unfold wipeE at h
    obtain ⟨h1, h2⟩ := wipeE_get h
    by_cases e : j = i
    · subst e
      by_cases l : j < γ.length
      · rw [List.getElem?_set_self l] at h1; cases h1
      · rw [List.getElem?_eq_none (by simpa using l)] at h1; cases h1
    · rw [List.getElem?_set_ne e] at h1
      exact ⟨h1, by simp only [List.mem_cons, not_or]; exact ⟨fun z => e z.symm, h2⟩⟩
theorem wipeE_len : ∀ {w : List Nat} {γ : Env}, (wipeE γ w).length = γ.length
  | [], γ => rfl
  | j :: w, γ => by unfold wipeE; rw [wipeE_len]; simp
theorem RepE.wipe {w : List Nat} (h : RepE T.toTb X.K ρ H γ σ) : RepE T.toTb X.K ρ H (wipeE γ w) (wipe σ w) := by
  refine ⟨by rw [wipeE_len, wipe_length]; exact h.len, fun i v q => ?_⟩
  obtain ⟨h1, h2⟩ := wipeE_get q
  obtain ⟨x, e1, e2⟩ := h.at_ i v h1
  exact ⟨x, by rw [wipe_out h2]; exact e1, e2⟩
theorem wipe_in : ∀ {w : List Nat} {i : Nat}, i ∈ w → (wipe σ w)[i]? = if i < σ.length then some none else none
  | j :: w, i, h => by
    unfold L2.wipe
    by_cases e : j = i
    · subst e
      by_cases l : j < σ.length
      · rw [if_pos l, List.getElem?_set_self (by rw [wipe_length]; exact l)]
      · rw [if_neg l, List.getElem?_eq_none (by simp [wipe_length]; omega)]
    · rw [List.getElem?_set_ne e]
      refine wipe_in ?_
      rcases List.mem_cons.mp h with z | z
      · exact absurd z.symm e
      · exact z
theorem wipe_eq {σ1 σ2 : L2.St} {w ws : List Nat} (hl : σ2.length = (wipe σ1 w).length) (hw : ∀ j ∈ ws, j ∈ w) (h : ∀ j, j ∉ ws → σ2[j]? = (wipe σ1 w)[j]?) : wipe σ2 w = wipe σ1 w := by
  have hl' : σ2.length = σ1.length := by rw [hl, wipe_length]
  refine List.ext_getElem? fun i => ?_
  by_cases m : i ∈ w
  · rw [wipe_in m, wipe_in m, hl']
  · rw [wipe_out m, h i fun z => m (hw i z)]
/-- one turn of a comprehension's loop: what is left to do -/
theorem lc_turn {ws w : List Nat} {g : TTg} {t : TTs} {e : TEx} {n : Nat} {D : Addr} {x : Vl} {v : L2.V} {m : R Unit} {Nx : Hp → Prop} {γ' : Env} {K0 : Store → R Unit}
    (hw : ∀ j ∈ ws, j ∈ w) (hD : ρ[n]? = some D) (hE : RepE T.toTb X.K ρ H γ' (wipe σ w)) (hS : RepS X.K ρ H S) (hv : RepV T.toTb X.K ρ H x v)
    (hm : (match g x γ' with
      | none => .stuck
      | some γ1 => match t c γ1 S with
        | .ok true S1 => match e c γ1 S1 with
          | .ok (.d d) S2 => match S2[n]? with
            | some (.lst out) => if out.length < LINE then K0 (S2.set n (.lst (out ++ [d]))) else .stuck
            | _ => .stuck
          | _ => .stuck
        | .ok false S1 => K0 S1
        | _ => .stuck) = m) (hok : ∃ S', m = .ok () S')
    (hN : ∀ S' ρ' H', Ext ρ ρ' H H' → RepS X.K ρ' H' S' → K0 S' = m → Nx H') :
    rdTg T X g ws v (wipe σ w) H fun σ2 H2 => wipe σ2 w = wipe σ w ∧ rdT T X WF c t σ2 H2 fun b H3 => if b = true then rdE T X WF c e σ2 H3 fun y H4 => ∃ acc, H4 D = some (.lst acc) ∧ acc.length < sizeLine ∧ Nx (upd H4 D (.lst (acc ++ [y]))) else Nx H3 := by
  subst hm
  obtain ⟨So, hok⟩ := hok
  split at hok
  · cases hok
  rename_i γ1 eg
  rw [eg] at hN
  refine ⟨x, γ', γ1, ρ, hv, hE, eg, fun σ2 hE2 l2 ag => ⟨wipe_eq l2 hw ag, γ1, S, ρ, hE2, hS, ?_⟩⟩
  dsimp only at hN hok
  cases q : t c γ1 S with
  | stuck => rw [q] at hok; cases hok
  | er k y S1 => rw [q] at hok; cases hok
  | ok b S1 =>
    rw [q] at hN hok
    refine fun b' H3 ρ3 e3 rb hS3 => ?_
    have rb' : b' = b := rb
    subst rb'
    cases b' with
    | false =>
      dsimp only
      rw [if_neg Bool.false_ne_true]
      exact hN S1 ρ3 H3 e3 hS3 rfl
    | true =>
      dsimp only at hN hok ⊢
      rw [if_pos rfl]
      refine ⟨γ1, S1, ρ3, hE2.mono hS.out e3, hS3, ?_⟩
      cases q2 : e c γ1 S1 with
      | stuck => rw [q2] at hok; cases hok
      | er k y S2 => rw [q2] at hok; cases hok
      | ok dv S2 =>
        rw [q2] at hN hok
        refine fun y H4 ρ4 e4 r4 hS4 => ?_
        cases dv with
        | d d =>
          dsimp only at hN hok
          cases q3 : S2[n]? with
          | none => rw [q3] at hok; cases hok
          | some ob =>
            cases ob with
            | dct kvs => rw [q3] at hok; cases hok
            | lst out =>
              rw [q3] at hN hok
              dsimp only at hN hok
              obtain ⟨D', acc, d1, d2, d3⟩ := hS4.at_ n out q3
              have hD4 : ρ4[n]? = some D := e4.get (e3.get hD)
              rw [hD4] at d1
              cases d1
              by_cases hl : out.length < LINE
              · rw [if_pos hl] at hN
                refine ⟨acc, d2, by rw [line_eq, d3.length]; exact hl, ?_⟩
                have r4' : RepD X.K ρ4 H4 d y := by
                  unfold rV RepV at r4; exact r4
                exact hN _ ρ4 _ ((e3.trans e4).trans (Ext.chg (List.mem_of_getElem? hD4))) (hS4.chg hD4 (d3.append (RepDs.cons r4' RepDs.nil))) rfl
              · rw [if_neg hl] at hok; cases hok
        | _ => cases hok
mutual
theorem RepD.sub (h : ∀ a ∈ ρ, a ∈ ρ') : ∀ {d : D} {v : L2.V}, RepD X.K ρ' H d v → RepD X.K ρ H d v
  | .none, v, r => by unfold RepD at *; exact r
  | .bool b, v, r => by unfold RepD at *; exact r
  | .int i, v, r => by unfold RepD at *; exact r
  | .str s, v, r => by unfold RepD at *; exact r
  | .tuple xs, v, r => by
    unfold RepD at *
    obtain ⟨a, vs, h1, h2, h3⟩ := r
    exact ⟨a, vs, h1, h2, RepDs.sub h h3⟩
  | .list xs, v, r => by
    unfold RepD at *
    obtain ⟨a, vs, h1, h2, h3, h4⟩ := r
    exact ⟨a, vs, h1, fun z => h2 (h a z), h3, RepDs.sub h h4⟩
  | .dict kvs, v, r => by
    unfold RepD at *
    obtain ⟨a, vs, h1, h2, h3, h4⟩ := r
    exact ⟨a, vs, h1, fun z => h2 (h a z), h3, RepKs.sub h h4⟩
theorem RepKs.sub (h : ∀ a ∈ ρ, a ∈ ρ') : ∀ {kvs : List (D × D)} {ks : List (L2.Key × L2.V)}, RepKs X.K ρ' H kvs ks → RepKs X.K ρ H kvs ks
  | [], v, r => by unfold RepKs at *; exact r
  | (k, x) :: rest, v, r => by
    unfold RepKs at *
    obtain ⟨k', v, rs, h1, h2, h3, h4⟩ := r
    exact ⟨k', v, rs, h1, RepD.sub h h2, RepD.sub h h3, RepKs.sub h h4⟩
theorem RepDs.sub (h : ∀ a ∈ ρ, a ∈ ρ') : ∀ {ds : List D} {vs : List L2.V}, RepDs X.K ρ' H ds vs → RepDs X.K ρ H ds vs
  | [], vs, r => by unfold RepDs at *; exact r
  | x :: xs, vs, r => by
    unfold RepDs at *
    obtain ⟨v, w, h1, h2, h3⟩ := r
    exact ⟨v, w, h1, RepD.sub h h2, RepDs.sub h h3⟩
end
theorem RepO.sub (h : ∀ a ∈ ρ, a ∈ ρ') {b : Ob} {o : HO} (r : RepO X.K ρ' H b o) : RepO X.K ρ H b o := by
  cases b with
  | lst xs => obtain ⟨vs, h1, h2⟩ := r; exact ⟨vs, h1, h2.sub h⟩
  | dct kvs => obtain ⟨vs, h1, h2⟩ := r; exact ⟨vs, h1, h2.sub h⟩
theorem RepS.take {n : Nat} (s : RepS X.K ρ H S) : RepS X.K (ρ.take n) H (S.take n) := by
  have sb : ∀ a ∈ ρ.take n, a ∈ ρ := fun a h => List.mem_of_mem_take h
  refine RepS.mk' (by simp [s.len]) (s.nd.sublist (List.take_sublist n ρ)) (fun a h => s.out a (sb a h)) s.tab fun i xs q => ?_
  have hi : i < n := by
    have := (List.getElem?_eq_some_iff.mp q).1
    rw [List.length_take] at this
    omega
  rw [List.getElem?_take_of_lt hi] at q
  obtain ⟨a, vs, h1, h2, h3⟩ := s.ob q
  exact ⟨a, vs, by rw [List.getElem?_take_of_lt hi]; exact h1, h2, h3.sub sb⟩
theorem Ext.take (e : Ext ρ ρ' H H') : ρ'.take ρ.length = ρ := by
  obtain ⟨⟨t, rfl, _⟩, _, _⟩ := e
  simp
/-- back to the base -/
theorem Ext.base (e : Ext (ρ1 ++ ρ) ρ' H H') (k : ∀ b o, H1 b = some o → H b = some o) (s : ∀ b, b ∈ ρ → H1 b = none) : Ext ρ1 ρ1 H1 H' := by
  refine ⟨⟨[], by simp, by simp⟩, fun b o hb hn nt => e.keep b o (k b o hb) (fun z => ?_) nt, fun b hne => ?_⟩
  · rcases List.mem_append.mp z with z | z
    · exact hn z
    · rw [s b z] at hb; cases hb
  · refine e.stay b fun z => hne ?_
    cases q : H1 b with
    | none => rfl
    | some o => rw [k b o q] at z; cases z
theorem lc_end {m : Bool} {D : Addr} {S1 S' : Store} {Q : VK} (hD : H1 D = none) (hl : ρ1.length = S1.length) (e : Ext (ρ1 ++ [D]) ρ' (upd H1 D (.lst [])) H') (hS : RepS X.K ρ' H' S') (hP : Po T X W (rV T X) σ ρ1 H1 (lcEnd m S1.length S') Q) : Q (.ref D) H' := by
  unfold lcEnd at hP
  split at hP
  case isFalse => exact hP.elim
  rename_i hn
  split at hP
  case h_2 => exact hP.elim
  rename_i out eo
  have hl2 : ρ'.length = (ρ1 ++ [D]).length := by rw [hS.len, hn, List.length_append, hl]; rfl
  have hρ : ρ' = ρ1 ++ [D] := by
    have := e.take
    rw [← hl2, List.take_length] at this
    exact this
  have hDn : (ρ1 ++ [D])[S1.length]? = some D := by rw [← hl]; simp
  obtain ⟨D', acc, d1, d2, d3⟩ := hS.at_ _ out eo
  rw [hρ, hDn] at d1
  cases d1
  have nd : D ∉ ρ1 := fun z => by
    have := hS.nd
    rw [hρ] at this
    exact (List.nodup_append.mp this).2.2 D z D (by simp) rfl
  have kk : ∀ b o, H1 b = some o → upd H1 D (.lst []) b = some o := fun b o q => by rw [upd_ne (ne_of_none q hD)]; exact q
  have eb : Ext ρ1 ρ1 H1 H' := e.base kk fun b hb => by
    have : b = D := by simpa using hb
    subst this; exact hD
  cases m with
  | false =>
    refine hP (.ref D) H' ρ1 eb ?_ ?_
    · unfold rV RepV RepD
      exact ⟨D, acc, rfl, nd, d2, d3.sub fun a z => by rw [hρ]; exact List.mem_append_left _ z⟩
    · have := hS.take (n := S1.length)
      rwa [hρ, ← hl, List.take_left, hl] at this
  | true =>
    refine hP (.ref D) H' ρ' ?_ ?_ hS
    · rw [hρ]
      exact ⟨⟨[D], rfl, by simp [hD]⟩, eb.keep, eb.stay⟩
    · unfold rV RepV
      exact ⟨D, by rw [hρ]; exact hDn, rfl⟩
end
/-- the block's context -/
abbrev bl (X : Cx) (s : Shared) (H : Hp) (scope : Scope) (C : Addr) (cl : List (Str × Addr)) (fp : List Addr) : Cx := X.blk s H scope (compEnvC scope cl C X.env) fp
theorem _root_.L2.PTs.imp {X : Cx} {e : List Expr} {t t' : TT} (h : PTs X e t) (k : ∀ σ H Q, t' σ H Q → t σ H Q) : PTs X e t' := ⟨fun pins s σ H Q I q => h.run pins s σ H Q I (k σ H Q q)⟩
/-- what a block that starts at s needs of its parts -/
structure BlkP (X : Cx) (tg elt : Expr) (ifs : List Expr) (scope : Scope) (s : Shared) (H : Hp) (g : TG) (tt : TT) (te : TE) : Prop where
  pg : ∀ (C : Addr) (cl : List (Str × Addr)) (fp : List Addr), (∀ b ∈ fp, ∃ o, s.heap.get? b = some o ∧ ∀ v, o.data ≠ .cell v) → PG (bl X s H scope C cl fp) tg g
  pt : ∀ (C : Addr) (cl : List (Str × Addr)) (fp : List Addr), (∀ b ∈ fp, ∃ o, s.heap.get? b = some o ∧ ∀ v, o.data ≠ .cell v) → PTs (bl X s H scope C cl fp) ifs tt
  pe : ∀ (C : Addr) (cl : List (Str × Addr)) (fp : List Addr), (∀ b ∈ fp, ∃ o, s.heap.get? b = some o ∧ ∀ v, o.data ≠ .cell v) → PE (bl X s H scope C cl fp) elt te
/-- the turns of a block's loop, the list at A -/
def Turns (J : It) (g : TG) (tt : TT) (te : TE) (vs : List Nat) (σ : L2.St) (A : Addr) (H1 : Hp) (Q : VK) : Prop :=
  ∃ U : Nat → Nat → Hp → Prop, (∃ m, U 0 m (upd H1 A (.lst []))) ∧ ∀ i m H, U i m H → (J.stop i H ∧ Q (.ref A) H) ∨ (J.go i H ∧ ∃ Nx : Hp → Prop, (∀ H', Nx H' → ∃ m', m' < m ∧ U (i + 1) m' H') ∧
    ∀ x H', J.yld i H x H' → g x (wipe σ vs) H' fun σ2 H2 => wipe σ2 vs = wipe σ vs ∧ tt σ2 H2 fun b H3 => if b = true then te σ2 H3 fun y H4 => ∃ acc, H4 A = some (.lst acc) ∧ acc.length < sizeLine ∧ Nx (upd H4 A (.lst (acc ++ [y]))) else Nx H3)
/-- a comprehension, its parts asked at the very state in which its block starts -/
theorem lc_own {X : Cx} {pins : List (Addr × Obj)} {s : Shared} {σ : L2.St} {H : Hp} {Q : VK} {elt tg iter : Expr} {ifs : List Expr} {scope : Scope} {own : List (Str × Nat)} {pos pos' : Pos} {wi : TI} {use : Option (Value → Sem Unit)} {Qf : Value → Shared → Prop} {Z : It → Hp → Prop}
    (calm : X.calm = true) (nd : X.N.Nodup) (I : Inv X pins σ H s) (hi : PI X tg iter wi) (ok : BlkOk X.N X.env.scope scope own) (hset : ∀ x, foldedSetIterable iter X.env x = pure x) (hw : wi σ H Z)
    (hz : ∀ J H1 A s1, Z J H1 → H1 A = none → Inv X pins σ (upd H1 A (.lst [])) s1 → ∃ (g : TG) (tt : TT) (te : TE), BlkP X tg elt ifs scope s1 (upd H1 A (.lst [])) g tt te ∧ Turns J g tt te (own.map (·.2)) σ A H1 Q)
    (out : ∀ A B s' m H', Inv X pins σ H' s' → Q (.ref A) H' → s'.heap.Ns B m → FpOk X pins H' B → compPost (model X.prog X.w) X.A X.xe use Qf (.ref A) B (.ok .next) s') :
    wpAny (model X.prog X.w) X.A (comprehension (.ListComp elt [⟨tg, iter, ifs, 0⟩] scope pos) scope X.env pos' (newList []) false (eval iter X.env) use) Qf X.xe s := by
  have caps : ∀ y ∈ scope.names, y.2 = .free → ∃ c, X.env.cells.lookup y.1 = some c := fun y hy e => I.ok.has _ (ok.free y hy e)
  refine wpAny_comprehension_free (use := use) rfl hset (closure_ok caps) ok.kind (fun y hy e => by rw [ok.uniq y hy, e]) (thn (hi.run pins s σ H _ I hw) fun v1 r1 hv => thn hv fun v2 r2 got => ?_)
  obtain ⟨it, fp, tn, J, H2, ev, I2, T, t2, f2, zz⟩ := got
  subst ev
  refine wpAny_newObj_type (newEnv_comp ?_) (Nat.zero_le _)
  generalize hA : r2.heap.objs.size = A
  have nA : H2 A = none := I2.hok.fresh (Nat.le_of_eq hA)
  generalize hr3 : ({ r2 with heap := r2.heap.push { cls := .type "list", data := .seq ([] : List Value).toArray } } : Shared) = r3
  have g3 : r3.heap = r2.heap.push { cls := .type "list", data := .seq ([] : List Value).toArray } := by rw [← hr3]
  have I3 : Inv X pins σ (upd H2 A (.lst [])) r3 := by
    subst hr3
    exact I2.laid (t' := r2.toks) (fun b o e => Heap.get?_push_of_some _ e) (Nat.le_of_eq hA) ⟨Nat.zero_le _, [], 0, .nil, by rw [← hA]; exact Heap.get?_push_size _ rfl⟩
  obtain ⟨g, tt, te, P, U, ⟨m0, u0⟩, turn⟩ := hz J H2 A r3 zz nA I3
  have lt2 : ∀ b ∈ fp, b < r2.heap.objs.size := fun b hb => let ⟨o, e, _⟩ := T.obj _ _ t2 b hb; Heap.lt_size e
  have f3 : ∀ b ∈ fp, FpOk X pins (upd H2 A (.lst [])) b ∧ b < r3.heap.objs.size := fun b hb =>
    ⟨⟨by rw [upd_ne (by rw [← hA]; exact Nat.ne_of_lt (lt2 b hb))]; exact (f2 b hb).1, (f2 b hb).2⟩, by rw [g3, Heap.size_push]; exact Nat.lt_succ_of_lt (lt2 b hb)⟩
  have t3 : tn 0 r3.heap := T.keep _ _ _ t2 fun b _ o e => by rw [g3]; exact Heap.get?_push_of_some _ e
  have I4 := block_start I3 ok nd f3
  have ob := T.obj _ _ t3
  have pg := P.pg r3.heap.objs.size (cellsFrom (r3.heap.objs.size + 1) scope.names (cloFrom X.env.cells scope.names [])) fp ob
  have pt := P.pt r3.heap.objs.size (cellsFrom (r3.heap.objs.size + 1) scope.names (cloFrom X.env.cells scope.names [])) fp ob
  have pe := P.pe r3.heap.objs.size (cellsFrom (r3.heap.objs.size + 1) scope.names (cloFrom X.env.cells scope.names [])) fp ob
  unfold bl at pg pt pe
  show codeAny _ _ (.compStart (.ListComp elt [⟨tg, iter, ifs, 0⟩] scope pos) 0 (.ref it) (.ref A)
    (compEnvC scope (cellsFrom (r3.heap.objs.size + 1) scope.names (cloFrom X.env.cells scope.names [])) r3.heap.objs.size X.env))
    (compPost (model X.prog X.w) X.A X.xe use Qf (.ref A) r3.heap.objs.size) { r3 with heap := pushCells (r3.heap.push { cls := .type "dict", data := .dict #[] }) scope.names }
  have free3 : ∀ b ∈ fp, (upd H2 A (.lst [])) b = none := fun b hb => (f3 b hb).1.1
  generalize hce : compEnvC scope (cellsFrom (r3.heap.objs.size + 1) scope.names (cloFrom X.env.cells scope.names [])) r3.heap.objs.size X.env = ce at I4 pg pt pe ⊢
  have loc : ce.locals = r3.heap.objs.size := by subst hce; rfl
  generalize hH3 : upd H2 A (.lst []) = H3 at I3 I4 pg pt pe u0 free3 f3
  generalize hr4 : ({ r3 with heap := pushCells (r3.heap.push { cls := .type "dict", data := .dict #[] }) scope.names } : Shared) = r4 at I4 ⊢
  have t4 : tn 0 r4.heap := T.keep _ _ _ t3 fun b _ o e => by rw [← hr4]; exact pushCells_keeps _ _ _ _ (Heap.get?_push_of_some _ e)
  have st : ∀ {σ' : L2.St} {H' : Hp} {s' : Shared}, Inv (X.blk r3 H3 scope ce fp) [] σ' H' s' → (∀ b ∈ fp, H' b = none) → ∀ b ∈ fp, FpOk (X.blk r3 H3 scope ce fp) [] H' b := fun {σ' H' s'} J' hn b hb =>
    ⟨hn b hb, (J'.ok.exf b hb).1, J'.ok.exfs b hb, .inl hb, fun x c e => (J'.ok.exf b hb).2 x c e, fun p hp => nomatch (show p ∈ ([] : List (Addr × Obj)) ++ [] from hp)⟩
  suffices loop : codeAny (model X.prog X.w) X.A (.compLoop (.ListComp elt [⟨tg, iter, ifs, 0⟩] scope pos) 0 (.ref it) (.ref A) ce) (compPost (model X.prog X.w) X.A X.xe use Qf (.ref A) r3.heap.objs.size) r4 from
    codeAny_compStart_list loop (T.self X.A 0 _ _ _ t4 loop)
  refine compLoop_any (fun n s' => ∃ i H', Inv (X.blk r3 H3 scope ce fp) [] (wipe σ (own.map (·.2))) H' s' ∧ tn i s'.heap ∧ (∀ b ∈ fp, H' b = none) ∧ U i n H') ?_ m0 ⟨0, H3, I4, t4, free3, u0⟩
  rintro n r5 ⟨i, H5, I5, t5, n5, u5⟩
  rcases turn i n H5 u5 with ⟨hstop, hq⟩ | ⟨hgo, Nx, hNx, step⟩
  · refine thnF (T.done (X.blk r3 H3 scope ce fp) rfl rfl rfl calm i [] r5 _ H5 (fun _ _ => False) I5 (st I5 n5) t5 hstop) fun r r6 ⟨hr, I6⟩ => ?_
    subst hr
    have back : Inv X pins σ H5 r6 := I3.call' (ch := fp) I6.os I6.base I6.hok I6.bare fun b hb => ⟨(f3 b hb).1.2.2.2.1, (f3 b hb).1.2.1, (f3 b hb).1.2.2.2.2.1, (f3 b hb).1.2.2.2.2.2⟩
    obtain ⟨m, hn, _⟩ := I6.loc
    have hn : r6.heap.Ns ce.locals m := hn
    have nC : H5 ce.locals = none := I6.free
    rw [loc] at hn nC
    exact out A r3.heap.objs.size r6 m H5 back hq hn (I3.fpOk (Nat.le_refl _) nC)
  · refine thnF (T.item (X.blk r3 H3 scope ce fp) rfl rfl rfl calm i [] r5 _ H5 (fun _ _ => False) I5 (st I5 n5) t5 hgo) fun r r6 ⟨u, hr, h6⟩ => ?_
    subst hr
    refine thnF h6 fun _ r7 ⟨x, H7, I7, rx, y7, t7, n7⟩ => ?_
    have I7p := I7.pinned (st I7 n7) (T.obj _ _ t7)
    refine thnF (pg.run _ r7 _ H7 x u _ I7p rx (step x H7 y7)) fun _ r8 ⟨σ8, H8, I8, w8, q8⟩ => ?_
    refine thnF (pt.run _ r8 σ8 H8 _ I8 q8) fun b r9 ⟨H9, I9, q9⟩ => ?_
    have fin : ∀ {s' : Shared} {H' : Hp}, Inv (X.blk r3 H3 scope ce fp) ([] ++ pinsAt fp r7.heap) σ8 H' s' → Nx H' → ∃ m, m < n ∧ ∃ i H', Inv (X.blk r3 H3 scope ce fp) [] (wipe σ (own.map (·.2))) H' s' ∧ tn i s'.heap ∧ (∀ b ∈ fp, H' b = none) ∧ U i m H' := fun {s' H'} J' nx => by
      obtain ⟨m', hm, u'⟩ := hNx H' nx
      have pinned : ∀ b ∈ fp, ∀ o, r7.heap.get? b = some o → s'.heap.get? b = some o ∧ H' b = none := fun b hb o e =>
        let z := J'.pin (b, o) (List.mem_append_right _ (List.mem_append_right _ (mem_pinsAt hb e)))
        ⟨z.1, z.2.1⟩
      refine ⟨m', hm, i + 1, H', (J'.unpinned (pins := [])).weak (by rw [← w8, wipe_length]) (fun j v e => ?_), T.keep _ _ _ t7 fun b hb o e => (pinned b hb o e).1, fun b hb => ?_, u'⟩
      · rw [← w8] at e
        exact (wipe_some e).1
      · obtain ⟨o, e, _⟩ := T.obj _ _ t7 b hb
        exact (pinned b hb o e).2
    cases b with
    | false =>
      rw [if_neg Bool.false_ne_true] at q9 ⊢
      exact fin I9 q9
    | true =>
      rw [if_pos rfl] at q9 ⊢
      exact thnF (pe.run _ r9 σ8 H9 _ I9 q9) fun z r10 ⟨yv, H10, I10, ry, acc, hA10, hz10, nx⟩ => app_ok (X := X.blk r3 H3 scope ce fp) I10 hA10 hz10 ry fun r11 I11 => fin I11 nx
section
variable [TabC] {T T' : Tx} {X : Cx} {W : WX} {c : Cl} {σ : L2.St} {ρ ρ' ρ1 : List Addr} {H H' H1 : Hp} {γ γ' : Env} {S : Store} {pos : Pos}
/-- the turns of a comprehension -/
theorem lc_turns {m : Bool} {w ws : List Nat} {g : TTg} {t : TTs} {e : TEx} {J : It} {d : Itr} {S1 : Store} {D : Addr} {Q : VK} (hw : ∀ j ∈ ws, j ∈ w) (hD : H1 D = none) (hS1 : RepS X.K ρ1 H1 S1) (hE : RepE T'.toTb X.K (ρ1 ++ [D]) (upd H1 D (.lst [])) γ' σ)
    (r : match d with
      | .its xs => Walks T' X (ρ1 ++ [D]) (upd H1 D (.lst [])) J xs
      | .ref i => ∃ a, ρ1[i]? = some a ∧ J = Itl X.K a)
    (hP1 : Po T X W (rV T X) σ ρ1 H1 (lcFin m S1.length (lcRun g t e c (wipeE γ' w) S1.length d (S1 ++ [.lst []]))) Q) :
    Turns J (rdTg T' X g ws) (rdT T' X WF c t) (rdE T' X WF c e) w σ D H1 Q := by
  have em : Ext ρ1 (ρ1 ++ [D]) H1 (upd H1 D (.lst [])) := Ext.newMem hD
  have hE2 : RepE T'.toTb X.K (ρ1 ++ [D]) (upd H1 D (.lst [])) (wipeE γ' w) (wipe σ w) := hE.wipe
  have hS2 : RepS X.K (ρ1 ++ [D]) (upd H1 D (.lst [])) (S1 ++ [.lst []]) := hS1.newMem hD RepDs.nil
  have hDn : (ρ1 ++ [D])[S1.length]? = some D := by rw [← hS1.len]; simp
  cases d with
  | its xs =>
    have wk : Walks T' X (ρ1 ++ [D]) (upd H1 D (.lst [])) J xs := r
    obtain ⟨Rr, hR⟩ : ∃ Rr, lcLoop g t e c (wipeE γ' w) S1.length xs (S1 ++ [.lst []]) = Rr := ⟨_, rfl⟩
    have hP1' : Po T X W (rV T X) σ ρ1 H1 (lcFin m S1.length Rr) Q := by rw [← hR]; exact hP1
    refine ⟨fun i k H' => k = xs.length - i ∧ i ≤ xs.length ∧ ∃ S' ρ', Ext (ρ1 ++ [D]) ρ' (upd H1 D (.lst [])) H' ∧ RepS X.K ρ' H' S' ∧ lcLoop g t e c (wipeE γ' w) S1.length (xs.drop i) S' = Rr, ⟨_, rfl, Nat.zero_le _, _, _, Ext.refl _ _, hS2, hR⟩, ?_⟩
    rintro i k H' ⟨rfl, hl, S', ρ', e', hS', eq⟩
    by_cases hlt : i < xs.length
    · have hx : xs[i]? = some xs[i] := List.getElem?_eq_getElem hlt
      obtain ⟨g1, g2⟩ := wk.go i ρ' H' _ e' hx
      refine .inr ⟨g1, fun H2 => ∃ S' ρ', Ext (ρ1 ++ [D]) ρ' (upd H1 D (.lst [])) H2 ∧ RepS X.K ρ' H2 S' ∧ lcLoop g t e c (wipeE γ' w) S1.length (xs.drop (i + 1)) S' = Rr, fun H2 q => ⟨_, by omega, rfl, hlt, q⟩, fun v H2 y => ?_⟩
      obtain ⟨y1, y2⟩ := g2 v H2 y
      have ey : Ext ρ' ρ' H' H2 := ext_yld y1
      rw [List.drop_eq_getElem_cons hlt] at eq
      unfold lcLoop at eq
      refine lc_turn hw (e'.get hDn) (hE2.mono hS2.out (e'.trans ey)) (reps_yld y1 hS') y2 eq ?_ fun S3 ρ3 H3 e3 hS3 q => ⟨S3, ρ3, (e'.trans ey).trans e3, hS3, q⟩
      cases Rr with
      | ok u S3 => exact ⟨S3, rfl⟩
      | er kk x S3 => exact hP1'.elim
      | stuck => exact hP1'.elim
    · have hi : i = xs.length := by omega
      subst hi
      rw [List.drop_length] at eq
      rw [← eq] at hP1'
      exact .inl ⟨wk.stop _ ρ' H' e' (Nat.le_refl _), lc_end hD hS1.len e' hS' hP1'⟩
  | ref o =>
    obtain ⟨a, ha, rfl⟩ := r
    obtain ⟨Rr, hR⟩ : ∃ Rr, lcRef g t e c (wipeE γ' w) S1.length o (LINE + 1) 0 (S1 ++ [.lst []]) = Rr := ⟨_, rfl⟩
    have hP1' : Po T X W (rV T X) σ ρ1 H1 (lcFin m S1.length Rr) Q := by rw [← hR]; exact hP1
    have hok : ∃ S3, Rr = .ok () S3 := by
      cases Rr with
      | ok u S3 => exact ⟨S3, rfl⟩
      | er kk x S3 => exact hP1'.elim
      | stuck => exact hP1'.elim
    refine ⟨fun i k H' => ∃ S' ρ', Ext (ρ1 ++ [D]) ρ' (upd H1 D (.lst [])) H' ∧ RepS X.K ρ' H' S' ∧ lcRef g t e c (wipeE γ' w) S1.length o k i S' = Rr, ⟨_, _, _, Ext.refl _ _, hS2, hR⟩, ?_⟩
    rintro i k H' ⟨S', ρ', e', hS', eq⟩
    obtain ⟨S0, rfl⟩ := hok
    cases k with
    | zero => cases eq
    | succ k =>
      have ha' : ρ'[o]? = some a := (em.trans e').get ha
      unfold lcRef at eq
      cases eo : S'[o]? with
      | none => rw [eo] at eq; cases eq
      | some ob =>
        cases ob with
        | dct kvs => rw [eo] at eq; cases eq
        | lst xs =>
          rw [eo] at eq
          dsimp only at eq
          obtain ⟨a', vs, b1, b2, b3⟩ := hS'.at_ o xs eo
          rw [ha'] at b1
          cases b1
          cases en : xs[i]? with
          | none =>
            rw [en] at eq
            cases eq
            exact .inl ⟨⟨vs, SqL.of b2, by rw [b3.length]; exact List.getElem?_eq_none_iff.mp en⟩, lc_end hD hS1.len e' hS' hP1'⟩
          | some x =>
            rw [en] at eq
            obtain ⟨v, n1, n2⟩ := b3.get en
            refine .inr ⟨⟨vs, v, SqL.of b2, n1⟩, fun H2 => ∃ S' ρ', Ext (ρ1 ++ [D]) ρ' (upd H1 D (.lst [])) H2 ∧ RepS X.K ρ' H2 S' ∧ lcRef g t e c (wipeE γ' w) S1.length o k (i + 1) S' = .ok () S0, fun H2 q => ⟨k, Nat.lt_succ_self _, q⟩, fun v' H2 y => ?_⟩
            obtain ⟨rfl, y2⟩ := y
            have ev := y2 vs (SqL.of b2)
            rw [n1] at ev
            cases ev
            exact lc_turn (x := .d x) (K0 := fun S3 => lcRef g t e c (wipeE γ' w) S1.length o k (i + 1) S3) hw (e'.get hDn) (hE2.mono hS2.out e') hS' (by unfold RepV; exact n2) eq ⟨S0, rfl⟩ fun S3 ρ3 H3 e3 hS3 q => ⟨S3, ρ3, e'.trans e3, hS3, q⟩
/-- a comprehension's evaluator, by the frame's sort -/
def cvI (cV : Env → List Vl → Option (List Vl)) (γ : Env) : Itr → Option Itr
  | .its xs => match cV γ xs with
    | some ys => some (.its ys)
    | none => none
  | .ref i => some (.ref i)
def xLcG (cE : Env → Env) (cV : Env → List Vl → Option (List Vl)) (m : Bool) (w : List Nat) (it : TIt) (g : TTg) (t : TTs) (e : TEx) : TEx := fun c γ S => (it c γ S).bind fun J S1 => match cvI cV γ J with
  | some J' => lcFin m S1.length (lcRun g t e c (wipeE (cE γ) w) S1.length J' (S1 ++ [.lst []]))
  | none => .stuck
theorem xLcG_plain (m : Bool) (w : List Nat) (it : TIt) (g : TTg) (t : TTs) (e : TEx) : xLcG (fun γ => γ) (fun _ xs => some xs) m w it g t e = xLc m w it g t e := by
  funext c γ S
  unfold xLcG xLc
  congr 1
  funext J S1
  cases J <;> rfl
theorem xLcG_lam (N : List Str) (m : Bool) (w : List Nat) (it : TIt) (g : TTg) (t : TTs) (e : TEx) : xLcG (fun γ => clsE (cpOf N γ) γ) (fun γ xs => clsVs (cpOf N γ) xs) m w it g t e = xLcL N m w it g t e := by
  funext c γ S
  unfold xLcG xLcL
  congr 1
/-- what the text promises of a block's parts -/
def BlkT (T : Tx) (X : Cx) (c : Cl) (tg elt : Expr) (ifs : List Expr) (scope : Scope) (g : TTg) (ws : List Nat) (t : TTs) (e : TEx) : Prop :=
  ∀ (T' : Tx) (s : Shared) (H : Hp) (C : Addr) (cl : List (Str × Addr)) (fp : List Addr), TLe T.toTb T'.toTb → (∀ l, ¬ T'.mkd l) → Anc T' (bl X s H scope C cl fp) →
    PG (bl X s H scope C cl fp) tg (rdTg T' (bl X s H scope C cl fp) g ws) ∧ PTs (bl X s H scope C cl fp) ifs (rdT T' (bl X s H scope C cl fp) WF c t) ∧ PE (bl X s H scope C cl fp) elt (rdE T' (bl X s H scope C cl fp) WF c e)
theorem ok_lcC {cE : Env → Env} {cV : Env → List Vl → Option (List Vl)} {pins : List (Addr × Obj)} {s : Shared} {Q : VK} {m : Bool} {elt tg iter : Expr} {ifs : List Expr} {scope : Scope} {own : List (Str × Nat)} {ws : List Nat} {it : TIt} {g : TTg} {t : TTs} {e : TEx} {pos' : Pos} {use : Option (Value → Sem Unit)} {Qf : Value → Shared → Prop}
    (B : BlkA T X cE cV) (hc : X.calm = true) (hN : X.N.Nodup) (I : Inv X pins σ H s) (hi : PI X tg iter (rdI T X W c it)) (ok : BlkOk X.N X.env.scope scope own) (hb : BlkT T X c tg elt ifs scope g ws t e) (hw : ∀ j ∈ ws, j ∈ own.map (·.2)) (hs : ∀ x, foldedSetIterable iter X.env x = pure x)
    (h : rdE T X W c (xLcG cE cV m (own.map (·.2)) it g t e) σ H Q)
    (out : ∀ A B s' m H', Inv X pins σ H' s' → Q (.ref A) H' → s'.heap.Ns B m → FpOk X pins H' B → compPost (model X.prog X.w) X.A X.xe use Qf (.ref A) B (.ok .next) s') :
    wpAny (model X.prog X.w) X.A (comprehension (.ListComp elt [⟨tg, iter, ifs, 0⟩] scope pos) scope X.env pos' (newList []) false (eval iter X.env) use) Qf X.xe s := by
  obtain ⟨γ, S, ρ, hE, hS, hP⟩ := h
  refine lc_own (Z := fun J H1 => ∃ (d : Itr) (S1 : Store) (ρ1 : List Addr), rI T X ρ1 H1 d J ∧ RepE T.toTb X.K ρ1 H1 γ σ ∧ RepS X.K ρ1 H1 S1 ∧ Po T X W (rV T X) σ ρ1 H1 (match cvI cV γ d with
    | some J' => lcFin m S1.length (lcRun g t e c (wipeE (cE γ) (own.map (·.2))) S1.length J' (S1 ++ [.lst []]))
    | none => .stuck) Q) hc hN I hi ok hs (rd_bind hE hS hP fun J H1 d S1 ρ1 e1 r hE1 hS1 hP1 => ⟨d, S1, ρ1, r, hE1, hS1, hP1⟩) (fun J H1 A s1 ⟨d, S1, ρ1, r, hE1, hS1, hP1⟩ nA I3 => ?_) out
  have em : Ext ρ1 (ρ1 ++ [A]) H1 (upd H1 A (.lst [])) := Ext.newMem nA
  have hS2 : RepS X.K (ρ1 ++ [A]) (upd H1 A (.lst [])) (S1 ++ [.lst []]) := hS1.newMem nA RepDs.nil
  obtain ⟨T', le, mk, ex, an, hE', cv⟩ := B.go I3 hS2.out (hE1.mono hS1.out em)
  refine ⟨rdTg T' X g ws, rdT T' X WF c t, rdE T' X WF c e, ?_, ?_⟩
  · have anc : ∀ C cl fp, (∀ b ∈ fp, ∃ o, s1.heap.get? b = some o ∧ ∀ v, o.data ≠ .cell v) → Anc T' (bl X s1 (upd H1 A (.lst [])) scope C cl fp) := fun C cl fp hf => ⟨fun b u hu => by
      obtain ⟨⟨o, k1, k2⟩, k3⟩ := an b u hu
      refine ⟨⟨o, k1, k2⟩, k3, fun z => ?_⟩
      obtain ⟨o', j1, j2⟩ := hf b z
      rw [k1] at j1; cases j1
      exact j2 _ k2, ex⟩
    exact ⟨fun C cl fp hf => (hb T' _ _ C cl fp le mk (anc C cl fp hf)).1, fun C cl fp hf => (hb T' _ _ C cl fp le mk (anc C cl fp hf)).2.1, fun C cl fp hf => (hb T' _ _ C cl fp le mk (anc C cl fp hf)).2.2⟩
  · cases d with
    | ref i => exact lc_turns (T := T) (W := W) (d := .ref i) hw nA hS1 hE' r hP1
    | its xs =>
      unfold cvI at hP1
      dsimp only at hP1
      cases q : cV γ xs with
      | none => rw [q] at hP1; exact hP1.elim
      | some ys =>
        rw [q] at hP1
        obtain ⟨hl, hv⟩ := cv xs ys q
        have wk : Walks T X ρ1 H1 J xs := r hS1.out
        refine lc_turns (T := T) (W := W) (d := .its ys) hw nA hS1 hE' ⟨fun i ρ' H' y e hy => ?_, fun i ρ' H' e hy => wk.stop i ρ' H' (em.trans e) (by rw [← hl]; exact hy)⟩ hP1
        have hlt : i < xs.length := by rw [← hl]; exact (List.getElem?_eq_some_iff.mp hy).1
        have hx : xs[i]? = some xs[i] := List.getElem?_eq_getElem hlt
        obtain ⟨g1, g2⟩ := wk.go i ρ' H' _ (em.trans e) hx
        refine ⟨g1, fun v H2 hyl => ?_⟩
        obtain ⟨y1, y2⟩ := g2 v H2 hyl
        exact ⟨y1, hv ρ' H2 i _ _ v (e.trans (ext_yld y1)) hx hy y2⟩
theorem ok_lc {cE : Env → Env} {cV : Env → List Vl → Option (List Vl)} {m : Bool} {elt tg iter : Expr} {ifs : List Expr} {scope : Scope} {own : List (Str × Nat)} {ws : List Nat} {it : TIt} {g : TTg} {t : TTs} {e : TEx}
    (B : BlkA T X cE cV) (hc : X.calm = true) (hN : X.N.Nodup) (hi : PI X tg iter (rdI T X W c it)) (ok : BlkOk X.N X.env.scope scope own) (hb : BlkT T X c tg elt ifs scope g ws t e) (hw : ∀ j ∈ ws, j ∈ own.map (·.2)) (hs : ∀ x, foldedSetIterable iter X.env x = pure x) :
    PE X (.ListComp elt [⟨tg, iter, ifs, 0⟩] scope pos) (rdE T X W c (xLcG cE cV m (own.map (·.2)) it g t e)) := by
  refine ⟨fun pins s σ H Q I h => ?_⟩
  rw [eval_ListComp]
  refine ok_lcC B hc hN I hi ok hb hw hs h fun A B s' m H' J q hn f => ⟨m, hn, fun h2 sb => ?_⟩
  obtain ⟨f0, f1, f2, f3, f4, f5⟩ := f
  exact ⟨.ref A, H', J.turned (t' := s'.toks) (fun b o hb e => (sb.2 b hb).trans e) f0 f1 f3 f4 f5, rfl, q⟩
theorem oks_setLc {cE : Env → Env} {cV : Env → List Vl → Option (List Vl)} {m : Bool} {i : Nat} {y : Str} {py spos : Pos} {elt tg iter : Expr} {ifs : List Expr} {scope : Scope} {own : List (Str × Nat)} {ws : List Nat} {it : TIt} {g : TTg} {t : TTs} {e : TEx}
    (B : BlkA T X cE cV) (hc : X.calm = true) (hN : X.N.Nodup) (hy : X.N[i]? = some y) (hyl : X.env.scope.names.lookup y = some .local) (hsw : swapsWith (.ListComp elt [⟨tg, iter, ifs, 0⟩] scope pos) (some (.Name y py)) spos.line X.env = pure true)
    (hi : PI X tg iter (rdI T X W c it)) (ok : BlkOk X.N X.env.scope scope own) (hb : BlkT T X c tg elt ifs scope g ws t e) (hw : ∀ j ∈ ws, j ∈ own.map (·.2)) (hs : ∀ x, foldedSetIterable iter X.env x = pure x) :
    PS X (.Assign [.Name y py] (.ListComp elt [⟨tg, iter, ifs, 0⟩] scope pos) spos) (rdS T X W c (sSet i (xLcG cE cV m (own.map (·.2)) it g t e))) := by
  refine ⟨fun pins s σ H D I ⟨γ, S, ρ, hE, hS, hP⟩ => ?_⟩
  have h : rdE T X W c (xLcG cE cV m (own.map (·.2)) it g t e) σ H fun v H1 => D.nx (σ.set i (some v)) H1 := rs_bind hE hS hP fun v H1 d S1 ρ1 e r hE1 hS1 hP1 => hP1 _ H1 ρ1 (Ext.refl _ _) (hE1.set r) hS1
  rw [exec_Assign_Name_used _ _ _ _ hsw]
  refine wpAny_bind (wpAny_standAt (wpAny_bind ?_))
  show wpAny _ X.A (do let _u ← comprehension (.ListComp elt [⟨tg, iter, ifs, 0⟩] scope pos) scope X.env (firstIterPos [⟨tg, iter, ifs, 0⟩] pos) (newList []) false (eval iter X.env) (some (assign (.Name y py) X.env))) _ _ s
  refine wpAny_bind (thn (ok_lcC (Qf := fun _ s' => SP X pins D .next s') B hc hN I hi ok hb hw hs h fun A C s' m H' I' q hn f => ?_) fun _ s' hq => wpAny_pure (wpAny_pure hq))
  show wpAny _ _ (assign (.Name y py) X.env (.ref A)) _ _ _
  refine wpAny_assign_Name (store_ok2 (v := V.ref A) I' hN hy (.inl hyl) rfl (fun s2 I2 ⟨a, sb, ha⟩ => ?_) (.inr hyl))
  obtain ⟨f0, f1, f2, f3, f4, f5⟩ := f
  have ne : C ≠ a := ha.elim (fun z => by rw [z]; exact f1) fun z e => f4 y a z e.symm
  exact ⟨m, hn.sameBut sb ne, fun h3 sb3 => ⟨_, H', I2.turned (t' := s2.toks) (fun b o hb e => (sb3.2 b hb).trans e) f0 f1 f3 f4 f5, q⟩⟩
end
end Mk
/-! Mk12: comprehensions as values, stores into objects, parallel stores. -/
namespace Mk
open PySem PySem.Spec PyProof.Rows L2
section
variable [TabC] {T : Tx} {X : Cx} {W : WX} {c : Cl} {σ : L2.St} {ρ ρ' ρ1 : List Addr} {H H' H1 : Hp} {γ : Env} {S : Store} {pos : Pos}
theorem okts_nil : PTs X [] (rdT T X W c Mk.tYes) := pts_nil.imp fun σ H Q ⟨γ, S, ρ, hE, hS, hP⟩ => hP true H ρ (Ext.refl _ _) rfl hS
theorem okts_one {e : Expr} {t : TTs} (h : PT X e (rdT T X W c t)) : PTs X [e] (rdT T X W c t) := pts_one h
/-! ### stores into objects -/
theorem pset_or {t t' : TSet} (h : PSet X t) (h' : PSet X t') : PSet X (fun o i v H Q => t o i v H Q ∨ t' o i v H Q) := by
  intro pins s σ H o i v ov iv u Q I ro ri rv q
  rcases q with q | q
  · exact h pins s σ H o i v ov iv u Q I ro ri rv q
  · exact h' pins s σ H o i v ov iv u Q I ro ri rv q
theorem oks_setIx (hu : X.A.units + 100 < cLine) {o i e : Expr} {xo xi xe : TEx} {p : Pos} (ho : PE X o (rdE T X W c xo)) (hi : PE X i (rdE T X W c xi)) (he : PE X e (rdE T X W c xe)) (hsw : swapsWithSole [.Subscript o i p] e pos.line X.env = pure false) (hst : swappedStores [.Subscript o i p] e X.env = pure none)
    (ha : ∀ v, assign (.Subscript o i p) X.env v = (do
      let ov ← holding [v] (eval o X.env)
      let iv ← holding [v, ov] (eval i X.env)
      standAt p
      holding [v, ov, iv] (setItem ov iv v)
      release [v, ov, iv] [])) (h1 : (assignEach [.Subscript o i p] X.env).map (·.2) = [assign (.Subscript o i p) X.env]) :
    PS X (.Assign [.Subscript o i p] e pos) (rdS T X W c (sSetIx xo xi xe)) :=
  (ps_asg he (pg_sub ho hi (pset_or set_list (set_dict (by omega))) ha) hsw hst h1).imp fun D σ H ⟨γ, S, ρ, hE, hS, hP⟩ => rs_bind hE hS hP fun v H1 d S1 ρ1 e1 r hE1 hS1 hP1 => rs_bind hE1 hS1 hP1 fun v2 H2 d2 S2 ρ2 e2 r2 hE2 hS2 hP2 => rs_bind hE2 hS2 hP2 fun v3 H3 d3 S3 ρ3 e3 r3 hE3 hS3 hP3 => by
    have ra := RepV.mono hS1.out (e2.trans e3) r
    have rb := RepV.mono hS2.out e3 r2
    split at hP3
    rotate_left
    · split at hP3
      case h_2 => exact hP3.elim
      rename_i S4 eq
      unfold setD at eq
      split at eq
      case h_2 => cases eq
      rename_i k y z _
      split at eq
      case h_2 => cases eq
      rename_i kvs eo
      split at eq
      case isFalse => cases eq
      rename_i hc
      cases eq
      rw [Bool.and_eq_true, decide_eq_true_eq] at hc
      unfold RepV at rb
      obtain ⟨a, b1, rfl⟩ := rb
      obtain ⟨a', ks, b2, b3, b4⟩ := hS3.atd _ kvs eo
      rw [b1] at b2
      cases b2
      have hm : a ∈ ρ3 := List.mem_of_getElem? b1
      have ra' : RepD X.K ρ3 H3 z v := by unfold RepV at ra; exact ra
      have r3' : RepD X.K ρ3 H3 y v3 := by unfold rV RepV at r3; exact r3
      obtain ⟨k', rfl, rfl⟩ := key_of_isK hc.1 r3'
      exact .inr ⟨a, _, rfl, DPut.k b3 (by rw [line_eq, b4.len]; exact hc.2), hP3 σ _ ρ3 (Ext.chg hm) (hE3.mono hS3.out (Ext.chg hm)) (hS3.chgOb b1 ⟨_, rfl, b4.put k' ra'⟩)⟩
    rename_i S4 eq
    unfold setAt at eq
    split at eq
    case h_2 => cases eq
    rename_i k j y
    split at eq
    case h_2 => cases eq
    rename_i xs eo
    unfold RepV at rb
    obtain ⟨a, b1, rfl⟩ := rb
    obtain ⟨a', vs, b2, b3, b4⟩ := hS3.at_ _ xs eo
    rw [b1] at b2
    cases b2
    have a3 := rep_intV r3
    subst a3
    have hm : a ∈ ρ3 := List.mem_of_getElem? b1
    have ra' : RepD X.K ρ3 H3 y v := by unfold RepV at ra; exact ra
    have fin : ∀ n : Nat, S4 = S3.set k (.lst (xs.set n y)) → ixN vs.length j = some n → rSetL (V.ref a) (V.int j) v H3 (D.nx σ) ∨ rSetD (V.ref a) (V.int j) v H3 (D.nx σ) := fun n e1 e2 => by
      subst e1
      refine .inl ⟨a, vs, j, n, rfl, rfl, b3, e2, hP3 σ _ ρ3 (Ext.chg hm) (hE3.mono hS3.out (Ext.chg hm)) (hS3.chg b1 (RepDs.set n b4 ra'))⟩
    have hl := b4.length
    split at eq
    · rename_i hj
      cases eq
      exact fin _ rfl (by unfold ixN; rw [if_pos hj.1, hl, if_pos hj.2])
    · split at eq
      · rename_i hj
        cases eq
        exact fin _ rfl (by unfold ixN; rw [if_neg (by omega), hl, if_pos hj.2])
      · cases eq
theorem oks_app {o e : Expr} {xo xe : TEx} {apos cpos : Pos} (ho : PE X o (rdE T X W c xo)) (he : PE X e (rdE T X W c xe)) (hbase : attributeBase o "append" X.env (eval o X.env) = eval o X.env) (hst : starEach [e] X.env = (false, eval e X.env) :: starEach [] X.env)
    (hfew : ((backTo cpos (starEach [e] X.env)).all (fun x => !x.1) && (backToKw cpos (keywordEach [] X.env)).all (fun x => x.1.isSome)
      && decide (([e] : List Expr).length + ([] : List Keyword).length + (if ([] : List Keyword).isEmpty then 0 else 1) < 30)) = true) (hline : (apos.endLine == cpos.line) = true) (hsw : swapsWith (.Call (.Attribute o "append" apos) [e] [] cpos) none pos.line X.env = pure false) :
    PS X (.Expr (.Call (.Attribute o "append" apos) [e] [] cpos) pos) (rdS T X W c (sApp xo xe)) :=
  (ps_expr (pe_bm (t := tCons (rdE T X W c xe) tNil) PySem.F.plainAttrs_list PySem.F.slot_list_append PySem.F.type_list_append mt_append ho (pa_cons he pa_nil hst) hbase hfew hline hst rfl) hsw).imp fun D σ H ⟨γ, S, ρ, hE, hS, hP⟩ => rs_bind hE hS hP fun v H1 d S1 ρ1 e1 r hE1 hS1 hP1 => by
    cases d with
    | r i =>
      unfold rV RepV at r
      obtain ⟨a, b1, rfl⟩ := r
      dsimp only at hP1
      cases q0 : S1[i]? with
      | none => rw [q0] at hP1; exact hP1.elim
      | some ob =>
      cases ob with
      | dct kvs => rw [q0] at hP1; exact hP1.elim
      | lst us0 =>
      rw [q0] at hP1
      obtain ⟨a0, us, b00, b0, _⟩ := hS1.at_ i _ q0
      rw [b1] at b00; cases b00
      refine ⟨.inl ⟨rfl, us, SqL.of b0⟩, rs_bind hE1 hS1 hP1 fun v2 H2 d2 S2 ρ2 e2 r2 hE2 hS2 hP2 => ?_⟩
      have b1' := e2.get b1
      have hm : a ∈ ρ2 := List.mem_of_getElem? b1'
      unfold app1 at hP2
      split at hP2
      case h_2 => exact hP2.elim
      rename_i S4 eq
      split at eq
      case h_2 => cases eq
      rename_i k y ei
      cases ei
      split at eq
      case h_2 => cases eq
      rename_i xs eo
      obtain ⟨a', vs, b2, b3, b4⟩ := hS2.at_ _ xs eo
      rw [b1'] at b2
      cases b2
      split at eq
      case isFalse => cases eq
      rename_i hl
      cases eq
      have r2' : RepD X.K ρ2 H2 y v2 := by unfold rV RepV at r2; exact r2
      exact ⟨a, vs, v2, rfl, rfl, b3, by rw [line_eq, b4.length]; exact hl, hP2 σ _ ρ2 (Ext.chg hm) (hE2.mono hS2.out (Ext.chg hm)) (hS2.chg b1' (b4.append (RepDs.cons r2' RepDs.nil)))⟩
    | _ => exact hP1.elim
theorem oks_ext {o e : Expr} {xo xe : TEx} {apos cpos : Pos} (ho : PE X o (rdE T X W c xo)) (he : PE X e (rdE T X W c xe)) (hbase : attributeBase o "extend" X.env (eval o X.env) = eval o X.env) (hst : starEach [e] X.env = (false, eval e X.env) :: starEach [] X.env)
    (hfew : ((backTo cpos (starEach [e] X.env)).all (fun x => !x.1) && (backToKw cpos (keywordEach [] X.env)).all (fun x => x.1.isSome)
      && decide (([e] : List Expr).length + ([] : List Keyword).length + (if ([] : List Keyword).isEmpty then 0 else 1) < 30)) = true) (hline : (apos.endLine == cpos.line) = true) (hsw : swapsWith (.Call (.Attribute o "extend" apos) [e] [] cpos) none pos.line X.env = pure false) :
    PS X (.Expr (.Call (.Attribute o "extend" apos) [e] [] cpos) pos) (rdS T X W c (sExt xo xe)) :=
  (ps_expr (pe_bm (t := tCons (rdE T X W c xe) tNil) PySem.F.plainAttrs_list PySem.F.slot_list_extend PySem.F.type_list_extend mt_extend ho (pa_cons he pa_nil hst) hbase hfew hline hst rfl) hsw).imp fun D σ H ⟨γ, S, ρ, hE, hS, hP⟩ => rs_bind hE hS hP fun v H1 d S1 ρ1 e1 r hE1 hS1 hP1 => by
    cases d with
    | r i =>
      unfold rV RepV at r
      obtain ⟨a, b1, rfl⟩ := r
      dsimp only at hP1
      cases q0 : S1[i]? with
      | none => rw [q0] at hP1; exact hP1.elim
      | some ob =>
      cases ob with
      | dct kvs => rw [q0] at hP1; exact hP1.elim
      | lst us0 =>
      rw [q0] at hP1
      obtain ⟨a0, us, b00, b0, _⟩ := hS1.at_ i _ q0
      rw [b1] at b00; cases b00
      refine ⟨.inl ⟨rfl, us, SqL.of b0⟩, rs_bind hE1 hS1 hP1 fun v2 H2 d2 S2 ρ2 e2 r2 hE2 hS2 hP2 => ?_⟩
      have b1' := e2.get b1
      have hm : a ∈ ρ2 := List.mem_of_getElem? b1'
      unfold ext1 at hP2
      split at hP2
      case h_2 => exact hP2.elim
      rename_i S4 eq
      split at eq
      case h_2 => cases eq
      rename_i xs ys eo ed
      split at eq
      case isFalse => cases eq
      rename_i hl
      cases eq
      obtain ⟨a', vs, b2, b3, b4⟩ := hS2.at_ _ xs eo
      rw [b1'] at b2
      cases b2
      obtain ⟨b, ws, rfl, c3, c4⟩ := now_lst (dat_rep hS2 r2 ed)
      exact ⟨a, b, vs, ws, rfl, rfl, b3, c3, by rw [line_eq, b4.length, c4.length]; exact hl, hP2 σ _ ρ2 (Ext.chg hm) (hE2.mono hS2.out (Ext.chg hm)) (hS2.chg b1' (b4.append c4))⟩
    | _ => exact hP1.elim
/-! ### d.update(e) -/
def rUpdD : L2.V → List L2.V → Hp → VK → Prop := fun x vs H Q => ∃ (a b : Addr) (ks ms : List (L2.Key × L2.V)), x = .ref a ∧ vs = [.ref b] ∧ a ≠ b ∧ H a = some (.dK ks) ∧ H b = some (.dK ms) ∧ ks.length + ms.length ≤ sizeLine ∧ Q .non (upd H a (.dK (mergeK ks ms)))
theorem mt_updD : MtR X "dict.update" rUpdD := by
  intro pins s σ H x vs v us Q I rx rv h
  obtain ⟨a, b, ks, ms, rfl, rfl, ne, ea, eb, hl, q⟩ := h
  obtain rfl : v = Value.ref a := rx
  obtain ⟨u, rfl, ru⟩ := vals1 rv
  obtain rfl : u = Value.ref b := ru
  obtain ⟨z, hd, vs, rel, dd⟩ := dk_of I.hok ea
  obtain ⟨z2, hd2, ws, rel2, dd2⟩ := dk_of I.hok eb
  refine call_meetsIn PySem.F.slot_dict_update dd.typeIs PySem.F.entry_dict_update (PySem.F.args_dict_update_2 _ _) (meets_dict_update (mixKind X.prog X.w) a b ne hd2) ⟨vs, ws, dd, dd2, by rw [← rel.length, ← rel2.length]; exact hl, fun h' dd' _ hs => ⟨.non, _, ?_, rfl, q⟩⟩
  have he : ∃ q, h'.get? a = some q := let ⟨q, _, _, hq, _⟩ := dd'; ⟨q, hq⟩
  exact d_write (t' := s.toks) I (by rw [ea]; exact True.intro) hs he (dk_new (Nat.le_trans (length_mergeK _ _) hl) hd (KV.merge rel2 rel) dd')
theorem oks_upd {o e : Expr} {xo xe : TEx} {apos cpos : Pos} (ho : PE X o (rdE T X W c xo)) (he : PE X e (rdE T X W c xe)) (hbase : attributeBase o "update" X.env (eval o X.env) = eval o X.env) (hst : starEach [e] X.env = (false, eval e X.env) :: starEach [] X.env)
    (hfew : ((backTo cpos (starEach [e] X.env)).all (fun x => !x.1) && (backToKw cpos (keywordEach [] X.env)).all (fun x => x.1.isSome)
      && decide (([e] : List Expr).length + ([] : List Keyword).length + (if ([] : List Keyword).isEmpty then 0 else 1) < 30)) = true) (hline : (apos.endLine == cpos.line) = true) (hsw : swapsWith (.Call (.Attribute o "update" apos) [e] [] cpos) none pos.line X.env = pure false) :
    PS X (.Expr (.Call (.Attribute o "update" apos) [e] [] cpos) pos) (rdS T X W c (sUpd xo xe)) :=
  (ps_expr (pe_bm (t := tCons (rdE T X W c xe) tNil) PySem.F.plainAttrs_dict PySem.F.slot_dict_update PySem.F.type_dict_update mt_updD ho (pa_cons he pa_nil hst) hbase hfew hline hst rfl) hsw).imp fun D σ H ⟨γ, S, ρ, hE, hS, hP⟩ => rs_bind hE hS hP fun v H1 d S1 ρ1 e1 r hE1 hS1 hP1 => by
    cases d with
    | r i =>
      unfold rV RepV at r
      obtain ⟨a, b1, rfl⟩ := r
      dsimp only at hP1
      cases q0 : S1[i]? with
      | none => rw [q0] at hP1; exact hP1.elim
      | some ob =>
      cases ob with
      | lst us0 => rw [q0] at hP1; exact hP1.elim
      | dct kvs0 =>
      rw [q0] at hP1
      obtain ⟨a0, us, b00, b0, _⟩ := hS1.atd i _ q0
      rw [b1] at b00; cases b00
      refine ⟨.inr (.inr (.inl ⟨rfl, .inl ⟨us, b0⟩⟩)), rs_bind hE1 hS1 hP1 fun v2 H2 d2 S2 ρ2 e2 r2 hE2 hS2 hP2 => ?_⟩
      have b1' := e2.get b1
      have hm : a ∈ ρ2 := List.mem_of_getElem? b1'
      unfold upd1 at hP2
      split at hP2
      case h_2 => exact hP2.elim
      rename_i S4 eq
      split at eq
      case h_2 => cases eq
      rename_i kvs more eo ed
      split at eq
      case isFalse => cases eq
      rename_i hl
      cases eq
      rw [Bool.and_eq_true, decide_eq_true_eq] at hl
      obtain ⟨a', ks, b2, b3, b4⟩ := hS2.atd _ kvs eo
      rw [b1'] at b2
      cases b2
      obtain ⟨b, ms, rfl, c3, c4⟩ := dko_rep hS2 r2 ed
      have ne : a ≠ b := fun z => by
        subst z
        unfold dko at ed
        split at ed
        · unfold rV RepV RepD at r2
          obtain ⟨a2, _, q1, q2, _⟩ := r2
          cases q1
          exact q2 hm
        · rename_i j
          unfold rV RepV at r2
          obtain ⟨a2, q1, q2⟩ := r2
          cases q2
          have : i = j := by
            obtain ⟨l1, e1⟩ := List.getElem?_eq_some_iff.mp b1'
            obtain ⟨l2, e2⟩ := List.getElem?_eq_some_iff.mp q1
            exact (List.getElem_inj hS2.nd).mp (e1.trans e2.symm)
          subst this
          have h2 := hl.2
          unfold isRef at h2
          simp at h2
        · cases ed
      exact ⟨a, b, ks, ms, rfl, rfl, ne, b3, c3, by rw [line_eq, b4.len, c4.len]; exact hl.1, hP2 σ _ ρ2 (Ext.chg hm) (hE2.mono hS2.out (Ext.chg hm)) (hS2.chgOb b1' ⟨_, rfl, c4.mergeD b4⟩)⟩
    | _ => exact hP1.elim
/-! ### name += e, parallel stores -/
theorem oks_aug {i : Nat} {x : Str} {e : Expr} {xe : TEx} {p : Pos} (hN : X.N.Nodup) (hi : X.N[i]? = some x) (hx : Loc X.env.scope x) (h : PE X e (rdE T X W c xe)) (hf : X.fn x = true ∨ X.env.scope.names.lookup x = some .local) :
    PS X (.AugAssign (.Name x p) .Add e pos) (rdS T X W c (sAug i .add xe)) :=
  (ps_aug hN hi hx h ip_add hf).imp fun D σ H ⟨γ, S, ρ, hE, hS, hP⟩ => by
    unfold sAug at hP
    split at hP
    case h_2 => exact hP.elim
    rename_i k e1
    obtain ⟨x', h1, h2⟩ := hE.at_ i _ e1
    have := rep_intV h2
    subst this
    refine ⟨_, h1, rs_bind hE hS hP fun v H1 d S1 ρ1 e r hE1 hS1 hP1 => ?_⟩
    split at hP1
    case h_2 => exact hP1.elim
    rename_i j _
    have := rep_intV r
    subst this
    exact ⟨k, j, rfl, rfl, hP1 _ H1 ρ1 (Ext.refl _ _) (hE1.set rep_int) hS1⟩
theorem oks_par {i j : Nat} {x y : Str} {a b : Expr} {xa xb : TEx} {px py pt pt2 : Pos} {kt k2 : Nat} (hc : X.calm = true) (hN : X.N.Nodup) (hi : X.N[i]? = some x) (hj : X.N[j]? = some y) (hij : i ≠ j) (hx : X.env.scope.names.lookup x = some .local) (hy : X.env.scope.names.lookup y = some .local)
    (ha : PE X a (rdE T X W c xa)) (hb : PE X b (rdE T X W c xb)) (sa : starEach [a, b] X.env = (false, eval a X.env) :: starEach [b] X.env) (sb : starEach [b] X.env = (false, eval b X.env) :: starEach [] X.env)
    (hw : swappedStores [.Tuple [.Name x px, .Name y py] kt pt] (.Tuple [a, b] k2 pt2) X.env = pure (some [x, y])) (hs : swapsWithSole [.Tuple [.Name x px, .Name y py] kt pt] (.Tuple [a, b] k2 pt2) pos.line X.env = pure false) :
    PS X (.Assign [.Tuple [.Name x px, .Name y py] kt pt] (.Tuple [a, b] k2 pt2) pos) (rdS T X W c (sPar i j xa xb)) :=
  (ps_par (ta := tCons (rdE T X W c xa) (tCons (rdE T X W c xb) tNil)) hc hN hi hj hij hx hy (pa_cons ha (pa_cons hb pa_nil sb) sa) hw hs).imp fun D σ H ⟨γ, S, ρ, hE, hS, hP⟩ => rs_bind hE hS hP fun v H1 d S1 ρ1 e1 r hE1 hS1 hP1 => rs_bind hE1 hS1 hP1 fun v2 H2 d2 S2 ρ2 e2 r2 hE2 hS2 hP2 =>
    ⟨v, v2, rfl, hP2 _ H2 ρ2 (Ext.refl _ _) ((hE2.set (RepV.mono hS1.out e2 r)).set r2) hS2⟩
theorem oks_par3 {i j l : Nat} {x y z : Str} {a b e : Expr} {xa xb xe : TEx} {px py pz pt pt2 : Pos} {kt k2 : Nat} (hc : X.calm = true) (hN : X.N.Nodup) (hi : X.N[i]? = some x) (hj : X.N[j]? = some y) (hl : X.N[l]? = some z) (hij : i ≠ j) (hil : i ≠ l) (hjl : j ≠ l) (hx : X.env.scope.names.lookup x = some .local) (hy : X.env.scope.names.lookup y = some .local) (hz : X.env.scope.names.lookup z = some .local)
    (ha : PE X a (rdE T X W c xa)) (hb : PE X b (rdE T X W c xb)) (he : PE X e (rdE T X W c xe)) (sa : starEach [a, b, e] X.env = (false, eval a X.env) :: starEach [b, e] X.env) (sb : starEach [b, e] X.env = (false, eval b X.env) :: starEach [e] X.env) (se : starEach [e] X.env = (false, eval e X.env) :: starEach [] X.env)
    (hw : swappedStores [.Tuple [.Name x px, .Name y py, .Name z pz] kt pt] (.Tuple [a, b, e] k2 pt2) X.env = pure (some [x, y, z])) (hs : swapsWithSole [.Tuple [.Name x px, .Name y py, .Name z pz] kt pt] (.Tuple [a, b, e] k2 pt2) pos.line X.env = pure false) :
    PS X (.Assign [.Tuple [.Name x px, .Name y py, .Name z pz] kt pt] (.Tuple [a, b, e] k2 pt2) pos) (rdS T X W c (sPar3 i j l xa xb xe)) :=
  (ps_par3 (ta := tCons (rdE T X W c xa) (tCons (rdE T X W c xb) (tCons (rdE T X W c xe) tNil))) hc hN hi hj hl hij hil hjl hx hy hz (pa_cons ha (pa_cons hb (pa_cons he pa_nil se) sb) sa) hw hs).imp fun D σ H ⟨γ, S, ρ, hE, hS, hP⟩ => rs_bind hE hS hP fun v H1 d S1 ρ1 e1 r hE1 hS1 hP1 => rs_bind hE1 hS1 hP1 fun v2 H2 d2 S2 ρ2 e2 r2 hE2 hS2 hP2 => rs_bind hE2 hS2 hP2 fun v3 H3 d3 S3 ρ3 e3 r3 hE3 hS3 hP3 =>
    ⟨v, v2, v3, rfl, hP3 _ H3 ρ3 (Ext.refl _ _) (((hE3.set (RepV.mono hS1.out (e2.trans e3) r)).set (RepV.mono hS2.out e3 r2)).set r3) hS3⟩
end
end Mk
/-! Mk13: a def by its body. -/
namespace Mk
open PySem PySem.Spec PyProof.Rows L2
section
variable [TabC] {T : Tx} {X : Cx} {W : WX} {c : Cl} {σ : L2.St} {ρ ρ' ρ1 : List Addr} {H H' H1 : Hp} {γ : Env} {S : Store} {pos : Pos}
theorem Ext.shrink (e : Ext ρ ρ' H H') : Ext ρ ρ H H' := ⟨⟨[], by simp, by simp⟩, e.keep, e.stay⟩
theorem RepS.back (s : RepS X.K ρ' H' S) (e : Ext ρ ρ' H H') : RepS X.K ρ H' (S.take ρ.length) := by
  have := s.take (n := ρ.length)
  rwa [e.take] at this
theorem fin_ok {keep : Bool} {v : Vl} {x : L2.V} {Q : VK} {E : XK} (e : Ext ρ ρ' H H') (r : RepV T.toTb X.K ρ' H' v x) (s : RepS X.K ρ' H' S) (h : PoF T X.K ρ H (fin keep ρ.length v S) Q E) : Q x H' := by
  have sb : ∀ a ∈ ρ, a ∈ ρ' := fun a ha => by
    obtain ⟨⟨t, rfl, _⟩, _, _⟩ := e
    exact List.mem_append_left _ ha
  have hl : ρ.length ≤ ρ'.length := by
    obtain ⟨⟨t, rfl, _⟩, _, _⟩ := e
    simp
  unfold fin at h
  cases v with
  | d y =>
    refine h x H' ρ e.shrink ?_ (s.back e)
    unfold RepV at r
    unfold RepF
    exact r.sub sb
  | r i =>
    unfold RepV at r
    obtain ⟨a, h1, rfl⟩ := r
    dsimp only at h
    split at h
    · rename_i hi
      refine h _ H' ρ e.shrink ?_ (s.back e)
      unfold RepF
      refine ⟨a, ?_, rfl⟩
      obtain ⟨⟨t, rfl, _⟩, _, _⟩ := e
      rwa [List.getElem?_append_left hi] at h1
    · rename_i hi
      split at h
      case h_2 => exact h.elim
      rename_i xs eo
      obtain ⟨a', vs, b1, b2, b3⟩ := s.ob eo
      rw [h1] at b1
      cases b1
      have hn : a ∉ ρ := fun z => by
        obtain ⟨⟨t, rfl, _⟩, _, _⟩ := id e
        have nd := (List.nodup_append.mp s.nd).2.2
        rw [List.getElem?_append_right (Nat.le_of_not_lt hi)] at h1
        exact nd a z a (List.mem_of_getElem? h1) rfl
      split at h
      · -- it stays an object
        refine h _ H' (ρ ++ [a]) ?_ ?_ ?_
        · obtain ⟨⟨t, rfl, ht⟩, k, st⟩ := id e
          refine ⟨⟨[a], rfl, fun b hb => ?_⟩, k, st⟩
          have : b = a := by simpa using hb
          subst this
          rw [List.getElem?_append_right (Nat.le_of_not_lt hi)] at h1
          exact ht _ (List.mem_of_getElem? h1)
        · unfold RepF
          exact ⟨a, by simp, rfl⟩
        · have sb2 : ∀ b ∈ ρ ++ [a], b ∈ ρ' := fun b hb => by
            rcases List.mem_append.mp hb with z | z
            · exact sb b z
            · have : b = a := by simpa using z
              subst this
              exact List.mem_of_getElem? h1
          have lt : (S.take ρ.length).length = ρ.length := by rw [List.length_take, ← s.len]; omega
          refine RepS.mk' (by rw [List.length_append, List.length_append, lt]; rfl) (List.nodup_append.mpr ⟨?_, by simp, fun b hb b' hb' z => ?_⟩) (fun b hb => s.out b (sb2 b hb)) s.tab fun j ys q => ?_
          · have := s.nd
            rw [← e.take]
            exact this.sublist (List.take_sublist _ _)
          · have : b' = a := by simpa using hb'
            subst this
            subst z
            exact hn hb
          · by_cases hj : j < ρ.length
            · rw [List.getElem?_append_left (by rw [lt]; exact hj), List.getElem?_take_of_lt hj] at q
              obtain ⟨b, ws, q1, q2, q3⟩ := s.ob q
              refine ⟨b, ws, ?_, q2, q3.sub sb2⟩
              rw [List.getElem?_append_left hj]
              obtain ⟨⟨t, rfl, _⟩, _, _⟩ := e
              rwa [List.getElem?_append_left hj] at q1
            · rw [List.getElem?_append_right (by rw [lt]; omega), lt] at q
              have ej : j - ρ.length = 0 := by
                cases z : j - ρ.length with
                | zero => rfl
                | succ n => rw [z] at q; simp at q
              rw [ej] at q
              have q' : xs = ys := by simpa using q
              subst q'
              refine ⟨a, vs, ?_, b2, b3.sub sb2⟩
              rw [List.getElem?_append_right (by omega), ej]
              rfl
      · refine h _ H' ρ e.shrink ?_ (s.back e)
        cases xs with
        | lst xs =>
          obtain ⟨ws, rfl, b3⟩ := b3
          unfold RepF obD RepD
          exact ⟨a, ws, rfl, hn, b2, b3.sub sb⟩
        | dct kvs =>
          obtain ⟨ws, rfl, b3⟩ := b3
          unfold RepF obD RepD
          exact ⟨a, ws, rfl, hn, b2, b3.sub sb⟩
  | sc xs => exact h.elim
  | fn f => exact h.elim
  | tv xs => exact h.elim
  | lv xs => exact h.elim
  | co l => exact h.elim
  | cv l xs => exact h.elim
  | ex k x => exact h.elim
theorem fin_po {fd : Fn} {args : List Vl} {Q : VK} {E : XK} (hS : RepS X.K ρ H S) (hn : args.length = fd.np) (h : PoF T X.K ρ H (runFn fd c args S) Q E) :
    PoS T X (fun cls dd _ H => E cls dd H) ρ H (fd.body c (args.map some ++ List.replicate (fd.ns - fd.np) none) S) { nx := fun _ H' => Q .non H', rt := Q } := by
  unfold runFn at h
  rw [if_pos hn] at h
  split at h
  · rename_i v S' eq
    rw [eq]
    intro x H' ρ' e r s
    rw [← hS.len] at h
    exact fin_ok e r s h
  · rename_i γ' S' eq
    rw [eq]
    intro σ' H' ρ' e _ s
    rw [← hS.len] at h
    exact fin_ok (v := .d .none) e (by unfold RepV RepD; rfl) s h
  · rename_i k x γ' S' eq
    rw [eq]
    intro cls dd σ' H' ρ' e _ s rx
    have sb : ∀ a ∈ ρ, a ∈ ρ' := fun a ha => by
      obtain ⟨⟨t, rfl, _⟩, _, _⟩ := e
      exact List.mem_append_left _ ha
    refine h cls dd H' ρ e.shrink (by rw [← hS.len]; exact s.back e) ?_
    obtain ⟨C, c1, c2, c3⟩ := rx
    refine ⟨C, c1, c2, ?_⟩
    cases q : T.cf k with
    | none => rw [q] at c3; exact c3
    | some f =>
      rw [q] at c3
      obtain ⟨a, v, d1, d2, d3, d4⟩ := c3
      exact ⟨a, v, d1, fun z => d2 (sb a z), d3, d4.sub sb⟩
  · exact h.elim
theorem rep_args : ∀ {args : List Vl} {vs : List L2.V} {i : Nat} {v : Vl}, RepVs T.toTb X.K ρ H args vs → (args.map some)[i]? = some (some v) → ∃ x, (vs.map some)[i]? = some (some x) ∧ RepV T.toTb X.K ρ H v x := fun {args vs i v} r h => by
  rw [List.getElem?_map] at h
  cases q : args[i]? with
  | none => rw [q] at h; cases h
  | some y =>
    rw [q] at h
    cases h
    obtain ⟨x, e1, e2⟩ := r.get q
    exact ⟨x, by rw [List.getElem?_map, e1]; rfl, e2⟩
theorem rep_start {N : List Str} {args : List Vl} {vs : List L2.V} {ns : Nat} (r : RepVs T.toTb X.K ρ H args vs) (hN : N.length = ns) (hl : args.length ≤ ns) : RepE T.toTb X.K ρ H (args.map some ++ List.replicate (ns - args.length) none) (L2.start N vs) := by
  have hv := r.length
  refine ⟨by unfold L2.start; simp [hv, hN], fun i v q => ?_⟩
  unfold L2.start
  by_cases hi : i < args.length
  · rw [List.getElem?_append_left (by simpa using hi)] at q
    rw [List.getElem?_append_left (by simpa [hv] using hi)]
    exact rep_args r q
  · rw [List.getElem?_append_right (by simpa using hi), List.getElem?_replicate] at q
    split at q <;> cases q
/-- the table in a def's body -/
def Tx.def_ (T : Tx) (mkd : LamT → Prop) (cells : List (Str × Addr)) (an : CA) : Tx := { T with cells := cells, mkd := mkd, an := an, ex := none }
/-- a def that keeps what the evaluator tells of it -/
theorem fn_spF {P : Program} {w : World} {K : PySem.W.Frag} {mg : Str → Option Value} {base : Heap} {x qual : Str} {params : Arguments} {body : List Stmt} {scope : Scope} {dvs : List L2.V} {kws : List (Str × L2.V)} {f : Addr} {fd : FuncData} {N ps : List Str} {k : Nat} {fn : Fn} {mkd : LamT → Prop} (F : FunD K x qual params body scope dvs kws f fd) (Sc : FnScope N ps scope) (hnp : fn.np = ps.length) (hns : N.length = fn.ns) (hle : fn.np ≤ fn.ns)
    (hb : ∀ (cdv : Value) (A : Around) (outer : List PySem.Env) (s : Shared) (H : Hp) (E : XK) (an : CA), fd.code = cdv → AnOk an s H → Room k (A.deeper (envOfC qual scope s.heap.objs.size f cdv)) → A.guards = some [] →
      PSs (cxOf (L2.CX P w) P w K mg base N qual scope f cdv A outer s H E) body (rdS (T.def_ mkd (envOfC qual scope s.heap.objs.size f cdv).cells an) (cxOf (L2.CX P w) P w K mg base N qual scope f cdv A outer s H E) (fun cls dd _ H => E cls dd H) c fn.body)) :
    FnM P w K mg base (k + 1) f fd ps (spF T K fn.np (runFn fn c)) := by
  refine fnM_of F Sc (fun an vs H Q E ⟨args, S, ρ, h1, h2, _⟩ => ?_) fun cdv A outer s H vs Q E an hcd hA hr hgd ⟨args, S, ρ, h1, h2, h3, h4⟩ => ⟨_, hb cdv A outer s H E an hcd hA hr hgd, ?_⟩
  · have := RepVs.length (T := (T.inn an).toTb) h2
    omega
  · have h2' : RepVs (T.def_ mkd (envOfC qual scope s.heap.objs.size f cdv).cells an).toTb K ρ H args vs := RepVs.up (T := (T.inn an).toTb) (T' := (T.def_ mkd (envOfC qual scope s.heap.objs.size f cdv).cells an).toTb) ⟨rfl, rfl, rfl, fun _ _ z => z⟩ (fun _ z => z) rfl h2
    have h4' : PoF (T.def_ mkd (envOfC qual scope s.heap.objs.size f cdv).cells an) K ρ H (runFn fn c args S) Q E := h4.tr rfl rfl
    refine ⟨args.map some ++ List.replicate (fn.ns - fn.np) none, S, ρ, ?_, h3, fin_po h3 h1 h4'⟩
    have := rep_start (N := N) (T := T.def_ mkd (envOfC qual scope s.heap.objs.size f cdv).cells an) (X := cxOf (L2.CX P w) P w K mg base N qual scope f cdv A outer s H E) (ns := fn.ns) h2' hns (by omega)
    rwa [h1] at this
end
end Mk
/-! Mw1: enumerate(tuple). -/
namespace PySem
open Sem (wp)
theorem mw_enum_new {v : Value} {o : Obj} {H : Heap → Prop} (B : Begins v o H) :
    Meets (Builtin.«enumerate.__new__» ⟨[.type "enumerate", v], []⟩) (fun _ R s => H s.heap ∧
      R (.ok (.ret (.ref (s.heap.push o).objs.size))) { s with heap := (s.heap.push o).push { cls := .type "enumerate", data := .fields #[.none, .bool false, .ref s.heap.objs.size, rawInt 0, .none, .none] } }) :=
  .of_wp fun prog w A R s h => by
    obtain ⟨hp, g, d, tk, os⟩ := s; obtain ⟨h1, h⟩ := h
    have hsub := sub_enumerate
    have q1 : ∀ {A' : Around} {E : Value → Shared → Prop} {Q : Value → Shared → Prop}, Q (.ref hp.objs.size) ⟨hp.push o, g, d, tk, os⟩ → wpAny (model prog w) A' (pyIter v) Q E ⟨hp, g, d, tk, os⟩ :=
      fun q => B.iter prog w _ _ ⟨hp, g, d, tk, os⟩ _ h1 q
    wp_walk using q1
    refine wpAny_stack_any fun st => wpAny_pure ?_
    split
    · rename_i c _ _ _ _ _
      cases (c == Value.type "enumerate")
      · wp_walk using q1
        exact ⟨_, rfl, h⟩
      · wp_walk using q1
        exact ⟨_, rfl, h⟩
    · wp_walk using q1
      exact ⟨_, rfl, h⟩
theorem mw_enum_call {prog : Program} {w : World} {A : Around} {E : Value → Shared → Prop} {s : Shared} {v : Value} {o : Obj} {H : Heap → Prop} {Q : Value → Shared → Prop} (B : Begins v o H) (h1 : H s.heap)
    (h : ∀ h', IsEnum h' (s.heap.objs.size + 1) s.heap.objs.size 0 .none → h'.get? s.heap.objs.size = some o → h'.objs.size = s.heap.objs.size + 2 →
      (∀ b o, s.heap.get? b = some o → h'.get? b = some o) → Q (.ref (s.heap.objs.size + 1)) { s with heap := h' }) :
    wpAny (model prog w) A (call (.type "enumerate") [v]) Q E s := by
  refine callType_new F.called_enumerate (by decide) (F.typeCall_enumerate_1 _) (F.newCall_enumerate_1 _) (fun obj => F.args_object_init_2 obj _) F.entry_enumerate_new (mw_enum_new B) ⟨h1, ?_⟩
  have hz : (s.heap.push o).objs.size = s.heap.objs.size + 1 := Heap.size_push ..
  show _ ∧ _
  rw [hz]
  have he : IsEnum ((s.heap.push o).push { cls := .type "enumerate", data := .fields #[.none, .bool false, .ref s.heap.objs.size, rawInt 0, .none, .none] }) (s.heap.objs.size + 1) s.heap.objs.size 0 .none := by
    have := Heap.get?_push_size (s.heap.push o) (o := { cls := .type "enumerate", data := .fields #[.none, .bool false, .ref s.heap.objs.size, rawInt 0, .none, .none] }) rfl
    rw [hz] at this; exact this
  exact ⟨⟨_, he, rfl⟩, h _ he (Heap.get?_push_of_some _ (Heap.get?_push_size _ B.free)) (by rw [Heap.size_push, hz]) fun b o x => Heap.get?_push_of_some _ (Heap.get?_push_of_some _ x)⟩
theorem wpAny_pyNext_enum_endT {prog : Program} {w : World} {A : Around} {E : Value → Shared → Prop} {s : Shared} {e it t : Addr} {j : Nat} {items : Array Value} {i : Int} {old : Value} {Q : Option Value → Shared → Prop} (hh : A.handled = none)
    (he : IsEnum s.heap e it i old) (hit : s.heap.IsTupleIter it t j) (ht : s.heap.IsTuple t items) (hx : items[j]? = none)
    (hQ : ∀ h', Heap.ExtBut it s.heap h' → Q none { s with heap := h' }) : wpAny (model prog w) A (pyNext (.ref e)) Q E s := by
  have hT : s.TypeIs (.ref e) "enumerate" := ⟨_, he, rfl⟩
  unfold pyNext
  refine wpAny_bind (wpAny_attempt (wpAny_callSpecial?_slot (name := Str.ofString "__next__") hT F.slot_enumerate_next
    (wpAny_call_entry F.slot_enumerate_next hT F.entry_enumerate_next ?_ (F.args_enumerate_next_1 _))))
  show wpAny _ _ (field (.ref e) 2 >>= _) _ _ _
  refine wpAny_bind (wpAny_field he rfl (x := .ref it) rfl ?_)
  refine wpAny_bind (wpAny_nextOf_tuple_end (A := A.in1) hh hit ht hx fun h' x he' hx' => ?_)
  obtain ⟨o, ho, hc⟩ := hx'
  refine wpAny_bind (wpAny_isInstance (T := "StopIteration") (b := true) ⟨o, ho, hc⟩ isSubtype_stop ?_)
  exact wpAny_pure (hQ _ he')
end PySem
namespace Mk
open PySem PySem.Spec PyProof.Rows L2
def IteT (K : PySem.W.Frag) (a : Addr) : It :=
  ⟨fun i H => ∃ (xs : List L2.V) (x : L2.V), SqT K H a xs ∧ xs[i]? = some x, fun i H v H' => ∃ T x, v = .ref T ∧ H T = none ∧ H' = upd H T (.tup [.int (i : Nat), x]) ∧ ∀ xs, SqT K H a xs → xs[i]? = some x, fun i H => ∃ xs : List L2.V, SqT K H a xs ∧ xs.length ≤ i⟩
theorem turn_enumT {P : Program} {w : World} {K : PySem.W.Frag} {elts : List Expr} {kk : Nat} {tpos : Pos} (a e it : Addr) :
    Turn P w K (.Tuple elts kk tpos) (IteT K a) [e, it] e (fun i h => (∃ old, IsEnum h e it ((i : Nat) : Int) old) ∧ h.IsTupleIter it a i ∧ e ≠ it ∧ e ≠ a ∧ a ≠ it) where
  mem := by simp
  obj := fun i h st b hb => by
    obtain ⟨⟨old, he⟩, ⟨o, ho, hc, hd⟩, _⟩ := st
    have e' : b = e ∨ b = it := by simpa using hb
    rcases e' with z | z
    · rw [z]; exact ⟨_, he, fun v q => nomatch q⟩
    · rw [z]; exact ⟨o, ho, fun v q => by rw [hd] at q; cases q⟩
  keep := fun i h h' st k => let ⟨⟨old, he⟩, hi, hne⟩ := st; ⟨⟨old, k e (by simp) _ he⟩, hi.at fun o q => k it (by simp) o q, hne⟩
  item := by
    intro X hP hw hK hc i pins s σ H E I hf st hg
    subst hP hw hK
    obtain ⟨⟨old, he⟩, hit, hne, hea, hai⟩ := st
    obtain ⟨xs, x, hq, hx⟩ := hg
    obtain ⟨its, rv, p, hz⟩ := I.tuple hq
    obtain ⟨u, hu, ru⟩ := rv.get hx
    have p' : s.heap.IsTuple a its.toArray := p
    have hel : e < s.heap.objs.size := Heap.lt_size he
    have hil : it < s.heap.objs.size := by obtain ⟨_, q, _⟩ := hit; exact Heap.lt_size q
    have hlt : i < its.toArray.size := by
      have := (List.getElem?_eq_some_iff.mp hu).1
      simpa using this
    refine wpAny_pyNext_enum_itemC (Draws.tuple (A := X.A.in1) (I.ok.hd hc) it a hai its.toArray) he ⟨hit, p'⟩ hlt hne (by simp [hne, hea]) fun y h' tk hy ho hit' hT hsz hk => ?_
    have hy' : y = u := by
      have hu' : its.toArray[i]? = some u := by simpa using hu
      rw [hu'] at hy
      exact (Option.some.inj hy).symm
    subst hy'
    refine ⟨_, rfl, wpAny_letOwnedTupleGo_enum (s := { s with heap := h', toks := tk + 1 }) ho fun h'' he' sb => ?_⟩
    have hT2 : h''.get? s.heap.objs.size = some { cls := .type "tuple", data := .seq #[.int i tk, y] } := (sb.2 _ (Nat.ne_of_gt hel)).trans hT
    have new : ObjOk X.prog X.w (upd H s.heap.objs.size (.tup [.int (i : Nat), x])) h'' s.heap.objs.size (.tup [.int (i : Nat), x]) :=
      ⟨by show 2 ≤ sizeLine; decide, [.int i tk, y], .cons ⟨_, rfl⟩ (.cons ru .nil), ⟨_, hT2, rfl, _, rfl⟩⟩
    have I1 : Inv X pins σ (upd H s.heap.objs.size (.tup [.int (i : Nat), x])) { s with heap := h'', toks := tk + 1 } :=
      I.turnedNew (ch := [e, it]) (fun b ob hb q => (sb.2 b (fun z => hb (by simp [z]))).trans (hk b ob (fun z => hb (by simp [z])) (fun z => hb (by simp [z])) q)) hf (Nat.le_refl _) new
    refine ⟨.ref s.heap.objs.size, _, I1, rfl, ⟨_, x, rfl, I.hok.fresh (Nat.le_refl _), rfl, fun ys hy => by rw [I.tuple_inj hy hq]; exact hx⟩, ⟨⟨y, ?_⟩, hit'.1.at fun o q => (sb.2 it (Ne.symm hne)).trans q, hne, hea, hai⟩, fun b hb => ?_⟩
    · have e1 : ((i + 1 : Nat) : Int) = (i : Int) + 1 := by omega
      rw [e1]; exact he'
    · have hb' : b < s.heap.objs.size := by
        have e' : b = e ∨ b = it := by simpa using hb
        rcases e' with z | z
        · rw [z]; exact hel
        · rw [z]; exact hil
      rw [upd_ne (Nat.ne_of_lt hb')]
      exact (hf b hb).1
  done := by
    intro X hP hw hK hc i pins s σ H E I hf st hg
    subst hP hw hK
    obtain ⟨⟨old, he⟩, hit, hne, hea, hai⟩ := st
    obtain ⟨xs, hq, hx⟩ := hg
    obtain ⟨its, rv, p, hz⟩ := I.tuple hq
    obtain ⟨f0, f1, f2, f3, f4, f5⟩ := hf it (by simp)
    have hl := rv.length
    have p' : s.heap.IsTuple a its.toArray := p
    exact wpAny_pyNext_enum_endT (I.ok.hd hc) he hit p' (by simp; omega) fun h' eb => ⟨rfl, I.turned (t' := s.toks) (fun b o hb q => eb b o hb q) f0 f1 f3 f4 f5⟩
  self := fun A i s Q E st h => let ⟨⟨_, he⟩, _⟩ := st; wpAny_pyIter_enum he h
def iEnumT (K : PySem.W.Frag) (ta : TA) : TI := fun σ H R => ta σ H fun vs H1 => ∃ a xs, vs = [.ref a] ∧ SqT K H1 a xs ∧ R (IteT K a) H1
theorem pi_enumT {X : Cx} {e : Expr} {ta : TA} {p pos tpos : Pos} {elts : List Expr} {kk : Nat} (hg : Gl X "enumerate") (hm : X.mg "enumerate" = none) (ha : PA X [e] ta) (hs : starEach [e] X.env = [(false, eval e X.env)] := by rfl) :
    PI X (.Tuple elts kk tpos) (.Call (.Name "enumerate" p) [e] [] pos) (iEnumT X.K ta) := by
  refine ⟨fun pins s σ H R I h => ?_⟩
  refine Call_ (ld_blt I hg hm boot_enumerate (PyProof.Rows.callWith_type1 (thn (ha.run pos pins s σ H _ I h) fun us s1 ⟨vs, H1, I1, r1, q1⟩ => ?_) hs rfl))
  obtain ⟨a, xs, ex, hq, q⟩ := q1
  subst ex
  cases r1 with
  | cons r rr =>
    cases rr
    cases r
    obtain ⟨its, rv, p', hz⟩ := I1.tuple hq
    have p2 : s1.heap.IsTuple a its.toArray := p'
    have hal : a < s1.heap.objs.size := by obtain ⟨_, q, _⟩ := p2; exact Heap.lt_size q
    refine mw_enum_call (begins_tuple a its.toArray) p2 fun h' he hit hsz hk => wpAny_pyIter_enum he ?_
    have I2 : Inv X pins σ H1 { s1 with heap := h' } := I1.kept (t' := s1.toks) hk
    refine ⟨s1.heap.objs.size + 1, [s1.heap.objs.size + 1, s1.heap.objs.size], _, _, H1, rfl, I2, turn_enumT a (s1.heap.objs.size + 1) s1.heap.objs.size, ⟨⟨.none, he⟩, ⟨_, hit, rfl, rfl⟩, Nat.succ_ne_self _, Nat.ne_of_gt (Nat.lt_succ_of_lt hal), Nat.ne_of_lt hal⟩, fun b hb => ?_, q⟩
    have e' : b = s1.heap.objs.size + 1 ∨ b = s1.heap.objs.size := by simpa using hb
    have hle : s1.heap.objs.size ≤ b := by
      rcases e' with z | z
      · rw [z]; exact Nat.le_add_right _ _
      · rw [z]; exact Nat.le_refl _
    exact I1.fpOk hle (I1.hok.fresh hle)
section
variable [TabC] {T : Tx} {X : Cx} {W : WX} {c : Cl} {σ : L2.St} {ρ ρ' : List Addr} {H H' : Hp} {γ : Env} {S : Store} {pos : Pos}
theorem walks_enumL {xs : List D} {a : Addr} {vs : List L2.V} (o : TupOut ρ H) (hn : a ∉ ρ) (ha : H a = some (.lst vs)) (r : RepDs X.K ρ H xs vs) : Walks T X ρ H (Ite X.K a) (enumD xs) where
  go := fun i ρ' H' x e hx => by
    obtain ⟨d, q1, rfl⟩ := enumD_get hx
    obtain ⟨y, e1, r1⟩ := r.get q1
    have hq : SqL X.K H' a vs := SqL.of (e.keep _ _ ha hn fun _ z => nomatch z)
    refine ⟨⟨vs, y, hq, e1⟩, fun v H2 hy => ?_⟩
    obtain ⟨p, x', rfl, hp, rfl, e4⟩ := hy
    have := e4 vs hq; rw [e1] at this; cases this
    refine ⟨.inr ⟨p, _, hp, rfl⟩, ?_⟩
    have e' := e.trans (Ext.new (o := .tup [.int (i : Nat), y]) hp)
    unfold RepV RepD
    exact ⟨p, _, rfl, SqT.of upd_same, RepDs.cons (by unfold RepD; rfl) (RepDs.cons (r1.mono o e') RepDs.nil)⟩
  stop := fun i ρ' H' e hl => ⟨vs, SqL.of (e.keep _ _ ha hn fun _ z => nomatch z), by rw [r.length]; simpa [enumD] using hl⟩
theorem walks_enumT {xs : List D} {a : Addr} {vs : List L2.V} (o : TupOut ρ H) (ha : SqT X.K H a vs) (r : RepDs X.K ρ H xs vs) : Walks T X ρ H (IteT X.K a) (enumD xs) where
  go := fun i ρ' H' x e hx => by
    obtain ⟨d, q1, rfl⟩ := enumD_get hx
    obtain ⟨y, e1, r1⟩ := r.get q1
    have hq : SqT X.K H' a vs := SqT.ext o e ha
    refine ⟨⟨vs, y, hq, e1⟩, fun v H2 hy => ?_⟩
    obtain ⟨p, x', rfl, hp, rfl, e4⟩ := hy
    have := e4 vs hq; rw [e1] at this; cases this
    refine ⟨.inr ⟨p, _, hp, rfl⟩, ?_⟩
    have e' := e.trans (Ext.new (o := .tup [.int (i : Nat), y]) hp)
    unfold RepV RepD
    exact ⟨p, _, rfl, SqT.of upd_same, RepDs.cons (by unfold RepD; rfl) (RepDs.cons (r1.mono o e') RepDs.nil)⟩
  stop := fun i ρ' H' e hl => ⟨vs, SqT.ext o e ha, by rw [r.length]; simpa [enumD] using hl⟩
theorem oki_enum {elts : List Expr} {kk : Nat} {tpos : Pos} {a : Expr} {xa : TEx} {p : Pos} (hg : Gl X "enumerate") (hm : X.mg "enumerate" = none) (ha : PE X a (rdE T X W c xa)) (hs : starEach [a] X.env = [(false, eval a X.env)]) :
    PI X (.Tuple elts kk tpos) (.Call (.Name "enumerate" p) [a] [] pos) (rdI T X W c (iEnum xa)) := by
  refine ⟨fun pins s σ H R I ⟨γ, S, ρ, hE, hS, hP⟩ => ?_⟩
  have hPP := hP
  unfold iEnum at hP
  have pl := pi_enum (ta := tCons (rdE T X W c xa) tNil) (elts := elts) (kk := kk) (tpos := tpos) (p := p) (pos := pos) hg hm (pa_cons ha pa_nil hs) hs
  have pt := pi_enumT (ta := tCons (rdE T X W c xa) tNil) (elts := elts) (kk := kk) (tpos := tpos) (p := p) (pos := pos) hg hm (pa_cons ha pa_nil hs) hs
  cases q : xa c γ S with
  | stuck => rw [q] at hP; exact hP.elim
  | er k x S1 => exact pl.run pins s σ H R I (rd_bind' hE hS hPP fun v H1 d S1' ρ1 em e r hE1 hS1 hP1 => by rw [q] at em; cases em)
  | ok d S1 =>
    rw [q] at hP
    cases d with
    | d y =>
      cases y with
      | list xs =>
        refine pl.run pins s σ H R I (rd_bind' hE hS hPP fun v H1 d S1' ρ1 em e r hE1 hS1 hP1 => ?_)
        rw [q] at em; cases em
        unfold rV RepV RepD at r
        obtain ⟨a, vs, rfl, h1, h2, h3⟩ := r
        exact ⟨a, vs, rfl, SqL.of h2, hP1 _ H1 ρ1 (Ext.refl _ _) (fun o => walks_enumL o h1 h2 h3) hS1⟩
      | tuple xs =>
        refine pt.run pins s σ H R I (rd_bind' hE hS hPP fun v H1 d S1' ρ1 em e r hE1 hS1 hP1 => ?_)
        rw [q] at em; cases em
        unfold rV RepV RepD at r
        obtain ⟨a, vs, rfl, h2, h3⟩ := r
        exact ⟨a, vs, rfl, h2, hP1 _ H1 ρ1 (Ext.refl _ _) (fun o => walks_enumT o h2 h3) hS1⟩
      | _ => exact hP.elim
    | _ => exact hP.elim
end
end Mk
/-! Mn1: lambdas are made, and called. -/
namespace Mk
open PySem PySem.Spec PyProof.Rows L2
section
variable [TabC] {T : Tx} {X : Cx} {W : WX} {c : Cl} {σ : L2.St} {ρ ρ' ρ1 : List Addr} {H H' H1 : Hp} {γ : Env} {S : Store} {pos : Pos} {pins : List (Addr × Obj)} {s : Shared}
theorem funO_ok {P : Program} {w : World} {f : Addr} {ob : Obj} {h : Heap} (e : h.get? f = some ob) : ObjOk P w H h f (FunO f ob) := ⟨e, ⟨_, e⟩, fun h1 h2 a st => st _ a⟩
theorem funO_get {f : Addr} {ob : Obj} (I : Inv X pins σ H s) (h : H f = some (FunO f ob)) : s.heap.get? f = some ob := (I.hok f _ h).1
/-- from one abstract heap to the next one: a function and perhaps a code object are new, a table has grown -/
structure Grew (H H1 : Hp) : Prop where
  keep : ∀ b o, H b = some o → (∀ ps, o ≠ .tbl ps) → H1 b = some o
  stay : ∀ b, H b ≠ none → H1 b ≠ none
theorem Grew.ext (g : Grew H H1) : Ext ρ ρ H H1 := ⟨⟨[], by simp, by simp⟩, fun b o h _ n => g.keep b o h n, g.stay⟩
theorem Grew.reps (g : Grew H H1) (t : LamX.Tabs TabC.tabs H1) (s : RepS X.K ρ H S) : RepS X.K ρ H1 S :=
  RepS.mk' s.len s.nd (fun a ha => let ⟨o, h, mu⟩ := s.out a ha; ⟨o, g.keep a _ h (fun _ z => by subst z; exact nomatch mu), mu⟩) t fun i b q => let ⟨a, o, h1, h2, h3⟩ := s.ob q; ⟨a, o, h1, g.keep a _ h2 (fun _ z => by subst z; exact nomatch h3.mut), h3.mono s.out g.ext⟩
theorem grew_new {f : Addr} {o : HO} (h : H f = none) : Grew H (upd H f o) := ⟨fun b u q _ => by rw [upd_ne (ne_of_none q h)]; exact q, fun b q => by
  by_cases e : b = f
  · subst e; rw [upd_same]; exact fun z => nomatch z
  · rw [upd_ne e]; exact q⟩
theorem Grew.trans {H2 : Hp} (a : Grew H H1) (b : Grew H1 H2) : Grew H H2 := ⟨fun x o h n => b.keep x o (a.keep x o h n) n, fun x h => b.stay x (a.stay x h)⟩
theorem grew_tbl {P c' : Addr} {ps more : Array Value} {o : HO} (hP : H P = some (.tbl ps)) (hc : H c' = none) : Grew H (upd (upd H P (.tbl (ps ++ more))) c' o) := by
  refine ⟨fun b u q n => ?_, fun b q => ?_⟩
  · rw [upd_ne (ne_of_none q hc), upd_ne (fun z => n ps (Option.some.inj (q.symm.trans (by rw [z]; exact hP))))]
    exact q
  · by_cases e : b = c'
    · subst e; rw [upd_same]; exact fun z => nomatch z
    · rw [upd_ne e]
      by_cases e2 : b = P
      · subst e2; rw [upd_same]; exact fun z => nomatch z
      · rw [upd_ne e2]; exact q
/-- a lambda is made: a new function that is known from now on -/
theorem lam_new {cd P : Addr} {params : Arguments} {body : Expr} {scope : Scope} {E : Value → Shared → Prop} {Q : Value → Shared → Prop} (I : Inv X pins σ H s) (B : LamX.TabB X.base X.mg cd P) (hcode : X.env.code = .ref cd)
    (hin : (P, X.env.qual ++ "<lambda>") ∈ TabC.tabs) (huq : ∀ p ∈ TabC.tabs, p.1 = P → p.2 = X.env.qual ++ "<lambda>") (ht : LamX.Tabs TabC.tabs H) (hdef : defaultsOf params X.env = ([], [])) (hfree : ∀ y ∈ scope.names, y.2 = .free → ∃ c, X.env.cells.lookup y.1 = some c)
    (k : ∀ (f c' : Addr) (pm ctv : Value) (H1 : Hp) (s1 : Shared), Inv X pins σ H1 s1 → Grew H H1 → LamX.Tabs TabC.tabs H1 →
      H1 f = some (FunO f (PySem.W.kla_obj "<lambda>" (X.env.qual ++ "<lambda>") params body scope (cloFrom X.env.cells scope.names []) pm c' ctv)) → H1 c' = some (LamX.CodeO c' (X.env.qual ++ "<lambda>")) → Q (.ref f) s1) :
    wpAny (model X.prog X.w) X.A (eval (.Lambda params body scope pos) X.env) Q E s := by
  obtain ⟨ps, hP, tri, known⟩ := ht _ hin
  refine PySem.W.kla_eval hdef ?_
  have bm : s.heap.BuiltinsAt X.mg P := B.bm.keeps I.bk
  have hP' : s.heap.get? P = some { cls := .none, data := .fields ps } := I.hok P _ hP
  cases hc : codeAmong pos ps.toList with
  | some cv =>
    obtain ⟨c', ec, hco⟩ := known pos cv hc
    subst ec
    refine PySem.W.kla_makeFunctionHit (mg := X.mg) (c := cd) (P := P) (ps := ps) (closure_ok hfree) I.ok.glob (I.mod.glob.keeps I.bk) hcode (B.code.keeps I.bk) hP' tri hc bm fun ctv h' tk hx hsz => ?_
    have I0 : Inv X pins σ H { s with heap := h', toks := tk } := I.kept hx
    have nf : H h'.objs.size = none := I0.hok.fresh (Nat.le_refl _)
    have I1 := I0.laid (t' := tk) (a := h'.objs.size) (o := FunO h'.objs.size (PySem.W.kla_obj "<lambda>" (X.env.qual ++ "<lambda>") params body scope (cloFrom X.env.cells scope.names []) ((X.mg "__name__").getD .none) c' ctv))
      (fun b o e => Heap.get?_push_of_some (PySem.W.kla_obj "<lambda>" (X.env.qual ++ "<lambda>") params body scope (cloFrom X.env.cells scope.names []) ((X.mg "__name__").getD .none) c' ctv) e) (Nat.le_refl _) (funO_ok (Heap.get?_push_size _ rfl))
    exact k _ c' _ ctv _ _ I1 (grew_new nf) (tab_new ht nf) upd_same (by rw [upd_ne (ne_of_none hco nf)]; exact hco)
  | none =>
    refine PySem.W.kla_makeFunction (mg := X.mg) (c := cd) (P := P) (ps := ps) (closure_ok hfree) I.ok.glob (I.mod.glob.keeps I.bk) hcode (B.code.keeps I.bk) hP' tri hc B.gP bm fun c' ctv h' tk hx hge hlt hrec htb => ?_
    obtain ⟨c2, oc, vs, t, e2, hoc, hd, hv⟩ := hrec
    cases e2
    have nc : H c' = none := I.hok.fresh hge
    have I0 := LamX.inv_table (t' := tk) (more := #[rawInt pos.line, rawInt pos.col, .ref c']) (h' := h') I hP hx htb hge ⟨oc, vs, t, hoc, hd, hv⟩
    have g0 : Grew H _ := grew_tbl (more := #[rawInt pos.line, rawInt pos.col, .ref c']) (o := LamX.CodeO c' (X.env.qual ++ "<lambda>")) hP nc
    have t0 : LamX.Tabs TabC.tabs (upd (upd H P (.tbl (ps ++ #[rawInt pos.line, rawInt pos.col, .ref c']))) c' (LamX.CodeO c' (X.env.qual ++ "<lambda>"))) := fun p hp => by
      by_cases hb : p.1 = P
      · rw [huq p hp hb, hb]
        have el : (ps ++ #[rawInt pos.line, rawInt pos.col, .ref c']).toList = ps.toList ++ [rawInt pos.line, rawInt pos.col, .ref c'] := by simp
        refine ⟨_, by rw [upd_ne (ne_of_none hP nc), upd_same], by rw [el]; exact PySem.TriplesOk_snoc _ _ _ _ tri, fun p' cv hcv => ?_⟩
        rw [el] at hcv
        rcases LamX.among_app _ tri hcv with z | z
        · obtain ⟨c0, e1, e2⟩ := known p' cv z
          exact ⟨c0, e1, g0.keep _ _ e2 LamX.codeO_ne⟩
        · exact ⟨c', z, upd_same⟩
      · obtain ⟨qs, a1, a2, a3⟩ := ht p hp
        refine ⟨qs, by rw [upd_ne (ne_of_none a1 nc), upd_ne hb]; exact a1, a2, fun p' cv hcv => ?_⟩
        obtain ⟨c0, e1, e2⟩ := a3 p' cv hcv
        exact ⟨c0, e1, g0.keep _ _ e2 LamX.codeO_ne⟩
    have nf := I0.hok.fresh (Nat.le_refl h'.objs.size)
    have I1 := I0.laid (t' := tk) (a := h'.objs.size) (o := FunO h'.objs.size (PySem.W.kla_obj "<lambda>" (X.env.qual ++ "<lambda>") params body scope (cloFrom X.env.cells scope.names []) ((X.mg "__name__").getD .none) c' ctv))
      (fun b o e => Heap.get?_push_of_some (PySem.W.kla_obj "<lambda>" (X.env.qual ++ "<lambda>") params body scope (cloFrom X.env.cells scope.names []) ((X.mg "__name__").getD .none) c' ctv) e) (Nat.le_refl _) (funO_ok (Heap.get?_push_size _ rfl))
    exact k _ c' _ ctv _ _ I1 (g0.trans (grew_new nf)) (tab_new t0 nf) upd_same (by rw [upd_ne (Nat.ne_of_lt hlt), upd_same])
/-- what is asked of the text that makes a lambda -/
structure MkL (T : Tx) (X : Cx) (L : LamT) : Prop where
  k : LamK L
  qual : L.qual = X.env.qual ++ "<lambda>"
  mkd : T.mkd L
  tab : ∃ cd P, LamX.TabB X.base X.mg cd P ∧ X.env.code = .ref cd ∧ (P, X.env.qual ++ "<lambda>") ∈ TabC.tabs ∧ ∀ p ∈ TabC.tabs, p.1 = P → p.2 = X.env.qual ++ "<lambda>"
theorem ok_lam {N : List Str} {L : LamT} (Lm : LmOk T X N) (M : MkL T X L) : PE X (.Lambda noArgs L.body L.scope pos) (rdE T X W c (xLam L)) := by
  refine ⟨fun pins s σ H Q I ⟨γ, S, ρ, hE, hS, hP⟩ => ?_⟩
  obtain ⟨cd, P, B, hcode, hin, huq⟩ := M.tab
  refine lam_new I B hcode hin huq hS.tab rfl (fun y hy e => ?_) fun f c' pm ctv H1 s1 I1 g t hf hc => ⟨.ref f, H1, I1, rfl, hP _ H1 ρ g.ext ?_ (g.reps t hS)⟩
  · obtain ⟨y, k⟩ := y
    have e : k = NameKind.free := e
    subst e
    exact I.ok.has y (Lm.at_ L M.mkd y ((M.k.free y).mp hy))
  · unfold rV RepV
    rw [Lm.cells]
    refine ⟨f, pm, c', ctv, M.k, M.mkd, rfl, ?_, ?_⟩
    · unfold CloO
      rw [M.qual]
      exact hf
    · rw [M.qual]
      exact hc
/-! ### a lambda is called -/
theorem bind0 (q : Str) (body : Expr) (scope : Scope) (cl : List (Str × Addr)) (pm cv ctv : Value) : bindArgs (PySem.W.kla_fn "<lambda>" q noArgs body scope cl pm cv ctv) ⟨[], []⟩ = pure [] := rfl
abbrev lamE (L : LamT) (cl : List (Str × Addr)) (fr g c' : Addr) : PySem.Env := PySem.W.envX L.qual L.scope fr g (.ref c') cl
/-- the context of a lambda's body, entered at s -/
def lamC (P : Program) (w : World) (K : PySem.W.Frag) (mg : Str → Option Value) (base : Heap) (N : List Str) (L : LamT) (cl : List (Str × Addr)) (g c' : Addr) (A : Around) (outer : List PySem.Env) (s : Shared) (H : Hp) (E : XK) : Cx where
  prog := P
  w := w
  K := K
  mg := mg
  base := base
  A := A.deeper (lamE L cl s.heap.objs.size g c')
  N := N
  s_0 := s
  H_0 := H
  env := lamE L cl s.heap.objs.size g c'
  outer := outer
  stack := lamE L cl s.heap.objs.size g c' :: outer
  ex := []
  fn := fun _ => false
  calm := true
  pn := []
  xe := fun e s' => wpAny (model P w) (A.deeper (lamE L cl s.heap.objs.size g c')) (leaving (lamE L cl s.heap.objs.size g c') e) (fun _ t => L2.CX P w outer H s E e t) (fun e' t => L2.CX P w outer H s E e' t) s'
theorem lam_inv {P : Program} {w : World} {K : PySem.W.Frag} {mg : Str → Option Value} {base : Heap} {N : List Str} {L : LamT} {cl : List (Str × Addr)} {g c' : Addr} {A : Around} {outer : List PySem.Env} {s : Shared} {H : Hp} {E : XK} {an : CA} {ws : List L2.V} {h1 : Heap} {tk : Nat}
    (k : LamK L) (hN0 : N.take L.caps.length = L.caps) (e0 : Env0 P w K mg base A outer s H) (hd : A.handled = none) (cr : CapR an cl L.caps ws) (ha : AnOk an s H) (ns : h1.Ns s.heap.objs.size fun y => ([] : List (Str × Value)).reverse.lookup y) (kp : ∀ b o, s.heap.get? b = some o → h1.get? b = some o) :
    Inv (lamC P w K mg base N L cl g c' A outer s H E) [] (L2.start N ws) H { s with heap := h1, toks := tk } := by
  have at_ : ∀ {y c}, cl.lookup y = some c → ∃ (u : Value) (w : L2.V), RelV w u ∧ s.heap.IsCell c (some u) ∧ H c = none := fun {y c} e => by
    obtain ⟨i, hi⟩ := List.getElem?_of_mem (cr.mem y c e)
    have hlt : i < ws.length := by rw [cr.len]; exact (List.getElem?_eq_some_iff.mp hi).1
    obtain ⟨c2, u, q1, q2, q3⟩ := cr.at_ i y _ hi (List.getElem?_eq_getElem hlt)
    rw [e] at q1; cases q1
    exact ⟨u, _, q3, ha _ _ q2⟩
  have cellK : ∀ {b : Addr} {v : Option Value}, s.heap.IsCell b v → h1.IsCell b v := fun {b v} ⟨o, ho, hv⟩ => ⟨o, kp _ _ ho, hv⟩
  have has : ∀ {y}, y ∈ L.caps → ∃ c, cl.lookup y = some c := fun {y} hy => by
    obtain ⟨i, hi⟩ := List.getElem?_of_mem hy
    have hlt : i < ws.length := by rw [cr.len]; exact (List.getElem?_eq_some_iff.mp hi).1
    obtain ⟨c2, u, q1, q2, q3⟩ := cr.at_ i y _ hi (List.getElem?_eq_getElem hlt)
    exact ⟨c2, q1⟩
  have free : ∀ {y}, L.scope.names.lookup y = some .free → y ∈ L.caps := fun {y} e => (k.free y).mp (PySem.mem_of_lookup e)
  have noE : ∀ b : Addr, b ∉ (lamC P w K mg base N L cl g c' A outer s H E).ex := fun b z => nomatch (show b ∈ ([] : List Addr) from z)
  have ok : (lamC P w K mg base N L cl g c' A outer s H E).Ok := by
    refine ⟨e0.mod, k.kind, rfl, rfl, Nat.le_refl _, cr.inj, fun y hy => ?_, fun y c z _ => ?_, fun _ => hd, Around.frames_deeper e0.frames, .inr ⟨rfl, rfl⟩, fun b z => absurd z (noE b), e0.bs, e0.bsz, fun b _ _ => noE b, fun b z => absurd z (noE b), e0.funs, e0.frf⟩
    · have hy : L.scope.names.lookup y = some .cell ∨ L.scope.names.lookup y = some .free := hy
      rcases hy with hy | hy
      · exact absurd rfl (k.own _ (PySem.mem_of_lookup hy)).2
      · exact has (free hy)
    · have z : false = true := z
      cases z
  refine ⟨ok, rfl, e0.bare, Un.kept kp, ⟨_, ns, fun i y v a b vis => ?_⟩, fun y c e => ?_, e0.hok.fresh (Nat.le_refl _), fun y c e => ?_, (fun q hq => nomatch (show q ∈ ([] : List (Addr × Obj)) ++ [] from hq)), e0.hok.kept kp, ?_⟩
  · have a : N[i]? = some y := a
    have vis : Vis L.scope y := vis
    have hf : L.scope.names.lookup y = some .free := by
      rcases vis with z | z | z
      · exact absurd rfl (k.own _ (PySem.mem_of_lookup z)).1
      · exact absurd rfl (k.own _ (PySem.mem_of_lookup z)).2
      · exact z
    have hlt : i < ws.length := by
      refine Nat.lt_of_not_le fun le => ?_
      unfold L2.start at b
      rw [List.getElem?_append_right (by simpa using le), List.getElem?_replicate] at b
      split at b <;> cases b
    have hw : ws[i]? = some v := by
      unfold L2.start at b
      rw [List.getElem?_append_left (by simpa using hlt), List.getElem?_map, List.getElem?_eq_getElem hlt] at b
      rw [List.getElem?_eq_getElem hlt]
      exact Option.some.inj b
    have hcap : L.caps[i]? = some y := by
      rw [← hN0, List.getElem?_take_of_lt (by rw [← cr.len]; exact hlt)]
      exact a
    obtain ⟨c2, u, q1, q2, q3⟩ := cr.at_ i y v hcap hw
    exact ⟨u, q3, .inr ⟨.inr hf, c2, q1, cellK (ha _ _ q2).1⟩⟩
  · obtain ⟨u, w', _, z, _⟩ := at_ (show cl.lookup y = some c from e)
    exact ⟨_, cellK z⟩
  · obtain ⟨u, w', _, _, z⟩ := at_ (show cl.lookup y = some c from e)
    exact z
  · show (L2.start N ws).length = N.length
    have : L.caps.length ≤ N.length := by rw [← hN0, List.length_take]; exact Nat.min_le_right _ _
    have h2 := cr.len
    unfold L2.start
    simp
    omega
/-- a lambda keeps what the evaluator tells of it -/
structure LamM (P : Program) (w : World) (K : PySem.W.Frag) (mg : Str → Option Value) (base : Heap) (k : Nat) (T : Tx) (L : LamT) (f : List Vl → Store → R Vl) : Prop where
  run : ∀ (A : Around) (outer : List PySem.Env) (s : Shared) (H : Hp) (an : CA) (g : Addr) (cl : List (Str × Addr)) (pm : Value) (c' : Addr) (ctv : Value) (ws : List L2.V) (vals : List Vl) (S : Store) (ρ : List Addr) (Q : VK) (E : XK), AnOk an s H → Room k A → A.guards = some [] → Env0 P w K mg base A outer s H →
    H g = some (FunO g (CloO L cl pm c' ctv)) → H c' = some (LamX.CodeO c' L.qual) → CapR an cl L.caps ws → RepVs (T.inn an).toTb K ρ H vals ws → RepS K ρ H S → PoF (T.inn an) K ρ H (f vals S) Q E → codeAny (model P w) A (.call (.ref g) ⟨[], []⟩) (CR (L2.CX P w) outer P w H s Q E) s
theorem LamM.le {P : Program} {w : World} {K : PySem.W.Frag} {mg : Str → Option Value} {base : Heap} {k : Nat} {T T' : Tx} {L : LamT} {f : List Vl → Store → R Vl} (h : TLe T.toTb T'.toTb) (M : LamM P w K mg base k T L f) : LamM P w K mg base k T' L f :=
  ⟨fun A outer s H an g cl pm c' ctv ws vals S ρ Q E a1 a2 a3 a4 a5 a6 a7 a8 a9 a10 => by
    rw [inn_eq h] at a8 a10
    exact M.run A outer s H an g cl pm c' ctv ws vals S ρ Q E a1 a2 a3 a4 a5 a6 a7 a8 a9 a10⟩
theorem lam_spF {P : Program} {w : World} {K : PySem.W.Frag} {mg : Str → Option Value} {base : Heap} {k : Nat} {T : Tx} {L : LamT} {N : List Str} {fn : Fn} {xe : TEx} (kk : LamK L) (hN0 : N.take L.caps.length = L.caps) (hnp : fn.np = L.caps.length) (hNs : N.length = fn.ns) (hfb : fn.body = sRet xe)
    (hb : ∀ (A : Around) (outer : List PySem.Env) (s : Shared) (H : Hp) (E : XK) (an : CA) (g : Addr) (cl : List (Str × Addr)) (c' : Addr), AnOk an s H → Room k (A.deeper (lamE L cl s.heap.objs.size g c')) → A.guards = some [] →
      PE (lamC P w K mg base N L cl g c' A outer s H E) L.body (rdE (T.def_ (fun _ => False) cl an) (lamC P w K mg base N L cl g c' A outer s H E) (fun cls dd _ H => E cls dd H) c xe)) :
    LamM P w K mg base (k + 1) T L (runFn fn c) := by
  refine ⟨fun A outer s H an g cl pm c' ctv ws vals S ρ Q E ha hr hgd e0 hg hc cr hv hS hP => ?_⟩
  have of1 : s.heap.get? g = some (CloO L cl pm c' ctv) := (e0.hok g _ hg).1
  obtain ⟨⟨oc, fs, t, hoc, hdc, hvc⟩, _, _⟩ := e0.hok c' _ hc
  have lim : s.heap.NoLimit := e0.mod.nolimit.keeps fun b o e => (e0.bs b o e).1
  refine PySem.W.kla_callFunE hr.depth of1 rfl kk.co kk.gen rfl ⟨c', oc, fs, t, rfl, hoc, hdc, hvc⟩ ?_
  rw [bind0]
  refine wpAny_pure (wpAny_newFunctionEnv (fun y hy => (kk.own y hy).2) (fun y hy => absurd hy (by simp)) (fun h1 hns hsb => ⟨lim.fresh _ hsb, ?_⟩) kk.kind)
  show codeAny _ _ (.expr L.body (lamE L cl s.heap.objs.size g c')) _ _
  have kp : ∀ b o, s.heap.get? b = some o → h1.get? b = some o := fun b o e => hsb.extBut b o (Nat.ne_of_lt (Heap.lt_size e)) (Heap.get?_push_of_some _ e)
  have J : Inv (lamC P w K mg base N L cl g c' A outer s H E) [] (L2.start N ws) H { s with heap := h1, toks := s.toks + ([] : List (Str × Value)).length } := lam_inv kk hN0 e0 hr.hd cr ha hns kp
  have hl : vals.length = fn.np := by
    have := RepVs.length (T := (T.inn an).toTb) hv
    rw [hnp, ← cr.len, this]
  have hle : fn.np ≤ fn.ns := by
    rw [hnp, ← hNs, ← hN0, List.length_take]
    exact Nat.min_le_right _ _
  have hv' : RepVs (T.def_ (fun _ => False) cl an).toTb K ρ H vals ws := RepVs.up (T := (T.inn an).toTb) (T' := (T.def_ (fun _ => False) cl an).toTb) ⟨rfl, rfl, rfl, fun _ _ z => z⟩ (fun _ z => z) rfl hv
  have hP' : PoF (T.def_ (fun _ => False) cl an) K ρ H (runFn fn c vals S) Q E := hP.tr rfl rfl
  have hE := rep_start (N := N) (T := T.def_ (fun _ => False) cl an) (X := lamC P w K mg base N L cl g c' A outer s H E) (ns := fn.ns) hv' hNs (by omega)
  have hq := fin_po (X := lamC P w K mg base N L cl g c' A outer s H E) hS hl hP'
  rw [hfb] at hq
  rw [← hl] at hq
  have rd : rdE (T.def_ (fun _ => False) cl an) (lamC P w K mg base N L cl g c' A outer s H E) (fun cls dd _ H => E cls dd H) c xe (L2.start N ws) H Q := rs_bind hE hS hq fun v H1 d S1 ρ1 e r hE1 hS1 hP1 => hP1 v H1 ρ1 (Ext.refl _ _) r hS1
  refine PySem.W.kla_codeExpr (wpAny_mono ((hb A outer s H E an g cl c' ha (hr.deeper _) hgd).run [] _ _ H Q J rd) (fun v s' hq => ?_) fun e s' hq => hq)
  obtain ⟨w', H', J', rv, q⟩ := hq
  exact ⟨w', H', J'.os, J'.bare, J'.base, J'.hok, rv, q⟩
/-- what a local name holds is called -/
def xCallVG (cnv : Env → List Vl → Option (List Vl)) (i : Nat) : TEx := fun c γ S => (xV i c γ S).bind fun v S1 => match cnv γ [v] with
  | some [.cv l vs] => c.lam l vs S1
  | _ => .stuck
theorem ok_callV {cnv : Env → List Vl → Option (List Vl)} {k i : Nat} {a : Str} {p : Pos} (C : CallA T X cnv) (hr : Room k X.A) (hgd : X.A.guards = some []) (tk : Takes X W) (hM : ∀ L, LamK L → LamM X.prog X.w X.K X.mg X.base k T L (c.lam L)) (hv : PE X (.Name a p) (rdE T X W c (xV i))) :
    PE X (.Call (.Name a p) [] [] pos) (rdE T X W c (xCallVG cnv i)) := by
  refine ⟨fun pins s σ H Q I ⟨γ, S, ρ, hE, hS, hP⟩ => ?_⟩
  refine wpAny_Call_Name_kw (thn (hv.run pins s σ H (fun v H1 => ∃ (d : Vl) (S1 : Store) (ρ1 : List Addr), RepE T.toTb X.K ρ1 H1 γ σ ∧ RepV T.toTb X.K ρ1 H1 d v ∧ RepS X.K ρ1 H1 S1 ∧ Po T X W (rV T X) σ ρ1 H1 (match cnv γ [d] with
      | some [.cv l vs] => c.lam l vs S1
      | _ => .stuck) Q) I (rd_bind hE hS hP fun v H1 d S1 ρ1 e r hE1 hS1 hP1 => ⟨d, S1, ρ1, hE1, r, hS1, hP1⟩)) fun u s1 ⟨v, H1, I1, ru, d, S1, ρ1, hE1, r, hS1, hP1⟩ => ?_)
  cases q : cnv γ [d] with
  | none => rw [q] at hP1; exact hP1.elim
  | some ys =>
    rw [q] at hP1
    obtain ⟨an, ha, hr2⟩ := C.go (xs := [d]) (vs := [v]) I1 hE1 (by unfold RepVs; exact ⟨v, [], rfl, r, by unfold RepVs; rfl⟩) q
    split at hP1
    case h_2 => exact hP1.elim
    rename_i l vs e
    cases e
    unfold RepVs at hr2
    obtain ⟨v', rest, e1, hcv, _⟩ := hr2
    cases e1
    unfold RepV at hcv
    obtain ⟨g, cl, pm, c', ctv, ws, h1, h3, h4, h5, h6, h7⟩ := hcv
    subst h3
    obtain rfl : u = Value.ref g := ru
    have of1 := funO_get I1 h4
    refine PySem.W.callWith_F0 ⟨_, _, _, _, of1⟩ ?_
    refine wpAny_call (codeAny_mono ((hM l h1).run X.A X.stack s1 H1 an g cl pm c' ctv ws vs S1 ρ1 Q _ ha hr hgd I1.env0 h4 h5 h6 h7 hS1 (hP1.toF.tr rfl rfl)) fun r s' hq => ?_)
    cases r with
    | error e => exact tk e s' (XE.of_call I1 (fun _ _ _ z => z) hq)
    | ok fl => cases fl <;> first | exact I1.after hq | exact False.elim hq
end
end Mk
/-! Mn2: written dicts. -/
namespace Mk
open PySem PySem.Spec PyProof.Rows L2
def cstD : Const → Option D
  | .none => some .none
  | .bool b => some (.bool b)
  | .int i => some (.int i)
  | .str s => some (.str s)
  | _ => none
/-- a key; a value -/
def keyD : D → Option L2.Key
  | .int i => some (.inl i)
  | .str s => some (.inr s)
  | _ => none
def scaV : D → L2.V
  | .none => .non
  | .bool b => .bl b
  | .int i => .int i
  | .str s => .str s
  | _ => .non
def oneD : Option Expr → Expr → Option (D × D)
  | some (.Constant k _ _), .Constant v _ _ => match cstD k, cstD v with
    | some a, some b => if (keyD a).isSome = true then some (a, b) else none
    | _, _ => none
  | _, _ => none
def dispD : List (Option Expr) → List Expr → Option (List (D × D))
  | [], [] => some []
  | k :: ks, v :: vs => match oneD k v, dispD ks vs with
    | some p, some r => some (p :: r)
    | _, _ => none
  | _, _ => none
def keysD : List (D × D) → List L2.Key
  | [] => []
  | (a, _) :: r => match keyD a with
    | some k => k :: keysD r
    | none => keysD r
def pairK : List (D × D) → List (L2.Key × L2.V)
  | [] => []
  | (a, b) :: r => match keyD a with
    | some k => (k, scaV b) :: pairK r
    | none => pairK r
/-- a written dict -/
def xDct (m : Bool) (kvs : List (D × D)) : TEx := fun _ _ S => mkDct m kvs S
theorem putK_new {acc : List (L2.Key × L2.V)} {k : L2.Key} {v : L2.V} (h : k ∉ acc.map (·.1)) : putK acc k v = acc ++ [(k, v)] := by
  unfold putK
  rw [if_neg]
  intro z
  obtain ⟨q, hq, e⟩ := List.any_eq_true.mp z
  refine h (List.mem_map.mpr ⟨q, hq, ?_⟩)
  simpa using e
theorem mergeK_nd : ∀ {more acc : List (L2.Key × L2.V)}, ((acc ++ more).map (·.1)).Nodup → mergeK acc more = acc ++ more
  | [], acc, _ => by simp [mergeK]
  | (k, v) :: r, acc, h => by
    have hk : k ∉ acc.map (·.1) := fun z => by
      rw [List.map_append] at h
      exact (List.nodup_append.mp h).2.2 k z k (by simp) rfl
    show mergeK (putK acc k v) r = _
    rw [putK_new hk, mergeK_nd (by simpa using h)]
    simp
section
variable [TabC] {T : Tx} {X : Cx} {W : WX} {c : Cl} {pos : Pos}
theorem pe_cst {k : Const} {d : D} {j : Nat} {p : Pos} (h : cstD k = some d) : PE X (.Constant k j p) (tC (scaV d)) := by
  unfold cstD at h
  split at h
  · cases h; exact pe_non
  · cases h; exact pe_bl
  · cases h; exact pe_int
  · cases h; exact pe_str
  · cases h
theorem key_sca {d : D} {k : L2.Key} (h : keyD d = some k) : scaV d = kV k := by
  cases d <;> first | (cases h; rfl) | cases h
theorem rep_sca {K : PySem.W.Frag} {ρ : List Addr} {H : Hp} {k : Const} {d : D} (h : cstD k = some d) : RepD K ρ H d (scaV d) := by
  unfold cstD at h
  split at h
  · cases h; unfold RepD; rfl
  · cases h; unfold RepD; rfl
  · cases h; unfold RepD; rfl
  · cases h; unfold RepD; rfl
  · cases h
/-- the pairs: nothing is touched -/
theorem disp_go : ∀ {ks : List (Option Expr)} {vs : List Expr} {kvs : List (D × D)}, dispD ks vs = some kvs → ∃ trs, PPs X pos ks vs trs ∧ (∀ σ H Q, Q ((pairK kvs).map fun kv => (kV kv.1, kv.2)) H → tPairs trs σ H Q) ∧ (∀ K ρ H, RepKs K ρ H kvs (pairK kvs)) ∧ ks.length = vs.length ∧ (ks.all (·.isSome)) = true ∧ (pairK kvs).map (·.1) = keysD kvs ∧ (pairK kvs).length = ks.length
  | [], [], kvs, h => by
    unfold dispD at h
    cases h
    exact ⟨[], pps_nil, fun σ H Q q => q, fun K ρ H => by unfold RepKs; rfl, rfl, rfl, rfl, rfl⟩
  | [], _ :: _, kvs, h => by unfold dispD at h; cases h
  | _ :: _, [], kvs, h => by unfold dispD at h; cases h
  | k :: ks, v :: vs, kvs, h => by
    unfold dispD at h
    split at h
    case h_2 => cases h
    rename_i pr r e0 e3
    cases h
    unfold oneD at e0
    split at e0
    case h_2 => cases e0
    rename_i kc j p vc j2 p2
    split at e0
    case h_2 => cases e0
    rename_i a b e1 e2
    split at e0
    case isFalse => cases e0
    rename_i hk
    cases e0
    obtain ⟨trs, q1, q2, q3, q4, q5, q6, q7⟩ := disp_go e3
    obtain ⟨kk, ek⟩ := Option.isSome_iff_exists.mp hk
    have ep : pairK ((a, b) :: r) = (kk, scaV b) :: pairK r := by
      show (match keyD a with
        | some k => (k, scaV b) :: pairK r
        | none => pairK r) = _
      rw [ek]
    refine ⟨(tC (scaV a), tC (scaV b)) :: trs, pps_cons (pe_cst e1) (pe_cst e2) q1, fun σ H Q q => ?_, fun K ρ H => ?_, by simp [q4], by simpa using q5, ?_, by rw [ep]; simp [q7]⟩
    · rw [ep] at q
      refine q2 σ H _ ?_
      rw [key_sca ek]
      exact q
    · rw [ep]
      unfold RepKs
      exact ⟨kk, scaV b, pairK r, rfl, by rw [← key_sca ek]; exact rep_sca e1, rep_sca e2, q3 K ρ H⟩
    · rw [ep]
      show _ = (match keyD a with
        | some k => k :: keysD r
        | none => keysD r)
      rw [ek, List.map_cons, q6]
theorem ok_dct {m : Bool} {ks : List (Option Expr)} {vs : List Expr} {kvs : List (D × D)} (h : dispD ks vs = some kvs) (hl : kvs.length ≤ 15) (hk : ks.length ≤ 15) (nd : (keysD kvs).Nodup) : PE X (.Dict ks vs pos) (rdE T X W c (xDct m kvs)) := by
  obtain ⟨trs, q1, q2, q3, q4, q5, q6, q7⟩ := disp_go (X := X) (pos := pos) h
  have fin : ∀ {σ : L2.St} {H : Hp} {Q : VK} {γ : Env} {S : Store} {ρ : List Addr}, RepE T.toTb X.K ρ H γ σ → RepS X.K ρ H S → Po T X W (rV T X) σ ρ H (xDct m kvs c γ S) Q → ∀ p, H p = none → Q (.ref p) (upd H p (.dK (pairK kvs))) := fun {σ H Q γ S ρ} hE hS hP p hp => by
    exact new_dct hS (q3 _ _ _) hP hp
  cases ks with
  | nil =>
    cases vs with
    | cons => simp at q4
    | nil =>
      have ek : kvs = [] := by unfold dispD at h; cases h; rfl
      subst ek
      exact pe_dnewK.imp fun σ H Q ⟨γ, S, ρ, hE, hS, hP⟩ => fin hE hS hP
  | cons k0 ks =>
    refine (pe_disp q1 q5 q4 (by simp) hk).imp fun σ H Q ⟨γ, S, ρ, hE, hS, hP⟩ p hp => q2 σ _ _ ⟨upd_same, pairK kvs, rfl, by rw [q7]; exact hk, ?_⟩
    rw [mergeK_nd (by rw [List.nil_append, q6]; exact nd), List.nil_append, upd_upd]
    exact fin hE hS hP p hp
end
end Mk
/-! Mn3: comprehensions of lists and dicts, one clause or two, whose blocks see no lambdas. -/
namespace Mk
open PySem PySem.Spec PyProof.Rows L2
/-- a table in which no cells are known -/
def Tx.none (T : Tx) : Tx := T.inn fun _ _ => False
section
variable [TabC] {T T0 : Tx} {X : Cx} {W : WX} {c : Cl} {σ : L2.St} {ρ ρ' ρ1 : List Addr} {H H' H1 : Hp} {γ : Env} {S S1 : Store} {pos : Pos} {n : Nat} {D : Addr}
mutual
theorem RepV.noC {K : PySem.W.Frag} : ∀ {x : Vl} {v : L2.V}, noC x = true → RepV T.toTb K ρ H x v → RepV T.none.toTb K ρ H x v
  | .d x, v, _, r => by unfold RepV at *; exact r
  | .sc xs, v, _, r => by unfold RepV at *; exact r
  | .r i, v, _, r => by unfold RepV at *; exact r
  | .fn f, v, _, r => by unfold RepV at *; exact r
  | .tv xs, v, f, r => by
    unfold RepV at *
    unfold Mk.noC at f
    obtain ⟨a, vs, h1, h2, h3⟩ := r
    exact ⟨a, vs, h1, h2, RepVs.noC f h3⟩
  | .lv xs, v, f, r => by
    unfold RepV at *
    unfold Mk.noC at f
    obtain ⟨a, vs, h1, h2, h3, h4⟩ := r
    exact ⟨a, vs, h1, h2, h3, RepVs.noC f h4⟩
  | .co l, v, f, r => by unfold Mk.noC at f; cases f
  | .ex k x, v, f, r => by unfold Mk.noC at f; cases f
  | .cv l xs, v, f, r => by unfold Mk.noC at f; cases f
theorem RepVs.noC {K : PySem.W.Frag} : ∀ {xs : List Vl} {vs : List L2.V}, noCs xs = true → RepVs T.toTb K ρ H xs vs → RepVs T.none.toTb K ρ H xs vs
  | [], vs, _, r => by unfold RepVs at *; exact r
  | x :: xs, vs, f, r => by
    unfold RepVs at *
    unfold Mk.noCs at f
    obtain ⟨f1, f2⟩ := Bool.and_eq_true_iff.mp f
    obtain ⟨v, w, h1, h2, h3⟩ := r
    exact ⟨v, w, h1, RepV.noC f1 h2, RepVs.noC f2 h3⟩
end
theorem RepE.drop (h : RepE T.toTb X.K ρ H γ σ) : RepE T.none.toTb X.K ρ H (dropE γ) σ := by
  refine ⟨by unfold dropE; rw [List.length_map]; exact h.len, fun i v q => ?_⟩
  unfold dropE at q
  rw [List.getElem?_map] at q
  cases e : γ[i]? with
  | none => rw [e] at q; cases q
  | some o =>
    rw [e] at q
    cases o with
    | none => cases q
    | some u =>
      have q' : some (if Mk.noC u = true then some u else none) = some (some v) := q
      by_cases c : Mk.noC u = true
      · rw [if_pos c] at q'
        cases q'
        obtain ⟨x, h1, h2⟩ := h.at_ i _ e
        exact ⟨x, h1, h2.noC c⟩
      · rw [if_neg c] at q'; cases q'
theorem noCs_get : ∀ {xs : List Vl} {i : Nat} {x : Vl}, noCs xs = true → xs[i]? = some x → Mk.noC x = true
  | [], i, x, _, e => by simp at e
  | y :: ys, i, x, f, e => by
    unfold noCs at f
    obtain ⟨f1, f2⟩ := Bool.and_eq_true_iff.mp f
    cases i with
    | zero => simp at e; subst e; exact f1
    | succ i => exact noCs_get f2 (i := i) (by simpa using e)
theorem Walks.drop {J : It} {xs : List Vl} (f : noCs xs = true) (w : Walks T X ρ H J xs) : Walks T.none X ρ H J xs where
  go := fun i ρ' H' x e hx => by
    obtain ⟨g1, g2⟩ := w.go i ρ' H' x e hx
    exact ⟨g1, fun v H2 y => ⟨(g2 v H2 y).1, (g2 v H2 y).2.noC (noCs_get f hx)⟩⟩
  stop := w.stop
theorem RepO.d {kvs : List (Mk.D × Mk.D)} {ks : List (L2.Key × L2.V)} (h : RepKs X.K ρ H kvs ks) : RepO X.K ρ H (.dct kvs) (.dK ks) := ⟨ks, rfl, h⟩
theorem RepO.l {xs : List Mk.D} {vs : List L2.V} (h : RepDs X.K ρ H xs vs) : RepO X.K ρ H (.lst xs) (.lst vs) := ⟨vs, rfl, h⟩
/-- what a turn adds, as it is read -/
abbrev TEmR := L2.St → Hp → (Hp → Prop) → Prop
def EmOk (T0 : Tx) (X : Cx) (c : Cl) (n : Nat) (D : Addr) (em : TEm) (TT : TEmR) : Prop := ∀ (σ : L2.St) (γ : Env) (H : Hp) (S : Store) (ρ : List Addr) (Nx : Hp → Prop), RepE T0.toTb X.K ρ H γ σ → RepS X.K ρ H S → ρ[n]? = some D → (∃ S', em c γ n S = .ok () S') →
  (∀ S' ρ' H', Ext ρ ρ' H H' → RepS X.K ρ' H' S' → em c γ n S = .ok () S' → Nx H') → TT σ H Nx
theorem emL_ok {e : TEx} : EmOk T0 X c n D (emL e) (fun σ H Nx => rdE T0 X WF c e σ H fun y H4 => ∃ acc, H4 D = some (.lst acc) ∧ acc.length < sizeLine ∧ Nx (upd H4 D (.lst (acc ++ [y])))) := by
  intro σ γ H S ρ Nx hE hS hD ⟨S', hok⟩ hN
  refine ⟨γ, S, ρ, hE, hS, ?_⟩
  unfold emL at hok hN
  cases q : e c γ S with
  | stuck => rw [q] at hok; cases hok
  | er k x S2 => rw [q] at hok; cases hok
  | ok v S2 =>
    rw [q] at hok hN
    refine fun y H4 ρ4 e4 r4 hS4 => ?_
    cases v with
    | d d =>
      dsimp only at hok hN
      cases q3 : S2[n]? with
      | none => rw [q3] at hok; cases hok
      | some ob =>
        cases ob with
        | dct kvs => rw [q3] at hok; cases hok
        | lst out =>
          rw [q3] at hok hN
          dsimp only at hok hN
          obtain ⟨D', acc, d1, d2, d3⟩ := hS4.at_ n out q3
          have hD4 : ρ4[n]? = some D := e4.get hD
          rw [hD4] at d1
          cases d1
          by_cases hl : out.length < LINE
          · rw [if_pos hl] at hN
            refine ⟨acc, d2, by rw [line_eq, d3.length]; exact hl, ?_⟩
            have r4' : RepD X.K ρ4 H4 d y := by unfold rV RepV at r4; exact r4
            exact hN _ ρ4 _ (e4.trans (Ext.chg (List.mem_of_getElem? hD4))) (hS4.chg hD4 (d3.append (RepDs.cons r4' RepDs.nil))) rfl
          · rw [if_neg hl] at hok; cases hok
    | _ => cases hok
theorem emD_ok {kx vx : TEx} : EmOk T0 X c n D (emD kx vx) (fun σ H Nx => rdE T0 X WF c kx σ H fun y H4 => rdE T0 X WF c vx σ H4 fun z H5 => ∃ kvs k, y = kV k ∧ H5 D = some (.dK kvs) ∧ kvs.length < sizeLine ∧ Nx (upd H5 D (.dK (putK kvs k z)))) := by
  intro σ γ H S ρ Nx hE hS hD ⟨S', hok⟩ hN
  refine ⟨γ, S, ρ, hE, hS, ?_⟩
  unfold emD at hok hN
  cases q : kx c γ S with
  | stuck => rw [q] at hok; cases hok
  | er k x S2 => rw [q] at hok; cases hok
  | ok v S2 =>
    rw [q] at hok hN
    refine fun y H4 ρ4 e4 r4 hS4 => ?_
    cases v with
    | d d =>
      dsimp only at hok hN
      refine ⟨γ, S2, ρ4, hE.mono hS.out e4, hS4, ?_⟩
      cases q2 : vx c γ S2 with
      | stuck => rw [q2] at hok; cases hok
      | er k x S3 => rw [q2] at hok; cases hok
      | ok v3 S3 =>
        rw [q2] at hok hN
        refine fun z H5 ρ5 e5 r5 hS5 => ?_
        cases v3 with
        | d d3 =>
          dsimp only at hok hN
          cases q3 : S3[n]? with
          | none => rw [q3] at hok; cases hok
          | some ob =>
            cases ob with
            | lst xs => rw [q3] at hok; cases hok
            | dct kvs =>
              rw [q3] at hok hN
              dsimp only at hok hN
              obtain ⟨D', ks, c1, c2, c3⟩ := hS5.atd n kvs q3
              have hD5 : ρ5[n]? = some D := e5.get (e4.get hD)
              rw [hD5] at c1
              cases c1
              by_cases hl : (isK d && decide (kvs.length < LINE)) = true
              · rw [if_pos hl] at hN
                rw [Bool.and_eq_true, decide_eq_true_eq] at hl
                have r4' : RepD X.K ρ4 H4 d y := by unfold rV RepV at r4; exact r4
                have r5' : RepD X.K ρ5 H5 d3 z := by unfold rV RepV at r5; exact r5
                obtain ⟨k', rfl, rfl⟩ := key_of_isK hl.1 r4'
                exact ⟨ks, k', rfl, c2, by rw [line_eq, c3.len]; exact hl.2, hN _ ρ5 _ ((e4.trans e5).trans (Ext.chg (List.mem_of_getElem? hD5))) (hS5.chgOb hD5 (RepO.d (c3.put k' r5'))) rfl⟩
              · rw [if_neg hl] at hok; cases hok
        | _ => cases hok
    | _ => cases hok
/-- one turn: what is left to do -/
theorem g_turn {ws w : List Nat} {g : TTg} {t : TTs} {em : TEm} {TT : TEmR} {x : Vl} {v : L2.V} {m : R Unit} {Nx : Hp → Prop} {K0 : Store → R Unit}
    (hem : EmOk T0 X c n D em TT) (hw : ∀ j ∈ ws, j ∈ w) (hD : ρ[n]? = some D) (hE : RepE T0.toTb X.K ρ H γ (wipe σ w)) (hS : RepS X.K ρ H S) (hv : RepV T0.toTb X.K ρ H x v)
    (hm : (match g x γ with
      | none => .stuck
      | some γ1 => match t c γ1 S with
        | .ok true S1 => match em c γ1 n S1 with
          | .ok _ S2 => K0 S2
          | _ => .stuck
        | .ok false S1 => K0 S1
        | _ => .stuck) = m) (hok : ∃ S', m = .ok () S')
    (hN : ∀ S' ρ' H', Ext ρ ρ' H H' → RepS X.K ρ' H' S' → K0 S' = m → Nx H') :
    rdTg T0 X g ws v (wipe σ w) H fun σ2 H2 => wipe σ2 w = wipe σ w ∧ rdT T0 X WF c t σ2 H2 fun b H3 => if b = true then TT σ2 H3 Nx else Nx H3 := by
  subst hm
  obtain ⟨So, hok⟩ := hok
  split at hok
  · cases hok
  rename_i γ1 eg
  rw [eg] at hN
  refine ⟨x, γ, γ1, ρ, hv, hE, eg, fun σ2 hE2 l2 ag => ⟨wipe_eq l2 hw ag, γ1, S, ρ, hE2, hS, ?_⟩⟩
  dsimp only at hN hok
  cases q : t c γ1 S with
  | stuck => rw [q] at hok; cases hok
  | er k y S1 => rw [q] at hok; cases hok
  | ok b S1 =>
    rw [q] at hN hok
    refine fun b' H3 ρ3 e3 rb hS3 => ?_
    have rb' : b' = b := rb
    subst rb'
    cases b' with
    | false =>
      dsimp only
      rw [if_neg Bool.false_ne_true]
      exact hN S1 ρ3 H3 e3 hS3 rfl
    | true =>
      dsimp only at hN hok ⊢
      rw [if_pos rfl]
      cases q2 : em c γ1 n S1 with
      | stuck => rw [q2] at hok; cases hok
      | er k y S2 => rw [q2] at hok; cases hok
      | ok u S2 =>
        rw [q2] at hN
        refine hem σ2 γ1 H3 S1 ρ3 Nx (hE2.mono hS.out e3) hS3 (e3.get hD) ⟨S2, q2⟩ fun S' ρ' H' e' hS' q' => ?_
        rw [q2] at q'
        cases q'
        exact hN _ ρ' H' (e3.trans e') hS' rfl
/-- the turns of a clause -/
def TurnsG (J : It) (g : TG) (tt : TT) (TT : TEmR) (w : List Nat) (σ : L2.St) (H : Hp) (Nx : Hp → Prop) : Prop :=
  ∃ U : Nat → Nat → Hp → Prop, (∃ m, U 0 m H) ∧ ∀ i m H, U i m H → (J.stop i H ∧ Nx H) ∨ (J.go i H ∧ ∃ Nx1 : Hp → Prop, (∀ H', Nx1 H' → ∃ m', m' < m ∧ U (i + 1) m' H') ∧
    ∀ x H', J.yld i H x H' → g x (wipe σ w) H' fun σ2 H2 => wipe σ2 w = wipe σ w ∧ tt σ2 H2 fun b H3 => if b = true then TT σ2 H3 Nx1 else Nx1 H3)
theorem g_turns {w ws : List Nat} {g : TTg} {t : TTs} {em : TEm} {TT : TEmR} {J : It} {d : Itr} {Nx : Hp → Prop} (hem : EmOk T0 X c n D em TT) (hw : ∀ j ∈ ws, j ∈ w) (hE : RepE T0.toTb X.K ρ H γ σ) (hS : RepS X.K ρ H S) (hD : ρ[n]? = some D)
    (r : match d with
      | .its xs => Walks T0 X ρ H J xs
      | .ref i => ∃ a, ρ[i]? = some a ∧ J = Itl X.K a)
    (hok : ∃ S', gRun g t em c (wipeE γ w) n d S = .ok () S')
    (hN : ∀ S' ρ' H', Ext ρ ρ' H H' → RepS X.K ρ' H' S' → gRun g t em c (wipeE γ w) n d S = .ok () S' → Nx H') :
    TurnsG J (rdTg T0 X g ws) (rdT T0 X WF c t) TT w σ H Nx := by
  have hE2 : RepE T0.toTb X.K ρ H (wipeE γ w) (wipe σ w) := hE.wipe
  obtain ⟨S0, hok⟩ := hok
  cases d with
  | its xs =>
    have wk : Walks T0 X ρ H J xs := r
    have hok' : gLoop g t em c (wipeE γ w) n xs S = .ok () S0 := hok
    refine ⟨fun i k H' => k = xs.length - i ∧ i ≤ xs.length ∧ ∃ S' ρ', Ext ρ ρ' H H' ∧ RepS X.K ρ' H' S' ∧ gLoop g t em c (wipeE γ w) n (xs.drop i) S' = .ok () S0, ⟨_, rfl, Nat.zero_le _, _, _, Ext.refl _ _, hS, hok'⟩, ?_⟩
    rintro i k H' ⟨rfl, hl, S', ρ', e', hS', eq⟩
    by_cases hlt : i < xs.length
    · have hx : xs[i]? = some xs[i] := List.getElem?_eq_getElem hlt
      obtain ⟨g1, g2⟩ := wk.go i ρ' H' _ e' hx
      refine .inr ⟨g1, fun H2 => ∃ S' ρ', Ext ρ ρ' H H2 ∧ RepS X.K ρ' H2 S' ∧ gLoop g t em c (wipeE γ w) n (xs.drop (i + 1)) S' = .ok () S0, fun H2 q => ⟨_, by omega, rfl, hlt, q⟩, fun v H2 y => ?_⟩
      obtain ⟨y1, y2⟩ := g2 v H2 y
      have ey : Ext ρ' ρ' H' H2 := ext_yld y1
      rw [List.drop_eq_getElem_cons hlt] at eq
      unfold gLoop at eq
      exact g_turn hem hw (e'.get hD) (hE2.mono hS.out (e'.trans ey)) (reps_yld y1 hS') y2 eq ⟨S0, rfl⟩ fun S3 ρ3 H3 e3 hS3 q => ⟨S3, ρ3, (e'.trans ey).trans e3, hS3, q⟩
    · have hi : i = xs.length := by omega
      subst hi
      rw [List.drop_length] at eq
      cases eq
      exact .inl ⟨wk.stop _ ρ' H' e' (Nat.le_refl _), hN _ ρ' H' e' hS' hok⟩
  | ref o =>
    obtain ⟨a, ha, rfl⟩ := r
    have hok' : gRef g t em c (wipeE γ w) n o (LINE + 1) 0 S = .ok () S0 := hok
    refine ⟨fun i k H' => ∃ S' ρ', Ext ρ ρ' H H' ∧ RepS X.K ρ' H' S' ∧ gRef g t em c (wipeE γ w) n o k i S' = .ok () S0, ⟨_, _, _, Ext.refl _ _, hS, hok'⟩, ?_⟩
    rintro i k H' ⟨S', ρ', e', hS', eq⟩
    cases k with
    | zero => cases eq
    | succ k =>
      have ha' : ρ'[o]? = some a := e'.get ha
      unfold gRef at eq
      cases eo : S'[o]? with
      | none => rw [eo] at eq; cases eq
      | some ob =>
        cases ob with
        | dct kvs => rw [eo] at eq; cases eq
        | lst xs =>
          rw [eo] at eq
          dsimp only at eq
          obtain ⟨a', vs, b1, b2, b3⟩ := hS'.at_ o xs eo
          rw [ha'] at b1
          cases b1
          cases en : xs[i]? with
          | none =>
            rw [en] at eq
            cases eq
            exact .inl ⟨⟨vs, SqL.of b2, by rw [b3.length]; exact List.getElem?_eq_none_iff.mp en⟩, hN _ ρ' H' e' hS' hok⟩
          | some x =>
            rw [en] at eq
            obtain ⟨v, n1, n2⟩ := b3.get en
            refine .inr ⟨⟨vs, v, SqL.of b2, n1⟩, fun H2 => ∃ S' ρ', Ext ρ ρ' H H2 ∧ RepS X.K ρ' H2 S' ∧ gRef g t em c (wipeE γ w) n o k (i + 1) S' = .ok () S0, fun H2 q => ⟨k, Nat.lt_succ_self _, q⟩, fun v' H2 y => ?_⟩
            obtain ⟨rfl, y2⟩ := y
            have ev := y2 vs (SqL.of b2)
            rw [n1] at ev
            cases ev
            exact g_turn (x := .d x) (K0 := fun S3 => gRef g t em c (wipeE γ w) n o k (i + 1) S3) hem hw (e'.get hD) (hE2.mono hS.out e') hS' (by unfold RepV; exact n2) eq ⟨S0, rfl⟩ fun S3 ρ3 H3 e3 hS3 q => ⟨S3, ρ3, e'.trans e3, hS3, q⟩
theorem emIn_ok {w ws : List Nat} {it : TIt} {g : TTg} {t : TTs} {em : TEm} {TT : TEmR} (hem : EmOk T0 X c n D em TT) (hw : ∀ j ∈ ws, j ∈ w) :
    EmOk T0 X c n D (emIn w it g t em) (fun σ H Nx => rdI T0 X WF c it σ H fun J H1 => TurnsG J (rdTg T0 X g ws) (rdT T0 X WF c t) TT w σ H1 Nx) := by
  intro σ γ H S ρ Nx hE hS hD ⟨S', hok⟩ hN
  refine ⟨γ, S, ρ, hE, hS, ?_⟩
  unfold emIn at hok hN
  cases q : it c γ S with
  | stuck => rw [q] at hok; cases hok
  | er k x S2 => rw [q] at hok; cases hok
  | ok d S1 =>
    rw [q] at hok hN
    refine fun J H1 ρ1 e1 r hS1 => ?_
    refine g_turns (d := d) hem hw (hE.mono hS.out e1) hS1 (e1.get hD) ?_ ⟨S', hok⟩ fun S2 ρ2 H2 e2 hS2 q2 => hN S2 ρ2 H2 (e1.trans e2) hS2 q2
    cases d with
    | its xs => exact r hS1.out
    | ref i => exact r
theorem cm_end {m : Bool} {S' : Store} {o : Ob} {u : HO} {Q : VK} (hD : H1 D = none) (hl : ρ1.length = S1.length) (e : Ext (ρ1 ++ [D]) ρ' (upd H1 D u) H') (hS : RepS X.K ρ' H' S') (hP : Po T X W (rV T X) σ ρ1 H1 (cmEnd m S1.length S') Q) : Q (.ref D) H' := by
  unfold cmEnd at hP
  split at hP
  case isFalse => exact hP.elim
  rename_i hn
  split at hP
  case h_2 => exact hP.elim
  rename_i out eo
  have hl2 : ρ'.length = (ρ1 ++ [D]).length := by rw [hS.len, hn, List.length_append, hl]; rfl
  have hρ : ρ' = ρ1 ++ [D] := by
    have := e.take
    rw [← hl2, List.take_length] at this
    exact this
  have hDn : (ρ1 ++ [D])[S1.length]? = some D := by rw [← hl]; simp
  obtain ⟨D', acc, d1, d2, d3⟩ := hS.ob eo
  rw [hρ, hDn] at d1
  cases d1
  have nd : D ∉ ρ1 := fun z => by
    have := hS.nd
    rw [hρ] at this
    exact (List.nodup_append.mp this).2.2 D z D (by simp) rfl
  have kk : ∀ b o, H1 b = some o → upd H1 D u b = some o := fun b o q => by rw [upd_ne (ne_of_none q hD)]; exact q
  have eb : Ext ρ1 ρ1 H1 H' := e.base kk fun b hb => by
    have : b = D := by simpa using hb
    subst this; exact hD
  have sb : ∀ a ∈ ρ1, a ∈ ρ' := fun a z => by rw [hρ]; exact List.mem_append_left _ z
  cases m with
  | false =>
    refine hP (.ref D) H' ρ1 eb ?_ ?_
    · unfold rV RepV
      cases out with
      | lst xs =>
        obtain ⟨vs, rfl, d3⟩ := d3
        unfold obD RepD
        exact ⟨D, vs, rfl, nd, d2, d3.sub sb⟩
      | dct kvs =>
        obtain ⟨vs, rfl, d3⟩ := d3
        unfold obD RepD
        exact ⟨D, vs, rfl, nd, d2, d3.sub sb⟩
    · have := hS.take (n := S1.length)
      rwa [hρ, ← hl, List.take_left, hl] at this
  | true =>
    refine hP (.ref D) H' ρ' ?_ ?_ hS
    · rw [hρ]
      exact ⟨⟨[D], rfl, by simp [hD]⟩, eb.keep, eb.stay⟩
    · unfold rV RepV
      exact ⟨D, by rw [hρ]; exact hDn, rfl⟩
/-- the head of a comprehension: from its iterable to its turns -/
theorem cm_top {m : Bool} {o : Ob} {u : HO} {w ws : List Nat} {it : TIt} {g : TTg} {t : TTs} {em : TEm} {TT : Addr → TEmR} {Q : VK} (ho : ∀ ρ H, RepO X.K ρ H o u) (hem : ∀ n D, EmOk T.none X c n D em (TT D)) (hw : ∀ j ∈ ws, j ∈ w)
    (h : rdE T X W c (xCm m o w it g t em) σ H Q) :
    rdI T X W c it σ H fun J H1 => ∀ D, H1 D = none → TurnsG J (rdTg T.none X g ws) (rdT T.none X WF c t) (TT D) w σ (upd H1 D u) (Q (.ref D)) := by
  obtain ⟨γ, S, ρ, hE, hS, hP⟩ := h
  refine rd_bind hE hS hP fun J H1 d S1 ρ1 e1 r hE1 hS1 hP1 D hD => ?_
  have em0 : Ext ρ1 (ρ1 ++ [D]) H1 (upd H1 D u) := Ext.newMem hD
  have hS2 : RepS X.K (ρ1 ++ [D]) (upd H1 D u) (S1 ++ [o]) := hS1.newOb hD (ho _ _)
  have hDn : (ρ1 ++ [D])[S1.length]? = some D := by rw [← hS1.len]; simp
  have hE2 : RepE T.none.toTb X.K (ρ1 ++ [D]) (upd H1 D u) (dropE γ) σ := (hE1.mono hS1.out em0).drop
  cases q : dropI d with
  | none => rw [q] at hP1; exact hP1.elim
  | some d' =>
    rw [q] at hP1
    dsimp only at hP1
    obtain ⟨Rr, hR⟩ : ∃ Rr, gRun g t em c (wipeE (dropE γ) w) S1.length d' (S1 ++ [o]) = Rr := ⟨_, rfl⟩
    rw [hR] at hP1
    have hok : ∃ S3, Rr = .ok () S3 := by
      cases Rr with
      | ok u S3 => exact ⟨S3, rfl⟩
      | er kk x S3 => exact hP1.elim
      | stuck => exact hP1.elim
    obtain ⟨S3, rfl⟩ := hok
    refine g_turns (d := d') (hem S1.length D) hw hE2 hS2 hDn ?_ ⟨S3, hR⟩ fun S' ρ' H' e' hS' q' => ?_
    · cases d with
      | ref i =>
        unfold dropI at q
        cases q
        obtain ⟨a, h1, h2⟩ := r
        exact ⟨a, em0.get h1, h2⟩
      | its xs =>
        have q : (if noCs xs = true then some (Itr.its xs) else none) = some d' := q
        split at q
        case isFalse => cases q
        rename_i hn
        cases q
        have wk : Walks T X ρ1 H1 J xs := r hS1.out
        have wk2 := wk.drop hn
        exact ⟨fun i ρ' H' y e hy => wk2.go i ρ' H' y (em0.trans e) hy, fun i ρ' H' e hl => wk2.stop i ρ' H' (em0.trans e) hl⟩
    · rw [hR] at q'
      cases q'
      exact cm_end (o := o) hD hS1.len e' hS' hP1
theorem rdI_bl {s : Shared} {H0 : Hp} {scope : Scope} {C : Addr} {cl : List (Str × Addr)} {fp : List Addr} {it : TIt} {R : It → Hp → Prop} (h : rdI T0 X WF c it σ H R) : rdI T0 (bl X s H0 scope C cl fp) WF c it σ H R := by
  obtain ⟨γ, S, ρ, hE, hS, hP⟩ := h
  refine ⟨γ, S, ρ, hE, hS, ?_⟩
  cases q : it c γ S with
  | stuck => rw [q] at hP; exact hP.elim
  | er k x S1 => rw [q] at hP; exact hP
  | ok d S1 =>
    rw [q] at hP
    refine fun v H' ρ' e r hS' => hP v H' ρ' e ?_ hS'
    cases d with
    | its xs =>
      have r' : TupOut ρ' H' → Walks T0 (bl X s H0 scope C cl fp) ρ' H' v xs := r
      exact fun o => ⟨(r' o).go, (r' o).stop⟩
    | ref i => exact r
theorem ok_dc {m : Bool} {kx vx tg iter : Expr} {ifs : List Expr} {scope : Scope} {own : List (Str × Nat)} {ws : List Nat} {it : TIt} {g : TTg} {t : TTs} {ke ve : TEx}
    (hc : X.calm = true) (hN : X.N.Nodup) (hi : PI X tg iter (rdI T X W c it)) (ok : BlkOk X.N X.env.scope scope own) (hw : ∀ j ∈ ws, j ∈ own.map (·.2)) (hs : ∀ x, foldedSetIterable iter X.env x = pure x)
    (hb : ∀ (s : Shared) (H : Hp) (C : Addr) (cl : List (Str × Addr)) (fp : List Addr), PG (bl X s H scope C cl fp) tg (rdTg T.none (bl X s H scope C cl fp) g ws) ∧ PTs (bl X s H scope C cl fp) ifs (rdT T.none (bl X s H scope C cl fp) WF c t) ∧
      PE (bl X s H scope C cl fp) kx (rdE T.none (bl X s H scope C cl fp) WF c ke) ∧ PE (bl X s H scope C cl fp) vx (rdE T.none (bl X s H scope C cl fp) WF c ve)) :
    PE X (.DictComp kx vx [⟨tg, iter, ifs, 0⟩] scope pos) (rdE T X W c (xCm m (.dct []) (own.map (·.2)) it g t (emD ke ve))) :=
  (pe_dc (g := rdTg T.none X g ws) (tt := rdT T.none X WF c t) (tk := rdE T.none X WF c ke) (tv := rdE T.none X WF c ve) hc hN hi ok (fun s H C cl fp => (hb s H C cl fp).1) (fun s H C cl fp => (hb s H C cl fp).2.1) (fun s H C cl fp => (hb s H C cl fp).2.2.1) (fun s H C cl fp => (hb s H C cl fp).2.2.2) hs).imp fun σ H Q h =>
    cm_top (u := .dK []) (ws := ws) (TT := fun D σ H Nx => rdE T.none X WF c ke σ H fun y H4 => rdE T.none X WF c ve σ H4 fun z H5 => ∃ kvs k, y = kV k ∧ H5 D = some (.dK kvs) ∧ kvs.length < sizeLine ∧ Nx (upd H5 D (.dK (putK kvs k z)))) (o := .dct []) (fun ρ H => RepO.d RepKs.nil) (fun n D => emD_ok) hw h
theorem ok_lc2 {m : Bool} {elt tg iter tg1 iter1 : Expr} {ifs ifs1 : List Expr} {scope : Scope} {own : List (Str × Nat)} {ws ws1 w1 : List Nat} {it it1 : TIt} {g g1 : TTg} {t t1 : TTs} {e : TEx}
    (hc : X.calm = true) (hN : X.N.Nodup) (hi : PI X tg iter (rdI T X W c it)) (ok : BlkOk X.N X.env.scope scope own) (hw : ∀ j ∈ ws, j ∈ own.map (·.2)) (hw1 : ∀ j ∈ ws1, j ∈ w1) (hv : ∀ i ∈ w1, i ∈ own.map (·.2)) (hs : ∀ x, foldedSetIterable iter X.env x = pure x) (hs1 : ∀ env x, foldedSetIterable iter1 env x = pure x)
    (hb : ∀ (s : Shared) (H : Hp) (C : Addr) (cl : List (Str × Addr)) (fp : List Addr), PG (bl X s H scope C cl fp) tg (rdTg T.none (bl X s H scope C cl fp) g ws) ∧ PTs (bl X s H scope C cl fp) ifs (rdT T.none (bl X s H scope C cl fp) WF c t) ∧
      PI (bl X s H scope C cl fp) tg1 iter1 (rdI T.none (bl X s H scope C cl fp) WF c it1) ∧ PG (bl X s H scope C cl fp) tg1 (rdTg T.none (bl X s H scope C cl fp) g1 ws1) ∧ PTs (bl X s H scope C cl fp) ifs1 (rdT T.none (bl X s H scope C cl fp) WF c t1) ∧ PE (bl X s H scope C cl fp) elt (rdE T.none (bl X s H scope C cl fp) WF c e)) :
    PE X (.ListComp elt [⟨tg, iter, ifs, 0⟩, ⟨tg1, iter1, ifs1, 0⟩] scope pos) (rdE T X W c (xCm m (.lst []) (own.map (·.2)) it g t (emIn w1 it1 g1 t1 (emL e)))) :=
  (pe_lc2 (g := rdTg T.none X g ws) (tt := rdT T.none X WF c t) (wi1 := rdI T.none X WF c it1) (g1 := rdTg T.none X g1 ws1) (tt1 := rdT T.none X WF c t1) (te := rdE T.none X WF c e) (vs1 := w1) hc hN hi ok hv (fun s H C cl fp => (hb s H C cl fp).1) (fun s H C cl fp => (hb s H C cl fp).2.1)
    (fun s H C cl fp => (hb s H C cl fp).2.2.1.imp fun σ H R h => rdI_bl h) (fun s H C cl fp => (hb s H C cl fp).2.2.2.1) (fun s H C cl fp => (hb s H C cl fp).2.2.2.2.1) (fun s H C cl fp => (hb s H C cl fp).2.2.2.2.2) hs hs1).imp fun σ H Q h =>
    cm_top (u := .lst []) (ws := ws) (TT := fun D σ H Nx => rdI T.none X WF c it1 σ H fun J H1 => TurnsG J (rdTg T.none X g1 ws1) (rdT T.none X WF c t1) (fun σ H Nx => rdE T.none X WF c e σ H fun y H4 => ∃ acc, H4 D = some (.lst acc) ∧ acc.length < sizeLine ∧ Nx (upd H4 D (.lst (acc ++ [y])))) w1 σ H1 Nx) (o := .lst []) (fun ρ H => RepO.l RepDs.nil) (fun n D => emIn_ok emL_ok hw1) hw h
end
end Mk
/-! Mn4: sorted, starred displays, list(range(..)), a local def that is called. -/
namespace Mk
open PySem PySem.Spec PyProof.Rows L2 StX
theorem insI_perm (i : Int) : ∀ l : List Int, (insI i l).Perm (i :: l)
  | [] => .refl _
  | j :: r => by
    unfold insI
    split
    · exact .refl _
    · exact ((insI_perm i r).cons j).trans (List.Perm.swap i j r)
theorem sortI_perm : ∀ l : List Int, (sortI l).Perm l
  | [] => .refl _
  | i :: r => by
    unfold sortI
    exact (insI_perm i _).trans ((sortI_perm r).cons i)
theorem insI_pw (i : Int) : ∀ l : List Int, l.Pairwise (· ≤ ·) → (insI i l).Pairwise (· ≤ ·)
  | [], _ => by unfold insI; exact List.pairwise_singleton _ _
  | j :: r, h => by
    obtain ⟨h1, h2⟩ := List.pairwise_cons.mp h
    unfold insI
    split
    · rename_i hij
      refine List.pairwise_cons.mpr ⟨fun a ha => ?_, h⟩
      rcases List.mem_cons.mp ha with rfl | ha
      · exact hij
      · exact Int.le_trans hij (h1 a ha)
    · rename_i hij
      refine List.pairwise_cons.mpr ⟨fun a ha => ?_, insI_pw i r h2⟩
      rcases List.mem_cons.mp ((insI_perm i r).mem_iff.mp ha) with rfl | ha
      · omega
      · exact h1 a ha
theorem sortI_pw : ∀ l : List Int, (sortI l).Pairwise (· ≤ ·)
  | [] => List.Pairwise.nil
  | i :: r => by unfold sortI; exact insI_pw i _ (sortI_pw r)
theorem sortI_eq {l l' : List Int} (p : l'.Perm l) (s : l'.Pairwise (· ≤ ·)) : l' = sortI l :=
  List.Perm.eq_of_pairwise (le := (· ≤ ·)) (fun a b _ _ h1 h2 => Int.le_antisymm h1 h2) s (sortI_pw l) (p.trans (sortI_perm l).symm)
section
variable [TabC] {T : Tx} {X : Cx} {W : WX} {c : Cl} {σ : L2.St} {ρ ρ' ρ1 : List Addr} {H H' H1 : Hp} {γ : Env} {S S1 : Store} {pos : Pos}
theorem allInt_rep : ∀ {xs : List D} {is : List Int} {vs : List L2.V}, allInt xs = some is → RepDs X.K ρ H xs vs → vs = is.map V.int
  | [], is, vs, e, r => by unfold allInt at e; cases e; unfold RepDs at r; subst r; rfl
  | x :: xs, is, vs, e, r => by
    unfold RepDs at r
    obtain ⟨v, rest, rfl, h1, h2⟩ := r
    cases x with
    | int i =>
      unfold allInt at e
      split at e
      · rename_i js q
        cases e
        unfold RepD at h1
        subst h1
        rw [allInt_rep q h2]
        rfl
      · cases e
    | _ => unfold allInt at e; cases e
theorem allInt_keys : ∀ {kvs : List (D × D)} {is : List Int} {ks : List (L2.Key × L2.V)}, allInt (kvs.map (·.1)) = some is → RepKs X.K ρ H kvs ks → ks.map (·.1) = is.map Sum.inl
  | [], is, ks, e, r => by unfold List.map allInt at e; cases e; unfold RepKs at r; subst r; rfl
  | (k, x) :: kvs, is, ks, e, r => by
    unfold RepKs at r
    obtain ⟨k', v, rest, rfl, h1, _, h3⟩ := r
    rw [List.map_cons] at e
    have := repd_key h1
    subst this
    cases k' with
    | inl i =>
      unfold dKy allInt at e
      split at e
      · rename_i js q
        cases e
        rw [List.map_cons, List.map_cons, allInt_keys q h3]
      · cases e
    | inr z => unfold dKy allInt at e; cases e
theorem ints_rep {is : List Int} : RepDs X.K ρ H (is.map .int) (is.map V.int) := by
  induction is with
  | nil => exact RepDs.nil
  | cons i is ih => exact RepDs.cons (by unfold RepD; rfl) ih
theorem biv_sorted {m : Bool} (hc : X.calm = true) : BiV T X W (.builtin "sorted") (bSorted m) := by
  refine biv_of (cr_sortedI.or (call_sortedDI hc)) fun σ H ρ S xs vs Q p hs hP => ?_
  unfold bSorted at hP
  split at hP
  case h_2 => exact hP.elim
  obtain ⟨v, rfl, r⟩ := repvs1 p
  split at hP
  · rename_i ys q
    obtain ⟨a, vs, rfl, ha, ra⟩ := now_lst (dat_rep hs r q)
    split at hP
    case h_2 => exact hP.elim
    rename_i is qi
    have := allInt_rep qi ra
    subst this
    exact .inl ⟨a, is, rfl, SqL.of ha, fun ns' p hp hw hn => by
      have := sortI_eq hp hw
      subst this
      exact new_lst hs ints_rep hP hn⟩
  · split at hP
    case h_2 => exact hP.elim
    rename_i kvs q
    split at hP
    case h_2 => exact hP.elim
    rename_i is qi
    split at hP
    case isFalse => exact hP.elim
    rename_i hl
    obtain ⟨a, ks, rfl, ha, hr⟩ := dko_rep hs r q
    exact .inr ⟨a, ks, is, rfl, .inl ha, allInt_keys qi hr, hl, fun ys p hp hw hn => by
      have := sortI_eq hp hw
      subst this
      exact new_lst hs ints_rep hP hn⟩
/-! ### starred items -/
theorem oka_star {e : Expr} {es : List Expr} {p : Pos} {xe : TEx} {xs : TAr} (he : PE X e (rdE T X W c xe)) (hs : PA X es (rdA T X W c xs)) (hst : starEach (.Starred e p :: es) X.env = (true, eval e X.env) :: starEach es X.env) : PA X (.Starred e p :: es) (rdA T X W c (aStar xe xs)) :=
  (pa_star he hs hst).imp fun σ H Q ⟨γ, S, ρ, hE, hS, hP⟩ => rd_bind hE hS hP fun v H1 d S1 ρ1 e1 r hE1 hS1 hP1 => by
    cases q : spl S1 d with
    | none => rw [q] at hP1; exact hP1.elim
    | some ys =>
      rw [q] at hP1
      have key : ∃ a vs, v = V.ref a ∧ (SqT X.K H1 a vs ∨ SqL X.K H1 a vs) ∧ RepVs T.toTb X.K ρ1 H1 ys vs := by
        unfold spl at q
        split at q
        · rename_i zs q1
          cases q
          obtain ⟨a, vs, h1, h2, h3⟩ := tit_rep r q1
          exact ⟨a, vs, h1, .inl h2, h3⟩
        · obtain ⟨a, vs, h1, h2, h3⟩ := lit_rep hS1 r q
          exact ⟨a, vs, h1, .inr (SqL.of h2), h3⟩
      obtain ⟨a, vs, rfl, h2, h3⟩ := key
      exact ⟨a, vs, rfl, h2, rd_bind hE1 hS1 hP1 fun ws H2 ds S2 ρ2 e2 r2 hE2 hS2 hP2 => hP2 _ H2 ρ2 (Ext.refl _ _) (RepVs.append (RepVs.mono hS1.out e2 h3) r2) hS2⟩
theorem oka_few {es : List Expr} {xs : TAr} (h : PA X es (rdA T X W c xs)) : PA X es (rdA T X W c (aFew xs)) :=
  h.imp fun σ H Q ⟨γ, S, ρ, hE, hS, hP⟩ => rd_bind hE hS hP fun v H1 d S1 ρ1 e1 r hE1 hS1 hP1 => by
    split at hP1
    · exact hP1 v H1 ρ1 (Ext.refl _ _) r hS1
    · exact hP1.elim
theorem few_len {xs : TAr} : ∀ γ S vs S', aFew xs c γ S = .ok vs S' → vs.length ≤ 1000 := fun γ S vs S' e => by
  unfold aFew at e
  cases q : xs c γ S with
  | stuck => rw [q] at e; cases e
  | er k x S1 => rw [q] at e; cases e
  | ok ws S1 =>
    rw [q] at e
    have e : (if ws.length ≤ 1000 then R.ok ws S1 else .stuck) = .ok vs S' := e
    split at e
    · cases e; assumption
    · cases e
/-! ### list(range(e)) -/
theorem ok_lrng {m : Bool} {a : Expr} {xa : TEx} {p p2 pos2 : Pos} (hc : X.calm = true) (hg : Gl X "list") (hm : X.mg "list" = none) (hg2 : Gl X "range") (hm2 : X.mg "range" = none) (ha : PE X a (rdE T X W c xa))
    (na : starEach [a] X.env = (false, eval a X.env) :: starEach [] X.env) (nb : starEach [.Call (.Name "range" p2) [a] [] pos2] X.env = (false, eval (.Call (.Name "range" p2) [a] [] pos2) X.env) :: starEach [] X.env) :
    PE X (.Call (.Name "list" p) [.Call (.Name "range" p2) [a] [] pos2] [] pos) (rdE T X W c (xLRng m xa)) :=
  (pe_listRg hc hg hm (prg_1 hg2 hm2 ha na) nb).imp fun σ H Q ⟨γ, S, ρ, hE, hS, hP⟩ => rd_bind hE hS hP fun v H1 d S1 ρ1 e1 r hE1 hS1 hP1 => by
    split at hP1
    case h_2 => exact hP1.elim
    rename_i j
    split at hP1
    case isFalse => exact hP1.elim
    rename_i hj
    have := rep_intV r
    subst this
    have hj' : j ≤ 16777216 := hj.2
    have e : (List.range j.toNat).map (fun (k : Nat) => V.int (k : Int)) = rgV 0 j := by
      unfold rgV
      rw [Int.sub_zero]
      refine List.map_congr_left fun k _ => ?_
      rw [Int.zero_add]
    have rr : RepDs X.K ρ1 H1 ((List.range j.toNat).map fun (k : Nat) => (.int (k : Int) : D)) (rgV 0 j) := by
      rw [← e]
      have := ints_rep (X := X) (ρ := ρ1) (H := H1) (is := (List.range j.toNat).map fun (k : Nat) => (k : Int))
      rw [List.map_map, List.map_map] at this
      exact this
    exact ⟨j, rfl, RgOk.of_le (by decide) hj' (by decide) hj.1, fun q hq => new_lst hS1 rr hP1 hq⟩
/-! ### {k: v} -/
theorem ok_dp1 {m : Bool} {k v : Expr} {xk xv : TEx} (hk : PE X k (rdE T X W c xk)) (hv : PE X v (rdE T X W c xv)) : PE X (.Dict [some k] [v] pos) (rdE T X W c (xDp1 m xk xv)) :=
  (pe_disp (pps_cons hk hv pps_nil) rfl rfl (by simp) (by simp)).imp fun σ H Q ⟨γ, S, ρ, hE, hS, hP⟩ p hp => by
    have em : Ext ρ (ρ ++ [p]) H (upd H p (.dK [])) := Ext.newMem hp
    have hS2 : RepS X.K (ρ ++ [p]) (upd H p (.dK [])) (S ++ [.dct []]) := hS.newOb hp (RepO.d RepKs.nil)
    have hDn : (ρ ++ [p])[S.length]? = some p := by rw [← hS.len]; simp
    have hE2 := hE.mono hS.out em
    show rdE T X W c xk σ (upd H p (.dK [])) _
    refine ⟨γ, _, _, hE2, hS2, ?_⟩
    unfold xDp1 at hP
    cases q : xk c γ (S ++ [.dct []]) with
    | stuck => rw [q] at hP; exact hP.elim
    | er kk x S2 => rw [q] at hP; exact hP.elim
    | ok d S2 =>
      rw [q] at hP
      refine fun y H4 ρ4 e4 r4 hS4 => ?_
      cases d with
      | d d =>
        dsimp only at hP
        show rdE T X W c xv σ H4 _
        refine ⟨γ, S2, ρ4, hE2.mono hS2.out e4, hS4, ?_⟩
        cases q2 : xv c γ S2 with
        | stuck => rw [q2] at hP; exact hP.elim
        | er kk x S3 => rw [q2] at hP; exact hP.elim
        | ok d3 S3 =>
          rw [q2] at hP
          refine fun z H5 ρ5 e5 r5 hS5 => ?_
          cases d3 with
          | d d3 =>
            dsimp only at hP
            show H5 p = some (.dK []) ∧ _
            have hD5 : ρ5[S.length]? = some p := e5.get (e4.get hDn)
            split at hP
            case h_2 => exact hP.elim
            rename_i q3
            split at hP
            case isFalse => exact hP.elim
            rename_i hky
            obtain ⟨D', ks, c1, c2, c3⟩ := hS5.atd _ _ q3
            rw [hD5] at c1
            cases c1
            unfold RepKs at c3
            subst c3
            have r4' : RepD X.K ρ4 H4 d y := by unfold rV RepV at r4; exact r4
            have r5' : RepD X.K ρ5 H5 d3 z := by unfold rV RepV at r5; exact r5
            obtain ⟨k', rfl, rfl⟩ := key_of_isK hky r4'
            refine ⟨c2, [(k', z)], rfl, by simp, ?_⟩
            have hm : p ∈ ρ5 := List.mem_of_getElem? hD5
            have r1 : RepO X.K ρ5 H5 (.dct [(dKy k', d3)]) (.dK [(k', z)]) := RepO.d (by unfold RepKs; exact ⟨k', z, [], rfl, key_repd k', r5', RepKs.nil⟩)
            have hS6 : RepS X.K ρ5 (upd H5 p (.dK [(k', z)])) (S3.set S.length (.dct [(dKy k', d3)])) := hS5.chgOb hD5 r1
            exact cm_end (o := .dct []) (u := .dK []) hp hS.len ((e4.trans e5).trans (Ext.chg hm)) hS6 hP
          | _ => exact hP.elim
      | _ => exact hP.elim
/-! ### a local def that is called -/
/-- what is known of a def by its number -/
structure FnI [TabC] (T : Tx) (X : Cx) (c : Cl) (k : Nat) : Prop where
  fi : ∀ f fa, T.fa f = some fa → ∃ (np : Nat) (fd : FuncData) (ps : List Str), PySem.W.keepIn X.K (.ref fa) = true ∧ FnM X.prog X.w X.K X.mg X.base k fa fd ps (spF T X.K np (c.call f)) ∧ Binds X.K fd ps [] ∧ ∀ args S, args.length ≠ np → c.call f args S = .stuck
theorem FnI.le {T' : Tx} {k : Nat} (le : TLe T.toTb T'.toTb) (h : FnI T X c k) : FnI T' X c k := ⟨fun f fa e => by
  rw [le.fa] at e
  obtain ⟨np, fd, ps, h1, h2, h3, h4⟩ := h.fi f fa e
  exact ⟨np, fd, ps, h1, by rw [spF_eq le]; exact h2, h3, h4⟩⟩
theorem ok_callF {cnv : Env → List Vl → Option (List Vl)} {k i : Nat} {a : Str} {p : Pos} {e : Expr} {es : List Expr} {xa : TAr} (C : CallA T X cnv) (F : FnI T X c k) (hr : Room k X.A) (hgd : X.A.guards = some []) (tk : Takes X W) (hv : PE X (.Name a p) (rdE T X W c (xV i)))
    (ha : PA X (e :: es) (rdA T X W c xa)) (he : starEach (e :: es) X.env = (false, eval e X.env) :: starEach es X.env) (hpl : (backTo pos (starEach es X.env)).any (·.1) = false) :
    PE X (.Call (.Name a p) (e :: es) [] pos) (rdE T X W c (xCallFG cnv i xa)) := by
  refine ⟨fun pins s σ H Q I ⟨γ, S, ρ, hE, hS, hP⟩ => ?_⟩
  refine wpAny_Call_Name_kw (thn (hv.run pins s σ H (fun v H1 => ∃ (d : Vl) (S1 : Store) (ρ1 : List Addr), RepE T.toTb X.K ρ1 H1 γ σ ∧ RepV T.toTb X.K ρ1 H1 d v ∧ RepS X.K ρ1 H1 S1 ∧ Po T X W (rV T X) σ ρ1 H1 (match d with
      | .fn f => (xa c γ S1).bind fun xs S2 => match cnv γ xs with
        | some ys => c.call f ys S2
        | none => .stuck
      | _ => .stuck) Q) I (rd_bind hE hS hP fun v H1 d S1 ρ1 e r hE1 hS1 hP1 => ⟨d, S1, ρ1, hE1, r, hS1, hP1⟩)) fun u s1 ⟨v, H1, I1, ru, d, S1, ρ1, hE1, r, hS1, hP1⟩ => ?_)
  cases d with
  | fn f =>
    unfold RepV at r
    obtain ⟨fa, hfa, rfl⟩ := r
    obtain rfl : u = Value.ref fa := ru
    obtain ⟨np, fd, ps, hk, M, hb, hst⟩ := F.fi f fa hfa
    refine PySem.W.callWith_K (h₀ := X.base) I.ok.mod.kin hk (thn (ha.run pos pins s1 σ H1 (fun vs H2 => ∃ (xs : List Vl) (S2 : Store) (ρ2 : List Addr), RepE T.toTb X.K ρ2 H2 γ σ ∧ RepVs T.toTb X.K ρ2 H2 xs vs ∧ RepS X.K ρ2 H2 S2 ∧ Po T X W (rV T X) σ ρ2 H2 (match cnv γ xs with
        | some ys => c.call f ys S2
        | none => .stuck) Q) I1 (rd_bind hE1 hS1 hP1 fun vs H2 xs S2 ρ2 e2 r2 hE2 hS2 hP2 => ⟨xs, S2, ρ2, hE2, r2, hS2, hP2⟩)) fun us s2 ⟨vs, H2, I2, r2, xs, S2, ρ2, hE2, rx, hS2, hP2⟩ => ⟨I2.kIn, ?_⟩) he hpl
    cases q : cnv γ xs with
    | none => rw [q] at hP2; exact hP2.elim
    | some ys =>
      rw [q] at hP2
      dsimp only at hP2
      obtain ⟨an, han, hr2⟩ := C.go I2 hE2 rx q
      by_cases hl : ys.length = np
      · refine run_fnM (dvs := []) M hr hgd hb .nil tk I2 han r2 ?_
        rw [List.append_nil]
        exact ⟨ys, S2, ρ2, hl, hr2, hS2, hP2.toF.tr rfl rfl⟩
      · rw [hst ys S2 hl] at hP2
        exact hP2.elim
  | _ => exact hP1.elim
end
end Mk
/-! Ms0: what is read off the text -/
namespace Mk
open PySem PySem.Spec PyProof.Rows L2
def isGl (sc : Scope) (x : Str) : Bool := match sc.names.lookup x with
  | some .globalImplicit => true
  | _ => false
def isVis (sc : Scope) (x : Str) : Bool := match sc.names.lookup x with
  | some .local => true
  | some .cell => true
  | some .free => true
  | _ => false
def isLocal (sc : Scope) (x : Str) : Bool := match sc.names.lookup x with
  | some .local => true
  | _ => false
def isLoc (sc : Scope) (x : Str) : Bool := match sc.names.lookup x with
  | some .local => true
  | some .cell => true
  | _ => false
def okName (x : Str) : Bool := !(x == ("__debug__" : Str)) && !(x == ("__classdict__" : Str)) && !(decide (x = "__name__"))
def noStar : List Expr → Bool
  | [] => true
  | .Starred _ _ :: _ => false
  | _ :: r => noStar r
theorem star_cons {e : Expr} {es : List Expr} {env : PySem.Env} (h : noStar (e :: es) = true) : starEach (e :: es) env = (false, eval e env) :: starEach es env ∧ noStar es = true := by
  cases e <;> first | exact ⟨rfl, h⟩ | cases h
theorem star_any : ∀ {es : List Expr} {env : PySem.Env} {pos : Pos}, noStar es = true → (backTo pos (starEach es env)).any (·.1) = false
  | [], _, _, _ => rfl
  | e :: es, env, pos, h => by
    obtain ⟨h1, h2⟩ := star_cons (env := env) h
    rw [h1]
    show (false || (backTo pos (starEach es env)).any (·.1)) = false
    rw [star_any h2]
    rfl
theorem assign_cons {e : Expr} {es : List Expr} {env : PySem.Env} (h : noStar (e :: es) = true) : assignEach (e :: es) env = (false, assign e env) :: assignEach es env := by
  cases e <;> first | rfl | cases h
theorem assign_len : ∀ {es : List Expr} {env : PySem.Env}, noStar es = true → (assignEach es env).length = es.length ∧ (assignEach es env).findIdx? (·.1) = none
  | [], _, _ => ⟨rfl, rfl⟩
  | e :: es, env, h => by
    have h1 := assign_cons (env := env) h
    obtain ⟨_, h2⟩ := star_cons (env := env) h
    obtain ⟨k1, k2⟩ := assign_len (env := env) h2
    rw [h1]
    refine ⟨by rw [List.length_cons, List.length_cons, k1], ?_⟩
    rw [List.findIdx?_cons]
    simp [k2]
def bop : Operator → Option BO
  | .Add => some .add
  | .Sub => some .sub
  | .Mult => some .mul
  | .FloorDiv => some .fdiv
  | .Mod => some .mod
  | .Pow => some .pow
  | _ => none
def cop : CmpOp → CO
  | .Eq => .eq
  | .NotEq => .ne
  | .Lt => .lt
  | .LtE => .le
  | .Gt => .gt
  | .GtE => .ge
  | .Is => .isN
  | .IsNot => .isNotN
  | .In => .inn
  | .NotIn => .notIn
def plainIx : Expr → Bool
  | .Slice _ _ _ _ => false
  | _ => true
theorem plainIx_of {b : Expr} (h : plainIx b = true) : PlainIx b := by
  cases b <;> first | (intro o i; rfl) | cases h
def plainT : Expr → Bool
  | .UnaryOp .Not _ _ => false
  | .BoolOp _ _ _ => false
  | .IfExp _ _ _ _ => false
  | .Compare _ _ _ _ => false
  | _ => true
theorem plainT_of {e : Expr} (h : plainT e = true) (env : PySem.Env) (whole : Sem Value) : isTrue e env whole = (do
    let v ← whole
    standAt e.pos
    holding [v] (truthy v)) := by
  cases e with
  | UnaryOp op a p => cases op <;> first | rfl | cases h
  | BoolOp => cases h
  | IfExp => cases h
  | Compare => cases h
  | _ => rfl
def notSet : Expr → Bool
  | .Set _ _ _ => false
  | _ => true
theorem notSet_of {e : Expr} (h : notSet e = true) (env : PySem.Env) (x : Value) : foldedSetIterable e env x = pure x := by
  cases e <;> first | rfl | cases h
def isStar : Expr → Bool
  | .Starred _ _ => true
  | _ => false
def namesOf (sc : Scope) (line : Nat) (ts : List Expr) : List Str := ts.filterMap fun
  | .Name id pos => if sc.names.lookup id == some .local && pos.line == line then some id else none
  | _ => none
/-- how a, b = x, y is stored: some none one by one through a tuple; some names: from the right -/
def swapC (sc : Scope) (ts vs : List Expr) : Option (Option (List Str)) :=
  if (!(ts.length == 2 || ts.length == 3) || vs.length != ts.length) = true then some none
  else if vs.any isStar = true then some none
  else if ((namesOf sc ((ts.head?.map (·.pos.line)).getD 0) ts).length != ts.length || (namesOf sc ((ts.head?.map (·.pos.line)).getD 0) ts).eraseDups.length != (namesOf sc ((ts.head?.map (·.pos.line)).getD 0) ts).length) = true then some none
  else if vs.all (foldedForSure 8) = true then some none
  else if vs.all (constantsAlone 8) = true then none
  else some (some (namesOf sc ((ts.head?.map (·.pos.line)).getD 0) ts))
theorem swap_ok {sc : Scope} {env : PySem.Env} {ts vs : List Expr} {k k2 : Nat} {p p2 : Pos} {o : Option (List Str)} (hs : env.scope = sc) (hk : sc.kind = .function) (h : swapC sc ts vs = some o) : swappedStores [.Tuple ts k p] (.Tuple vs k2 p2) env = pure o := by
  subst hs
  have hb : (env.blockKind != .function) = false := by unfold Env.blockKind; rw [hk]; rfl
  unfold swapC at h
  unfold swappedStores
  simp only [hb, Bool.or_false]
  split at h
  · rename_i c1
    cases h
    exact if_pos c1
  · rename_i c1
    refine (if_neg c1).trans ?_
    split at h
    · rename_i c2
      cases h
      exact if_pos c2
    · rename_i c2
      refine (if_neg c2).trans ?_
      split at h
      · rename_i c3
        cases h
        exact if_pos c3
      · rename_i c3
        refine (if_neg c3).trans ?_
        split at h
        · rename_i c4
          cases h
          exact if_pos c4
        · rename_i c4
          refine (if_neg c4).trans ?_
          split at h
          · cases h
          · rename_i c5
            cases h
            exact if_neg c5
def notComp : Expr → Bool
  | .ListComp _ _ _ _ => false
  | .SetComp _ _ _ _ => false
  | .DictComp _ _ _ _ _ => false
  | _ => true
theorem sw_plain {e : Expr} (h : notComp e = true) (t : Option Expr) (l : Nat) (env : PySem.Env) : swapsWith e t l env = pure false := by
  cases e <;> first | rfl | cases h
theorem sw_tup {e : Expr} {ts : List Expr} {k : Nat} {p : Pos} (l : Nat) (env : PySem.Env) : swapsWithSole [.Tuple ts k p] e l env = pure false := by
  cases e <;> rfl
theorem sw_sub {e o i : Expr} {p : Pos} (l : Nat) (env : PySem.Env) : swapsWithSole [.Subscript o i p] e l env = pure false := by
  cases e <;> rfl
def notTup : Expr → Bool
  | .Tuple _ _ _ => false
  | _ => true
theorem ss_plain {e : Expr} (h : notTup e = true) {ts : List Expr} {k : Nat} {p : Pos} (env : PySem.Env) : swappedStores [.Tuple ts k p] e env = pure none := by
  cases e <;> first | rfl | cases h
theorem ss_sub {e o i : Expr} {p : Pos} (env : PySem.Env) : swappedStores [.Subscript o i p] e env = pure none := by
  cases e <;> rfl
/-- is name = [..] stored on the way? -/
def swB (sc : Scope) (value : Expr) (inner : Scope) (t : Str) (pos : Pos) : Bool := sc.names.lookup t == some .local && pos.line == value.pos.line && !(inner.names.any fun (n, k) => n == t && (k == .local || k == .cell))
theorem sw_lc {sc : Scope} {env : PySem.Env} {elt : Expr} {gs : List Comprehension} {inner : Scope} {p pos : Pos} {t : Str} {l : Nat} (hs : env.scope = sc) (hk : sc.kind = .function) :
    swapsWith (.ListComp elt gs inner p) (some (.Name t pos)) l env = pure (swB sc (.ListComp elt gs inner p) inner t pos) := by
  subst hs
  have hb : (env.blockKind == .function) = true := by unfold Env.blockKind; rw [hk]; rfl
  unfold swapsWith swB
  simp only [hb, Bool.true_and]
  rfl
theorem sub_asg {o i : Expr} {p : Pos} (h : plainIx i = true) (env : PySem.Env) (v : Value) : assign (.Subscript o i p) env v = (do
      let ov ← holding [v] (eval o env)
      let iv ← holding [v, ov] (eval i env)
      standAt p
      holding [v, ov, iv] (setItem ov iv v)
      release [v, ov, iv] []) := by
  cases i <;> first | rfl | cases h
def notCall : Expr → Bool
  | .Call _ _ _ _ => false
  | _ => true
theorem attr_base {o : Expr} {x : Str} {env : PySem.Env} {w : Sem Value} (h : notCall o = true) : attributeBase o x env w = w := by
  cases o <;> first | rfl | cases h
end Mk
/-! Mx1: several except clauses, each with a name or without. -/
namespace Mk
open PySem PySem.Spec PyProof.Rows L2
theorem ba2 {a b : Bool} (h : (a && b) = true) : a = true ∧ b = true := by simpa using h
/-- the suite's end, slot i (the clause's name) gone -/
def goneD (D : Ends) : Option Nat → Ends
  | none => D
  | some i => { nx := fun σ H => D.nx (σ.set i none) H, rt := D.rt, bk := fun σ H => D.bk (σ.set i none) H, ct := fun σ H => D.ct (σ.set i none) H }
def withN (σ : L2.St) (a : Addr) : Option Nat → L2.St
  | none => σ
  | some i => σ.set i (some (.ref a))
abbrev HdI := Value × Option Nat × (Addr → Value → Option Addr → TS)
def wMix (K : PySem.W.Frag) (Wout : WX) (D : Ends) : List HdI → WX
  | [] => Wout
  | (c, oi, ts) :: r => fun cls d σ H => ∃ b, PySem.W.exmOne K cls c = some b ∧ (b = true → ∀ a, H a = none → ts a cls d (goneD D oi) (withN σ a oi) H) ∧ (b = false → wMix K Wout D r cls d σ H)
/-- a clause's name has a slot -/
def NmOk (X : Cx) : Option Str → Option Nat → Prop
  | none, none => True
  | some n, some i => X.N[i]? = some n ∧ X.env.kindOf n = some .local
  | _, _ => False
inductive HdsM (X : Cx) : List ExceptHandler → List HdI → Prop
  | nil : HdsM X [] []
  | cons {x : Str} {on : Option Str} {oi : Option Nat} {c : Value} {ts : Addr → Value → Option Addr → TS} {b₀ : Stmt} {suite : List Stmt} {np pos' : Pos} {hds : List ExceptHandler} {l : List HdI} (hc : Names X x c) (hn : NmOk X on oi)
      (hsu : ∀ (a : Addr) (oe : Obj) (cls : Value) (d : Option Addr) (pn : List (Addr × Obj)), Zc cls d oe → (∃ vs, oe.data = .fields vs) → PSs (X.suite a ((a, oe) :: pn)) (b₀ :: suite) (ts a cls d)) (r : HdsM X hds l) :
      HdsM X (.ExceptHandler (some (.Name x np)) on (b₀ :: suite) pos' :: hds) ((c, oi, ts) :: l)
section
variable {X : Cx} {body : List Stmt} {h₀ : ExceptHandler} {hds : List ExceptHandler} {l : List HdI} {pos : Pos} {tb : WX → TS} {Wout : WX}
theorem SP.untry {pins : List (Addr × Obj)} {D : Ends} {xe : Value → Shared → Prop} {f : Flow} {s1 : Shared} (ok : X.Ok) (h : SP (X.tr (X.pn ++ pins) xe) [] D f s1) : SP X pins D f s1 := by
  cases f with
  | ret u => obtain ⟨v, σ', H', J, r, q⟩ := h; exact ⟨v, σ', H', J.ofTry ok, r, q⟩
  | next => obtain ⟨σ', H', J, q⟩ := h; exact ⟨σ', H', J.ofTry ok, q⟩
  | brk => obtain ⟨σ', H', J, q⟩ := h; exact ⟨σ', H', J.ofTry ok, q⟩
  | cont => obtain ⟨σ', H', J, q⟩ := h; exact ⟨σ', H', J.ofTry ok, q⟩
/-- the clauses, one by one -/
theorem hds_run {pins : List (Addr × Obj)} {a : Addr} {B : Heap} {sI s' : Shared} {σ' : L2.St} {H' : Hp} {cls : Value} {d : Option Addr} {h3 : Heap} {D : Ends} (hs : X.stack = X.env :: X.outer) (hf : X.env.frame = some X.env.locals) (hN : X.N.Nodup) (ok : X.Ok) (tk : Takes X Wout)
    (J : Inv X pins σ' H' sI) (nb : ∀ b o, sI.heap.get? b = some o → b ∉ frs X.stack → B.get? b = some o) (up : sI.heap.UpToSlots s'.heap) (up3 : s'.heap.UpToSlots h3) (os : s'.os = sI.os) (ag : AllBare s'.gens) (na : H' a = none) (nL : a ≠ X.env.locals) (nF : a ∉ X.fs)
    (fl3 : HandSPX.FlyingZ B (X.env :: X.outer) a (Zc cls d) h3) : ∀ {hds : List ExceptHandler} {l : List HdI}, HdsM X hds l → wMix X.K Wout D l cls d σ' H' →
      wpAny (model X.prog X.w) X.A (handleBy (.ref a) X.env hds) (SP X pins D) X.xe { s' with heap := h3 } := by
  have land : ∀ {h4 : Heap}, HandSPX.FlyingZ B (X.env :: X.outer) a (Zc cls d) h4 → h3.UpToSlots h4 → Inv X pins σ' H' { s' with heap := h4 } := fun {h4} f4 u4 => J.landed nb f4.1 ((up.trans up3).trans u4) os ag
  have J3 : Inv X pins σ' H' { s' with heap := h3 } := J.landed nb fl3.1 (up.trans up3) os ag
  obtain ⟨oe3, vs3, he3, hz3, hd3⟩ := fl3.there
  have S3 := J3.suite he3 hd3 na nL nF
  intro hds l hk
  induction hk with
  | nil =>
    intro w
    refine wpAny_handleBy_nil ?_
    obtain ⟨k1, k2, k3, oe, vs, T, oT, ts', he, hz, hd, h1, hr⟩ := id fl3
    unfold PySem.passOn
    refine wpAny_bind (wpAny_field he hd h1 ?_)
    rw [if_neg (show ¬ ((Value.ref T == Value.none) = true) from by simp)]
    have fin : wpAny (model X.prog X.w) X.A (setFlight (.ref a) X.env.frame) (fun _ s4 => wpAny (model X.prog X.w) X.A (throw (.ref a) : Sem Flow) (SP X pins D) X.xe s4) X.xe { s' with heap := h3 } := by
      rw [hf]
      refine HandSPX.setFlight_upZ fl3 fun h4 hh4 up4 => wpAny_throw (tk _ _ ?_)
      exact ⟨a, B, sI, pins, σ', H', cls, d, rfl, J, nb, (up.trans up3).trans up4, .inr (.inr (by rw [hs]; exact hh4)), na, os, ag, w⟩
    first
      | exact wpAny_bind (wpAny_pure (wpAny_bind fin))
      | exact wpAny_bind fin
  | @cons x on oi c ts b₀ suite np pos' hds2 l2 hc hn hsu r ih =>
    intro w
    obtain ⟨b, hb1, hyes, hno⟩ := w
    have test : ∀ {Q : Value → Shared → Prop} {E : Value → Shared → Prop}, Q c { s' with heap := h3 } → wpAny (model X.prog X.w) (X.A.mark (some (.ref a))) (eval (.Name x np) X.env) Q E { s' with heap := h3 } := fun {Q E} q => by
      obtain ⟨hg, hdbg, hm | ⟨hm, hv, hnn⟩⟩ := hc
      · exact ld_glob (X := X.suite a ((a, oe3) :: (X.pn ++ pins))) S3 hg hm q hdbg
      · exact ld_blt (X := X.suite a ((a, oe3) :: (X.pn ++ pins))) S3 hg hm hv q hnn hdbg
    have LM := PySem.W.exm_one (M := model X.prog X.w) J3.kIn (fun A Q E s k q => wpAny_typeOf_ref (k _ _ he3) (by rw [hz3.1]; exact q) : PySem.W.Looks (model X.prog X.w) h3 (typeOf (.ref a)) cls) hb1
    refine wpAny_handleBy_cons (codeAny_handlers_test (test (LM.here ?_))) (by intro q; cases q)
    cases b with
    | false => exact ih (hno rfl)
    | true =>
      have q0 := hyes rfl a na
      cases on with
      | none =>
        cases oi with
        | some i => exact hn.elim
        | none =>
          refine codeAny_handlers_suite (HandSPX.lands_againZ fl3 fun h4 fl4 up4 => ?_)
          obtain ⟨oe4, vs4, he4, hz4, hd4⟩ := fl4.there
          refine wpAny_mono ((hsu a oe4 cls d (X.pn ++ pins) hz4 ⟨_, hd4⟩).run [] _ _ H' _ ((land fl4 up4).suite he4 hd4 na nL nF) q0) (fun f s6 hsp => ?_) (fun _ _ z => False.elim z)
          cases f with
          | ret u => obtain ⟨v6, σ6, H6, S6, r6, q6⟩ := hsp; exact ⟨_, _, _, S6.unsuite ok, r6, q6⟩
          | next => obtain ⟨σ6, H6, S6, q6⟩ := hsp; exact ⟨_, _, S6.unsuite ok, q6⟩
          | brk => obtain ⟨σ6, H6, S6, q6⟩ := hsp; exact ⟨_, _, S6.unsuite ok, q6⟩
          | cont => obtain ⟨σ6, H6, S6, q6⟩ := hsp; exact ⟨_, _, S6.unsuite ok, q6⟩
      | some n =>
        cases oi with
        | none => exact hn.elim
        | some i =>
          obtain ⟨hi, hln⟩ := hn
          refine codeAny_handlers_suite_as (HandSPX.lands_againZ fl3 fun h4 fl4 up4 => ?_)
          obtain ⟨oe4, vs4, he4, hz4, hd4⟩ := fl4.there
          refine store_ok (X := X.suite a ((a, oe4) :: (X.pn ++ pins))) (v := .ref a) ((land fl4 up4).suite he4 hd4 na nL nF) hN hi (.inl hln) rfl (fun s5 S5 => ?_) (.inr hln)
          refine wpAny_mono ((hsu a oe4 cls d (X.pn ++ pins) hz4 ⟨_, hd4⟩).run [] s5 _ H' _ S5 q0) (fun f s6 hsp => ?_) (fun _ _ z => False.elim z)
          cases f with
          | ret u => obtain ⟨v6, σ6, H6, S6, r6, q6⟩ := hsp; exact gone_ok (S6.unsuite ok) hN hi hln fun s7 J7 => ⟨_, _, _, J7, r6, q6⟩
          | next => obtain ⟨σ6, H6, S6, q6⟩ := hsp; exact gone_ok (S6.unsuite ok) hN hi hln fun s7 J7 => ⟨_, _, J7, q6⟩
          | brk => obtain ⟨σ6, H6, S6, q6⟩ := hsp; exact gone_ok (S6.unsuite ok) hN hi hln fun s7 J7 => ⟨_, _, J7, q6⟩
          | cont => obtain ⟨σ6, H6, S6, q6⟩ := hsp; exact gone_ok (S6.unsuite ok) hN hi hln fun s7 J7 => ⟨_, _, J7, q6⟩
theorem ps_try_mix (hs : X.stack = X.env :: X.outer) (hf : X.env.frame = some X.env.locals) (hN : X.N.Nodup) (tk : Takes X Wout)
    (hb : ∀ (W : WX) (pn : List (Addr × Obj)) (xe : Value → Shared → Prop), Takes (X.tr pn xe) W → PassesOwn (model X.prog X.w) X.A X.env xe → PSs (X.tr pn xe) body (tb W))
    (hh : HdsM X (h₀ :: hds) l) : PS X (.Try body (h₀ :: hds) [] [] pos) (fun D σ H => tb (wMix X.K Wout D l) D σ H) := by
  refine ⟨fun pins s σ H D I h => ?_⟩
  have ok := I.ok
  refine wpAny_Try_except (wpAny_mono ((hb (wMix X.K Wout D l) (X.pn ++ pins) (fun e s₁ => wpAny (model X.prog X.w) X.A (noteFrame e X.env) (fun _ s₂ => wpAny (model X.prog X.w) X.A (setFlight e none) (fun _ s₃ =>
    wpAny (model X.prog X.w) X.A (handleBy e X.env (h₀ :: hds)) (SP X pins D) X.xe s₃) X.xe s₂) X.xe s₁) (fun u s' xx => ?_) PassesOwn.looking).run [] s σ H D (I.toTry _) h) (fun f s1 hsp => ?_) (fun e s1 he => he))
  · obtain ⟨a, B, sI, pins', σ', H', cls, d, rfl, J', nb, up, sky, na, os, ag, w⟩ := xx
    refine Sky.land Zc.steady (show X.A.frames = some (X.env :: X.outer) by rw [ok.frames, hs]) hf (show Sky B (X.env :: X.outer) a (Zc cls d) X.env.locals s'.heap by rw [← hs]; exact sky) fun h3 fl3 up3 => ?_
    obtain ⟨oe3, vs3, he3, _, hd3⟩ := fl3.there
    have nfr : a ∉ frs (X.env :: X.outer) := fun hm => by
      obtain ⟨_, o', e', hnf⟩ := fl3.2.2.1.mem hm
      rw [he3] at e'; cases e'
      exact hnf _ hd3
    have nL : a ≠ X.env.locals := fun z => nfr (List.mem_filterMap.mpr ⟨X.env, List.mem_cons_self, by rw [hf, z]⟩)
    have nF : a ∉ X.fs := fun hm => by
      obtain ⟨e, he, q⟩ := List.mem_filterMap.mp hm
      exact nfr (List.mem_filterMap.mpr ⟨e, List.mem_cons_of_mem _ he, q⟩)
    exact hds_run hs hf hN ok tk (J'.ofTry ok) nb up up3 os ag na nL nF fl3 hh w
  · have q := SP.untry ok hsp
    cases f with
    | next => exact wpAny_execs_nil q
    | ret u => exact q
    | brk => exact q
    | cont => exact q
end
end Mk
/-! Mx2: own exceptions whose __init__ says super().__init__(a text) and keeps its one argument. -/
namespace Mk
open PySem PySem.Spec PyProof.Rows L2
/-! ### the message -/
def msgPart (f : Str) : Expr → Bool
  | .Constant (.str m) _ _ => decide (m.length ≤ 1000)
  | .FormattedValue (.Name x _) c none _ => decide (x = f) && (c == 114 || c == -1)
  | _ => false
def msgParts (f : Str) : List Expr → Nat → Bool
  | [], _ => true
  | e :: r, 0 => false
  | e :: r, n + 1 => msgPart f e && msgParts f r n
def msgOk (f : Str) : Expr → Bool
  | .Constant (.str m) _ _ => true
  | .JoinedStr (a :: b :: rest) _ => msgParts f (a :: b :: rest) 2
  | _ => false
section
variable {prog : Program} {w : World} {A : Around} {E : Value → Shared → Prop} {s : Shared} {h₀ : Heap}
theorem fmt_d {v : Value} {d : D} {as : List Addr} {Q : Value → Shared → Prop} (rd : Reads h₀ v d as) (nm : noL d = true → sysModules ∉ as) (ok : txtOk d = true) (hg : A.guards = some []) (hu : A.units + 100 < cLine) (hk0 : ∀ b o, h₀.get? b = some o → s.heap.get? b = some o)
    (hQ : ∀ h' y u tk, y.length ≤ MLEN → (∀ b o, s.heap.get? b = some o → h'.get? b = some o) → Q (.str y u) { s with heap := h', toks := tk }) : wpAny (model prog w) A (formatField v Str.empty) Q E s := by
  unfold txtOk at ok
  simp only [Bool.and_eq_true, decide_eq_true_eq] at ok
  obtain ⟨⟨ok, k5⟩, k6⟩ := ok
  obtain ⟨k1, k2, k3, k4⟩ := reprOk_of ok
  have kk : ∀ b o, s.heap.get? b = some o → s.heap.get? b = some o := fun _ _ e => e
  cases v with
  | ref a => exact formatField_of_reads rd k1 (fun h => nm (k2 h)) hg (by omega) hk0 (fun h' u tk k => hQ h' _ u tk k5 k) k4
  | none => cases rd; exact wpAny_formatField_none (hQ s.heap "None" _ _ (by decide) kk)
  | bool b => cases rd; exact wpAny_formatField_bool (hQ s.heap _ _ _ (by cases b <;> decide) kk)
  | int i t =>
    cases rd
    exact wpAny_formatField_int (by simpa [PyData.showable] using k1) (hQ s.heap _ _ _ (by simpa [PyData.shown] using k5) kk)
  | str z t =>
    cases rd
    have z5 : z.length ≤ MLEN := by simpa using k6
    exact wpAny_formatField_str (hQ s.heap z t s.toks z5 kk) (hQ s.heap z _ _ z5 kk) (Nat.le_trans z5 (by rw [sizeLine_eq]; decide))
  | _ => cases rd
theorem repr_d {v : Value} {d : D} {as : List Addr} {Q : Value → Shared → Prop} (rd : Reads h₀ v d as) (nm : noL d = true → sysModules ∉ as) (ok : txtOk d = true) (hg : A.guards = some []) (hu : A.units + 100 < cLine) (hk0 : ∀ b o, h₀.get? b = some o → s.heap.get? b = some o)
    (hQ : ∀ h' y u tk, y.length ≤ MLEN → (∀ b o, s.heap.get? b = some o → h'.get? b = some o) → Q (.str y u) { s with heap := h', toks := tk }) : wpAny (model prog w) A (pyReprObj v) Q E s := by
  unfold txtOk at ok
  simp only [Bool.and_eq_true, decide_eq_true_eq] at ok
  obtain ⟨⟨ok, k5⟩, k6⟩ := ok
  obtain ⟨k1, k2, k3, k4⟩ := reprOk_of ok
  have kk : ∀ b o, s.heap.get? b = some o → s.heap.get? b = some o := fun _ _ e => e
  cases v with
  | ref a => exact pyReprObj_of_reads rd k1 (fun h => nm (k2 h)) hg (by omega) hk0 (fun h' u tk k => hQ h' _ u tk k5 k) k4
  | none => cases rd; exact pyReprObj_none (hQ s.heap "None" _ _ (by decide) kk)
  | bool b => cases rd; exact pyReprObj_bool (hQ s.heap _ _ _ (by cases b <;> decide) kk)
  | int i t =>
    cases rd
    exact pyReprObj_int (by simpa [PyData.showable] using k1) (hQ s.heap _ _ _ (by simpa [PyData.shown] using k5) kk)
  | str z t =>
    cases rd
    have z5 : (reprText z).length ≤ MLEN := by simpa [PyData.shown] using k5
    exact pyReprObj_str (hQ s.heap _ _ _ z5 kk) (Nat.le_trans z5 (by rw [sizeLine_eq]; decide))
  | _ => cases rd
variable {env : PySem.Env}
theorem msg_part {f : Str} {v : Value} {d : D} {as : List Addr} {e : Expr} {Q : Value → Shared → Prop} (rd : Reads h₀ v d as) (nm : noL d = true → sysModules ∉ as) (ok : txtOk d = true) (hg : A.guards = some []) (hu : A.units + 100 < cLine) (hm : msgPart f e = true) (hk0 : ∀ b o, h₀.get? b = some o → s.heap.get? b = some o)
    (hl : ∀ (h' : Heap) (tk : Nat) (p : Pos) (Q : Value → Shared → Prop), (∀ b o, s.heap.get? b = some o → h'.get? b = some o) → Q v { s with heap := h', toks := tk } → wpAny (model prog w) A (eval (.Name f p) env) Q E { s with heap := h', toks := tk })
    (hQ : ∀ h' y u tk, y.length ≤ MLEN → (∀ b o, s.heap.get? b = some o → h'.get? b = some o) → Q (.str y u) { s with heap := h', toks := tk }) : wpAny (model prog w) A (eval e env) Q E s := by
  have kk : ∀ b o, s.heap.get? b = some o → s.heap.get? b = some o := fun _ _ e => e
  unfold msgPart at hm
  split at hm
  · rename_i m j p
    exact Calls.Constant_str (hQ s.heap m _ _ (Nat.le_trans (of_decide_eq_true hm) (by decide)) kk)
  · rename_i x p c p2
    simp only [Bool.and_eq_true, decide_eq_true_eq, Bool.or_eq_true, beq_iff_eq] at hm
    obtain ⟨rfl, hc⟩ := hm
    rcases hc with rfl | rfl
    · refine wpAny_FormattedValue_repr (hl s.heap s.toks p _ kk (repr_d rd nm ok hg hu hk0 fun h' y u tk hy k => ?_))
      exact wpAny_formatField_str (hQ h' y u tk hy k) (hQ h' y _ _ hy k) (Nat.le_trans hy (by rw [sizeLine_eq]; decide))
    · exact wpAny_FormattedValue_plain (hl s.heap s.toks p _ kk (fmt_d rd nm ok hg hu hk0 hQ))
  · cases hm
theorem msg_parts {f : Str} {v : Value} {d : D} {as : List Addr} (rd : Reads h₀ v d as) (nm : noL d = true → sysModules ∉ as) (ok : txtOk d = true) (hg : A.guards = some []) (hu : A.units + 100 < cLine) : ∀ (es : List Expr) (n : Nat) (acc : Str) (s : Shared) (R : Str → Shared → Prop), msgParts f es n = true → acc.length + n * MLEN ≤ LINE → (∀ b o, h₀.get? b = some o → s.heap.get? b = some o) →
    (∀ (h' : Heap) (tk : Nat) (p : Pos) (Q : Value → Shared → Prop), (∀ b o, s.heap.get? b = some o → h'.get? b = some o) → Q v { s with heap := h', toks := tk } → wpAny (model prog w) A (eval (.Name f p) env) Q E { s with heap := h', toks := tk }) →
    (∀ h' out tk, out.length ≤ LINE → (∀ b o, s.heap.get? b = some o → h'.get? b = some o) → R out { s with heap := h', toks := tk }) → Joins (model prog w) A E (evalEach es env) acc R s
  | [], n, acc, s, R, hm, hn, hk0, hl, hR => by
    have e0 : evalEach [] env = [] := by first | rfl | simp [evalEach]
    rw [e0]
    exact hR s.heap acc s.toks (by omega) (fun _ _ e => e)
  | e :: es, 0, acc, s, R, hm, hn, hk0, hl, hR => by cases hm
  | e :: es, n + 1, acc, s, R, hm, hn, hk0, hl, hR => by
    have e0 : evalEach (e :: es) env = eval e env :: evalEach es env := by first | rfl | simp [evalEach]
    rw [e0]
    obtain ⟨h1, h2⟩ := ba2 hm
    refine msg_part (f := f) rd nm ok hg hu h1 hk0 hl fun h' y u tk hy k => ?_
    have la : (acc ++ y).length = acc.length + y.length := Str.length_append ..
    have hn' : (acc ++ y).length + n * MLEN ≤ LINE := by rw [la]; have : (n + 1) * MLEN = n * MLEN + MLEN := Nat.succ_mul n MLEN; omega
    refine ⟨y, u, rfl, by rw [sizeLine_eq]; exact Nat.le_trans (Nat.le_add_right _ _) hn', ?_⟩
    exact msg_parts rd nm ok hg hu es n (acc ++ y) { s with heap := h', toks := tk } R h2 hn' (fun b o e => k b o (hk0 b o e)) (fun h2 tk2 p Q k2 q => hl h2 tk2 p Q (fun b o e => k2 b o (k b o e)) q) (fun h2 out tk2 ho k2 => hR h2 out tk2 ho fun b o e => k2 b o (k b o e))
/-- the message is some text -/
theorem msg_ok {f : Str} {v : Value} {d : D} {as : List Addr} {e : Expr} {Q : Value → Shared → Prop} (rd : Reads h₀ v d as) (nm : noL d = true → sysModules ∉ as) (ok : txtOk d = true) (hg : A.guards = some []) (hu : A.units + 100 < cLine) (hm : msgOk f e = true) (hk0 : ∀ b o, h₀.get? b = some o → s.heap.get? b = some o)
    (hl : ∀ (h' : Heap) (tk : Nat) (p : Pos) (Q : Value → Shared → Prop), (∀ b o, s.heap.get? b = some o → h'.get? b = some o) → Q v { s with heap := h', toks := tk } → wpAny (model prog w) A (eval (.Name f p) env) Q E { s with heap := h', toks := tk })
    (hQ : ∀ h' y u tk, (∀ b o, s.heap.get? b = some o → h'.get? b = some o) → Q (.str y u) { s with heap := h', toks := tk }) : wpAny (model prog w) A (eval e env) Q E s := by
  unfold msgOk at hm
  split at hm
  · exact Calls.Constant_str (hQ s.heap _ _ _ (fun _ _ e => e))
  · rename_i a b rest p
    refine wpAny_JoinedStr (msg_parts rd nm ok hg hu _ 2 Str.empty s _ hm (by decide) hk0 hl fun h' out tk ho k => ⟨by rw [sizeLine_eq]; exact ho, hQ h' out _ _ k⟩)
  · cases hm
end
end Mk
/-! Mx3: the call of such a class. -/
namespace Mk
open PySem PySem.Spec PyProof.Rows L2
/-- the __init__ of an own exception: its parameters, its body -/
structure InitT where
  self : Str
  given : Str
  field : Str
  msg : Expr
  b : List Stmt
def initBody : List Stmt → Option InitT
  | [.Expr (.Call (.Attribute (.Call (.Name z _) [] [] _) y p2) [e] [] p3) _, .Assign [.Attribute (.Name s _) f _] (.Name g _) _] =>
    if z = "super" ∧ y = "__init__" ∧ msgOk g e = true ∧ noStar [e] = true ∧ (p2.endLine == p3.line) = true ∧ notComp e = true then some ⟨s, g, f, e, []⟩ else none
  | _ => none
/-- what is known of such a class: B its built-in base, C its address -/
structure OxC (P : Program) (K : PySem.W.Frag) (B newId initId : String) (bmB : List Value) (C : Addr) (field : Str) (scope : Scope) (body : List Stmt) (slf given : Str) : Prop where
  base : ExcBaseFacts B newId initId bmB
  store : StoreFacts B bmB "object.__setattr__" "object"
  sup : PySem.W.KxsFacts B initId
  ini : PySem.W.excInitIn K C bmB newId = true
  over : PySem.W.excOver K C bmB = true
  sa : PySem.W.findIn K (.ref C) "__setattr__" = some (some (.builtin "object.__setattr__"))
  tk : PySem.W.takerIn K C field = some none
  hd : PySem.W.hasDictIn K C = true
  subB : PySem.W.subIn K (.ref C) (.type B) = some true
  exC : PySem.W.subIn K (.ref C) (.type "BaseException") = some true
  tyC : PySem.W.typeIn K (.ref C) = some (.type "type")
  kC : PySem.W.keepIn K (.ref C) = true
  mroC : PySem.W.mroIn K C (.ref C) = some true
  supI : PySem.W.ks_superIn K C C "__init__" = some (some (.builtin initId))
  third : PySem.W.nsIn K cStatics "thirdparty.any" = some none
  nsuper : PySem.W.nsIn K mainGlobals "super" = some none
  top : (P.main.scope.names.lookup ("super" : Str)).isSome = false
  fn : ∃ (fI cc cda : Addr) (oc cl ccl : Value) (od cld cdd : Option Addr) (osl csl ccs : Array (Option Value)) (name qual : Str) (params : Arguments) (dV kV doc pm ct : Value) (an : Option Addr) (vs : Array Value) (file : Str) (tf : Tok) (ar : Arg) (cdD : ClassData),
    PySem.W.findIn K (.ref C) "__init__" = some (some (.ref fI)) ∧ PySem.W.isFn K (.ref fI) = true ∧
    K.lookup fI = some ⟨oc, od, .func (PySem.W.ksFn name qual params body scope dV kV doc pm an (.ref cda) ct cc), osl⟩ ∧ PySem.W.codeIn K (.ref cda) qual = true ∧
    K.lookup cda = some ⟨ccl, cdd, .fields vs, ccs⟩ ∧ vs[2]? = some (.str file tf) ∧ ((P.main.file : Str) == file) = true ∧
    K.lookup cc = some ⟨cl, cld, .cell (some (.ref C)), csl⟩ ∧ PySem.W.clsIn K C = some cdD ∧ (params.posonlyargs ++ params.args).head? = some ar ∧ ar.arg = slf ∧
    ∀ us : List Value, us.length = 2 → bindArgs (PySem.W.ksFn name qual params body scope dV kV doc pm an (.ref cda) ct cc) ⟨us, []⟩ = pure ([slf, given].zip us)
  sc : scope.kind = .function ∧ scope.isCoroutine = false ∧ scope.isGenerator = false ∧ (∀ x ∈ scope.names, x.2 ≠ .cell) ∧ scope.names.lookup slf = some .local ∧ scope.names.lookup given = some .local ∧
    scope.names.lookup ("super" : Str) = some .globalImplicit ∧ scope.names.lookup ("__class__" : Str) = some .free ∧ slf ≠ given ∧ (slf == ("__debug__" : Str)) = false ∧ (given == ("__debug__" : Str)) = false
section
variable {prog : Program} {w : World} {A : Around} {E : Value → Shared → Prop} {s : Shared} {h₀ : Heap} {L : Addr} {m mg : Str → Option Value} {news : List (Addr × Obj)} {K : PySem.W.Frag} {x C D f cc cda so : Addr} {ox : Obj} {odx : Option Obj}
open PySem.W in
/-- super() -/
theorem node_ok {body : List Stmt} {q : Str} {scope : Scope} {p0 p1 : Pos} {attr : Str} {whole : Sem Value} {fd : FuncData} {ar : Arg} {vs : Array Value} {file : Str} {tf : Tok} {oc ccl cl : Value} {od cdd cld : Option Addr} {osl ccs csl : Array (Option Value)} {cdD : ClassData} {Q : Value → Shared → Prop}
    (F : Fr h₀ L s.heap m) (X₀ : K.In h₀) (N : News h₀ L s.heap news) (T : Mod K mg h₀)
    (hf : K.lookup f = some ⟨oc, od, .func fd, osl⟩) (hp : (fd.params.posonlyargs ++ fd.params.args).head? = some ar) (hv : m ar.arg = some (.ref x)) (I : InstAt s.heap x ox C odx)
    (hcode : K.lookup cda = some ⟨ccl, cdd, .fields vs, ccs⟩) (hvs : vs[2]? = some (.str file tf)) (hfile : ((prog.main.file : Str) == file) = true)
    (hcell : K.lookup cc = some ⟨cl, cld, .cell (some (.ref D)), csl⟩) (hD : clsIn K D = some cdD) (hsub : mroIn K C (.ref D) = some true) (hsuper : nsIn K mainGlobals "super" = some none)
    (hat : (attr == ("__class__" : Str)) = false) (hks : scope.names.lookup ("super" : Str) = some .globalImplicit) (hkc : scope.names.lookup ("__class__" : Str) = some .free) (hka : scope.names.lookup ar.arg = some .local) (hk : scope.kind = .function)
    (htop : (prog.main.scope.names.lookup ("super" : Str)).isSome = false)
    (h : ∀ so h', Fr h₀ L h' m → News h₀ L h' ((so, ks_superObj D x C) :: news) → (∀ p ∈ news, p.1 < so) → Q (.ref so) { s with heap := h' }) :
    _root_.PySem.wpAt (model prog w) A (.func body (ksEnv q scope L f (.ref cda) cc)) (attributeBase (.Call (.Name "super" p0) [] [] p1) attr (ksEnv q scope L f (.ref cda) cc) whole) Q E s := by
  have X : K.In s.heap := X₀.keeps F.keep
  obtain ⟨mb, hb, hbb⟩ := T.blt
  obtain ⟨hh, g, d, t, os⟩ := s
  obtain ⟨oD, hD1, hD2⟩ : ∃ oD, hh.get? D = some oD ∧ oD.data = .cls cdD := by
    unfold clsIn at hD
    split at hD
    · rename_i c d cd' sl ho
      cases hD
      exact ⟨_, X _ _ ho, rfl⟩
    · cases hD
  refine ks_wpAt_super_base (env := ksEnv q scope L f (.ref cda) cc) hks hkc hat rfl (X _ _ hf) rfl hp rfl (X _ _ hcode) rfl hvs hfile htop ?_
  refine ks_loadName_global hk hks (Calls.loadGlobal_builtin (env := ksEnv q scope L f (.ref cda) cc) (T.glob.keeps F.keep) (mg_none_of X₀ T.glob hsuper) (hb.keeps F.keep) ((hbb _ (by decide +kernel)).trans (by decide +kernel)) ⟨rfl, ?_⟩)
  refine wpAny_loadName_free hk hkc rfl ⟨_, X _ _ hcell, rfl⟩ ?_
  refine wpAny_loadName_local hk hka F.ns hv ?_
  refine ks_wpAny_isType_cls hD1 hD2 ⟨rfl, ?_⟩
  refine ks_wpAny_call_super hD1 hD2 I.at_ I.cls (fun c e => ?_) (looks_mroIn X hsub) (fun h' e k => ?_)
  · have := I.no
    unfold notCls at this
    rw [e] at this
    exact Bool.noConfusion this
  · obtain ⟨F', N', l'⟩ := ks_newsPush (s := ⟨hh, g, d, t, os⟩) F N rfl e k
    exact h _ _ F' N' l'
end
end Mk
/-! Mx4: the call of such a class, whole. -/
namespace Mk
open PySem PySem.Spec PyProof.Rows L2
section
open PySem.W
variable {h₀ h h' : Heap} {L : Addr} {m : Str → Option Value} {news : List (Addr × Obj)}
theorem fr_grow (F : Fr h₀ L h m) (k : ∀ b o, h.get? b = some o → h'.get? b = some o) : Fr h₀ L h' m := ⟨F.ns.keeps k, fun b o e => k b o (F.keep b o e), F.above⟩
theorem news_grow (N : News h₀ L h news) (k : ∀ b o, h.get? b = some o → h'.get? b = some o) : News h₀ L h' news := fun p hp => ⟨k _ _ (N p hp).1, (N p hp).2⟩
end
theorem xd_one {h : Heap} {a : Addr} {f : Str} {u : Value} {y : L2.V} {hs : Int} {t n : Nat} (e : h.get? a = some (PySem.W.dictOf (PySem.W.putL f hs (.str f t) u []) n)) (ry : RelV y u) : ∃ mA, h.Ns1 a mA ∧ ∀ g, RelO ([(f, y)].lookup g) (mA g) := by
  refine ⟨fun g => if g = f then some u else none, ⟨_, _, _, e, rfl, fun en hm => ?_, ?_, fun g => ?_⟩, fun g => ?_⟩
  · have : en = ⟨hs, .str f t, u⟩ := by simpa [PySem.W.putL] using hm
    subst this
    exact ⟨f, t, rfl⟩
  · unfold UniqKeys
    simp [PySem.W.putL]
  · by_cases q : g = f
    · subst q
      simp [nsFind, findBy, PySem.W.putL, Value.isStr]
    · show _ = if g = f then some u else none
      rw [if_neg q]
      have q' : ¬ f = g := fun z => q z.symm
      simp [nsFind, findBy, PySem.W.putL, Value.isStr, q, q']
  · exact relO_put (fs := []) (mA := fun _ => none) ry (fun _ => trivial) g
theorem call_form {o e : Expr} {name : Str} {apos pos : Pos} {env : PySem.Env} (k : starEach [e] env = (false, eval e env) :: starEach [] env) (hpl : (apos.endLine == pos.line) = true) : eval (.Call (.Attribute o name apos) [e] [] pos) env = (do
      let ov ← attributeBase o name env (eval o env)
      standAt apos.atName
      let (f, first) ← holding [ov] (getMethod ov name (do return (← importBound o env).getD true))
      callWith pos f first (backTo pos (starEach [e] env)) []) := by
  rw [arm_eval_Call]
  have hf : methodCallForm ([e].length + ([] : List Keyword).length) (backTo pos (starEach [e] env)) (backToKw pos (keywordEach [] env)) = true := by rw [k]; rfl
  have h2 : ∀ ov, methodCall o name apos pos env ov ([e].length + ([] : List Keyword).length) (backTo pos (starEach [e] env)) (backToKw pos (keywordEach [] env)) = (do
      let (f, first) ← holding [ov] (getMethod ov name (do return (← importBound o env).getD true))
      callWith pos f first (backTo pos (starEach [e] env)) []) := fun ov => by
    unfold methodCall methodCallPos calleeOf
    rw [hf, hpl]
    rfl
  simp only [h2]
section
variable {X : Cx} {pins : List (Addr × Obj)} {σ : L2.St} {H : Hp} {s : Shared} {B newId initId : String} {bmB : List Value} {C : Addr} {field self given : Str} {scope : Scope} {body : List Stmt} {y : L2.V} {u : Value} {d : D} {as : List Addr} {Q : XK} {k : Nat}
open PySem.W in
theorem oxc_call (T : OxC X.prog X.K B newId initId bmB C field scope body self given) (hbody : ∃ t, initBody body = some t ∧ t.self = self ∧ t.given = given ∧ t.field = field) (I : Inv X pins σ H s) (ry : RelV y u) (rd : Reads s.heap u d as) (nsy : noL d = true → sysModules ∉ as) (ok : txtOk d = true) (hg : X.A.guards = some []) (hr : Room k X.A)
    (q : ∀ dx, H dx = none → Q (.ref C) (some dx) (upd H dx (.xd [(field, y)]))) : wpAny (model X.prog X.w) X.A (call (.ref C) [u]) (MkP X pins σ Q) X.xe s := by
  obtain ⟨fI, cc, cda, oc, cl, ccl, od, cld, cdd, osl, csl, ccs, name, qual, params, dV, kV, doc, pm, ct, an, vs, file, tf, ar, cdD, f1, f2, f3, f4, f5, f6, f7, f8, f9, f10, f11, f12⟩ := T.fn
  obtain ⟨c1, c2, c3, c4, c5, c6, c7, c8, c9, c10, c11⟩ := T.sc
  subst f11
  obtain ⟨nm, N', qn, bs, bm, hdct, sn, sub, ab, col, dd, k0, k1, k2, k3, k5, hC, hT⟩ := excInit_of I.kIn T.ini
  have KX := I.kIn
  have MD : Mod X.K X.mg s.heap := ⟨KX, I.mod.glob.keeps I.bk, (let ⟨mb, h1, h2⟩ := I.mod.blt; ⟨mb, h1.keeps I.bk, h2⟩), I.nolimit⟩
  obtain ⟨it, hb1, hb2, hb3, hb4⟩ := hbody
  obtain ⟨hp, g, dr, tk, os⟩ := s
  have one : [u].length ≤ sizeLine := by show 1 ≤ sizeLine; rw [sizeLine_eq]; omega
  refine wpAny_call (HandSPX.call_own T.base hT hC (looks_findIn KX f1) (fun self => bind_fn KX self (by unfold isFn at f2; exact eq_of_beq f2)) one ?_)
  have kk : ∀ b o, hp.get? b = some o → ((hp.push (kdv_tup [u])).push (HandSPX.excO C hp.objs.size)).get? b = some o := fun b o e => Heap.get?_push_of_some _ (Heap.get?_push_of_some _ e)
  have hget : ((hp.push (kdv_tup [u])).push (HandSPX.excO C hp.objs.size)).get? (hp.objs.size + 1) = some (HandSPX.excO C hp.objs.size) := by heap_get
  have hgetT : ((hp.push (kdv_tup [u])).push (HandSPX.excO C hp.objs.size)).get? hp.objs.size = some (kdv_tup [u]) := by heap_get
  have rd' : (X.A.under (.builtin "type.__call__" ⟨.ref C :: [u], []⟩)).depth < recursionLimit := by rw [make_depth]; have := hr.dp; omega
  have ru' : (X.A.under (.builtin "type.__call__" ⟨.ref C :: [u], []⟩)).units + 3 + 100 < cLine := by rw [make_units]; have := hr.un; omega
  refine ks_codeAny_call_defAt (fd := ksFn name qual params body scope dV kV doc pm an (.ref cda) ct cc) (body := body) (binds := [ar.arg, given].zip [.ref (hp.objs.size + 1), u]) rd' (kk _ _ (KX _ _ f3)) rfl (MD.nolimit.keeps kk) (codeRec_of (KX.keeps kk) f4) rfl (BindsTo.of_eq (f12 _ rfl)) c4
    (fun p hp => by
      simp only [List.zip_cons_cons, List.zip_nil_right, List.mem_cons, List.not_mem_nil, or_false] at hp
      rcases hp with rfl | rfl
      · exact c5
      · exact c6) (fun h₁ hns hk₁ => ?_) c2 c3 c1
  have kk1 : ∀ b o, hp.get? b = some o → h₁.get? b = some o := fun b o e => hk₁ b o (kk b o e)
  have szL : ((hp.push (kdv_tup [u])).push (HandSPX.excO C hp.objs.size)).objs.size = hp.objs.size + 2 := by rw [Heap.size_push, Heap.size_push]
  have nf : ∀ n, hp.get? (hp.objs.size + n) = none := fun n => Heap.get?_none_of_le (Nat.le_add_right _ _)
  have F1 : Fr hp ((hp.push (kdv_tup [u])).push (HandSPX.excO C hp.objs.size)).objs.size h₁ (fun x => ([ar.arg, given].zip [Value.ref (hp.objs.size + 1), u]).reverse.lookup x) := ⟨hns, kk1, by rw [szL]; omega⟩
  have N1 : News hp ((hp.push (kdv_tup [u])).push (HandSPX.excO C hp.objs.size)).objs.size h₁ [(hp.objs.size + 1, excObj C hp.objs.size none .none)] := fun p hp' => by
    have e : p = (hp.objs.size + 1, excObj C hp.objs.size none .none) := by simpa using hp'
    subst e
    exact ⟨hk₁ _ _ hget, by rw [szL]; exact Nat.ne_of_lt (Nat.lt_succ_self _), nf 1⟩
  generalize ((hp.push (kdv_tup [u])).push (HandSPX.excO C hp.objs.size)).objs.size = L at F1 N1 ⊢
  have mself : (fun x => ([ar.arg, given].zip [Value.ref (hp.objs.size + 1), u]).reverse.lookup x) ar.arg = some (Value.ref (hp.objs.size + 1)) := by
    have : (ar.arg == given) = false := by simpa using c9
    simp [List.lookup, this]
  have mgiven : (fun x => ([ar.arg, given].zip [Value.ref (hp.objs.size + 1), u]).reverse.lookup x) given = some u := by
    simp [List.lookup]
  generalize (fun x => ([ar.arg, given].zip [Value.ref (hp.objs.size + 1), u]).reverse.lookup x) = m at F1 mself mgiven
  show _root_.PySem.wpAt (model X.prog X.w) _ (.func body (ksEnv qual scope L fI (.ref cda) cc)) (execs body (ksEnv qual scope L fI (.ref cda) cc)) _ _ _
  have Ld : ∀ {A : Around} {E : Value → Shared → Prop} {h : Heap} {t : Nat} {x : Str} {v : Value} {p : Pos} {Q : Value → Shared → Prop}, Fr hp L h m → m x = some v → scope.names.lookup x = some .local → (x == ("__debug__" : Str)) = false → Q v ⟨h, g, dr, t, os⟩ →
      wpAny (model X.prog X.w) A (eval (.Name x p) (ksEnv qual scope L fI (.ref cda) cc)) Q E ⟨h, g, dr, t, os⟩ := fun F hv hl hd hq => ESX.ldL (env := ksEnv qual scope L fI (.ref cda) cc) F.ns hv hq c1 hl hd
  unfold initBody at hb1
  split at hb1
  case h_2 => cases hb1
  rename_i z p0 p1 y' p2 e p3 p4 s' p5 f' p6 g' p7 p8
  split at hb1
  case isFalse => cases hb1
  rename_i hz
  obtain ⟨rfl, rfl, hm, hst, hpl, hnc⟩ := hz
  cases hb1
  dsimp only at hb2 hb3 hb4
  subst hb2 hb3 hb4
  have Ix : ∀ {h : Heap} {n : List (Addr × Obj)} {t : Addr}, News hp L h n → (hp.objs.size + 1, excObj C t none .none) ∈ n → InstAt h (hp.objs.size + 1) (excObj C t none .none) C none := fun N hm => InstAt.of_exc0 N hm
  obtain ⟨st1, _⟩ := star_cons (env := ksEnv qual scope L fI (.ref cda) cc) hst
  have hin : interactive (ksEnv qual scope L fI (.ref cda) cc) = false := by
    show (scope.kind == .module && _) = false
    rw [c1]; rfl
  refine ks_wpAt_execs_cons (ks_wpAt_Expr_any (ks_wpAt_MethodCall (node_ok (mg := X.mg) (news := [(hp.objs.size + 1, excObj C hp.objs.size none .none)]) F1 KX N1 MD f3 f10 mself (Ix N1 List.mem_cons_self) f5 f6 f7 f8 f9 T.mroC T.nsuper (by decide) c7 c8 c5 c1 T.top fun so h2 F2 N2 l2 => ?_) (call_form st1 hpl)) hin rfl)
  -- super().__init__ is looked up
  refine kxs_method T.sup F2 KX N2 List.mem_cons_self (Ix N2 (List.mem_cons_of_mem _ List.mem_cons_self)) T.third T.supI T.subB (by decide) (fun q1 h3 F3 N3 l3 => ?_)
  refine kxs_callWith1 (i := initId) (x := hp.objs.size + 1) N3 List.mem_cons_self ?_ st1 rfl
  rw [st1]
  refine Calls.spliced_cons ?_
  refine msg_ok (h₀ := hp) rd nsy ok hg ru' hm F3.keep (fun h' tk2 p Q2 kq hq => Ld (fr_grow F3 kq) mgiven c6 c11 hq) (fun h4 txt tt tk4 k4 => ?_)
  refine Calls.spliced_nil ?_
  have F4 := fr_grow F3 k4
  have N4 := news_grow N3 k4
  refine ⟨kxs_at N4 List.mem_cons_self, ?_⟩
  have ne1 : so ≠ hp.objs.size + 1 := Nat.ne_of_gt (l2 _ List.mem_cons_self)
  have ne2 : q1 ≠ hp.objs.size + 1 := Nat.ne_of_gt (l3 _ (List.mem_cons_of_mem _ List.mem_cons_self))
  refine kxs_call F4 KX N4 T.base T.ini List.mem_cons_self (.tail ne2 (.tail ne1 (.head (fun _ hq => nomatch hq)))) (by show 1 ≤ sizeLine; rw [sizeLine_eq]; omega) (fun t5 h5 F5 N5 l5 => ?_)
  have hk5 : ∀ b o, hp.get? b = some o → h5.get? b = some o := F5.keep
  have x5 : (hp.objs.size + 1, excObj C t5 none .none) ∈ (t5, excTup [Value.str txt tt]) :: (q1, kxs_mw initId (hp.objs.size + 1)) :: (so, ks_superObj C (hp.objs.size + 1) C) :: (hp.objs.size + 1, excObj C t5 none .none) :: [] := by simp
  have ne3 : t5 ≠ hp.objs.size + 1 := Nat.ne_of_gt (l5 (hp.objs.size + 1, excObj C hp.objs.size none .none) (by simp))
  refine ks_wpAt_execs_cons (ks_wpAt_Assign_Attr (wpAt_of_wpAny (Ld F5 mgiven c6 c11 (Ld F5 mself c5 c10 ?_))) rfl)
  refine set_exc0 (news := (t5, excTup [Value.str txt tt]) :: (q1, kxs_mw initId (hp.objs.size + 1)) :: (so, ks_superObj C (hp.objs.size + 1) C) :: (hp.objs.size + 1, excObj C t5 none .none) :: []) (t := t5) T.store F5 KX N5 x5 T.sa T.over T.tk T.hd rfl (.tail ne3 (.tail ne2 (.tail ne1 (.head (fun _ hq => nomatch hq))))) (by show 1 ≤ 1000; omega) (fun dx h6 F6 N6 l6 => ?_)
  refine wpAt_of_wpAny (wpAny_execs_nil ⟨rfl, ?_⟩)
  have e6 : h6.get? (hp.objs.size + 1) = some (excObj C t5 (some dx) .none) := (N6 (hp.objs.size + 1, excObj C t5 (some dx) .none) (by simp)).1
  obtain ⟨d1, d2, d3⟩ := N6 _ List.mem_cons_self
  have dne : dx ≠ hp.objs.size + 1 := Nat.ne_of_gt (l6 _ x5)
  obtain ⟨G, g1', g2'⟩ := restrict h6 fun b => decide (b ≠ hp.objs.size + 1)
  have gk : ∀ b, b ≠ hp.objs.size + 1 → G.get? b = h6.get? b := fun b hb => g1' b (decide_eq_true hb)
  have ge : G.get? (hp.objs.size + 1) = none := g2' _ (by simp)
  have kG : ∀ b o, hp.get? b = some o → G.get? b = some o := fun b o z => by
    rw [gk b (fun eq => by rw [eq, nf 1] at z; cases z)]
    exact F6.keep b o z
  have hnd : H dx = none := I.hok.gone d3
  have hnx : H (hp.objs.size + 1) = none := I.hok.gone (nf 1)
  have new : ObjOk X.prog X.w (upd H dx (.xd [(f', y)])) G dx (.xd [(f', y)]) := xd_one ((gk dx dne).trans d1) ry
  have J : Inv X pins σ (upd H dx (.xd [(f', y)])) ⟨G, g, dr, tk, os⟩ := I.laidN (t' := tk) kG d3 hnd new
  exact ⟨hp.objs.size + 1, _, _, ⟨G, g, dr, tk, os⟩, _, .ref C, some dx, rfl, J, fun b o z => (by
      by_cases hb : b = hp.objs.size + 1
      · rw [hb, ge] at z; cases z
      · exact (gk b hb).symm.trans z), ge, e6, ⟨rfl, rfl⟩, rfl, rfl, by rw [upd_ne (Ne.symm dne)]; exact hnx, rfl, I.bare, raises_own T.exC T.tyC, q dx hnd⟩
end
end Mk
/-! Mx5: raise, try. -/
namespace Mk
open PySem PySem.Spec PyProof.Rows L2
section
variable [TabC] {T : Tx} {X : Cx} {W : WX} {c : Cl} {σ : L2.St} {ρ ρ' : List Addr} {H H' : Hp} {γ : Env} {S : Store} {pos : Pos}
/-- an own class of errors that has no __init__ -/
def PlainE (K : PySem.W.Frag) (C : Addr) : Prop := PySem.W.keepIn K (.ref C) = true ∧ PySem.W.subIn K (.ref C) (.type "BaseException") = some true ∧ PySem.W.typeIn K (.ref C) = some (.type "type") ∧
  ∃ (B newId initId : String) (bmB : List Value), ExcBaseFacts B newId initId bmB ∧ PySem.W.excIn K C bmB newId = true
/-- one that keeps a value -/
def FldE (P : Program) (K : PySem.W.Frag) (C : Addr) (f : Str) : Prop := ∃ (B newId initId : String) (bmB : List Value) (scope : Scope) (body : List Stmt) (slf given : Str), OxC P K B newId initId bmB C f scope body slf given ∧ ∃ t, initBody body = some t ∧ t.self = slf ∧ t.given = given ∧ t.field = f
theorem oks_err {k : Nat} {x m : Str} {C : Addr} {j : Nat} {p p2 p3 pos' : Pos} (hc : X.calm = true) (tk : Takes X W) (hg : Gl X x) (gC : X.mg x = some (.ref C)) (E : PlainE X.K C) (h1 : T.ca k = some C) (h2 : T.cf k = none) (hdb : (x == ("__debug__" : Str)) = false) :
    PS X (.Raise (some (.Call (.Name x p) [.Constant (.str m) j p2] [] p3)) none pos') (rdS T X W c (sErr k)) := by
  obtain ⟨e1, e2, e3, B, newId, initId, bmB, F, q⟩ := E
  refine (ps_raise hc tk (pmk_own F q gC e1 (raises_own e2 e3) hg hdb)).imp fun D σ H ⟨γ, S, ρ, hE, hS, hP⟩ => ?_
  exact hP (.ref C) none σ H ρ (Ext.refl _ _) hE hS ⟨C, h1, rfl, by rw [h2]⟩
theorem oks_errX {k : Nat} {x f : Str} {C : Addr} {e : Expr} {xe : TEx} {p p3 pos' : Pos} {kk : Nat} (hc : X.calm = true) (tk : Takes X W) (hr : Room kk X.A) (hgd : X.A.guards = some []) (hg : Gl X x) (gC : X.mg x = some (.ref C)) (E : FldE X.prog X.K C f) (h1 : T.ca k = some C) (h2 : T.cf k = some f) (he : PE X e (rdE T X W c xe)) (hst : noStar [e] = true)
    (hdb : (x == ("__debug__" : Str)) = false) : PS X (.Raise (some (.Call (.Name x p) [e] [] p3)) none pos') (rdS T X W c (sErrX k xe)) := by
  obtain ⟨B, newId, initId, bmB, scope, body, slf, given, O, hbody⟩ := E
  have st := (star_cons (env := X.env) hst).1
  have mk : PMk X (.Call (.Name x p) [e] [] p3) (fun σ H Q => rdE T X W c xe σ H fun v H1 => ∃ (d : D) (ρ1 : List Addr), RepD X.K ρ1 H1 d v ∧ txtOk d = true ∧ ∀ dx, H1 dx = none → Q (.ref C) (some dx) (upd H1 dx (.xd [(f, v)]))) := by
    intro pins s σ H Q I h
    refine wpAny_Call_Name_kw (ld_glob I hg gC ?_ hdb)
    have ha : PA X [e] (tCons (rdE T X W c xe) tNil) := pa_cons he pa_nil st
    refine PySem.W.callWith_K (h₀ := X.base) I.ok.mod.kin O.kC (thn (ha.run p3 pins s σ H (fun vs H1 => ∃ (v : L2.V) (d : D) (ρ1 : List Addr), vs = [v] ∧ RepD X.K ρ1 H1 d v ∧ txtOk d = true ∧ ∀ dx, H1 dx = none → Q (.ref C) (some dx) (upd H1 dx (.xd [(f, v)]))) I ?_) fun us s1 hh => ?_) st (star_any (by rfl))
    · obtain ⟨γ, S, ρ, hE, hS, hP⟩ := h
      exact ⟨γ, S, ρ, hE, hS, hP.imp fun v H1 ⟨d, ρ1, q1, q2, q3⟩ => ⟨v, d, ρ1, rfl, q1, q2, q3⟩⟩
    · obtain ⟨vs, H1, I1, r1, v, d, ρ1, rfl, q1, q2, q3⟩ := hh
      obtain ⟨u, rfl, ru⟩ := vals1 r1
      obtain ⟨as, rd, nm⟩ := q1.reads I1 ru
      exact ⟨I1.kIn, oxc_call (y := v) O hbody I1 ru rd nm q2 hgd hr q3⟩
  refine (ps_raise hc tk mk).imp fun D σ H ⟨γ, S, ρ, hE, hS, hP⟩ => rs_bind hE hS hP fun v H1 d S1 ρ1 e r hE1 hS1 hP1 => ?_
  cases d with
  | d y =>
    dsimp only at hP1
    split at hP1
    · rename_i ok
      have r' : RepD X.K ρ1 H1 y v := by unfold rV RepV at r; exact r
      refine ⟨y, ρ1, r', ok, fun dx hn => ?_⟩
      have ex : Ext ρ1 ρ1 H1 (upd H1 dx (.xd [(f, v)])) := Ext.new hn
      exact hP1 (.ref C) (some dx) σ _ ρ1 ex (hE1.mono hS1.out ex) (hS1.new hn) ⟨C, h1, rfl, by rw [h2]; exact ⟨dx, v, rfl, hS1.out.notin hn, upd_same, r'.mono hS1.out ex⟩⟩
    · exact hP1.elim
  | _ => exact hP1.elim
/-! ### try -/
/-- the table in an except suite -/
def Tx.sx (T : Tx) (a : Addr) (cls : Value) (d : Option Addr) : Tx := { T with ex := some (a, cls, d), mkd := fun _ => False }
theorem tle_sx {a : Addr} {cls : Value} {d : Option Addr} : TLe T.toTb (T.sx a cls d).toTb := ⟨rfl, rfl, rfl, fun _ _ h => h⟩
theorem tle_xs {a : Addr} {cls : Value} {d : Option Addr} : TLe (T.sx a cls d).toTb T.toTb := ⟨rfl, rfl, rfl, fun _ _ h => h⟩
theorem RepE.flatE {T T' : Tb} {K : PySem.W.Frag} (h : TLe T T') (r : RepE T K ρ H γ σ) : RepE T' K ρ H (Mk.flatE γ) σ := by
  refine ⟨by unfold Mk.flatE; rw [List.length_map]; exact r.len, fun i v q => ?_⟩
  unfold Mk.flatE at q
  rw [List.getElem?_map] at q
  cases q1 : γ[i]? with
  | none => rw [q1] at q; cases q
  | some o =>
    rw [q1] at q
    cases o with
    | none => cases q
    | some x =>
      have q' : (if flat x then some x else none) = some v := Option.some.inj q
      split at q'
      · rename_i f
        cases q'
        obtain ⟨y, h1, h2⟩ := r.at_ i _ q1
        exact ⟨y, h1, h2.flat h f⟩
      · cases q'
theorem RepE.unslot {T : Tb} {K : PySem.W.Frag} {i : Nat} (r : RepE T K ρ H γ σ) : RepE T K ρ H (γ.set i none) (σ.set i none) := by
  refine ⟨by simp [r.len], fun j v q => ?_⟩
  by_cases e : i = j
  · subst e
    by_cases l : i < γ.length
    · rw [List.getElem?_set_self l] at q; cases q
    · rw [List.getElem?_eq_none (by simpa using l)] at q; cases q
  · rw [List.getElem?_set_ne e] at q
    obtain ⟨y, h1, h2⟩ := r.at_ j v q
    exact ⟨y, by rw [List.getElem?_set_ne e]; exact h1, h2⟩
/-- the clauses' readings -/
inductive HsL (T : Tx) (X : Cx) (c : Cl) : List HdI → List Hd → Prop
  | nil : HsL T X c [] []
  | cons {cv : Value} {h : Hd} {l : List HdI} {hs : List Hd} (m : ∀ k C, T.ca k = some C → PySem.W.exmOne X.K (.ref C) cv = some (h.ks.contains k)) (r : HsL T X c l hs) : HsL T X c ((cv, h.slot, fun a cls d => rdS (T.sx a cls d) X (fun _ _ _ _ => False) c h.b) :: l) (h :: hs)
theorem wmix_ok {k : Nat} {x : PyData} {cls : Value} {dd : Option Addr} (hE : RepE T.toTb X.K ρ H γ σ) (hS : RepS X.K ρ H S) (rx : RepX T.toTb X.K ρ H k x cls dd) {D : Ends} : ∀ {l : List HdI} {hs : List Hd}, HsL T X c l hs → PoS T X W ρ H (tryH c k x γ S hs) D → wMix X.K W D l cls dd σ H := by
  intro l hs hl
  induction hl with
  | nil => exact fun hP => hP cls dd σ H ρ (Ext.refl _ _) hE hS rx
  | @cons cv h l hs m r ih =>
    intro hP
    obtain ⟨C, c1, c2, c3⟩ := id rx
    refine ⟨h.ks.contains k, by rw [c2]; exact m k C c1, fun hb a na => ?_, fun hb => ?_⟩
    · unfold tryH at hP
      rw [if_pos hb] at hP
      have rx' : RepX (T.sx a cls dd).toTb X.K ρ H k x cls dd := rx.tr (T := T.toTb) (T' := (T.sx a cls dd).toTb) tle_sx
      refine ⟨inSu γ k x h.slot, S, ρ, ?_, hS, ?_⟩
      · have hf : RepE (T.sx a cls dd).toTb X.K ρ H (Mk.flatE γ) σ := hE.flatE (T := T.toTb) (T' := (T.sx a cls dd).toTb) tle_sx
        cases h.slot with
        | none => exact hf
        | some i => exact hf.set (by unfold RepV; exact ⟨a, cls, dd, rfl, rfl, rx'⟩)
      · unfold endSu at hP
        cases q : h.b c (inSu γ k x h.slot) S with
        | nx γ' S' =>
          rw [q] at hP
          intro σ' H' ρ' e hE' hS'
          have hf : RepE T.toTb X.K ρ' H' (Mk.flatE γ') σ' := hE'.flatE (T := (T.sx a cls dd).toTb) (T' := T.toTb) tle_xs
          cases hs' : h.slot with
          | none => rw [hs'] at hP; exact hP σ' H' ρ' e hf hS'
          | some i => rw [hs'] at hP; exact hP _ H' ρ' e hf.unslot hS'
        | bk γ' S' =>
          rw [q] at hP
          intro σ' H' ρ' e hE' hS'
          have hf : RepE T.toTb X.K ρ' H' (Mk.flatE γ') σ' := hE'.flatE (T := (T.sx a cls dd).toTb) (T' := T.toTb) tle_xs
          cases hs' : h.slot with
          | none => rw [hs'] at hP; exact hP σ' H' ρ' e hf hS'
          | some i => rw [hs'] at hP; exact hP _ H' ρ' e hf.unslot hS'
        | ct γ' S' =>
          rw [q] at hP
          intro σ' H' ρ' e hE' hS'
          have hf : RepE T.toTb X.K ρ' H' (Mk.flatE γ') σ' := hE'.flatE (T := (T.sx a cls dd).toTb) (T' := T.toTb) tle_xs
          cases hs' : h.slot with
          | none => rw [hs'] at hP; exact hP σ' H' ρ' e hf hS'
          | some i => rw [hs'] at hP; exact hP _ H' ρ' e hf.unslot hS'
        | rt v S' =>
          rw [q] at hP
          dsimp only at hP
          split at hP
          · rename_i f
            intro y H' ρ' e r hS'
            have r' : RepV T.toTb X.K ρ' H' v y := RepV.flat (T := (T.sx a cls dd).toTb) (T' := T.toTb) tle_xs f r
            cases h.slot with
            | none => exact hP y H' ρ' e r' hS'
            | some i => exact hP y H' ρ' e r' hS'
          · exact hP.elim
        | er kk y γ' S' => rw [q] at hP; exact hP.elim
        | stuck => rw [q] at hP; exact hP.elim
    · unfold tryH at hP
      rw [if_neg (by rw [hb]; exact Bool.false_ne_true)] at hP
      exact ih hP
theorem oks_try {body : List Stmt} {h₀ : ExceptHandler} {hds : List ExceptHandler} {l : List HdI} {tb : TSt} {hs : List Hd} (hst : X.stack = X.env :: X.outer) (hf : X.env.frame = some X.env.locals) (hN : X.N.Nodup) (tk : Takes X W)
    (hb : ∀ (W' : WX) (pn : List (Addr × Obj)) (xe : Value → Shared → Prop), Takes (X.tr pn xe) W' → PassesOwn (model X.prog X.w) X.A X.env xe → PSs (X.tr pn xe) body (rdS T X W' c tb))
    (hh : HdsM X (h₀ :: hds) l) (hl : HsL T X c l hs) : PS X (.Try body (h₀ :: hds) [] [] pos) (rdS T X W c (sTry tb hs)) := by
  refine (ps_try_mix (tb := fun W' => rdS T X W' c tb) hst hf hN tk hb hh).imp fun D σ H ⟨γ, S, ρ, hE, hS, hP⟩ => ⟨γ, S, ρ, hE, hS, ?_⟩
  unfold sTry at hP
  cases q : tb c γ S with
  | er k x γ' S' =>
    rw [q] at hP
    intro cls dd σ' H' ρ' e hE' hS' rx
    exact wmix_ok (D := D) (x := x) hE' hS' rx hl (PoS.later e hP)
  | nx γ' S' => rw [q] at hP; exact hP
  | bk γ' S' => rw [q] at hP; exact hP
  | ct γ' S' => rw [q] at hP; exact hP
  | rt v S' => rw [q] at hP; exact hP
  | stuck => rw [q] at hP; exact hP.elim
/-- error.f -/
theorem ok_fld {a C : Addr} {oe : Obj} {cls : Value} {d : Option Addr} {pn : List (Addr × Obj)} {e : Expr} {xe : TEx} {f : Str} {k : Nat} (F : XfC X.K C) (hno : PySem.W.findIn X.K (.ref C) f = some none) (h1 : T.ca k = some C) (h2 : T.cf k = some f) (hz : Zc cls d oe) (hf : ∃ vs, oe.data = .fields vs)
    (he : PE (X.suite a ((a, oe) :: pn)) e (rdE (T.sx a cls d) (X.suite a ((a, oe) :: pn)) W c xe)) (hn : notCall e = true) : PE (X.suite a ((a, oe) :: pn)) (.Attribute e f pos) (rdE (T.sx a cls d) (X.suite a ((a, oe) :: pn)) W c (xFld k xe)) := by
  refine (pe_xf F hno hz hf he (attr_base hn)).imp fun σ H Q ⟨γ, S, ρ, hE, hS, hP⟩ => rd_bind hE hS hP fun v H1 dv S1 ρ1 e1 r hE1 hS1 hP1 => ?_
  cases dv with
  | ex j x =>
    dsimp only at hP1
    split at hP1
    · rename_i ej
      subst ej
      unfold rV RepV at r
      obtain ⟨a', cls', d', r1, rfl, C', c1, c2, c3⟩ := r
      cases r1
      have c1 : T.ca j = some C' := c1
      rw [h1] at c1
      cases c1
      have c3 : match T.cf j with
        | none => d = none
        | some f => ∃ a v, d = some a ∧ a ∉ ρ1 ∧ H1 a = some (.xd [(f, v)]) ∧ RepD X.K ρ1 H1 x v := c3
      rw [h2] at c3
      obtain ⟨dx, w, k1, k2, k3, k4⟩ := c3
      exact ⟨rfl, c2, dx, _, w, k1, k3, by simp [List.lookup], hP1 w H1 ρ1 (Ext.refl _ _) (by unfold rV RepV; exact k4) hS1⟩
    · exact hP1.elim
  | _ => exact hP1.elim
end
end Mk
/-! Mk14: from the text to the evaluator: expressions. -/
namespace Mk
open PySem PySem.Spec PyProof.Rows L2
/-- what the text of a def is read with: its names; the defs (name, number, parameters, defaults), the built-in names that the module leaves free, the module's constants; where lists are made that change -/
structure Gt where
  N : List Str
  fs : List (Str × Nat × Nat × List Int)
  fr : List Str
  cs : List (Str × D)
  mu : List (Nat × Nat)
  /-- the qualified name ahead of a lambda's -/
  q : Str := ""
  /-- the frame makes lambdas -/
  lams : Bool := false
  /-- no error is handled -/
  calm : Bool := true
  /-- the own classes of errors, the built-in ones: their sorts, the field -/
  er : List (Str × Nat × Option Str) := []
  /-- which sorts a clause takes -/
  hd : List (Str × List Nat) := []
  /-- the sort of the error that is handled -/
  ek : Option Nat := none
/-- in a block; in an except suite -/
def Gt.blk (G : Gt) : Gt := { G with lams := false }
def Gt.su (G : Gt) (k : Option Nat) : Gt := { G with lams := false, calm := false, ek := k }
def isMu (G : Gt) (p : Pos) : Bool := G.mu.contains (p.line, p.col)
def inFr (G : Gt) (x : Str) : Bool := decide (x ∈ G.fr)
/-- the built-in functions -/
def biOf (c m : Bool) (x : Str) : Option (List Vl → Store → R Vl) :=
  if x = "len" then some bLen else if x = "abs" then some bAbs else if x = "repr" then some bRepr else if c = true then if x = "max" then some bMax else if x = "min" then some bMin
  else if x = "all" then some bAll else if x = "any" then some bAny else if x = "sum" then some bSum else if x = "sorted" then some (bSorted m) else none else none
def btOf (m : Bool) (x : Str) : Option (List Vl → Store → R Vl) :=
  if x = "int" then some bInt else if x = "tuple" then some bTuple else if x = "list" then some (bList m) else none
def tyOf (x : Str) : Option Ty :=
  if x = "int" then some .int else if x = "bool" then some .bool else if x = "str" then some .str else if x = "tuple" then some .tuple else if x = "list" then some .list else if x = "dict" then some .dict else none

/-- the readers at one depth -/
structure Cs where
  e : Scope → Expr → Option TEx
  t : Scope → Expr → Option TTs
  i : Scope → Expr → Expr → Option TIt
  g : (Str → Bool) → Scope → Expr → Option (TTg × List Nat)
/-- the captured names of a scope -/
def capsOf (sc : Scope) : List Str := sc.names.filterMap fun y => if y.2 = .free then some y.1 else none
def lamB (sc scope : Scope) : Bool := (match scope.kind with | .function => true | _ => false) && !scope.isCoroutine && !scope.isGenerator && (scope.names.all fun y => !decide (y.2 = .local) && !decide (y.2 = .cell)) && decide (capsOf scope).Nodup &&
  (capsOf scope).all fun y => decide (sc.names.lookup y = some .cell) || decide (sc.names.lookup y = some .free)
section
variable (G : Gt) (r rb : Cs)
def cArgs (sc : Scope) : List Expr → Option TAr
  | [] => some aNil
  | e :: es => match r.e sc e, cArgs sc es with
    | some x, some xs => some (aCons x xs)
    | _, _ => none
/-- with starred items -/
def cArgsS (sc : Scope) : List Expr → Option TAr
  | [] => some aNil
  | .Starred e _ :: es => match r.e sc e, cArgsS sc es with
    | some x, some xs => some (aStar x xs)
    | _, _ => none
  | e :: es => if noStar [e] = true then match r.e sc e, cArgsS sc es with
    | some x, some xs => some (aCons x xs)
    | _, _ => none else none
def cName (sc : Scope) (x : Str) : Option TEx := if okName x = true then
    if isVis sc x = true then match idx G.N x with
      | some i => some (xV i)
      | none => none
    else if isGl sc x = true then match G.cs.lookup x with
      | some d => some (xC (.d d))
      | none => match G.fs.lookup x with
        | some (f, _, _) => some (xC (.fn f))
        | none => none
    else none
  else none
def cConst : Const → Option TEx
  | .none => some (xC (.d .none))
  | .bool b => some (xC (.d (.bool b)))
  | .int i => some (xC (.d (.int i)))
  | .str s => some (xC (.d (.str s)))
  | _ => none
def cBin (sc : Scope) (a : Expr) (op : Operator) (b : Expr) (p : Pos) : Option TEx := match bop op, r.e sc a, r.e sc b with
  | some o, some x, some y => some (xBin o (isMu G p) x y)
  | _, _, _ => none
def cBool (sc : Scope) (op : BoolOp) : List Expr → Option TEx
  | [] => none
  | [a] => r.e sc a
  | a :: b :: es => match r.e sc a, cBool sc op (b :: es) with
    | some x, some y => match op with
      | .And => some (xAnd x y)
      | .Or => some (xOr x y)
    | _, _ => none
def cBoolT (sc : Scope) (op : BoolOp) : List Expr → Option TTs
  | [] => none
  | [a] => r.t sc a
  | a :: b :: es => match r.t sc a, cBoolT sc op (b :: es) with
    | some x, some y => match op with
      | .And => some (tAnd x y)
      | .Or => some (tOr x y)
    | _, _ => none
def cCmp (sc : Scope) (a : Expr) (ops : List CmpOp) (bs : List Expr) : Option TEx := match ops, bs with
  | [op], [b] => if behindInMarks op b = false then match r.e sc a, r.e sc b with
    | some x, some y => some (xCmp (cop op) x y)
    | _, _ => none else none
  | [op, op'], [b, d] => if lastMarks [op, op'] [b, d] = false then match r.e sc a, r.e sc b, r.e sc d with
    | some x, some y, some z => some (xCmp2 (cop op) (cop op') x y z)
    | _, _, _ => none else none
  | _, _ => none
def cCmpT (sc : Scope) (a : Expr) (ops : List CmpOp) (bs : List Expr) : Option TTs := match ops, bs with
  | [op], [b] => if behindInMarks op b = false then match r.e sc a, r.e sc b with
    | some x, some y => some (tCmp (cop op) x y)
    | _, _ => none else none
  | [op, op'], [b, d] => if lastMarks [op, op'] [b, d] = false then match r.e sc a, r.e sc b, r.e sc d with
    | some x, some y, some z => some (tCmp2 (cop op) (cop op') x y z)
    | _, _, _ => none else none
  | _, _ => none
def cPt (sc : Scope) : Option Expr → Option TPt
  | none => some pNo
  | some a => match r.e sc a with
    | some x => some (pSome x)
    | none => none
def cSub (sc : Scope) (a b : Expr) (p : Pos) : Option TEx := match b with
  | .Slice lo hi none _ => match r.e sc a, cPt r sc lo, cPt r sc hi with
    | some x, some l, some h => some (xSl (isMu G p) x l h)
    | _, _, _ => none
  | .Slice none none (some (.UnaryOp .USub (.Constant (.int 1) _ _) _)) _ => match r.e sc a with
    | some x => some (xRev (isMu G p) x)
    | none => none
  | b => if plainIx b = true then match r.e sc a, r.e sc b with
    | some x, some y => some (xIx x y)
    | _, _ => none else none
/-- a comprehension's own names with their slots -/
def ownOf (sc : Scope) : List (Str × Nat) := sc.names.filterMap fun y => if y.2 = .local ∨ y.2 = .cell then match idx G.N y.1 with
    | some i => some (y.1, i)
    | none => none
  else none
def cIfs (sc : Scope) : List Expr → Option TTs
  | [] => some tYes
  | [c] => r.t sc c
  | _ => none
def fnbOf (scope sc : Scope) (x : Str) : Bool := (scope.names.lookup x == some .cell) || isLocal sc x
def cLc (sc : Scope) (elt tg iter : Expr) (ifs : List Expr) (scope : Scope) (m : Bool) : Option TEx :=
  if G.calm = true ∧ blkC G.N sc scope (ownOf G scope) = true ∧ notSet iter = true then
    match r.i sc tg iter, rb.g (fnbOf scope (relS scope sc)) (relS scope sc) tg, cIfs rb (relS scope sc) ifs, rb.e (relS scope sc) elt with
    | some it, some (g, ws), some t, some e => if (ws.all fun j => decide (j ∈ (ownOf G scope).map (·.2))) = true then some (match G.lams with
        | true => xLcL G.N m ((ownOf G scope).map (·.2)) it g t e
        | false => xLc m ((ownOf G scope).map (·.2)) it g t e) else none
    | _, _, _, _ => none
  else none
/-- in a block that sees no lambdas -/
def cDc (sc : Scope) (kx vx tg iter : Expr) (ifs : List Expr) (scope : Scope) (m : Bool) : Option TEx :=
  if G.calm = true ∧ blkC G.N sc scope (ownOf G scope) = true ∧ notSet iter = true then
    match r.i sc tg iter, rb.g (fnbOf scope (relS scope sc)) (relS scope sc) tg, cIfs rb (relS scope sc) ifs, rb.e (relS scope sc) kx, rb.e (relS scope sc) vx with
    | some it, some (g, ws), some t, some ke, some ve => if (ws.all fun j => decide (j ∈ (ownOf G scope).map (·.2))) = true then some (xCm m (.dct []) ((ownOf G scope).map (·.2)) it g t (emD ke ve)) else none
    | _, _, _, _, _ => none
  else none
def cLc2 (sc : Scope) (elt tg iter : Expr) (ifs : List Expr) (tg1 iter1 : Expr) (ifs1 : List Expr) (scope : Scope) (m : Bool) : Option TEx :=
  if G.calm = true ∧ blkC G.N sc scope (ownOf G scope) = true ∧ notSet iter = true ∧ notSet iter1 = true then
    match r.i sc tg iter, rb.g (fnbOf scope (relS scope sc)) (relS scope sc) tg, cIfs rb (relS scope sc) ifs with
    | some it, some (g, ws), some t => match rb.i (relS scope sc) tg1 iter1, rb.g (fnbOf scope (relS scope sc)) (relS scope sc) tg1, cIfs rb (relS scope sc) ifs1, rb.e (relS scope sc) elt with
      | some it1, some (g1, ws1), some t1, some e => if (ws.all fun j => decide (j ∈ (ownOf G scope).map (·.2))) = true ∧ (ws1.all fun j => decide (j ∈ (ownOf G scope).map (·.2))) = true then
          some (xCm m (.lst []) ((ownOf G scope).map (·.2)) it g t (emIn ws1 it1 g1 t1 (emL e))) else none
      | _, _, _, _ => none
    | _, _, _ => none
  else none
def cCallV (sc : Scope) (f : Str) (args : List Expr) : Option TEx := if G.calm = true ∧ isVis sc f = true ∧ okName f = true then match args, idx G.N f with
    | [], some i => some (match G.lams with
      | true => xCallV G.N i
      | false => xCallW i)
    | e :: es, some i => if noStar (e :: es) = true then match cArgs r sc (e :: es) with
      | some xs => some (match G.lams with
        | true => xCallFL G.N i xs
        | false => xCallF i xs)
      | none => none else none
    | _, _ => none
  else none
def cCall (sc : Scope) (f : Str) (args : List Expr) (p : Pos) : Option TEx :=
  if isGl sc f = true ∧ noStar args = true ∧ okName f = true then
    if f = "isinstance" then match args with
      | [a, .Name tn _] => if inFr G f = true ∧ inFr G tn = true ∧ isGl sc tn = true ∧ okName tn = true then match r.e sc a, tyOf tn with
        | some x, some t => some (xIs x t)
        | _, _ => none else none
      | _ => none
    else match G.fs.lookup f with
      | some (id, np, ds) => if G.calm = true ∧ args.length ≤ np ∧ np ≤ args.length + ds.length then match cArgs r sc args with
        | some xs => some (match G.lams, args with
          | true, _ :: _ => xCallL G.N id xs ((ds.drop (args.length + ds.length - np)).map I)
          | _, _ => xCall id xs ((ds.drop (args.length + ds.length - np)).map I))
        | none => none else none
      | none => if inFr G f = true then match args with
        | [] => none
        | _ :: _ => match cArgs r sc args, biOf G.calm (isMu G p) f, btOf (isMu G p) f with
          | some xs, some o, _ => some (xB o xs)
          | some xs, none, some o => some (xB o xs)
          | _, _, _ => none
        else none
  else cCallV G r sc f args
/-- list(range(e)) -/
def cLRng (sc : Scope) (f : Str) (args : List Expr) (p : Pos) : Option TEx := match args with
  | [.Call (.Name g _) [a] [] _] => if f = "list" ∧ g = "range" ∧ G.calm = true ∧ isGl sc f = true ∧ isGl sc g = true ∧ inFr G f = true ∧ inFr G g = true ∧ noStar [a] = true then match r.e sc a with
    | some x => some (xLRng (isMu G p) x)
    | none => none else none
  | _ => none
def cE (sc : Scope) (e : Expr) : Option TEx := match e with
  | .Name x _ => cName G sc x
  | .Constant k _ _ => cConst k
  | .BinOp a op b p => cBin G r sc a op b p
  | .UnaryOp .USub a _ => match r.e sc a with
    | some x => some (xNeg x)
    | none => none
  | .UnaryOp .Not a _ => match r.e sc a with
    | some x => some (xNot x)
    | none => none
  | .BoolOp op vs _ => cBool r sc op vs
  | .IfExp t a b _ => match r.t sc t, r.e sc a, r.e sc b with
    | some t, some x, some y => some (xIf t x y)
    | _, _, _ => none
  | .Compare a ops bs _ => cCmp r sc a ops bs
  | .Tuple es _ _ => if noStar es = true ∧ es.length ≤ 1000 then match cArgs r sc es with
    | some xs => some (xTup xs)
    | none => none else match cArgsS r sc es with
    | some xs => some (xTup (aFew xs))
    | none => none
  | .List es p => if noStar es = true ∧ es.length ≤ 1000 then match cArgs r sc es with
    | some xs => some (xLst (isMu G p) xs)
    | none => none else match cArgsS r sc es with
    | some xs => some (xLst (isMu G p) (aFew xs))
    | none => none
  | .Subscript a b p => cSub G r sc a b p
  | .ListComp elt [⟨tg, iter, ifs, 0⟩] scope p => cLc G r rb sc elt tg iter ifs scope (isMu G p)
  | .Lambda ⟨[], [], none, [], [], none, []⟩ body scope _ => if G.lams = true ∧ lamB sc scope = true then some (xLam ⟨G.q ++ "<lambda>", body, scope, capsOf scope⟩) else none
  | .ListComp elt [⟨tg, iter, ifs, 0⟩, ⟨tg1, iter1, ifs1, 0⟩] scope p => cLc2 G r rb sc elt tg iter ifs tg1 iter1 ifs1 scope (isMu G p)
  | .DictComp kx vx [⟨tg, iter, ifs, 0⟩] scope p => cDc G r rb sc kx vx tg iter ifs scope (isMu G p)
  | .Dict ks vs p => match dispD ks vs with
    | some kvs => if kvs.length ≤ 15 ∧ ks.length ≤ 15 ∧ (keysD kvs).Nodup then some (xDct (isMu G p) kvs) else none
    | none => match ks, vs with
      | [some k], [v] => match r.e sc k, r.e sc v with
        | some x, some y => some (xDp1 (isMu G p) x y)
        | _, _ => none
      | _, _ => none
  | .Attribute a f _ => match G.ek with
    | some k => if notCall a = true ∧ (G.er.any fun q => decide (q.2.1 = k) && decide (q.2.2 = some f)) = true then match r.e sc a with
      | some x => some (xFld k x)
      | none => none else none
    | none => none
  | .Call (.Name f _) args [] p => match cLRng G r sc f args p with
    | some x => some x
    | none => cCall G r sc f args p
  | _ => none
def cT (sc : Scope) (e : Expr) : Option TTs := match e with
  | .UnaryOp .Not a _ => match r.t sc a with
    | some t => some (tNot t)
    | none => none
  | .BoolOp op vs _ => cBoolT r sc op vs
  | .Compare a ops bs _ => cCmpT r sc a ops bs
  | .IfExp t a b _ => match r.t sc t, r.t sc a, r.t sc b with
    | some t, some x, some y => some (tIfx t x y)
    | _, _, _ => none
  | e => if plainT e = true then match r.e sc e with
    | some x => some (tV x)
    | none => none else none
def cI (sc : Scope) (tg e : Expr) : Option TIt := match e with
  | .Call (.Name f _) args [] _ => if isGl sc f = true ∧ noStar args = true ∧ inFr G f = true ∧ f = "range" then match args with
      | [a] => match r.e sc a with
        | some x => some (iRng1 x)
        | none => none
      | [a, b] => match r.e sc a, r.e sc b with
        | some x, some y => some (iRng2 x y)
        | _, _ => none
      | _ => none
    else if isGl sc f = true ∧ noStar args = true ∧ inFr G f = true ∧ f = "zip" then match args, tg with
      | [a, b], .Tuple _ _ _ => match r.e sc a, r.e sc b with
        | some x, some y => some (iZip x y)
        | _, _ => none
      | _, _ => none
    else if isGl sc f = true ∧ noStar args = true ∧ inFr G f = true ∧ f = "enumerate" then match args, tg with
      | [a], .Tuple _ _ _ => match r.e sc a with
        | some x => some (iEnum x)
        | none => none
      | _, _ => none
    else match r.e sc e with
      | some x => some (iV x)
      | none => none
  | e => match r.e sc e with
    | some x => some (iV x)
    | none => none
def cGs (fnb : Str → Bool) (sc : Scope) : List Expr → Option ((List Vl → Env → Option Env) × List Nat)
  | [] => some (gNil, [])
  | e :: es => match r.g fnb sc e, cGs fnb sc es with
    | some (g, ws), some (gs, ws') => some (gCons g gs, ws ++ ws')
    | _, _ => none
def cG (fnb : Str → Bool) (sc : Scope) (e : Expr) : Option (TTg × List Nat) := match e with
  | .Name x _ => if isLoc sc x = true ∧ fnb x = true then match idx G.N x with
    | some i => some (gV i, [i])
    | none => none else none
  | .Tuple es _ _ => if noStar es = true then match cGs r fnb sc es with
    | some (gs, ws) => some (gTup gs, ws)
    | none => none else none
  | _ => none
end
def comp : Gt → Nat → Cs
  | _, 0 => ⟨fun _ _ => none, fun _ _ => none, fun _ _ _ => none, fun _ _ _ => none⟩
  | G, n + 1 => ⟨cE G (comp G n) (comp G.blk n), cT (comp G n), cI G (comp G n), cG G (comp G n)⟩
/-- a lambda as a def whose parameters are what it captured -/
def lamFn (G : Gt) (m : Nat) (L : LamT) : Fn := { np := L.caps.length, ns := L.caps.length, body := match (comp { G with N := L.caps, lams := false } m).e L.scope L.body with
  | some x => sRet x
  | none => sNo }
end Mk
/-! Mk15: what is read from the text is what the text does: expressions. -/
namespace Mk
open PySem PySem.Spec PyProof.Rows L2
/-- a context in which errors may be raised, defs called -/
structure Calm (X : Cx) (W : WX) (k : Nat) : Prop where
  c : X.calm = true
  rm : Room k X.A
  tk : Takes X W
/-- which lambdas a frame may make -/
def mkdOf (sc : Scope) : LamT → Prop := fun L => ∀ y ∈ L.caps, sc.names.lookup y = some .cell ∨ sc.names.lookup y = some .free
/-- a frame that makes lambdas, by its text -/
structure LamF (G : Gt) [TabC] (T : Tx) (X : Cx) (sc : Scope) : Prop where
  lm : LmOk T X G.N
  q : X.env.qual = G.q
  mkd : ∀ L, mkdOf sc L → T.mkd L
  tab : ∃ cd P, LamX.TabB X.base X.mg cd P ∧ X.env.code = .ref cd ∧ (P, G.q ++ "<lambda>") ∈ TabC.tabs ∧ ∀ p ∈ TabC.tabs, p.1 = P → p.2 = G.q ++ "<lambda>"
structure Cok (G : Gt) [TabC] (T : Tx) (X : Cx) (W : WX) (c : Cl) (k : Nat) (sc : Scope) : Prop where
  sc : X.env.scope = sc
  N : X.N = G.N
  nd : X.N.Nodup
  gd : X.A.guards = some []
  room : X.A.units + 100 < cLine
  calm : G.calm = true → Calm X W k ∧ Anc T X
  fr : ∀ x, x ∈ G.fr → X.mg x = none
  cs : ∀ x d, G.cs.lookup x = some d → ∃ u v, X.mg x = some u ∧ RelV v u ∧ ∀ ρ H, RepD X.K ρ H d v
  fa : ∀ x f np ds, G.fs.lookup x = some (f, np, ds) → ∃ fa : Addr, X.mg x = some (.ref fa) ∧ T.fa f = some fa
  fs : ∀ x f np ds, G.fs.lookup x = some (f, np, ds) → ∀ n, n ≤ np → np ≤ n + ds.length → ∃ (fa : Addr) (fd : FuncData) (ps : List Str) (vals : List Value), X.mg x = some (.ref fa) ∧ PySem.W.keepIn X.K (.ref fa) = true ∧
    FnM X.prog X.w X.K X.mg X.base k fa fd ps (spF T X.K np (c.call f)) ∧ Binds X.K fd ps vals ∧ Vals ((ds.drop (n + ds.length - np)).map V.int) vals
  ls : ∀ L, LamK L → LamM X.prog X.w X.K X.mg X.base k T L (c.lam L)
  fm : match G.lams with
    | true => LamF G T X X.env.scope
    | false => ∀ l, ¬ T.mkd l
  er : ∀ x n o, G.er.lookup x = some (n, o) → ∃ C, X.mg x = some (.ref C) ∧ T.ca n = some C ∧ T.cf n = o ∧ match o with
    | none => PlainE X.K C
    | some f => FldE X.prog X.K C f
  ex : ∀ n f, (G.er.any fun q => decide (q.2.1 = n) && decide (q.2.2 = some f)) = true → ∃ C, T.ca n = some C ∧ T.cf n = some f ∧ XfC X.K C ∧ PySem.W.findIn X.K (.ref C) f = some none
  hd : ∀ x ks, G.hd.lookup x = some ks → ∃ cv, (X.mg x = some cv ∨ (X.mg x = none ∧ bootBuiltins x = some cv ∧ x ≠ "__name__")) ∧ ∀ n C, T.ca n = some C → PySem.W.exmOne X.K (.ref C) cv = some (ks.contains n)
  fi : FnI T X c k
  ek : ∀ n, G.ek = some n → ∀ (f : Str) (e : Expr) (xe : TEx) (pos : Pos), (G.er.any fun q => decide (q.2.1 = n) && decide (q.2.2 = some f)) = true → notCall e = true → PE X e (rdE T X W c xe) → PE X (.Attribute e f pos) (rdE T X W c (xFld n xe))
structure Snd (G : Gt) [TabC] (c : Cl) (k : Nat) (r : Cs) : Prop where
  e : ∀ {T : Tx} {X : Cx} {W : WX} {sc : Scope}, Cok G T X W c k sc → ∀ {e : Expr} {x : TEx}, r.e sc e = some x → PE X e (rdE T X W c x)
  t : ∀ {T : Tx} {X : Cx} {W : WX} {sc : Scope}, Cok G T X W c k sc → ∀ {e : Expr} {x : TTs}, r.t sc e = some x → PT X e (rdT T X W c x)
  i : ∀ {T : Tx} {X : Cx} {W : WX} {sc : Scope}, Cok G T X W c k sc → ∀ {tg e : Expr} {x : TIt}, r.i sc tg e = some x → PI X tg e (rdI T X W c x)
  g : ∀ {T : Tx} {X : Cx} {W : WX} {sc : Scope}, Cok G T X W c k sc → G.calm = true → ∀ {fnb : Str → Bool}, (∀ x, fnb x = true → X.fn x = true ∨ X.env.scope.names.lookup x = some .local) → ∀ {e : Expr} {g : TTg} {ws : List Nat}, r.g fnb sc e = some (g, ws) → PG X e (rdTg T X g ws)
section
variable [TabC] {G : Gt} {T : Tx} {X : Cx} {W : WX} {c : Cl} {k : Nat} {sc : Scope} {r rb : Cs} {pos : Pos}
theorem vis_of {x : Str} (h : isVis sc x = true) : Vis sc x := by
  unfold isVis at h
  split at h
  · rename_i e; exact .inl e
  · rename_i e; exact .inr (.inl e)
  · rename_i e; exact .inr (.inr e)
  · cases h
theorem loc_of {x : Str} (h : isLoc sc x = true) : Loc sc x := by
  unfold isLoc at h
  split at h
  · rename_i e; exact .inl e
  · rename_i e; exact .inr e
  · cases h
theorem isLocal_of {x : Str} (h : isLocal sc x = true) : sc.names.lookup x = some .local := by
  unfold isLocal at h
  split at h
  · rename_i e; exact e
  · cases h
theorem Cok.gl (o : Cok G T X W c k sc) {x : Str} (h : isGl sc x = true) : Gl X x := by
  unfold isGl at h
  split at h
  · rename_i e
    show X.env.scope.names.lookup x = _
    rw [o.sc]
    exact e
  · cases h
theorem okName_of {x : Str} (h : okName x = true) : (x == ("__debug__" : Str)) = false ∧ (x == ("__classdict__" : Str)) = false ∧ x ≠ "__name__" := by
  unfold okName at h
  simp only [Bool.and_eq_true, Bool.not_eq_true', decide_eq_false_iff_not] at h
  exact ⟨h.1.1, h.1.2, h.2⟩
theorem Cok.free (o : Cok G T X W c k sc) {x : Str} (h : inFr G x = true) : X.mg x = none := o.fr x (by unfold inFr at h; exact of_decide_eq_true h)
theorem snd_name (o : Cok G T X W c k sc) {x : Str} {p : Pos} {xe : TEx} (h : cName G sc x = some xe) : PE X (.Name x p) (rdE T X W c xe) := by
  unfold cName at h
  split at h
  case isFalse => cases h
  rename_i hn
  obtain ⟨n1, n2, n3⟩ := okName_of hn
  split at h
  · rename_i hv
    split at h
    · rename_i i e
      cases h
      exact ok_var (by rw [o.N]; exact idx_get e) (by rw [o.sc]; exact vis_of hv) n1 n2
    · cases h
  · split at h
    · rename_i hg
      split at h
      · rename_i d e
        cases h
        obtain ⟨u, v, e1, e2, e3⟩ := o.cs _ _ e
        exact ok_c (pe_glob (o.gl hg) e1 e2 n1) fun ρ H => by unfold RepV; exact e3 ρ H
      · split at h
        · rename_i f np ds ef
          cases h
          obtain ⟨fa, e1, e2⟩ := o.fa _ _ _ _ ef
          exact ok_c (v := V.ref fa) (pe_glob (o.gl hg) e1 rfl n1) fun ρ H => by unfold RepV; exact ⟨fa, e2, rfl⟩
        · cases h
    · cases h
theorem snd_const {k' : Const} {j : Nat} {xe : TEx} (h : cConst k' = some xe) : PE X (.Constant k' j pos) (rdE T X W c xe) := by
  unfold cConst at h
  split at h
  · cases h; exact ok_c pe_non fun _ _ => by unfold RepV RepD; rfl
  · cases h; exact ok_c pe_bl fun _ _ => by unfold RepV RepD; rfl
  · cases h; exact ok_c pe_int fun _ _ => by unfold RepV RepD; rfl
  · cases h; exact ok_c pe_str fun _ _ => by unfold RepV RepD; rfl
  · cases h
theorem bop_ok {op : Operator} {o : BO} {m : Bool} (h : bop op = some o) : OpV T X W (binaryOp op) (bin o m) := by
  unfold bop at h
  split at h <;> first
    | (cases h; exact opv_add)
    | (cases h; exact opv_sub)
    | (cases h; exact opv_mul)
    | (cases h; exact opv_fdiv)
    | (cases h; exact opv_mod)
    | (cases h; exact opv_pow)
    | cases h
theorem cop_ok {op : CmpOp} (hu : X.A.units + 100 < cLine) : CmV T X (compareOp op) (cmp (cop op)) := by
  cases op with
  | Eq => exact cmv_eq hu
  | NotEq => exact cmv_ne hu
  | Lt => exact cmv_lt
  | LtE => exact cmv_le
  | Gt => exact cmv_gt
  | GtE => exact cmv_ge
  | Is => exact cmv_isN
  | IsNot => exact cmv_isNotN
  | In => exact cmv_in hu
  | NotIn => exact cmv_notIn hu
theorem snd_bin (s : Snd G c k r) (o : Cok G T X W c k sc) {a b : Expr} {op : Operator} {xe : TEx} (h : cBin G r sc a op b pos = some xe) : PE X (.BinOp a op b pos) (rdE T X W c xe) := by
  unfold cBin at h
  split at h
  · rename_i e1 e2 e3
    cases h
    exact ok_bin (bop_ok e1) (s.e o e2) (s.e o e3)
  · cases h
theorem snd_bool (s : Snd G c k r) (o : Cok G T X W c k sc) {op : BoolOp} : ∀ {vs : List Expr} {xe : TEx}, cBool r sc op vs = some xe → PE X (.BoolOp op vs pos) (rdE T X W c xe)
  | [], _, h => by cases h
  | [a], _, h => by
    unfold cBool at h
    exact ok_one (s.e o h)
  | a :: b :: es, xe, h => by
    unfold cBool at h
    split at h
    · rename_i x y e1 e2
      have h2 := snd_bool s o e2
      cases op with
      | And => cases h; exact ok_and (s.e o e1) h2
      | Or => cases h; exact ok_or (s.e o e1) h2
    · cases h
theorem snd_boolT (s : Snd G c k r) (o : Cok G T X W c k sc) {op : BoolOp} : ∀ {vs : List Expr} {xe : TTs}, cBoolT r sc op vs = some xe → PW X (.BoolOp op vs pos) (rdT T X W c xe)
  | [], _, h => by cases h
  | [a], _, h => by
    unfold cBoolT at h
    exact okw_one (s.t o h)
  | a :: b :: es, xe, h => by
    unfold cBoolT at h
    split at h
    · rename_i x y e1 e2
      have h2 := snd_boolT s o e2
      cases op with
      | And => cases h; exact okw_and (s.t o e1) h2
      | Or => cases h; exact okw_or (s.t o e1) h2
    · cases h
theorem snd_cmp (s : Snd G c k r) (o : Cok G T X W c k sc) {a : Expr} {ops : List CmpOp} {bs : List Expr} {xe : TEx} (h : cCmp r sc a ops bs = some xe) : PE X (.Compare a ops bs pos) (rdE T X W c xe) := by
  unfold cCmp at h
  split at h
  · split at h
    case isFalse => cases h
    rename_i hm
    split at h
    · rename_i e1 e2
      cases h
      exact ok_cmp (cop_ok o.room) (s.e o e1) (s.e o e2) hm
    · cases h
  · split at h
    case isFalse => cases h
    rename_i hm
    split at h
    · rename_i e1 e2 e3
      cases h
      exact ok_cmp2 (cop_ok o.room) (cop_ok o.room) (s.e o e1) (s.e o e2) (s.e o e3) hm
    · cases h
  · cases h
theorem snd_cmpT (s : Snd G c k r) (o : Cok G T X W c k sc) {a : Expr} {ops : List CmpOp} {bs : List Expr} {xe : TTs} (h : cCmpT r sc a ops bs = some xe) : PT X (.Compare a ops bs pos) (rdT T X W c xe) := by
  unfold cCmpT at h
  split at h
  · split at h
    case isFalse => cases h
    rename_i hm
    split at h
    · rename_i e1 e2
      cases h
      exact okt_cmp (cop_ok o.room) (s.e o e1) (s.e o e2) hm
    · cases h
  · split at h
    case isFalse => cases h
    rename_i hm
    split at h
    · rename_i e1 e2 e3
      cases h
      exact okt_cmp2 (cop_ok o.room) (cop_ok o.room) (s.e o e1) (s.e o e2) (s.e o e3) hm
    · cases h
  · cases h
theorem snd_args (s : Snd G c k r) (o : Cok G T X W c k sc) : ∀ {es : List Expr} {xs : TAr}, noStar es = true → cArgs r sc es = some xs → PA X es (rdA T X W c xs) ∧ ∀ γ S vs S', xs c γ S = .ok vs S' → vs.length = es.length
  | [], _, _, h => by
    unfold cArgs at h
    cases h
    exact ⟨oka_nil, fun γ S vs S' e => by cases e; rfl⟩
  | e :: es, _, hn, h => by
    unfold cArgs at h
    split at h
    · rename_i x xs e1 e2
      cases h
      obtain ⟨h1, h2⟩ := star_cons (env := X.env) hn
      obtain ⟨k1, k2⟩ := snd_args s o h2 e2
      refine ⟨oka_cons (s.e o e1) k1 h1, fun γ S vs S' em => ?_⟩
      unfold aCons at em
      cases q : x c γ S with
      | stuck => rw [q] at em; cases em
      | er kk y S1 => rw [q] at em; cases em
      | ok v S1 =>
        rw [q] at em
        have em' : ((xs c γ S1).bind fun ws S2 => R.ok (v :: ws) S2) = .ok vs S' := em
        cases q2 : xs c γ S1 with
        | stuck => rw [q2] at em'; cases em'
        | er kk y S2 => rw [q2] at em'; cases em'
        | ok ws S2 =>
          rw [q2] at em'
          cases em'
          rw [List.length_cons, List.length_cons, k2 _ _ _ _ q2]
    · cases h
theorem snd_argsS (s : Snd G c k r) (o : Cok G T X W c k sc) : ∀ {es : List Expr} {xs : TAr}, cArgsS r sc es = some xs → PA X es (rdA T X W c xs)
  | [], _, h => by
    unfold cArgsS at h
    cases h
    exact oka_nil
  | e :: es, xs, h => by
    unfold cArgsS at h
    split at h
    · rename_i e0; cases e0
    · rename_i e1 p es1 e0
      cases e0
      split at h
      · rename_i q1 q2
        cases h
        exact oka_star (s.e o q1) (snd_argsS s o q2) rfl
      · cases h
    · rename_i e1 es1 _ e0
      cases e0
      split at h
      case isFalse => cases h
      rename_i hs
      split at h
      · rename_i q1 q2
        cases h
        refine oka_cons (s.e o q1) (snd_argsS s o q2) ?_
        cases e <;> first | rfl | cases hs
      · cases h
theorem snd_pt (s : Snd G c k r) (o : Cok G T X W c k sc) {e : Option Expr} {x : TPt} (h : cPt r sc e = some x) : PO X e (rdP T X W c x) := by
  unfold cPt at h
  split at h
  · cases h; exact okp_no
  · split at h
    · rename_i e1
      cases h; exact okp_some (s.e o e1)
    · cases h
theorem snd_sub (s : Snd G c k r) (o : Cok G T X W c k sc) {a b : Expr} {xe : TEx} (h : cSub G r sc a b pos = some xe) : PE X (.Subscript a b pos) (rdE T X W c xe) := by
  unfold cSub at h
  split at h
  · split at h
    · rename_i e1 e2 e3
      cases h
      exact ok_sl (s.e o e1) (snd_pt s o e2) (snd_pt s o e3)
    · cases h
  · split at h
    · rename_i e1
      cases h
      exact ok_rev (s.e o e1)
    · cases h
  · split at h
    case isFalse => cases h
    rename_i hp
    split at h
    · rename_i e1 e2
      cases h
      exact ok_ix o.room (s.e o e1) (s.e o e2) (plainIx_of hp)
    · cases h
theorem lookup_rel {names : List (Str × NameKind)} {x : Str} : True := trivial
theorem takes_blk {s : Shared} {H : Hp} {scope : Scope} {C : Addr} {cl : List (Str × Addr)} {fp : List Addr} : Takes (bl X s H scope C cl fp) WF := fun u s' ⟨a, B, sI, pins, σ, H, cls, d, e, I, nb, up, sky, na, os, ag, w⟩ => w.elim
theorem Cok.blk (o : Cok G T X W c k sc) {T' : Tx} (le : TLe T.toTb T'.toTb) (mk : ∀ l, ¬ T'.mkd l) (hc : G.calm = true) {s : Shared} {H : Hp} {scope : Scope} {C : Addr} {cl : List (Str × Addr)} {fp : List Addr} (A : Anc T' (bl X s H scope C cl fp)) (hek : G.ek = none) : Cok G.blk T' (bl X s H scope C cl fp) WF c k (relS scope sc) where
  sc := by rw [← o.sc]; rfl
  N := o.N
  nd := o.nd
  gd := o.gd
  room := o.room
  calm := fun _ => ⟨⟨(o.calm hc).1.c, (o.calm hc).1.rm, takes_blk⟩, A⟩
  fr := o.fr
  cs := o.cs
  fa := fun x f np ds h => by rw [le.fa]; exact o.fa x f np ds h
  fs := fun x f np ds h => by rw [spF_eq le]; exact o.fs x f np ds h
  ls := fun L h => (o.ls L h).le le
  fm := mk
  er := fun x n oo h => by rw [le.ca, le.cf]; exact o.er x n oo h
  ex := fun n f h => by rw [le.ca, le.cf]; exact o.ex n f h
  hd := fun x ks h => by rw [le.ca]; exact o.hd x ks h
  fi := ⟨(o.fi.le le).fi⟩
  ek := fun n h => by
    have h : G.ek = some n := h
    rw [hek] at h; cases h
theorem Cok.blkN (o : Cok G T X W c k sc) (hc : G.calm = true) {s : Shared} {H : Hp} {scope : Scope} {C : Addr} {cl : List (Str × Addr)} {fp : List Addr} (hek : G.ek = none) : Cok G.blk T.none (bl X s H scope C cl fp) WF c k (relS scope sc) where
  sc := by rw [← o.sc]; rfl
  N := o.N
  nd := o.nd
  gd := o.gd
  room := o.room
  calm := fun _ => ⟨⟨(o.calm hc).1.c, (o.calm hc).1.rm, takes_blk⟩, ⟨fun _ _ z => z.elim, rfl⟩⟩
  fr := o.fr
  cs := o.cs
  fa := o.fa
  fs := o.fs
  ls := fun L h => ⟨fun A outer s H an g cl pm c' ctv ws vals S ρ Q E => (o.ls L h).run A outer s H an g cl pm c' ctv ws vals S ρ Q E⟩
  fm := fun _ z => z
  er := o.er
  ex := o.ex
  hd := o.hd
  fi := ⟨o.fi.fi⟩
  ek := fun n h => by
    have h : G.ek = some n := h
    rw [hek] at h; cases h
theorem fnb_blk {scope : Scope} {s : Shared} {H : Hp} {C : Addr} {cl : List (Str × Addr)} {fp : List Addr} (hs : (bl X s H scope C cl fp).env.scope = relS scope sc) (x : Str) (h : fnbOf scope (relS scope sc) x = true) : (bl X s H scope C cl fp).fn x = true ∨ (bl X s H scope C cl fp).env.scope.names.lookup x = some .local := by
  unfold fnbOf at h
  rw [Bool.or_eq_true] at h
  rcases h with h | h
  · exact .inl h
  · refine .inr ?_
    rw [hs]
    exact isLocal_of h
/-- the conversions of a frame -/
def cnvV (G : Gt) : Env → List Vl → Option (List Vl) := match G.lams with
  | true => fun γ xs => clsVs (cpOf G.N γ) xs
  | false => fun _ xs => some xs
def cnvE (G : Gt) : Env → Env := match G.lams with
  | true => fun γ => clsE (cpOf G.N γ) γ
  | false => fun γ => γ
theorem Cok.callA (o : Cok G T X W c k sc) (hc : G.calm = true) : CallA T X (cnvV G) := by
  have h := o.fm
  unfold cnvV
  cases q : G.lams with
  | true => rw [q] at h; exact callA_lam (o.calm hc).2 h.lm
  | false => rw [q] at h; exact callA_plain (o.calm hc).2 h
theorem Cok.blkA (o : Cok G T X W c k sc) (hc : G.calm = true) : BlkA T X (cnvE G) (cnvV G) := by
  have h := o.fm
  unfold cnvV cnvE
  cases q : G.lams with
  | true => rw [q] at h; exact blkA_lam (o.calm hc).2 h.lm
  | false => rw [q] at h; exact blkA_plain (o.calm hc).2 h
theorem snd_ifs (s : Snd G c k r) (o : Cok G T X W c k sc) {ifs : List Expr} {t : TTs} (h : cIfs r sc ifs = some t) : PTs X ifs (rdT T X W c t) := by
  unfold cIfs at h
  split at h
  · cases h; exact okts_nil
  · exact okts_one (s.t o h)
  · cases h
theorem snd_lc (s : Snd G c k r) (sb : Snd G.blk c k rb) (o : Cok G T X W c k sc) (hek : G.calm = true → G.ek = none) {elt tg iter : Expr} {ifs : List Expr} {scope : Scope} {m : Bool} {xe : TEx} (h : cLc G r rb sc elt tg iter ifs scope m = some xe) :
    G.calm = true ∧ ∃ (it : TIt) (g : TTg) (ws : List Nat) (t : TTs) (e : TEx), xe = xLcG (cnvE G) (cnvV G) m ((ownOf G scope).map (·.2)) it g t e ∧ PI X tg iter (rdI T X W c it) ∧ BlkOk X.N X.env.scope scope (ownOf G scope) ∧ (∀ x, foldedSetIterable iter X.env x = pure x) ∧ (∀ j ∈ ws, j ∈ (ownOf G scope).map (·.2)) ∧
      BlkT T X c tg elt ifs scope g ws t e := by
  unfold cLc at h
  split at h
  case isFalse => cases h
  rename_i hb
  split at h
  · rename_i it g ws t e e1 e2 e3 e4
    split at h
    case isFalse => cases h
    rename_i hw
    injection h with h
    refine ⟨hb.1, it, g, ws, t, e, ?_, s.i o e1, ?_, notSet_of hb.2.2 _, fun j hj => ?_, fun T' sh H C cl fp le mk A => ?_⟩
    · rw [← h]
      unfold cnvE cnvV
      cases G.lams with
      | true => exact (xLcG_lam _ _ _ _ _ _ _).symm
      | false => exact (xLcG_plain _ _ _ _ _ _).symm
    · rw [o.N, o.sc]
      exact blkOk_by hb.2.1
    · exact of_decide_eq_true (List.all_eq_true.mp hw j hj)
    · have ob := o.blk le mk hb.1 A (hek hb.1)
      exact ⟨sb.g ob hb.1 (fnb_blk ob.sc) e2, snd_ifs sb ob e3, sb.e ob e4⟩
  · cases h
theorem snd_dc (s : Snd G c k r) (sb : Snd G.blk c k rb) (o : Cok G T X W c k sc) (hek : G.calm = true → G.ek = none) {kx vx tg iter : Expr} {ifs : List Expr} {scope : Scope} {m : Bool} {xe : TEx} (h : cDc G r rb sc kx vx tg iter ifs scope m = some xe) :
    PE X (.DictComp kx vx [⟨tg, iter, ifs, 0⟩] scope pos) (rdE T X W c xe) := by
  unfold cDc at h
  split at h
  case isFalse => cases h
  rename_i hb
  split at h
  · rename_i it g ws t ke ve e1 e2 e3 e4 e5
    split at h
    case isFalse => cases h
    rename_i hw
    injection h with h
    rw [← h]
    refine ok_dc (ws := ws) (o.calm hb.1).1.c o.nd (s.i o e1) (by rw [o.N, o.sc]; exact blkOk_by hb.2.1) (fun j hj => of_decide_eq_true (List.all_eq_true.mp hw j hj)) (notSet_of hb.2.2 _) fun sh H C cl fp => ?_
    have ob := o.blkN hb.1 (s := sh) (H := H) (scope := scope) (C := C) (cl := cl) (fp := fp) (hek hb.1)
    exact ⟨sb.g ob hb.1 (fnb_blk ob.sc) e2, snd_ifs sb ob e3, sb.e ob e4, sb.e ob e5⟩
  · cases h
theorem snd_lc2 (s : Snd G c k r) (sb : Snd G.blk c k rb) (o : Cok G T X W c k sc) (hek : G.calm = true → G.ek = none) {elt tg iter tg1 iter1 : Expr} {ifs ifs1 : List Expr} {scope : Scope} {m : Bool} {xe : TEx} (h : cLc2 G r rb sc elt tg iter ifs tg1 iter1 ifs1 scope m = some xe) :
    PE X (.ListComp elt [⟨tg, iter, ifs, 0⟩, ⟨tg1, iter1, ifs1, 0⟩] scope pos) (rdE T X W c xe) := by
  unfold cLc2 at h
  split at h
  case isFalse => cases h
  rename_i hb
  split at h
  · rename_i it g ws t e1 e2 e3
    split at h
    · rename_i it1 g1 ws1 t1 e f1 f2 f3 f4
      split at h
      case isFalse => cases h
      rename_i hw
      injection h with h
      rw [← h]
      refine ok_lc2 (ws := ws) (ws1 := ws1) (w1 := ws1) (o.calm hb.1).1.c o.nd (s.i o e1) (by rw [o.N, o.sc]; exact blkOk_by hb.2.1) (fun j hj => of_decide_eq_true (List.all_eq_true.mp hw.1 j hj)) (fun j hj => hj) (fun j hj => of_decide_eq_true (List.all_eq_true.mp hw.2 j hj)) (notSet_of hb.2.2.1 _) (fun env => notSet_of hb.2.2.2 env) fun sh H C cl fp => ?_
      have ob := o.blkN hb.1 (s := sh) (H := H) (scope := scope) (C := C) (cl := cl) (fp := fp) (hek hb.1)
      exact ⟨sb.g ob hb.1 (fnb_blk ob.sc) e2, snd_ifs sb ob e3, sb.i ob f1, sb.g ob hb.1 (fnb_blk ob.sc) f2, snd_ifs sb ob f3, sb.e ob f4⟩
    · cases h
  · cases h
theorem tyOf_ok {x : Str} {t : Ty} (h : tyOf x = some t) : bootBuiltins x = some (.type (tyN t)) := by
  unfold tyOf at h
  split at h
  · rename_i e; subst e; cases h; exact boot_int
  split at h
  · rename_i e; subst e; cases h; exact boot_bool
  split at h
  · rename_i e; subst e; cases h; exact boot_str
  split at h
  · rename_i e; subst e; cases h; exact boot_tuple
  split at h
  · rename_i e; subst e; cases h; exact boot_list
  split at h
  · rename_i e; subst e; cases h; exact boot_dict
  cases h
theorem biOf_ok (o : Cok G T X W c k sc) {m : Bool} {x : Str} {f : List Vl → Store → R Vl} (h : biOf G.calm m x = some f) : ∃ id, bootBuiltins x = some (.builtin id) ∧ BiV T X W (.builtin id) f := by
  unfold biOf at h
  split at h
  · rename_i e; subst e; cases h; exact ⟨_, boot_len, biv_len⟩
  split at h
  · rename_i e; subst e; cases h; exact ⟨_, boot_abs, biv_abs⟩
  split at h
  · rename_i e; subst e; cases h; exact ⟨_, boot_repr, biv_repr o.gd o.room⟩
  split at h
  case isFalse => cases h
  rename_i hc
  have calm := (o.calm hc).1.c
  split at h
  · rename_i e; subst e; cases h; exact ⟨_, boot_max, biv_max calm⟩
  split at h
  · rename_i e; subst e; cases h; exact ⟨_, boot_min, biv_min calm⟩
  split at h
  · rename_i e; subst e; cases h; exact ⟨_, boot_all, biv_all calm⟩
  split at h
  · rename_i e; subst e; cases h; exact ⟨_, boot_any, biv_any calm⟩
  split at h
  · rename_i e; subst e; cases h; exact ⟨_, boot_sum, biv_sum calm⟩
  split at h
  · rename_i e; subst e; cases h; exact ⟨_, boot_sorted, biv_sorted calm⟩
  cases h
theorem btOf_ok {m : Bool} {x : Str} {f : List Vl → Store → R Vl} (h : btOf m x = some f) : ∃ id, bootBuiltins x = some (.type id) ∧ BiV T X W (.type id) f := by
  unfold btOf at h
  split at h
  · rename_i e; subst e; cases h; exact ⟨_, boot_int, biv_int⟩
  split at h
  · rename_i e; subst e; cases h; exact ⟨_, boot_tuple, biv_tuple⟩
  split at h
  · rename_i e; subst e; cases h; exact ⟨_, boot_list, biv_list⟩
  cases h
theorem rep_ints {T : Tb} {K : PySem.W.Frag} {ρ : List Addr} {H : Hp} : ∀ ds : List Int, RepVs T K ρ H (ds.map I) (ds.map V.int)
  | [] => by unfold List.map RepVs; rfl
  | d :: ds => by
    unfold List.map RepVs
    exact ⟨_, _, rfl, by unfold I RepV RepD; rfl, rep_ints ds⟩
theorem cnv_len (G : Gt) {γ : Env} {xs ys : List Vl} (h : cnvV G γ xs = some ys) : ys.length = xs.length := by
  unfold cnvV at h
  cases q : G.lams with
  | true => rw [q] at h; exact (clsVs_get h).1
  | false => rw [q] at h; cases h; rfl
theorem snd_callV (s : Snd G c k r) (o : Cok G T X W c k sc) {f : Str} {p : Pos} {args : List Expr} {xe : TEx} (h : cCallV G r sc f args = some xe) : PE X (.Call (.Name f p) args [] pos) (rdE T X W c xe) := by
  unfold cCallV at h
  split at h
  case isFalse => cases h
  rename_i h0
  obtain ⟨hc, hv, hnm⟩ := h0
  obtain ⟨n1, n2, n3⟩ := okName_of hnm
  split at h
  case h_3 => cases h
  rotate_left
  · rename_i e es i ei
    split at h
    case isFalse => cases h
    rename_i hst
    split at h
    case h_2 => cases h
    rename_i xs ea
    injection h with h
    have hvar : PE X (.Name f p) (rdE T X W c (xV i)) := ok_var (by rw [o.N]; exact idx_get ei) (by rw [o.sc]; exact vis_of hv) n1 n2
    obtain ⟨h1, h2⟩ := star_cons (env := X.env) hst
    have go := ok_callF (pos := pos) (o.callA hc) o.fi (o.calm hc).1.rm o.gd (o.calm hc).1.tk hvar (snd_args s o hst ea).1 h1 (star_any h2)
    have e' : xCallFG (cnvV G) i xs = xe := by
      rw [← h]
      unfold cnvV
      cases G.lams <;> rfl
    rw [← e']
    exact go
  rename_i i ei
  injection h with h
  have hvar : PE X (.Name f p) (rdE T X W c (xV i)) := ok_var (by rw [o.N]; exact idx_get ei) (by rw [o.sc]; exact vis_of hv) n1 n2
  have go := ok_callV (pos := pos) (o.callA hc) (o.calm hc).1.rm o.gd (o.calm hc).1.tk o.ls hvar
  have e : xCallVG (cnvV G) i = xe := by
    rw [← h]
    unfold cnvV
    cases G.lams with
    | true =>
      funext c γ S
      unfold xCallVG xCallV
      congr 1
      funext v S1
      show (match clsVs (cpOf G.N γ) [v] with
        | some [.cv l vs] => c.lam l vs S1
        | _ => .stuck) = _
      unfold clsVs clsVs
      cases clsV (cpOf G.N γ) v with
      | none => rfl
      | some y => cases y <;> rfl
    | false =>
      funext c γ S
      unfold xCallVG xCallW
      congr 1
      funext v S1
      cases v <;> rfl
  rw [← e]
  exact go
theorem snd_call (s : Snd G c k r) (o : Cok G T X W c k sc) {f : Str} {p : Pos} {args : List Expr} {xe : TEx} (h : cCall G r sc f args pos = some xe) : PE X (.Call (.Name f p) args [] pos) (rdE T X W c xe) := by
  unfold cCall at h
  split at h
  case isFalse => exact snd_callV s o h
  rename_i h0
  obtain ⟨hg, hst, hnm⟩ := h0
  obtain ⟨n1, n2, n3⟩ := okName_of hnm
  split at h
  · rename_i e
    subst e
    split at h
    case h_2 => cases h
    split at h
    case isFalse => cases h
    rename_i h1
    obtain ⟨a1, a2, a3, a4⟩ := h1
    obtain ⟨m1, m2, m3⟩ := okName_of a4
    split at h
    · rename_i e1 e2
      cases h
      exact ok_is (s.e o e1) (o.gl hg) (o.free a1) (o.gl a3) (o.free a2) (tyOf_ok e2) m3 m1 (star_cons hst).1
    · cases h
  · split at h
    · rename_i id np ds el
      split at h
      case isFalse => cases h
      rename_i hl
      obtain ⟨hc, hl1, hl2⟩ := hl
      split at h
      case h_2 => cases h
      rename_i xs ea
      injection h with h
      obtain ⟨ha, hn⟩ := snd_args s o hst ea
      obtain ⟨fa, fd, ps, vals, q1, q2, q3, q4, q5⟩ := o.fs _ _ _ _ el args.length hl1 hl2
      cases args with
      | nil =>
        unfold cArgs at ea
        cases ea
        have e : xe = xCall id aNil ((ds.drop (([] : List Expr).length + ds.length - np)).map I) := by
          rw [← h]
          cases G.lams <;> rfl
        rw [e]
        exact ok_call0 (o.calm hc).2 q3 (o.calm hc).1.rm o.gd (o.gl hg) q1 q2 q4 q5 (fun _ _ _ => rep_ints _) (o.calm hc).1.tk (by simp only [List.length_map, List.length_drop, List.length_nil] at hl1 hl2 ⊢; omega) n1
      | cons e es =>
        obtain ⟨h1, h2⟩ := star_cons (env := X.env) hst
        have e : xe = xCallG (cnvV G) id xs ((ds.drop ((e :: es).length + ds.length - np)).map I) := by
          rw [← h]
          unfold cnvV
          cases G.lams <;> rfl
        rw [e]
        exact ok_call (o.callA hc) q3 (o.calm hc).1.rm o.gd (o.gl hg) q1 q2 q4 q5 (fun _ _ _ => rep_ints _) (o.calm hc).1.tk ha (fun γ S vs S' ys em ec => by rw [List.length_append, cnv_len G ec, hn _ _ _ _ em, List.length_map, List.length_drop]; omega) n1 h1 (star_any h2)
    · split at h
      case isFalse => cases h
      rename_i hf
      split at h
      · cases h
      · rename_i e es
        obtain ⟨h1, h2⟩ := star_cons (env := X.env) hst
        split at h
        · rename_i ea eb
          cases h
          obtain ⟨id, b1, b2⟩ := biOf_ok (T := T) (W := W) o eb
          exact ok_biB b2 (snd_args s o hst ea).1 (o.gl hg) (o.free hf) b1 n3 n1 h1 (star_any h2)
        · rename_i ea eb ec
          cases h
          obtain ⟨id, b1, b2⟩ := btOf_ok (T := T) (X := X) (W := W) ec
          exact ok_biT b2 (snd_args s o hst ea).1 (o.gl hg) (o.free hf) b1 n3 n1 h1 (star_any h2)
        · cases h
theorem caps_free (scope : Scope) (y : Str) : (y, NameKind.free) ∈ scope.names ↔ y ∈ capsOf scope := by
  unfold capsOf
  rw [List.mem_filterMap]
  constructor
  · exact fun h => ⟨_, h, by simp⟩
  · rintro ⟨⟨z, k⟩, h, e⟩
    dsimp only at e
    split at e
    · rename_i hk
      cases e
      rw [← hk]
      exact h
    · cases e
theorem snd_lam (o : Cok G T X W c k sc) {body : Expr} {scope : Scope} (h : G.lams = true ∧ lamB sc scope = true) : PE X (.Lambda ⟨[], [], none, [], [], none, []⟩ body scope pos) (rdE T X W c (xLam ⟨G.q ++ "<lambda>", body, scope, capsOf scope⟩)) := by
  obtain ⟨hl, hb⟩ := h
  have f := o.fm
  rw [hl] at f
  have f : LamF G T X X.env.scope := f
  unfold lamB at hb
  simp only [Bool.and_eq_true, Bool.or_eq_true, Bool.not_eq_true', decide_eq_true_eq, decide_eq_false_iff_not, List.all_eq_true] at hb
  obtain ⟨⟨⟨⟨⟨h1, h2⟩, h3⟩, h4⟩, h6⟩, h5⟩ := hb
  have kd : scope.kind = .function := by
    split at h1
    · assumption
    · cases h1
  have K : LamK ⟨G.q ++ "<lambda>", body, scope, capsOf scope⟩ := ⟨kd, h2, h3, fun y hy => h4 y hy, fun y => caps_free scope y, h6⟩
  exact ok_lam (L := ⟨G.q ++ "<lambda>", body, scope, capsOf scope⟩) f.lm ⟨K, by rw [f.q], f.mkd _ (by rw [o.sc]; exact h5), by rw [f.q]; exact f.tab⟩
theorem snd_e (s : Snd G c k r) (sb : Snd G.blk c k rb) (hek : G.calm = true → G.ek = none) (o : Cok G T X W c k sc) {e : Expr} {xe : TEx} (h : cE G r rb sc e = some xe) : PE X e (rdE T X W c xe) := by
  unfold cE at h
  split at h
  · exact snd_name o h
  · exact snd_const h
  · exact snd_bin s o h
  · split at h
    · rename_i e1; cases h; exact ok_neg (s.e o e1)
    · cases h
  · split at h
    · rename_i e1; cases h; exact ok_not (s.e o e1)
    · cases h
  · exact snd_bool s o h
  · split at h
    · rename_i e1 e2 e3; cases h; exact ok_ifx (s.t o e1) (s.e o e2) (s.e o e3)
    · cases h
  · exact snd_cmp s o h
  · split at h
    case isFalse =>
      split at h
      · rename_i e1
        cases h
        exact ok_tup (oka_few (snd_argsS s o e1)) few_len
      · cases h
    rename_i hn
    split at h
    · rename_i e1
      cases h
      obtain ⟨h1, h2⟩ := snd_args s o hn.1 e1
      exact ok_tup h1 fun γ S vs S' em => by rw [h2 _ _ _ _ em]; exact hn.2
    · cases h
  · split at h
    case isFalse =>
      split at h
      · rename_i e1
        cases h
        exact ok_lst (oka_few (snd_argsS s o e1)) few_len
      · cases h
    rename_i hn
    split at h
    · rename_i e1
      cases h
      obtain ⟨h1, h2⟩ := snd_args s o hn.1 e1
      exact ok_lst h1 fun γ S vs S' em => by rw [h2 _ _ _ _ em]; exact hn.2
    · cases h
  · exact snd_sub s o h
  · obtain ⟨hc, it, g, ws, t, e, rfl, q1, q2, q3, q4, q5⟩ := snd_lc s sb o hek h
    exact ok_lc (o.blkA hc) (o.calm hc).1.c o.nd q1 q2 q5 q4 q3
  · split at h
    · rename_i hl
      cases h
      exact snd_lam o hl
    · cases h
  · exact snd_lc2 s sb o hek h
  · exact snd_dc s sb o hek h
  · split at h
    · rename_i kvs ek
      split at h
      · rename_i hh
        cases h
        exact ok_dct ek hh.1 hh.2.1 hh.2.2
      · cases h
    · split at h
      · split at h
        · rename_i e1 e2
          cases h
          exact ok_dp1 (s.e o e1) (s.e o e2)
        · cases h
      · cases h
  · split at h
    · rename_i n en
      split at h
      case isFalse => cases h
      rename_i hf
      split at h
      · rename_i e1
        cases h
        exact o.ek n en _ _ _ _ hf.2 hf.1 (s.e o e1)
      · cases h
    · cases h
  · split at h
    · rename_i x hx
      cases h
      unfold cLRng at hx
      split at hx
      case h_2 => cases hx
      split at hx
      case isFalse => cases hx
      rename_i h0
      obtain ⟨rfl, rfl, a1, a2, a3, a4, a5, a6⟩ := h0
      split at hx
      · rename_i e1
        cases hx
        exact ok_lrng (o.calm a1).1.c (o.gl a2) (o.free a4) (o.gl a3) (o.free a5) (s.e o e1) (star_cons a6).1 rfl
      · cases hx
    · exact snd_call s o h
  · cases h
theorem snd_t (s : Snd G c k r) (o : Cok G T X W c k sc) {e : Expr} {xe : TTs} (h : cT r sc e = some xe) : PT X e (rdT T X W c xe) := by
  unfold cT at h
  split at h
  · split at h
    · rename_i e1; cases h; exact okt_not (s.t o e1)
    · cases h
  · exact (snd_boolT s o h).pt
  · exact snd_cmpT s o h
  · split at h
    · rename_i e1 e2 e3; cases h; exact okt_ifx (s.t o e1) (s.t o e2) (s.t o e3)
    · cases h
  · split at h
    case isFalse => cases h
    rename_i hp
    split at h
    · rename_i e1; cases h; exact okt_val (s.e o e1) (plainT_of hp _)
    · cases h
theorem snd_i (s : Snd G c k r) (o : Cok G T X W c k sc) {tg e : Expr} {xe : TIt} (h : cI G r sc tg e = some xe) : PI X tg e (rdI T X W c xe) := by
  unfold cI at h
  split at h
  · split at h
    · rename_i h0
      obtain ⟨h1, h2, h3, rfl⟩ := h0
      split at h
      · split at h
        · rename_i e1
          cases h
          exact oki_rng1 (o.gl h1) (o.free h3) (s.e o e1) (star_cons h2).1
        · cases h
      · split at h
        · rename_i e1 e2
          cases h
          obtain ⟨k1, k2⟩ := star_cons (env := X.env) h2
          obtain ⟨k3, _⟩ := star_cons (env := X.env) k2
          exact oki_rng2 (o.gl h1) (o.free h3) (s.e o e1) (s.e o e2) (by rw [k1, k3]; rfl) k3
        · cases h
      · cases h
    · split at h
      · rename_i h0
        obtain ⟨h1, h2, h3, rfl⟩ := h0
        split at h
        · split at h
          · rename_i e1 e2
            cases h
            obtain ⟨k1, k2⟩ := star_cons (env := X.env) h2
            obtain ⟨k3, _⟩ := star_cons (env := X.env) k2
            exact oki_zip (o.gl h1) (o.free h3) (s.e o e1) (s.e o e2) k1 k3
          · cases h
        · cases h
      · split at h
        · rename_i h0
          obtain ⟨h1, h2, h3, rfl⟩ := h0
          split at h
          · split at h
            · rename_i e1
              cases h
              exact oki_enum (o.gl h1) (o.free h3) (s.e o e1) (star_cons h2).1
            · cases h
          · cases h
        · split at h
          · rename_i e1; cases h; exact oki_val (s.e o e1)
          · cases h
  · split at h
    · rename_i e1; cases h; exact oki_val (s.e o e1)
    · cases h
theorem snd_gs (s : Snd G c k r) (o : Cok G T X W c k sc) (hc : G.calm = true) {fnb : Str → Bool} (hf : ∀ x, fnb x = true → X.fn x = true ∨ X.env.scope.names.lookup x = some .local) : ∀ {es : List Expr} {gs : List Vl → Env → Option Env} {ws : List Nat}, noStar es = true → cGs r fnb sc es = some (gs, ws) →
    PGs X es (rdTgs T X gs ws) ∧ ∀ vs γ γ', gs vs γ = some γ' → vs.length = es.length
  | [], _, _, _, h => by
    unfold cGs at h
    cases h
    refine ⟨okgs_nil, fun vs γ γ' e => ?_⟩
    unfold gNil at e
    split at e
    · rfl
    · cases e
  | e :: es, gs, ws, hn, h => by
    unfold cGs at h
    split at h
    · rename_i g ws1 gs1 ws2 e1 e2
      cases h
      obtain ⟨_, h2⟩ := star_cons (env := X.env) hn
      obtain ⟨k1, k2⟩ := snd_gs s o hc hf h2 e2
      refine ⟨okgs_cons (s.g o hc hf e1) k1 (by rw [assign_cons hn]; rfl), fun vs γ γ' em => ?_⟩
      unfold gCons at em
      split at em
      · split at em
        · rw [List.length_cons, List.length_cons, k2 _ _ _ em]
        · cases em
      · cases em
    · cases h
theorem snd_g (s : Snd G c k r) (o : Cok G T X W c k sc) (hc : G.calm = true) {fnb : Str → Bool} (hf : ∀ x, fnb x = true → X.fn x = true ∨ X.env.scope.names.lookup x = some .local) {e : Expr} {g : TTg} {ws : List Nat} (h : cG G r fnb sc e = some (g, ws)) : PG X e (rdTg T X g ws) := by
  unfold cG at h
  split at h
  · split at h
    case isFalse => cases h
    rename_i h0
    split at h
    · rename_i i ei
      cases h
      exact okg_name o.nd (by rw [o.N]; exact idx_get ei) (by rw [o.sc]; exact loc_of h0.1) (hf _ h0.2)
    · cases h
  · split at h
    case isFalse => cases h
    rename_i hn
    split at h
    · rename_i eg
      cases h
      obtain ⟨k1, k2⟩ := snd_gs s o hc hf hn eg
      obtain ⟨l1, l2⟩ := assign_len (env := X.env) hn
      exact okg_tup (o.calm hc).1.c k1 l1 l2 k2
    · cases h
  · cases h
theorem snd_comp : ∀ (n : Nat) (G : Gt), (G.calm = true → G.ek = none) → Snd G c k (comp G n)
  | 0, G, _ => ⟨fun _ _ _ h => (by cases h), fun _ _ _ h => (by cases h), fun _ _ _ _ h => (by cases h), fun _ _ _ _ _ _ _ h => (by cases h)⟩
  | n + 1, G, hk => ⟨fun o _ _ h => snd_e (snd_comp n G hk) (snd_comp n G.blk hk) hk o h, fun o _ _ h => snd_t (snd_comp n G hk) o h, fun o _ _ _ h => snd_i (snd_comp n G hk) o h, fun o hc _ hf _ _ _ h => snd_g (snd_comp n G hk) o hc hf h⟩
end
end Mk
/-! Mk16: from the text to the evaluator: statements. -/
namespace Mk
open PySem PySem.Spec PyProof.Rows L2
structure Ss where
  s : Scope → Stmt → TSt
def kOf : List Nat → Option Nat
  | [k] => some k
  | _ => none
section
variable (G : Gt) (r rb : Cs) (q : Ss) (su : Option Nat → Ss)
def cSs (sc : Scope) : List Stmt → TSt
  | [] => sPass
  | [s] => q.s sc s
  | s :: t :: rest => sSeq (q.s sc s) (cSs sc (t :: rest))
def cSetName (sc : Scope) (x : Str) (p : Pos) (e : Expr) : TSt := if isLoc sc x = true then match idx G.N x, r.e sc e with
    | some i, some xe => match e with
      | .ListComp elt [⟨tg, iter, ifs, 0⟩] inner p2 => if swB sc (.ListComp elt [⟨tg, iter, ifs, 0⟩] inner p2) inner x p = true then match cLc G r rb sc elt tg iter ifs inner (isMu G p2) with
          | some xl => sSet i xl
          | none => sNo
        else sSet i xe
      | _ => if notComp e = true then sSet i xe else sNo
    | _, _ => sNo
  else sNo
def cPlainTup (sc : Scope) (ts : List Expr) (k : Nat) (p : Pos) (e : Expr) : TSt := if G.calm = true then match r.g (fun _ => true) sc (.Tuple ts k p), r.e sc e with
  | some (g, _), some xe => sAsg g xe
  | _, _ => sNo
  else sNo
def cSetTup (sc : Scope) (ts : List Expr) (k : Nat) (p : Pos) (e : Expr) : TSt := match e with
  | .Tuple vs k2 p2 => match swapC sc ts vs with
    | some none => cPlainTup G r sc ts k p (.Tuple vs k2 p2)
    | some (some names) => match ts, vs with
      | [.Name x _, .Name y _], [a, b] => if G.calm = true ∧ names = [x, y] ∧ x ≠ y ∧ isLocal sc x = true ∧ isLocal sc y = true ∧ noStar [a, b] = true then match idx G.N x, idx G.N y, r.e sc a, r.e sc b with
          | some i, some j, some xa, some xb => sPar i j xa xb
          | _, _, _, _ => sNo
        else sNo
      | [.Name x _, .Name y _, .Name z _], [a, b, d] => if G.calm = true ∧ names = [x, y, z] ∧ x ≠ y ∧ x ≠ z ∧ y ≠ z ∧ isLocal sc x = true ∧ isLocal sc y = true ∧ isLocal sc z = true ∧ noStar [a, b, d] = true then match idx G.N x, idx G.N y, idx G.N z, r.e sc a, r.e sc b, r.e sc d with
          | some i, some j, some l, some xa, some xb, some xd => sPar3 i j l xa xb xd
          | _, _, _, _, _, _ => sNo
        else sNo
      | _, _ => sNo
    | none => sNo
  | e => if notTup e = true then cPlainTup G r sc ts k p e else sNo
def cExpr (sc : Scope) (e : Expr) : TSt := match e with
  | .Constant (.str _) _ _ => sPass
  | .Call (.Attribute o x ap) [a] [] cp => if x = "append" ∧ notCall o = true ∧ noStar [a] = true ∧ (ap.endLine == cp.line) = true then match r.e sc o, r.e sc a with
      | some xo, some xa => sApp xo xa
      | _, _ => sNo
    else if x = "extend" ∧ notCall o = true ∧ noStar [a] = true ∧ (ap.endLine == cp.line) = true then match r.e sc o, r.e sc a with
      | some xo, some xa => sExt xo xa
      | _, _ => sNo
    else if x = "update" ∧ notCall o = true ∧ noStar [a] = true ∧ (ap.endLine == cp.line) = true then match r.e sc o, r.e sc a with
      | some xo, some xa => sUpd xo xa
      | _, _ => sNo
    else sNo
  | e => if notComp e = true then match r.e sc e with
    | some xe => sExpr xe
    | none => sNo else sNo
def cHd (sc : Scope) : ExceptHandler → Option Hd
  | .ExceptHandler (some (.Name x _)) on (b₀ :: suite) _ => if isGl sc x = true ∧ okName x = true then match G.hd.lookup x with
    | some ks => match on with
      | none => some ⟨ks, none, cSs (su (kOf ks)) sc (b₀ :: suite)⟩
      | some n => if isLocal sc n = true then match idx G.N n with
        | some i => some ⟨ks, some i, cSs (su (kOf ks)) sc (b₀ :: suite)⟩
        | none => none
        else none
    | none => none
    else none
  | _ => none
def cHds (sc : Scope) : List ExceptHandler → Option (List Hd)
  | [] => some []
  | h :: r => match cHd G su sc h, cHds sc r with
    | some x, some xs => some (x :: xs)
    | _, _ => none
def cRaise (sc : Scope) (x : Str) (a : Expr) : TSt := if G.calm = true ∧ isGl sc x = true ∧ okName x = true ∧ noStar [a] = true then match G.er.lookup x with
    | some (k, none) => match a with
      | .Constant (.str _) _ _ => sErr k
      | _ => sNo
    | some (k, some _) => match r.e sc a with
      | some xa => sErrX k xa
      | none => sNo
    | none => sNo
  else sNo
def cS (sc : Scope) (st : Stmt) : TSt := match st with
  | .Expr e _ => cExpr r sc e
  | .Assign [.Name x p] e _ => cSetName G r rb sc x p e
  | .Assign [.Tuple ts k p] e _ => cSetTup G r sc ts k p e
  | .Assign [.Subscript o i _] e _ => if plainIx i = true then match r.e sc o, r.e sc i, r.e sc e with
    | some xo, some xi, some xe => sSetIx xo xi xe
    | _, _, _ => sNo else sNo
  | .AugAssign (.Name x _) .Add e _ => if isLoc sc x = true then match idx G.N x, r.e sc e with
    | some i, some xe => sAug i .add xe
    | _, _ => sNo else sNo
  | .Return none _ => sRet (xC (.d .none))
  | .Return (some e) _ => match r.e sc e with
    | some xe => sRet xe
    | none => sNo
  | .If t a b _ => match r.t sc t with
    | some xt => sIf xt (cSs q sc a) (cSs q sc b)
    | none => sNo
  | .While t b [] _ => if G.calm = true then match r.t sc t with
    | some xt => sWhile xt (cSs q sc b)
    | none => sNo
    else sNo
  | .Raise (some (.Call (.Name x _) [a] [] _)) none _ => cRaise G r sc x a
  | .Try body (h :: hs) [] [] _ => if G.calm = true then match cHds G su sc (h :: hs) with
    | some l => sTry (cSs q sc body) l
    | none => sNo
    else sNo
  | .For tg iter b [] _ => if G.calm = true ∧ notSet iter = true then match r.i sc tg iter, r.g (fun _ => true) sc tg with
    | some it, some (g, _) => sFor it g (cSs q sc b)
    | _, _ => sNo else sNo
  | .Pass _ => sPass
  | .Break _ => sBrk
  | .Continue _ => sCnt
  | _ => sNo
end
def compS : Gt → Nat → Nat → Ss
  | _, _, 0 => ⟨fun _ _ => sNo⟩
  | G, m, n + 1 => ⟨cS G (comp G m) (comp G.blk m) (compS G m n) fun k => compS (G.su k) m n⟩
/-- a def's body: m for the depth of expressions, n for that of statements -/
def cBody (G : Gt) (m n : Nat) (sc : Scope) (body : List Stmt) : TSt := cSs (compS G m n) sc body

structure Sok (G : Gt) [TabC] (T : Tx) (X : Cx) (W : WX) (c : Cl) (k : Nat) (sc0 : Scope) : Prop extends Cok G T X W c k sc0 where
  po : G.calm = true → PassesOwn (model X.prog X.w) X.A X.env X.xe ∧ X.stack = X.env :: X.outer ∧ X.env.frame = some X.env.locals
  fn : ∀ x, X.fn x = true
  kd : sc0.kind = .function
structure SndS (G : Gt) [TabC] (c : Cl) (k : Nat) (q : Ss) : Prop where
  s : ∀ {T : Tx} {X : Cx} {W : WX} {sc : Scope}, Sok G T X W c k sc → ∀ (st : Stmt), PS X st (rdS T X W c (q.s sc st))
section
variable [TabC] {G : Gt} {T : Tx} {X : Cx} {W : WX} {c : Cl} {k : Nat} {sc : Scope} {r rb : Cs} {q : Ss} {su : Option Nat → Ss} {pos : Pos}
theorem snd_ss (s : SndS G c k q) (o : Sok G T X W c k sc) : ∀ sts : List Stmt, PSs X sts (rdS T X W c (cSs q sc sts))
  | [] => okss_nil
  | [st] => okss_one (s.s o st)
  | st :: t :: rest => okss_cons (s.s o st) (snd_ss s o (t :: rest))
theorem idx_ne {N : List Str} {x y : Str} {i j : Nat} (h1 : idx N x = some i) (h2 : idx N y = some j) (h : x ≠ y) : i ≠ j := fun e => by
  subst e
  have a := idx_get h1
  have b := idx_get h2
  rw [a] at b
  cases b
  exact h rfl
theorem snd_setName (s : Snd G c k r) (sb : Snd G.blk c k rb) (hek : G.calm = true → G.ek = none) (o : Sok G T X W c k sc) {x : Str} {p : Pos} {e : Expr} : PS X (.Assign [.Name x p] e pos) (rdS T X W c (cSetName G r rb sc x p e)) := by
  unfold cSetName
  split
  case isFalse => exact oks_no
  rename_i hl
  split
  case h_2 => exact oks_no
  rename_i i xe e1 e2
  have hi : X.N[i]? = some x := by rw [o.N]; exact idx_get e1
  have hx : Loc X.env.scope x := by rw [o.sc]; exact loc_of hl
  split
  · rename_i elt tg iter ifs inner p2
    split
    · rename_i hb
      split
      · rename_i xl el
        obtain ⟨hc, it, g, ws, t, e, rfl, q1, q2, q3, q4, q5⟩ := snd_lc s sb o.toCok hek el
        have hb' := hb
        unfold swB at hb'
        simp only [Bool.and_eq_true, beq_iff_eq] at hb'
        exact oks_setLc (o.blkA hc) (o.calm hc).1.c o.nd hi (by rw [o.sc]; exact hb'.1.1) (by rw [sw_lc o.sc o.kd, hb]) q1 q2 q5 q4 q3
      · exact oks_no
    · rename_i hb
      exact oks_set o.nd hi hx (s.e o.toCok e2) (by rw [sw_lc o.sc o.kd, Bool.eq_false_iff.mpr hb]) (.inl (o.fn x))
  · split
    · rename_i hn
      exact oks_set o.nd hi hx (s.e o.toCok e2) (sw_plain hn _ _ _) (.inl (o.fn x))
    · exact oks_no
theorem snd_plainTup (s : Snd G c k r) (o : Sok G T X W c k sc) {ts : List Expr} {kk : Nat} {p : Pos} {e : Expr} (hw : swappedStores [.Tuple ts kk p] e X.env = pure none) : PS X (.Assign [.Tuple ts kk p] e pos) (rdS T X W c (cPlainTup G r sc ts kk p e)) := by
  unfold cPlainTup
  split
  case isFalse => exact oks_no
  rename_i hc
  split
  · rename_i e1 e2
    exact oks_asg (s.e o.toCok e2) (s.g o.toCok hc (fun x _ => .inl (o.fn x)) e1) (sw_tup _ _) hw rfl
  · exact oks_no
theorem snd_setTup (s : Snd G c k r) (o : Sok G T X W c k sc) {ts : List Expr} {kk : Nat} {p : Pos} {e : Expr} : PS X (.Assign [.Tuple ts kk p] e pos) (rdS T X W c (cSetTup G r sc ts kk p e)) := by
  unfold cSetTup
  split
  · rename_i vs k2 p2
    split
    · rename_i hw
      exact snd_plainTup s o (swap_ok o.sc o.kd hw)
    · rename_i names hw
      have hw' := swap_ok (k := kk) (k2 := k2) (p := p) (p2 := p2) o.sc o.kd hw
      split
      · split
        case isFalse => exact oks_no
        rename_i h0
        obtain ⟨hc, rfl, hne, hx, hy, hst⟩ := h0
        split
        · rename_i e1 e2 e3 e4
          obtain ⟨k1, k2'⟩ := star_cons (env := X.env) hst
          obtain ⟨k3, _⟩ := star_cons (env := X.env) k2'
          exact oks_par (o.calm hc).1.c o.nd (by rw [o.N]; exact idx_get e1) (by rw [o.N]; exact idx_get e2) (idx_ne e1 e2 hne) (by rw [o.sc]; exact isLocal_of hx) (by rw [o.sc]; exact isLocal_of hy) (s.e o.toCok e3) (s.e o.toCok e4) k1 k3 hw' (sw_tup _ _)
        · exact oks_no
      · split
        case isFalse => exact oks_no
        rename_i h0
        obtain ⟨hc, rfl, n1, n2, n3, hx, hy, hz, hst⟩ := h0
        split
        · rename_i e1 e2 e3 e4 e5 e6
          obtain ⟨k1, k2'⟩ := star_cons (env := X.env) hst
          obtain ⟨k3, k4⟩ := star_cons (env := X.env) k2'
          obtain ⟨k5, _⟩ := star_cons (env := X.env) k4
          exact oks_par3 (o.calm hc).1.c o.nd (by rw [o.N]; exact idx_get e1) (by rw [o.N]; exact idx_get e2) (by rw [o.N]; exact idx_get e3) (idx_ne e1 e2 n1) (idx_ne e1 e3 n2) (idx_ne e2 e3 n3) (by rw [o.sc]; exact isLocal_of hx) (by rw [o.sc]; exact isLocal_of hy) (by rw [o.sc]; exact isLocal_of hz) (s.e o.toCok e4) (s.e o.toCok e5) (s.e o.toCok e6) k1 k3 k5 hw' (sw_tup _ _)
        · exact oks_no
      · exact oks_no
    · exact oks_no
  · split
    · rename_i hn
      exact snd_plainTup s o (ss_plain hn _)
    · exact oks_no
theorem snd_expr (s : Snd G c k r) (o : Sok G T X W c k sc) {e : Expr} : PS X (.Expr e pos) (rdS T X W c (cExpr r sc e)) := by
  unfold cExpr
  split
  · exact oks_doc
  · split
    case isFalse =>
      split
      · rename_i h0
        obtain ⟨rfl, h1, h2, h3⟩ := h0
        split
        · rename_i e1 e2
          obtain ⟨k1, _⟩ := star_cons (env := X.env) h2
          exact oks_ext (s.e o.toCok e1) (s.e o.toCok e2) (attr_base h1) k1 (by rw [k1]; rfl) h3 (sw_plain rfl _ _ _)
        · exact oks_no
      · split
        · rename_i h0
          obtain ⟨rfl, h1, h2, h3⟩ := h0
          split
          · rename_i e1 e2
            obtain ⟨k1, _⟩ := star_cons (env := X.env) h2
            exact oks_upd (s.e o.toCok e1) (s.e o.toCok e2) (attr_base h1) k1 (by rw [k1]; rfl) h3 (sw_plain rfl _ _ _)
          · exact oks_no
        · exact oks_no
    rename_i h0
    obtain ⟨rfl, h1, h2, h3⟩ := h0
    split
    · rename_i e1 e2
      obtain ⟨k1, _⟩ := star_cons (env := X.env) h2
      exact oks_app (s.e o.toCok e1) (s.e o.toCok e2) (attr_base h1) k1 (by rw [k1]; rfl) h3 (sw_plain rfl _ _ _)
    · exact oks_no
  · split
    case isFalse => exact oks_no
    rename_i hn
    split
    · rename_i e1
      exact oks_expr (s.e o.toCok e1) (sw_plain hn _ _ _)
    · exact oks_no
theorem snd_raise (s : Snd G c k r) (o : Sok G T X W c k sc) {x : Str} {a : Expr} {p p3 : Pos} : PS X (.Raise (some (.Call (.Name x p) [a] [] p3)) none pos) (rdS T X W c (cRaise G r sc x a)) := by
  unfold cRaise
  split
  case isFalse => exact oks_no
  rename_i h0
  obtain ⟨hc, hg, hn, hst⟩ := h0
  obtain ⟨n1, n2, n3⟩ := okName_of hn
  split
  · rename_i n el
    obtain ⟨C, e1, e2, e3, e4⟩ := o.er _ _ _ el
    split
    · exact oks_err (o.calm hc).1.c (o.calm hc).1.tk (o.gl hg) e1 e4 e2 e3 n1
    · exact oks_no
  · rename_i n f el
    obtain ⟨C, e1, e2, e3, e4⟩ := o.er _ _ _ el
    split
    · rename_i ea
      exact oks_errX (o.calm hc).1.c (o.calm hc).1.tk (o.calm hc).1.rm o.gd (o.gl hg) e1 e4 e2 e3 (s.e o.toCok ea) hst n1
    · exact oks_no
  · exact oks_no
theorem Sok.suite (o : Sok G T X W c k sc) {ks : List Nat} {a : Addr} {oe : Obj} {cls : Value} {d : Option Addr} {pn : List (Addr × Obj)} (hz : Zc cls d oe) (hf : ∃ vs, oe.data = .fields vs) : Sok (G.su (kOf ks)) (T.sx a cls d) (X.suite a ((a, oe) :: pn)) (fun _ _ _ _ => False) c k sc where
  sc := o.sc
  N := o.N
  nd := o.nd
  gd := o.gd
  room := o.room
  calm := fun z => by cases (show false = true from z)
  fr := o.fr
  cs := o.cs
  fa := o.fa
  fs := fun x f np ds h => by rw [spF_eq (T := T) (T' := T.sx a cls d) tle_sx]; exact o.fs x f np ds h
  fi := ⟨(o.fi.le (T' := T.sx a cls d) tle_sx).fi⟩
  ls := fun L h => (o.ls L h).le tle_sx
  fm := fun _ z => z
  er := o.er
  ex := o.ex
  hd := o.hd
  ek := fun n hn f e xe pos hq hc he => by
    obtain ⟨C, e1, e2, e3, e4⟩ := o.ex n f hq
    exact ok_fld e3 e4 e1 e2 hz hf he hc
  po := fun z => by cases (show false = true from z)
  fn := o.fn
  kd := o.kd
theorem snd_hd (ssu : ∀ k', SndS (G.su k') c k (su k')) (o : Sok G T X W c k sc) {h : ExceptHandler} {x : Hd} (e : cHd G su sc h = some x) : ∃ cv, HdsM X [h] [(cv, x.slot, fun a cls d => rdS (T.sx a cls d) X (fun _ _ _ _ => False) c x.b)] ∧ ∀ n C, T.ca n = some C → PySem.W.exmOne X.K (.ref C) cv = some (x.ks.contains n) := by
  unfold cHd at e
  split at e
  case h_2 => cases e
  rename_i y p on b₀ suite p2
  split at e
  case isFalse => cases e
  rename_i h0
  obtain ⟨hg, hn⟩ := h0
  obtain ⟨n1, n2, n3⟩ := okName_of hn
  split at e
  case h_2 => cases e
  rename_i ks el
  obtain ⟨cv, q1, q2⟩ := o.hd _ _ el
  split at e
  · cases e
    exact ⟨cv, .cons ⟨o.gl hg, n1, q1⟩ trivial (fun a oe cls d pn hz hf => snd_ss (ssu (kOf ks)) (o.suite (ks := ks) (pn := pn) hz hf) (b₀ :: suite)) .nil, q2⟩
  · split at e
    case isFalse => cases e
    rename_i hl
    split at e
    case h_2 => cases e
    rename_i i ei
    cases e
    exact ⟨cv, .cons ⟨o.gl hg, n1, q1⟩ ⟨by rw [o.N]; exact idx_get ei, by show X.env.scope.names.lookup _ = _; rw [o.sc]; exact isLocal_of hl⟩ (fun a oe cls d pn hz hf => snd_ss (ssu (kOf ks)) (o.suite (ks := ks) (pn := pn) hz hf) (b₀ :: suite)) .nil, q2⟩
theorem snd_hds (ssu : ∀ k', SndS (G.su k') c k (su k')) (o : Sok G T X W c k sc) : ∀ {hs : List ExceptHandler} {l : List Hd}, cHds G su sc hs = some l → ∃ l', HdsM X hs l' ∧ HsL T X c l' l
  | [], l, e => by unfold cHds at e; cases e; exact ⟨[], .nil, .nil⟩
  | h :: hs, l, e => by
    unfold cHds at e
    split at e
    case h_2 => cases e
    rename_i x xs e1 e2
    cases e
    obtain ⟨cv, k1, k2⟩ := snd_hd ssu o e1
    obtain ⟨l', k3, k4⟩ := snd_hds ssu o e2
    cases k1 with
    | cons hc hn hsu r => exact ⟨_, .cons hc hn hsu k3, .cons k2 k4⟩
theorem snd_s (s : Snd G c k r) (sb : Snd G.blk c k rb) (hek : G.calm = true → G.ek = none) (sq : SndS G c k q) (ssu : ∀ k', SndS (G.su k') c k (su k')) (o : Sok G T X W c k sc) (st : Stmt) : PS X st (rdS T X W c (cS G r rb q su sc st)) := by
  unfold cS
  split
  · exact snd_expr s o
  · exact snd_setName s sb hek o
  · exact snd_setTup s o
  · split
    case isFalse => exact oks_no
    rename_i hp
    split
    · rename_i e1 e2 e3
      exact oks_setIx o.toCok.room (s.e o.toCok e1) (s.e o.toCok e2) (s.e o.toCok e3) (sw_sub _ _) (ss_sub _) (sub_asg hp _) rfl
    · exact oks_no
  · split
    case isFalse => exact oks_no
    rename_i hl
    split
    · rename_i e1 e2
      exact oks_aug o.nd (by rw [o.N]; exact idx_get e1) (by rw [o.sc]; exact loc_of hl) (s.e o.toCok e2) (.inl (o.fn _))
    · exact oks_no
  · exact oks_retN
  · split
    · rename_i e1; exact oks_ret (s.e o.toCok e1)
    · exact oks_no
  · split
    · rename_i e1; exact oks_if (s.t o.toCok e1) (snd_ss sq o _) (snd_ss sq o _)
    · exact oks_no
  · split
    case isFalse => exact oks_no
    rename_i hc
    split
    · rename_i e1; exact oks_while (o.po hc).1 (s.t o.toCok e1) (snd_ss sq o _)
    · exact oks_no
  · exact snd_raise s o
  · split
    case isFalse => exact oks_no
    rename_i hc
    split
    · rename_i l el
      obtain ⟨l', h1, h2⟩ := snd_hds ssu o el
      refine oks_try (o.po hc).2.1 (o.po hc).2.2 o.nd (o.calm hc).1.tk (fun W' pn xe tk po => snd_ss (T := T) (X := X.tr pn xe) (W := W') sq { o with calm := fun z => ⟨⟨(o.calm z).1.c, (o.calm z).1.rm, tk⟩, ⟨(o.calm z).2.an, (o.calm z).2.ex⟩⟩, po := fun z => ⟨po, (o.po z).2⟩, fm := ?_, fi := ⟨o.fi.fi⟩, ek := ?_ } _) h1 h2
      · have f := o.fm
        cases q : G.lams with
        | true => rw [q] at f; exact ⟨⟨f.lm.cells, f.lm.N, f.lm.at_⟩, f.q, f.mkd, f.tab⟩
        | false => rw [q] at f; exact f
      · intro n hn
        rw [hek hc] at hn; cases hn
    · exact oks_no
  · split
    case isFalse => exact oks_no
    rename_i hs
    split
    · rename_i e1 e2
      exact oks_for (o.po hs.1).1 (o.calm hs.1).1.c (s.i o.toCok e1) (s.g o.toCok hs.1 (fun x _ => .inl (o.fn x)) e2) (snd_ss sq o _) (notSet_of hs.2 _)
    · exact oks_no
  · exact oks_pass
  · exact oks_break
  · exact oks_cont
  · exact oks_no
theorem snd_compS (m : Nat) : ∀ (n : Nat) (G : Gt), (G.calm = true → G.ek = none) → SndS G c k (compS G m n)
  | 0, G, _ => ⟨fun _ _ => oks_no⟩
  | n + 1, G, hk => ⟨fun o st => snd_s (snd_comp m G hk) (snd_comp m G.blk hk) hk (snd_compS m n G hk) (fun k' => snd_compS m n (G.su k') fun z => by cases (show false = true from z)) o st⟩
theorem snd_body (hk : G.calm = true → G.ek = none) (o : Sok G T X W c k sc) (m n : Nat) (body : List Stmt) : PSs X body (rdS T X W c (cBody G m n sc body)) := snd_ss (snd_compS m n G hk) o body
end
end Mk
/-! Mh1: what the head's heap tells of the own classes of errors. -/
namespace Mk
open PySem PySem.Spec PyProof.Rows L2
/-- the built-in bases -/
inductive EB where | value | index | lookup | arith | over
def EB.B : EB → String
  | .value => "ValueError"
  | .index => "IndexError"
  | .lookup => "LookupError"
  | .arith => "ArithmeticError"
  | .over => "OverflowError"
def EB.nw : EB → String
  | .value => "ValueError.__new__"
  | .index => "IndexError.__new__"
  | .lookup => "LookupError.__new__"
  | .arith => "ArithmeticError.__new__"
  | .over => "OverflowError.__new__"
def EB.ini : EB → String
  | .value => "ValueError.__init__"
  | .index => "IndexError.__init__"
  | .lookup => "LookupError.__init__"
  | .arith => "ArithmeticError.__init__"
  | .over => "OverflowError.__init__"
def EB.bm : EB → List Value
  | .value => [.type "ValueError", .type "Exception", .type "BaseException", .type "object"]
  | .index => [.type "IndexError", .type "LookupError", .type "Exception", .type "BaseException", .type "object"]
  | .lookup => [.type "LookupError", .type "Exception", .type "BaseException", .type "object"]
  | .arith => [.type "ArithmeticError", .type "Exception", .type "BaseException", .type "object"]
  | .over => [.type "OverflowError", .type "ArithmeticError", .type "Exception", .type "BaseException", .type "object"]
theorem EB.base : ∀ b : EB, ExcBaseFacts b.B b.nw b.ini b.bm
  | .value => PySem.F.excBase_ValueError
  | .index => PySem.F.excBase_IndexError
  | .lookup => PySem.F.excBase_LookupError
  | .arith => PySem.F.excBase_ArithmeticError
  | .over => PySem.F.excBase_OverflowError
theorem EB.store : ∀ b : EB, StoreFacts b.B b.bm "object.__setattr__" "object"
  | .value => PySem.F.store_ValueError
  | .index => PySem.F.store_IndexError
  | .lookup => PySem.F.store_LookupError
  | .arith => PySem.F.store_ArithmeticError
  | .over => PySem.F.store_OverflowError
theorem EB.sup : ∀ b : EB, PySem.W.KxsFacts b.B b.ini
  | .value => PySem.W.kxs_ValueError
  | .index => PySem.W.kxs_IndexError
  | .lookup => PySem.W.kxs_LookupError
  | .arith => PySem.W.kxs_ArithmeticError
  | .over => PySem.W.kxs_OverflowError
/-- an __init__ that keeps its one argument -/
structure InI where
  name : Str
  qual : Str
  a1 : Arg
  a2 : Arg
  scope : Scope
  body : List Stmt
  field : Str
def InI.params (i : InI) : Arguments := ⟨[], [i.a1, i.a2], none, [], [], none, []⟩
def InI.Bd (i : InI) : Prop := ∀ (doc pm : Value) (an : Option Addr) (cdv ct : Value) (cc : Addr) (us : List Value), us.length = 2 → bindArgs (PySem.W.ksFn i.name i.qual i.params i.body i.scope .none .none doc pm an cdv ct cc) ⟨us, []⟩ = pure ([i.a1.arg, i.a2.arg].zip us)
structure ErI where
  name : Str
  base : EB
  init : Option InI
abbrev InW : Type := Option (Str × Str × Arguments × FuncBody × Scope × Addr × List Str × Addr)
def initAt (K : PySem.W.Frag) (x : Str) : InW := match PySem.W.findIn K (.ref (He.ga K x)) "__init__" with
  | some (some (.ref f)) => match K.lookup f with
    | some ⟨_, _, .func fd, _⟩ => some (fd.name, fd.qualname, fd.params, fd.body, fd.scope, fd.globals, fd.closure.map (·.1), fd.builtins)
    | _ => none
  | _ => none
def ErI.obs (K : PySem.W.Frag) (e : ErI) : InW := match e.init with
  | none => none
  | some _ => initAt K e.name
def ErI.val (e : ErI) : InW := match e.init with
  | none => none
  | some i => some (i.name, i.qual, i.params, .stmts i.body, i.scope, mainGlobals, ["__class__"], builtinsNs)
/-- the __init__'s code, its cell -/
def initB (P : Program) (K : PySem.W.Frag) (C : Addr) : Bool := match PySem.W.findIn K (.ref C) "__init__" with
  | some (some (.ref f)) => PySem.W.isFn K (.ref f) && (match K.lookup f with
    | some ⟨_, _, .func fd, _⟩ => PySem.W.codeIn K fd.code fd.qualname && (match fd.defaults, fd.kwdefaults, fd.closure, fd.code with
      | .none, .none, [(_, cc)], .ref cda => (match K.lookup cda with
        | some ⟨_, _, .fields vs, _⟩ => (match (vs[2]? : Option Value) with
          | some (.str file _) => (P.main.file : Str) == file
          | _ => false)
        | _ => false) && (match K.lookup cc with
        | some ⟨_, _, .cell (some (.ref C')), _⟩ => decide (C' = C)
        | _ => false)
      | _, _, _, _ => false)
    | _ => false)
  | _ => false
def plainB (K : PySem.W.Frag) (b : EB) (C : Addr) : Bool := PySem.W.keepIn K (.ref C) && (decide (PySem.W.subIn K (.ref C) (.type "BaseException") = some true) && (decide (PySem.W.typeIn K (.ref C) = some (.type "type")) && PySem.W.excIn K C b.bm b.nw))
def fldB (P : Program) (K : PySem.W.Frag) (b : EB) (C : Addr) (i : InI) : Bool :=
  PySem.W.excInitIn K C b.bm b.nw && (PySem.W.excOver K C b.bm && (He.eqO (PySem.W.findIn K (.ref C) "__setattr__") (some (some (.builtin "object.__setattr__"))) && (decide (PySem.W.takerIn K C i.field = some none) && (PySem.W.hasDictIn K C &&
  (decide (PySem.W.subIn K (.ref C) (.type b.B) = some true) && (decide (PySem.W.subIn K (.ref C) (.type "BaseException") = some true) && (decide (PySem.W.typeIn K (.ref C) = some (.type "type")) && (PySem.W.keepIn K (.ref C) &&
  (decide (PySem.W.mroIn K C (.ref C) = some true) && (decide (PySem.W.ks_superIn K C C "__init__" = some (some (.builtin b.ini))) && (He.eqO (PySem.W.nsIn K cStatics "thirdparty.any") (some none) && (He.eqO (PySem.W.nsIn K mainGlobals "super") (some none) &&
  (initB P K C && ((PySem.W.clsIn K C).isSome && (xfB K C && He.eqO (PySem.W.findIn K (.ref C) i.field) (some none))))))))))))))))
/-- what is seen in the text alone -/
def InI.okB (P : Program) (i : InI) : Bool := !(P.main.scope.names.lookup ("super" : Str)).isSome && (decide (i.scope.kind = .function) && (!i.scope.isCoroutine && (!i.scope.isGenerator && ((i.scope.names.all fun x => decide (x.2 ≠ .cell)) && (decide (i.scope.names.lookup i.a1.arg = some .local) && (decide (i.scope.names.lookup i.a2.arg = some .local) &&
  (decide (i.scope.names.lookup ("super" : Str) = some .globalImplicit) && (decide (i.scope.names.lookup ("__class__" : Str) = some .free) && (decide (i.a1.arg ≠ i.a2.arg) && (!(i.a1.arg == ("__debug__" : Str)) && (!(i.a2.arg == ("__debug__" : Str)) && (match initBody i.body with
    | some t => decide (t.self = i.a1.arg) && (decide (t.given = i.a2.arg) && decide (t.field = i.field))
    | none => false))))))))))))
def ErI.okB (P : Program) (K : PySem.W.Frag) (e : ErI) : Bool := match e.init with
  | none => plainB K e.base (He.ga K e.name)
  | some i => fldB P K e.base (He.ga K e.name) i
theorem plainB_ok {K : PySem.W.Frag} {b : EB} {C : Addr} (h : plainB K b C = true) : PlainE K C := by
  obtain ⟨h1, h⟩ := ba2 h
  obtain ⟨h2, h⟩ := ba2 h
  obtain ⟨h3, h4⟩ := ba2 h
  exact ⟨h1, of_decide_eq_true h2, of_decide_eq_true h3, b.B, b.nw, b.ini, b.bm, b.base, h4⟩
theorem fldB_ok {P : Program} {K : PySem.W.Frag} {b : EB} {x : Str} {i : InI} (h : fldB P K b (He.ga K x) i = true) (hw : initAt K x = some (i.name, i.qual, i.params, FuncBody.stmts i.body, i.scope, mainGlobals, [("__class__" : Str)], builtinsNs)) (hs : i.okB P = true) (hbd : i.Bd) :
    FldE P K (He.ga K x) i.field ∧ XfC K (He.ga K x) ∧ PySem.W.findIn K (.ref (He.ga K x)) i.field = some none := by
  generalize hC : He.ga K x = C at h
  obtain ⟨g1, h⟩ := ba2 h
  obtain ⟨g2, h⟩ := ba2 h
  obtain ⟨g3, h⟩ := ba2 h
  obtain ⟨g4, h⟩ := ba2 h
  obtain ⟨g5, h⟩ := ba2 h
  obtain ⟨g6, h⟩ := ba2 h
  obtain ⟨g7, h⟩ := ba2 h
  obtain ⟨g8, h⟩ := ba2 h
  obtain ⟨g9, h⟩ := ba2 h
  obtain ⟨g10, h⟩ := ba2 h
  obtain ⟨g11, h⟩ := ba2 h
  obtain ⟨g12, h⟩ := ba2 h
  obtain ⟨g13, h⟩ := ba2 h
  obtain ⟨g14, h⟩ := ba2 h
  obtain ⟨g15, h⟩ := ba2 h
  obtain ⟨g16, g17⟩ := ba2 h
  unfold InI.okB at hs
  simp only [Bool.and_eq_true, Bool.not_eq_true', decide_eq_true_eq, List.all_eq_true] at hs
  obtain ⟨s1, s2, s3, s4, s5, s6, s7, s8, s9, s10, s11, s12, s13⟩ := hs
  have body : ∃ t, initBody i.body = some t ∧ t.self = i.a1.arg ∧ t.given = i.a2.arg ∧ t.field = i.field := by
    cases q : initBody i.body with
    | none => rw [q] at s13; cases s13
    | some t =>
      rw [q] at s13
      simp only [Bool.and_eq_true, decide_eq_true_eq] at s13
      exact ⟨t, rfl, s13⟩
  refine ⟨⟨b.B, b.nw, b.ini, b.bm, i.scope, i.body, i.a1.arg, i.a2.arg, ⟨b.base, b.store, b.sup, g1, g2, He.eqO_ok g3, of_decide_eq_true g4, g5, of_decide_eq_true g6, of_decide_eq_true g7, of_decide_eq_true g8, g9, of_decide_eq_true g10, of_decide_eq_true g11, He.eqO_ok g12, He.eqO_ok g13, s1, ?_,
    ⟨s2, s3, s4, s5, s6, s7, s8, s9, s10, s11, s12⟩⟩, body⟩, xfB_ok g16, He.eqO_ok g17⟩
  unfold initAt at hw
  rw [hC] at hw
  unfold initB at g14
  cases q1 : PySem.W.findIn K (.ref C) "__init__" with
  | none => rw [q1] at g14; cases g14
  | some o1 =>
    rw [q1] at g14 hw
    cases o1 with
    | none => cases g14
    | some v =>
      cases v with
      | ref f =>
        dsimp only at g14 hw
        obtain ⟨k1, g14⟩ := ba2 g14
        cases q2 : K.lookup f with
        | none => rw [q2] at g14; cases g14
        | some o =>
          rw [q2] at g14 hw
          obtain ⟨oc, od, dt, osl⟩ := o
          cases dt with
          | func fd =>
            dsimp only at g14 hw
            obtain ⟨k2, g14⟩ := ba2 g14
            obtain ⟨n1, n2, n3, n4, n5, n6, n7, n8, n9, n10, n11, n12, n13, n14, n15⟩ := fd
            simp only [Option.some.injEq, Prod.mk.injEq] at hw
            obtain ⟨rfl, rfl, rfl, rfl, rfl, rfl, w7, rfl⟩ := hw
            dsimp only at g14 k2 w7
            split at g14
            case h_2 => cases g14
            rename_i z cc cda _
            obtain ⟨k3, k4⟩ := ba2 g14
            have ez : z = ("__class__" : Str) := by simpa using w7
            subst ez
            cases q3 : K.lookup cda with
            | none => rw [q3] at k3; cases k3
            | some o3 =>
              rw [q3] at k3
              obtain ⟨ccl, cdd, dt3, ccs⟩ := o3
              cases dt3 with
              | fields vs =>
                dsimp only at k3
                cases q4 : vs[2]? with
                | none => rw [q4] at k3; cases k3
                | some v4 =>
                  rw [q4] at k3
                  cases v4 with
                  | str file tf =>
                    cases q5 : K.lookup cc with
                    | none => rw [q5] at k4; cases k4
                    | some o5 =>
                      rw [q5] at k4
                      obtain ⟨cl, cld, dt5, csl⟩ := o5
                      cases dt5 with
                      | cell ov =>
                        cases ov with
                        | none => cases k4
                        | some v5 =>
                          cases v5 with
                          | ref C' =>
                            have : C' = C := of_decide_eq_true k4
                            subst this
                            cases q6 : PySem.W.clsIn K C' with
                            | none => rw [q6] at g15; cases g15
                            | some cdD =>
                              exact ⟨f, cc, cda, oc, cl, ccl, od, cld, cdd, osl, csl, ccs, i.name, i.qual, i.params, .none, .none, n10, n11, n14, n12, vs, file, tf, i.a1, cdD, rfl, k1, q2, k2, q3, q4, k3, q5, rfl, rfl, rfl, hbd _ _ _ _ _ _⟩
                          | _ => cases k4
                      | _ => cases k4
                  | _ => cases k3
              | _ => cases k3
          | _ => cases g14
      | _ => cases g14
end Mk
/-! Mh2: the table of a text's defs; what the head must tell; the law. -/
namespace Mk
open PySem PySem.Spec PyProof.Rows L2
/-! ### constants -/
mutual
def dataB (K : PySem.W.Frag) : D → Value → Bool
  | .none, u => (match u with
    | .none => true
    | _ => false)
  | .bool b, u => (match u with
    | .bool c => b == c
    | _ => false)
  | .int i, u => (match u with
    | .int j _ => decide (i = j)
    | _ => false)
  | .str x, u => (match u with
    | .str y _ => decide (x = y)
    | _ => false)
  | .tuple xs, u => (match u with
    | .ref a => (match K.lookup a with
      | some ⟨.type c, _, .seq its _, _⟩ => decide (c = "tuple") && (decide (its.size ≤ sizeLine) && dataBs K xs its.toList)
      | _ => false)
    | _ => false)
  | .list _, _ => false
  | .dict _, _ => false
def dataBs (K : PySem.W.Frag) : List D → List Value → Bool
  | [], us => (match us with
    | [] => true
    | _ => false)
  | x :: xs, us => (match us with
    | u :: us => dataB K x u && dataBs K xs us
    | [] => false)
end
mutual
theorem dataB_ok {K : PySem.W.Frag} : ∀ {d : D} {u : Value}, dataB K d u = true → ∃ v, RelV v u ∧ ∀ ρ H, RepD K ρ H d v
  | .none, u, h => by
    unfold dataB at h
    split at h
    · exact ⟨.non, rfl, fun _ _ => by unfold RepD; rfl⟩
    · cases h
  | .bool b, u, h => by
    unfold dataB at h
    split at h
    · have := eq_of_beq h; subst this; exact ⟨.bl b, rfl, fun _ _ => by unfold RepD; rfl⟩
    · cases h
  | .int i, u, h => by
    unfold dataB at h
    split at h
    · rename_i j t
      have := of_decide_eq_true h; subst this; exact ⟨.int i, ⟨t, rfl⟩, fun _ _ => by unfold RepD; rfl⟩
    · cases h
  | .str x, u, h => by
    unfold dataB at h
    split at h
    · rename_i j t
      have := of_decide_eq_true h; subst this; exact ⟨.str x, ⟨t, rfl⟩, fun _ _ => by unfold RepD; rfl⟩
    · cases h
  | .tuple xs, u, h => by
    unfold dataB at h
    split at h
    · rename_i a
      split at h
      · rename_i c od its n sl q
        obtain ⟨h1, h2⟩ := ba2 h
        obtain ⟨h3, h4⟩ := ba2 h2
        obtain ⟨vs, r1, r2⟩ := dataBs_ok h4
        refine ⟨.ref a, rfl, fun ρ H => ?_⟩
        unfold RepD
        exact ⟨a, vs, rfl, .inr ⟨_, its, n, q, congrArg Value.type (of_decide_eq_true h1), rfl, of_decide_eq_true h3, r1⟩, r2 ρ H⟩
      · cases h
    · cases h
  | .list xs, u, h => by unfold dataB at h; cases h
  | .dict xs, u, h => by unfold dataB at h; cases h
theorem dataBs_ok {K : PySem.W.Frag} : ∀ {ds : List D} {us : List Value}, dataBs K ds us = true → ∃ vs, Vals vs us ∧ ∀ ρ H, RepDs K ρ H ds vs
  | [], us, h => by
    unfold dataBs at h
    split at h
    · exact ⟨[], .nil, fun _ _ => by unfold RepDs; rfl⟩
    · cases h
  | x :: xs, us, h => by
    unfold dataBs at h
    split at h
    · obtain ⟨h1, h2⟩ := ba2 h
      obtain ⟨v, r1, r2⟩ := dataB_ok h1
      obtain ⟨vs, r3, r4⟩ := dataBs_ok h2
      exact ⟨v :: vs, .cons r1 r3, fun ρ H => by unfold RepDs; exact ⟨v, vs, rfl, r2 ρ H, r4 ρ H⟩⟩
    · cases h
end
def constB (K : PySem.W.Frag) (q : Str × D) : Bool := match PySem.W.nsIn K mainGlobals q.1 with
  | some (some u) => dataB K q.2 u
  | _ => false
/-! ### the hook -/
def isTab (o : Obj) : Bool := match o.cls, o.data with
  | .none, .fields vs => vs.isEmpty
  | _, _ => false
/-- a part of the heap without the empty tables -/
def frT (g : Addr → Option Obj) (as : List Addr) : PySem.W.Frag := (He.frG g as).filter fun p => !isTab p.2
theorem lookup_in {α : Type} {a : Addr} {o : α} : ∀ {l : List (Addr × α)}, l.lookup a = some o → (a, o) ∈ l
  | [], h => nomatch h
  | (b, u) :: l, h => by
    rw [List.lookup_cons] at h
    cases q : (a == b) with
    | true =>
      rw [q] at h
      have e : a = b := by simpa using q
      subst e
      cases h
      exact List.mem_cons_self
    | false =>
      rw [q] at h
      exact List.mem_cons_of_mem _ (lookup_in h)
theorem frT_mem {g : Addr → Option Obj} {as : List Addr} {a : Addr} {o : Obj} (h : (frT g as).lookup a = some o) : g a = some o ∧ isTab o = false := by
  have m := lookup_in h
  unfold frT at m
  obtain ⟨m1, m2⟩ := List.mem_filter.mp m
  refine ⟨?_, by simpa using m2⟩
  unfold He.frG at m1
  obtain ⟨b, _, e⟩ := List.mem_filterMap.mp m1
  cases q : g b with
  | none => rw [q] at e; cases e
  | some o' =>
    rw [q] at e
    cases e
    exact q
theorem frT_in {as : List Addr} {h : Heap} : (frT h.get? as).In h := fun _ _ e => (frT_mem e).1
theorem frT_no {as : List Addr} {h : Heap} {P : Addr} (e : h.get? P = some (PySem.W.tabObj #[])) : (frT h.get? as).lookup P = none := by
  cases q : (frT h.get? as).lookup P with
  | none => rfl
  | some o =>
    obtain ⟨h1, h2⟩ := frT_mem q
    rw [e] at h1
    cases h1
    cases h2
/-- an except clause's class: an own one, a built-in one; the sorts that it takes -/
structure HdE where
  name : Str
  bi : Option String
  ks : List Nat
def HdE.cv (K : PySem.W.Frag) (h : HdE) : Value := match h.bi with
  | none => .ref (He.ga K h.name)
  | some t => .type t
def HdE.okB (er : List ErI) (K : PySem.W.Frag) (h : HdE) : Bool := (List.range er.length).all fun n => match er[n]? with
  | some e => decide (PySem.W.exmOne K (.ref (He.ga K e.name)) (h.cv K) = some (h.ks.contains n))
  | none => true
/-- what the head is asked: facts, defs, constants, classes of errors, clauses, the defs that make lambdas -/
structure Hk where
  P : Program
  fa : List He.Fa
  fn : List He.DefD
  cs : List (Str × D)
  er : List ErI
  hd : List HdE
  lm : List Str
def lamQ (x : Str) : Str := x ++ ".<locals>." ++ "<lambda>"
def Hk.tabs (k : Hk) (K : PySem.W.Frag) : List (Addr × Str) := k.lm.filterMap fun x => (PySem.W.tabIn K x).map fun p => (p.2, lamQ x)
def Hk.all (k : Hk) (K : PySem.W.Frag) : Bool := (k.fa.all fun f => f.ok K) && ((k.fn.all fun d => d.ok K) && (k.cs.all (constB K) && ((k.er.all fun e => e.okB k.P K) && ((k.hd.all fun h => h.okB k.er K) && ((k.lm.all fun x => (PySem.W.tabIn K x).isSome) && decide ((k.tabs K).map (·.1)).Nodup)))))
abbrev AlM : Type := Bool × List He.FnW × List InW
def Hk.obsK (k : Hk) (K : PySem.W.Frag) : AlM := (k.all K, k.fn.map fun d => He.fnW K d.at_, k.er.map fun e => e.obs K)
def Hk.val (k : Hk) : AlM := (true, k.fn.map He.DefD.val, k.er.map ErI.val)
def Hk.says (k : Hk) (K : PySem.W.Frag) : Prop := k.obsK K = k.val
/-- exactly an empty table -/
def isTabO (o : Obj) : Bool := match o with
  | ⟨.none, none, .fields vs, sl⟩ => vs.isEmpty && sl.isEmpty
  | _ => false
theorem isTabO_ok {o : Obj} (h : isTabO o = true) : o = PySem.W.tabObj #[] := by
  unfold isTabO at h
  split at h
  · rename_i vs sl
    obtain ⟨h1, h2⟩ := ba2 h
    have e1 : vs = #[] := by simpa using h1
    have e2 : sl = #[] := by simpa using h2
    rw [e1, e2]
  · cases h
/-- the lambda-makers' tables are empty -/
def Hk.tabB (k : Hk) (K : PySem.W.Frag) (g : Addr → Option Obj) : Bool := k.lm.all fun x => match PySem.W.tabIn K x with
  | some (c, P) => PySem.W.codeHdIn K c P && (match g P with
    | some o => isTabO o
    | none => false)
  | none => false
def Hk.TabH (k : Hk) (K : PySem.W.Frag) (h : Heap) : Prop := ∀ x ∈ k.lm, ∀ cd P, PySem.W.tabIn K x = some (cd, P) → PySem.W.CodeHd h cd P ∧ h.get? P = some (PySem.W.tabObj #[])
theorem Hk.tabB_ok {k : Hk} {K : PySem.W.Frag} {h : Heap} (KX : K.In h) (e : k.tabB K h.get? = true) : k.TabH K h := fun x hx cd P ht => by
  have z := List.all_eq_true.mp e x hx
  rw [ht] at z
  obtain ⟨z1, z2⟩ := ba2 z
  refine ⟨PySem.W.codeHd_of_K KX z1, ?_⟩
  cases q : h.get? P with
  | none => rw [q] at z2; cases z2
  | some o => rw [q] at z2; rw [isTabO_ok z2]
def NoTab (K : PySem.W.Frag) (h : Heap) : Prop := ∀ P, h.get? P = some (PySem.W.tabObj #[]) → K.lookup P = none
abbrev AlT : Type := AlM × Bool
def Hk.obsG (n : Nat) (k : Hk) (g : Addr → Option Obj) : AlT := (k.obsK (frT g (cStatics :: He.asD g n)), k.tabB (frT g (cStatics :: He.asD g n)) g)
def hookM (n : Nat) (k : Hk) : PySem.W.Hook where
  α := AlT
  obs := fun s => k.obsG n s.heap.get?
  val := fun _ => (k.val, true)
  says := fun _ h => ∃ K : PySem.W.Frag, K.In h ∧ k.says K ∧ NoTab K h ∧ k.TabH K h
  of := fun _ _ e => ⟨_, frT_in, congrArg (fun z : AlT => z.1) e, fun _ z => frT_no z, Hk.tabB_ok frT_in (congrArg (fun z : AlT => z.2) e)⟩
  keeps := fun _ _ _ ⟨K, hK, c, nt, th⟩ kk => ⟨K, PySem.W.Frag.In.keeps hK kk, c, (fun P z => by
    cases q : K.lookup P with
    | none => rfl
    | some o =>
      have e := hK P o q
      have e2 := kk P o e
      rw [z] at e2
      cases e2
      rw [nt P e] at q
      cases q), fun x hx cd P ht => let ⟨a, b⟩ := th x hx cd P ht; ⟨a.keeps kk, kk _ _ b⟩⟩
theorem obsG_eq {n : Nat} {k : Hk} {g : Addr → Option Obj} {s : Shared} (h : ∀ a, g a = s.heap.get? a) : k.obsG n g = (hookM n k).obs s := by
  have e : g = s.heap.get? := funext h
  rw [e] <;> rfl
section
variable {k : Hk} {K : PySem.W.Frag}
theorem Hk.allT (c : k.says K) : k.all K = true := congrArg (fun z : AlM => z.1) c
theorem Hk.fact (c : k.says K) {f : He.Fa} (h : f ∈ k.fa) : f.ok K = true := List.all_eq_true.mp (ba2 (Hk.allT c)).1 f h
theorem Hk.const (c : k.says K) {q : Str × D} (h : q ∈ k.cs) : constB K q = true := List.all_eq_true.mp (ba2 (ba2 (ba2 (Hk.allT c)).2).2).1 q h
theorem Hk.erOk (c : k.says K) {e : ErI} (h : e ∈ k.er) : e.okB k.P K = true := List.all_eq_true.mp (ba2 (ba2 (ba2 (ba2 (Hk.allT c)).2).2).2).1 e h
theorem Hk.hdOk (c : k.says K) {e : HdE} (h : e ∈ k.hd) : e.okB k.er K = true := List.all_eq_true.mp (ba2 (ba2 (ba2 (ba2 (ba2 (Hk.allT c)).2).2).2).2).1 e h
theorem Hk.lmOk (c : k.says K) {x : Str} (h : x ∈ k.lm) : ∃ cd P, PySem.W.tabIn K x = some (cd, P) := by
  have z := List.all_eq_true.mp (ba2 (ba2 (ba2 (ba2 (ba2 (ba2 (Hk.allT c)).2).2).2).2).2).1 x h
  obtain ⟨p, e⟩ := Option.isSome_iff_exists.mp z
  exact ⟨p.1, p.2, e⟩
theorem Hk.nd (c : k.says K) : ((k.tabs K).map (·.1)).Nodup := of_decide_eq_true (ba2 (ba2 (ba2 (ba2 (ba2 (ba2 (Hk.allT c)).2).2).2).2).2).2
theorem Hk.def_ (c : k.says K) (i : Nat) {d : He.DefD} (h : k.fn[i]? = some d) : ∃ fd, FunD K d.name d.qual d.params d.body d.scope (d.dvs K) (d.kws K) (He.fAd K d.at_) fd := by
  have c2 := (ba2 (ba2 (Hk.allT c)).2).1
  have e : k.fn.map (fun d => He.fnW K d.at_) = k.fn.map He.DefD.val := congrArg (fun z : AlM => z.2.1) c
  have e2 : (k.fn.map fun d => He.fnW K d.at_)[i]? = (k.fn.map He.DefD.val)[i]? := by rw [e]
  rw [List.getElem?_map, List.getElem?_map, h] at e2
  exact He.DefD.funD (Option.some.inj e2) (List.all_eq_true.mp c2 d (List.mem_of_getElem? h))
theorem Hk.init (c : k.says K) (i : Nat) {e : ErI} (h : k.er[i]? = some e) : e.obs K = e.val := by
  have e0 : k.er.map (fun e => e.obs K) = k.er.map ErI.val := congrArg (fun z : AlM => z.2.2) c
  have e2 : (k.er.map fun e => e.obs K)[i]? = (k.er.map ErI.val)[i]? := by rw [e0]
  rw [List.getElem?_map, List.getElem?_map, h] at e2
  exact Option.some.inj e2
end
theorem nodup_key {α β : Type} {f : α → β} : ∀ {l : List α} {a b : α}, (l.map f).Nodup → a ∈ l → b ∈ l → f a = f b → a = b
  | x :: l, a, b, nd, ha, hb, e => by
    obtain ⟨n1, n2⟩ := List.nodup_cons.mp nd
    rcases List.mem_cons.mp ha with ea | ha'
    · rcases List.mem_cons.mp hb with eb | hb'
      · rw [ea, eb]
      · exact absurd (List.mem_map.mpr ⟨b, hb', by rw [← e, ea]⟩) n1
    · rcases List.mem_cons.mp hb with eb | hb'
      · exact absurd (List.mem_map.mpr ⟨a, ha', by rw [e, eb]⟩) n1
      · exact nodup_key n2 ha' hb' e
/-! ### the table -/
structure DefI where
  name : Str
  params : Arguments
  body : List Stmt
  scope : Scope
  ps : List Str
  dfl : List Int
  G : Gt
  fn : Fn
def DefI.dd (d : DefI) : He.DefD := ⟨(d.name, none), d.name, d.name, d.params, d.body, d.scope, d.dfl.map He.Dv.int, []⟩
def tabOf (ds : List DefI) : Nat → Option Fn := fun i => match ds[i]? with
  | some d => some d.fn
  | none => none
/-- what a text is read with fits the tables -/
def Gt.okB (ds : List DefI) (fr : List Str) (er : List ErI) (hd : List HdE) (G : Gt) : Bool :=
  (G.fs.all fun q => match ds[q.2.1]? with
      | some e => decide (e.name = q.1) && decide (e.fn.np = q.2.2.1) && decide (e.dfl = q.2.2.2)
      | none => false) && ((G.fr.all fun x => decide (x ∈ fr)) && ((G.er.all fun q => match er[q.2.1]? with
      | some e => decide (e.name = q.1) && decide (e.init.map (·.field) = q.2.2)
      | none => false) && ((G.hd.all fun q => hd.any fun h => decide (h.name = q.1) && decide (h.ks = q.2)) && (G.calm && decide (G.ek = none)))))
def DefI.okB (ds : List DefI) (fr : List Str) (er : List ErI) (hd : List HdE) (lm : List Str) (d : DefI) : Bool :=
  (match d.scope.kind with | .function => true | _ => false) && !d.scope.isCoroutine && !d.scope.isGenerator && decide d.G.N.Nodup && decide (d.G.N.take d.ps.length = d.ps) && (d.ps.all fun x => isLoc d.scope x) &&
    (d.scope.names.all fun y => decide (y.2 ≠ .free)) && decide (d.fn.np = d.ps.length) && decide (d.G.N.length = d.fn.ns) && decide (d.fn.np ≤ d.fn.ns) && d.G.okB ds fr er hd && (!d.G.lams || (decide (d.name ∈ lm) && decide (d.G.q = d.name ++ ".<locals>.")))
/-- how the parameters are bound -/
def DefI.Bd (d : DefI) : Prop := ∀ (K : PySem.W.Frag) (f : Addr) (fd : FuncData), FunD K d.name d.name d.params d.body d.scope (d.dfl.map V.int) [] f fd → ∀ n, n ≤ d.fn.np → d.fn.np ≤ n + d.dfl.length → ∃ vals, Binds K fd d.ps vals ∧ Vals ((d.dfl.drop (n + d.dfl.length - d.fn.np)).map V.int) vals
theorem DefI.bd0 {d : DefI} (h0 : d.dfl = []) (hn : d.fn.np = d.ps.length)
    (h : ∀ (kV doc pm : Value) (an : Option Addr) (cdv ct : Value) (us : List Value), us.length = d.ps.length → bindArgs (PySem.W.fnOf d.name d.name d.params d.body d.scope .none kV doc pm an cdv ct) ⟨us, []⟩ = pure (d.ps.zip us)) : d.Bd := fun K f fd F n h1 h2 => by
  rw [h0] at F h2 ⊢
  exact ⟨[], FunD.bindsN F h, by simp; exact .nil⟩
theorem DefI.bd1 {d : DefI} (h0 : d.dfl ≠ []) (hn : d.fn.np = d.ps.length)
    (h : ∀ n, n ≤ d.fn.np → d.fn.np ≤ n + d.dfl.length → ∀ (T : Addr) (kV doc pm : Value) (an : Option Addr) (cdv ct : Value) (us its : List Value), us.length = n → its.length = d.dfl.length →
      ∃ k, bindArgs (PySem.W.fnOf d.name d.name d.params d.body d.scope (.ref T) kV doc pm an cdv ct) ⟨us, []⟩ = seqItems? (.ref T) >>= k ∧ k (some its.toArray) = pure (d.ps.zip (us ++ its.drop (n + d.dfl.length - d.fn.np)))) : d.Bd := fun K f fd F n h1 h2 => by
  obtain ⟨vals, r, b⟩ := FunD.binds1 F n (n + d.dfl.length - d.fn.np) (by simpa using h0) (by rw [List.length_map, ← hn]; omega) fun T kV doc pm an cdv ct us its hu hi => h n h1 h2 T kV doc pm an cdv ct us its hu (by rw [hi, List.length_map])
  exact ⟨vals, b, by rw [List.map_drop]; exact r⟩
/-- what is known of the text's names -/
structure Says (ds : List DefI) (k : Hk) (fr : List Str) (K : PySem.W.Frag) (mg : Str → Option Value) (fA : Nat → Addr) : Prop where
  df : ∀ (i : Nat) (d : DefI), ds[i]? = some d → mg d.name = some (.ref (fA i)) ∧ ∃ fd, FunD K d.name d.name d.params d.body d.scope (d.dfl.map V.int) [] (fA i) fd
  cs : ∀ q ∈ k.cs, ∃ u v, mg q.1 = some u ∧ RelV v u ∧ ∀ ρ H, RepD K ρ H q.2 v
  fr : ∀ x ∈ fr, mg x = none
  er : ∀ (n : Nat) (e : ErI), k.er[n]? = some e → mg e.name = some (.ref (He.ga K e.name)) ∧ match e.init with
    | none => PlainE K (He.ga K e.name)
    | some i => FldE k.P K (He.ga K e.name) i.field ∧ XfC K (He.ga K e.name) ∧ PySem.W.findIn K (.ref (He.ga K e.name)) i.field = some none
  hd : ∀ h ∈ k.hd, ∃ cv, (mg h.name = some cv ∨ (mg h.name = none ∧ bootBuiltins h.name = some cv ∧ h.name ≠ "__name__")) ∧ ∀ (n : Nat) (e : ErI), k.er[n]? = some e → PySem.W.exmOne K (.ref (He.ga K e.name)) cv = some (h.ks.contains n)
  lm : ∀ x ∈ k.lm, ∃ cd P, PySem.W.tabIn K x = some (cd, P)
  nd : ((k.tabs K).map (·.1)).Nodup
theorem lookup_mem {α : Type} {l : List (Str × α)} {x : Str} {a : α} (h : l.lookup x = some a) : (x, a) ∈ l := PySem.mem_of_lookup h
def txOf (k : Hk) (K : PySem.W.Frag) (fA : Nat → Addr) (n : Nat) : Tx := { fa := fun i => if i < n then some (fA i) else none, ca := fun n => (k.er[n]?).map fun e => He.ga K e.name, cf := fun n => (k.er[n]?).bind fun e => e.init.map (·.field), cells := [], mkd := fun _ => False, an := fun _ _ => False, ex := none }
/-- the lambdas' tables, at the base -/
def TabsB (k : Hk) (K : PySem.W.Frag) (base : Heap) (mg : Str → Option Value) : Prop := ∀ x ∈ k.lm, ∀ cd P, PySem.W.tabIn K x = some (cd, P) → LamX.TabB base mg cd P
theorem tab_code {K : PySem.W.Frag} {x : Str} {cd P f : Addr} {fd : FuncData} {oc : Value} {od : Option Addr} {osl : Array (Option Value)} (h : PySem.W.tabIn K x = some (cd, P)) (hn : PySem.W.nsIn K mainGlobals x = some (some (.ref f))) (lk : K.lookup f = some ⟨oc, od, .func fd, osl⟩) : fd.code = .ref cd := by
  unfold PySem.W.tabIn at h
  rw [hn] at h
  dsimp only at h
  rw [lk] at h
  dsimp only at h
  split at h
  · rename_i c ec
    split at h
    · split at h
      · cases h; exact ec
      · cases h
    · cases h
  · cases h
section
variable [TabC] {P : Program} {w : World} {K : PySem.W.Frag} {mg : Str → Option Value} {base : Heap} {ds : List DefI} {k : Hk} {fr : List Str} {fA : Nat → Addr} {G0 : Gt} {m n : Nat}
/-- the parts of Cok that are the same everywhere -/
theorem cok_of (A : Says ds k fr K mg fA) (hP : k.P = P) (hbd : ∀ d ∈ ds, d.Bd) {j : Nat} {c : Cl} (ih : ∀ (i : Nat) (d : DefI), ds[i]? = some d → ∃ fd, FunD K d.name d.name d.params d.body d.scope (d.dfl.map V.int) [] (fA i) fd ∧ FnM P w K mg base j (fA i) fd d.ps (spF (txOf k K fA ds.length) K d.fn.np (c.call i)))
    (il : ∀ L, LamK L → LamM P w K mg base j (txOf k K fA ds.length) L (c.lam L)) (st : ∀ (i : Nat) (d : DefI), ds[i]? = some d → ∀ args S, args.length ≠ d.fn.np → c.call i args S = .stuck) {G : Gt} (hG : G.okB ds fr k.er k.hd = true) (hcs : G.cs = k.cs) {T : Tx} {X : Cx} {W : WX} (le : TLe (txOf k K fA ds.length).toTb T.toTb) (e1 : X.prog = P) (e2 : X.w = w) (e3 : X.K = K) (e4 : X.mg = mg) (e5 : X.base = base)
    (hN : X.N = G.N) (nd : X.N.Nodup) (gd : X.A.guards = some []) (cm : Calm X W j) (an : Anc T X) (fm : match G.lams with
      | true => LamF G T X X.env.scope
      | false => ∀ l, ¬ T.mkd l) : Cok G T X W c j X.env.scope := by
  subst e1 e2 e3 e4 e5
  unfold Gt.okB at hG
  obtain ⟨g1, hG⟩ := ba2 hG
  obtain ⟨g2, hG⟩ := ba2 hG
  obtain ⟨g3, hG⟩ := ba2 hG
  obtain ⟨g4, hG⟩ := ba2 hG
  obtain ⟨g5, g6⟩ := ba2 hG
  have fsat : ∀ x f np dl, G.fs.lookup x = some (f, np, dl) → ∃ d, ds[f]? = some d ∧ d.name = x ∧ d.fn.np = np ∧ d.dfl = dl := fun x f np dl hx => by
    have q := List.all_eq_true.mp g1 _ (lookup_mem hx)
    split at q
    · rename_i d hd
      simp only [Bool.and_eq_true, decide_eq_true_eq] at q
      exact ⟨d, hd, q.1.1, q.1.2, q.2⟩
    · cases q
  have erat : ∀ q ∈ G.er, ∃ e, k.er[q.2.1]? = some e ∧ e.name = q.1 ∧ e.init.map (·.field) = q.2.2 := fun q hq => by
    have z := List.all_eq_true.mp g3 _ hq
    split at z
    · rename_i e he
      simp only [Bool.and_eq_true, decide_eq_true_eq] at z
      exact ⟨e, he, z.1, z.2⟩
    · cases z
  have caT : ∀ n e, k.er[n]? = some e → T.ca n = some (He.ga X.K e.name) ∧ T.cf n = e.init.map (·.field) := fun n e he => by
    rw [le.ca, le.cf]
    show (k.er[n]?).map _ = _ ∧ (k.er[n]?).bind _ = _
    rw [he]
    exact ⟨rfl, rfl⟩
  exact {
    sc := rfl
    N := hN
    nd := nd
    gd := gd
    room := by have := cm.rm.un; omega
    calm := fun _ => ⟨cm, an⟩
    fr := fun x hx => A.fr x (of_decide_eq_true (List.all_eq_true.mp g2 x hx))
    cs := fun x dd hx => by
      rw [hcs] at hx
      exact A.cs _ (lookup_mem hx)
    fa := fun x f np dl hx => by
      obtain ⟨d, hd, rfl, _, _⟩ := fsat x f np dl hx
      rw [le.fa]
      exact ⟨fA f, (A.df f d hd).1, if_pos (List.getElem?_eq_some_iff.mp hd).1⟩
    fs := fun x f np dl hx n1 h1 h2 => by
      obtain ⟨d, hd, rfl, rfl, rfl⟩ := fsat x f np dl hx
      obtain ⟨fd, F, M⟩ := ih f d hd
      obtain ⟨vals, b1, b2⟩ := hbd d (List.mem_of_getElem? hd) X.K (fA f) fd F n1 h1 h2
      rw [spF_eq le]
      exact ⟨fA f, fd, d.ps, vals, (A.df f d hd).1, F.kp, M, b1, b2⟩
    ls := fun L h => (il L h).le le
    fi := ⟨fun f fa h => by
      rw [le.fa] at h
      have h : (if f < ds.length then some (fA f) else none) = some fa := h
      split at h
      case isFalse => cases h
      rename_i hf
      cases h
      have hd : ds[f]? = some ds[f] := List.getElem?_eq_getElem hf
      obtain ⟨fd, F, M⟩ := ih f _ hd
      obtain ⟨vals, b1, b2⟩ := hbd _ (List.mem_of_getElem? hd) X.K (fA f) fd F ds[f].fn.np (Nat.le_refl _) (Nat.le_add_right _ _)
      have e0 : (ds[f].dfl.drop (ds[f].fn.np + ds[f].dfl.length - ds[f].fn.np)) = [] := List.drop_eq_nil_of_le (by omega)
      rw [e0] at b2
      cases b2
      exact ⟨ds[f].fn.np, fd, ds[f].ps, F.kp, by rw [spF_eq le]; exact M, b1, st f _ hd⟩⟩
    fm := fm
    er := fun x n o hx => by
      obtain ⟨e, he, e1, e2⟩ := erat _ (lookup_mem hx)
      dsimp only at e1 e2 he
      obtain ⟨q1, q2⟩ := A.er n e he
      obtain ⟨c1, c2⟩ := caT n e he
      subst e1
      refine ⟨_, q1, c1, by rw [c2, e2], ?_⟩
      cases hi : e.init with
      | none =>
        rw [hi] at q2 e2
        subst e2
        exact q2
      | some i =>
        rw [hi] at q2 e2
        subst e2
        rw [← hP]
        exact q2.1
    ex := fun n f hx => by
      obtain ⟨q, hq, z⟩ := List.any_eq_true.mp hx
      simp only [Bool.and_eq_true, decide_eq_true_eq] at z
      obtain ⟨e, he, e1, e2⟩ := erat q hq
      rw [z.1] at he
      rw [z.2] at e2
      obtain ⟨q1, q2⟩ := A.er n e he
      obtain ⟨c1, c2⟩ := caT n e he
      cases hi : e.init with
      | none => rw [hi] at e2; cases e2
      | some i =>
        rw [hi] at q2 e2
        have ef : i.field = f := Option.some.inj e2
        subst ef
        exact ⟨_, c1, by rw [c2, hi]; rfl, q2.2.1, q2.2.2⟩
    hd := fun x ks hx => by
      have z := List.all_eq_true.mp g4 _ (lookup_mem hx)
      obtain ⟨h, hh, z⟩ := List.any_eq_true.mp z
      simp only [Bool.and_eq_true, decide_eq_true_eq] at z
      obtain ⟨rfl, rfl⟩ := z
      obtain ⟨cv, q1, q2⟩ := A.hd h hh
      refine ⟨cv, q1, fun n C hC => ?_⟩
      rw [le.ca] at hC
      have hC : (k.er[n]?).map (fun e => He.ga X.K e.name) = some C := hC
      cases he : k.er[n]? with
      | none => rw [he] at hC; cases hC
      | some e =>
        rw [he] at hC
        cases hC
        exact q2 n e he
    ek := fun n hn => by
      rw [of_decide_eq_true g6] at hn
      cases hn }
theorem env_qual {qual : Str} {scope : Scope} {L f : Addr} {cdv : Value} : (envOfC qual scope L f cdv).qual = qual ++ ".<locals>." := rfl
theorem env_code {qual : Str} {scope : Scope} {L f : Addr} {cdv : Value} : (envOfC qual scope L f cdv).code = cdv := rfl
/-- each def, each lambda does what the evaluator tells, at every depth of calls -/
theorem all_ok (A : Says ds k fr K mg fA) (hP : k.P = P) (TB : TabsB k K base mg) (hT : TabC.tabs = k.tabs K) (hns : ∀ x f, mg x = some (.ref f) → x ∈ k.lm → PySem.W.nsIn K mainGlobals x = some (some (.ref f)))
    (hok : ∀ d ∈ ds, d.okB ds fr k.er k.hd k.lm = true) (hcs : ∀ d ∈ ds, d.G.cs = k.cs) (hbd : ∀ d ∈ ds, d.Bd) (hb : ∀ d ∈ ds, d.fn.body = cBody d.G m n d.scope d.body) (hG0 : G0.okB ds fr k.er k.hd = true) (hcs0 : G0.cs = k.cs) :
    ∀ j : Nat, (∀ (i : Nat) (d : DefI), ds[i]? = some d → ∃ fd, FunD K d.name d.name d.params d.body d.scope (d.dfl.map V.int) [] (fA i) fd ∧ FnM P w K mg base j (fA i) fd d.ps (spF (txOf k K fA ds.length) K d.fn.np ((cls (tabOf ds) (lamFn G0 m) j).call i))) ∧
      ∀ L, LamK L → LamM P w K mg base j (txOf k K fA ds.length) L ((cls (tabOf ds) (lamFn G0 m) j).lam L) := by
  intro j
  induction j with
  | zero =>
    refine ⟨fun i d hd => ?_, fun L _ => ⟨fun A outer s H an g cl pm c' ctv ws vals S ρ Q E a1 a2 a3 a4 a5 a6 a7 a8 a9 h => h.elim⟩⟩
    obtain ⟨fd, F⟩ := (A.df i d hd).2
    exact ⟨fd, F, fun an vs H Q E ⟨_, _, _, _, _, _, h⟩ => h.elim, fun _ _ _ _ _ _ _ _ _ _ _ _ _ _ _ _ ⟨_, _, _, _, _, _, h⟩ => h.elim⟩
  | succ j ih =>
    obtain ⟨ih, il⟩ := ih
    have hst : ∀ (i : Nat) (d : DefI), ds[i]? = some d → ∀ args S, args.length ≠ d.fn.np → (cls (tabOf ds) (lamFn G0 m) j).call i args S = .stuck := fun i d hd args S hn => by
      cases j with
      | zero => rfl
      | succ j =>
        show (match tabOf ds i with
          | some fd => runFn fd (cls (tabOf ds) (lamFn G0 m) j) args S
          | none => .stuck) = _
        unfold tabOf
        rw [hd]
        show runFn d.fn _ args S = _
        unfold runFn
        rw [if_neg hn]
    refine ⟨fun i d hd => ?_, fun L hL => ?_⟩
    · have hm : d ∈ ds := List.mem_of_getElem? hd
      obtain ⟨fd, F⟩ := (A.df i d hd).2
      have ok := hok d hm
      unfold DefI.okB at ok
      simp only [Bool.and_eq_true, decide_eq_true_eq, Bool.not_eq_true', List.all_eq_true] at ok
      obtain ⟨⟨⟨⟨⟨⟨⟨⟨⟨⟨⟨o1, o2⟩, o3⟩, o4⟩, o5⟩, o6⟩, o7⟩, o8⟩, o9⟩, o10⟩, o11⟩, o12⟩ := ok
      have kd : d.scope.kind = .function := by
        split at o1
        · assumption
        · cases o1
      have Sc : FnScope d.G.N d.ps d.scope := ⟨kd, o2, o3, o4, o5, fun x hx => loc_of (o6 x hx), fun y hy => o7 y hy⟩
      have e : (cls (tabOf ds) (lamFn G0 m) (j + 1)).call i = runFn d.fn (cls (tabOf ds) (lamFn G0 m) j) := by
        funext args S
        show (match tabOf ds i with
          | some fd => runFn fd (cls (tabOf ds) (lamFn G0 m) j) args S
          | none => .stuck) = _
        unfold tabOf
        rw [hd]
      rw [e]
      refine ⟨fd, F, fn_spF (mkd := match d.G.lams with
        | true => mkdOf d.scope
        | false => fun _ => False) F Sc o8 o9 o10 fun cdv Ar outer s H E an hcd hA hr hgd => ?_⟩
      rw [hb d hm]
      have hek : d.G.calm = true → d.G.ek = none := fun _ => by
        unfold Gt.okB at o11
        exact of_decide_eq_true (ba2 (ba2 (ba2 (ba2 (ba2 o11).2).2).2).2).2
      refine snd_body (k := j) hek { cok_of (T := (txOf k K fA ds.length).def_ (match d.G.lams with
        | true => mkdOf d.scope
        | false => fun _ => False) (envOfC d.name d.scope s.heap.objs.size (fA i) cdv).cells an) (X := cxOf (L2.CX P w) P w K mg base d.G.N d.name d.scope (fA i) cdv Ar outer s H E) A hP hbd ih il hst o11 (hcs d hm) ⟨rfl, rfl, rfl, fun _ _ z => z.elim⟩ rfl rfl rfl rfl rfl rfl o4 hgd ⟨rfl, hr, takes_of (X := cxOf (L2.CX P w) P w K mg base d.G.N d.name d.scope (fA i) cdv Ar outer s H E) (E := E) rfl rfl rfl rfl⟩ ⟨fun c u z => ⟨(hA c u z).1, (hA c u z).2, fun y => nomatch (show c ∈ ([] : List Addr) from y)⟩, rfl⟩ ?_ with
        po := fun _ => ⟨passes_of (X := cxOf (L2.CX P w) P w K mg base d.G.N d.name d.scope (fA i) cdv Ar outer s H E) (K := fun e s'' => L2.CX P w outer H s E e s'') rfl, rfl, rfl⟩, fn := fun _ => rfl, kd := kd } m n d.body
      cases hl : d.G.lams with
      | false => exact fun _ z => z
      | true =>
        rw [hl] at o12
        simp only [Bool.not_true, Bool.false_or, Bool.and_eq_true, decide_eq_true_eq] at o12
        obtain ⟨l1, l2⟩ := o12
        obtain ⟨cd, Pt, ht⟩ := A.lm _ l1
        obtain ⟨oc, od, dV, kV, doc, pm, an', cdv', ct, osl, efd, lk, _⟩ := F.ex
        have ec : fd.code = .ref cd := tab_code ht (hns _ _ (A.df i d hd).1 l1) lk
        refine ⟨⟨rfl, rfl, fun L hL y hy => hL y hy⟩, ?_, fun L hL => hL, cd, Pt, TB _ l1 _ _ ht, ?_, ?_, fun p hp hpe => ?_⟩
        · show d.name ++ ".<locals>." = d.G.q
          exact l2.symm
        · show cdv = _
          rw [← hcd]
          exact ec
        · rw [hT, l2]
          exact List.mem_filterMap.mpr ⟨d.name, l1, by rw [ht]; rfl⟩
        · rw [hT] at hp
          have hin : (Pt, d.G.q ++ "<lambda>") ∈ k.tabs K := by rw [l2]; exact List.mem_filterMap.mpr ⟨d.name, l1, by rw [ht]; rfl⟩
          have := nodup_key A.nd hp hin hpe
          rw [this]
    · show LamM P w K mg base (j + 1) (txOf k K fA ds.length) L (runFn (lamFn G0 m L) (cls (tabOf ds) (lamFn G0 m) j))
      cases hx : (comp { G0 with N := L.caps, lams := false } m).e L.scope L.body with
      | none =>
        refine ⟨fun A outer s H an g cl pm c' ctv ws vals S ρ Q E a1 a2 a3 a4 a5 a6 a7 a8 a9 h => ?_⟩
        have eb : (lamFn G0 m L).body = sNo := by
          unfold lamFn
          dsimp only
          rw [hx]
        unfold runFn at h
        rw [eb] at h
        split at h
        · exact h.elim
        · exact h.elim
      | some xe =>
        have eb : (lamFn G0 m L).body = sRet xe := by
          unfold lamFn
          dsimp only
          rw [hx]
        have hek : G0.ek = none := by
          unfold Gt.okB at hG0
          exact of_decide_eq_true (ba2 (ba2 (ba2 (ba2 (ba2 hG0).2).2).2).2).2
        refine lam_spF (N := L.caps) hL (List.take_length) rfl rfl eb fun Ar outer s H E an g cl c' hA hr hgd => ?_
        have G1 : ({ G0 with N := L.caps, lams := false } : Gt).okB ds fr k.er k.hd = true := hG0
        refine (snd_comp m { G0 with N := L.caps, lams := false } (fun _ => hek)).e (cok_of (T := (txOf k K fA ds.length).def_ (fun _ => False) cl an) (X := lamC P w K mg base L.caps L cl g c' Ar outer s H E) A hP hbd ih il hst G1 hcs0 ⟨rfl, rfl, rfl, fun _ _ z => z.elim⟩ rfl rfl rfl rfl rfl rfl hL.nd hgd ⟨rfl, hr, takes_of (X := lamC P w K mg base L.caps L cl g c' Ar outer s H E) (E := E) rfl rfl rfl rfl⟩ ⟨fun c u z => ⟨(hA c u z).1, (hA c u z).2, fun y => nomatch (show c ∈ ([] : List Addr) from y)⟩, rfl⟩ (fun _ z => z)) hx
end
end Mk
/-! Mf1: what lies in the store ahead makes no difference. -/
namespace Mk
open PySem (PyData Str)
mutual
/-- the store's objects n places on -/
def sh (n : Nat) : Vl → Vl
  | .r i => .r (i + n)
  | .tv xs => .tv (shs n xs)
  | .lv xs => .lv (shs n xs)
  | .cv l xs => .cv l (shs n xs)
  | .d x => .d x
  | .sc xs => .sc xs
  | .fn f => .fn f
  | .co l => .co l
  | .ex k x => .ex k x
def shs (n : Nat) : List Vl → List Vl
  | [] => []
  | x :: xs => sh n x :: shs n xs
end
theorem shs_map (n : Nat) : ∀ xs : List Vl, shs n xs = xs.map (sh n)
  | [] => rfl
  | x :: xs => by unfold shs; rw [shs_map n xs]; rfl
def shE (n : Nat) (γ : Env) : Env := γ.map fun o => o.map (sh n)
def shR {α : Type} (f : α → α) (S0 : Store) : R α → R α
  | .ok a T => .ok (f a) (S0 ++ T)
  | .er k x T => .er k x (S0 ++ T)
  | .stuck => .stuck
def shRS (n : Nat) (S0 : Store) : RS → RS
  | .nx γ T => .nx (shE n γ) (S0 ++ T)
  | .rt v T => .rt (sh n v) (S0 ++ T)
  | .bk γ T => .bk (shE n γ) (S0 ++ T)
  | .ct γ T => .ct (shE n γ) (S0 ++ T)
  | .er k x γ T => .er k x (shE n γ) (S0 ++ T)
  | .stuck => .stuck
def shI (n : Nat) : Itr → Itr
  | .its xs => .its (xs.map (sh n))
  | .ref i => .ref (i + n)
section
variable {S0 T : Store} {γ : Env} {n : Nat}
theorem app_get (S0 T : Store) (i : Nat) : (S0 ++ T)[i + S0.length]? = T[i]? := by
  rw [List.getElem?_append_right (by omega), Nat.add_sub_cancel]
theorem app_set (S0 T : Store) (i : Nat) (o : Ob) : (S0 ++ T).set (i + S0.length) o = S0 ++ T.set i o := by
  rw [List.set_append_right _ _ (by omega), Nat.add_sub_cancel]
theorem app_take (S0 T : Store) (i : Nat) : (S0 ++ T).take (i + S0.length) = S0 ++ T.take i := by
  rw [List.take_append, Nat.add_sub_cancel, List.take_of_length_le (by omega)]
theorem app_len (S0 T : Store) : (S0 ++ T).length = T.length + S0.length := by rw [List.length_append, Nat.add_comm]
theorem shE_get (n i : Nat) : (shE n γ)[i]? = (γ[i]?).map fun o => o.map (sh n) := by unfold shE; rw [List.getElem?_map]
theorem shE_set (n i : Nat) (v : Vl) : (shE n γ).set i (some (sh n v)) = shE n (γ.set i (some v)) := by unfold shE; rw [List.map_set]; rfl
theorem shE_set0 (n i : Nat) : (shE n γ).set i none = shE n (γ.set i none) := by unfold shE; rw [List.map_set]; rfl
theorem shR_bind {α β : Type} {f : α → α} {h : β → β} {m : R α} {g g' : α → Store → R β} (k : ∀ a T, g' (f a) (S0 ++ T) = shR h S0 (g a T)) : (shR f S0 m).bind g' = shR h S0 (m.bind g) := by
  cases m with
  | ok a T => exact k a T
  | er c x T => rfl
  | stuck => rfl
theorem shR_next {α : Type} {f : α → α} {m : R α} {g g' : α → Store → RS} (k : ∀ a T, g' (f a) (S0 ++ T) = shRS n S0 (g a T)) : (shR f S0 m).next (shE n γ) g' = shRS n S0 (m.next γ g) := by
  cases m with
  | ok a T => exact k a T
  | er c x T => rfl
  | stuck => rfl
theorem dat_sh (v : Vl) : dat (S0 ++ T) (sh S0.length v) = dat T v := by
  cases v <;> unfold sh <;> try rfl
  unfold dat
  dsimp only
  rw [app_get]
theorem lit_sh (v : Vl) : lit (S0 ++ T) (sh S0.length v) = (lit T v).map (List.map (sh S0.length)) := by
  cases v with
  | d x => cases x <;> unfold sh lit <;> try rfl
           simp [List.map_map, Function.comp_def, sh]
  | r i =>
    unfold sh lit
    dsimp only
    rw [app_get]
    cases T[i]? with
    | none => rfl
    | some o =>
      cases o with
      | lst xs => simp [List.map_map, Function.comp_def, sh]
      | dct kvs => rfl
  | lv xs => unfold sh lit; rw [shs_map]; rfl
  | _ => unfold sh; rfl
theorem dko_sh (v : Vl) : dko (S0 ++ T) (sh S0.length v) = dko T v := by
  cases v with
  | r i =>
    show (match (S0 ++ T)[i + S0.length]? with
      | some (.dct kvs) => some kvs
      | _ => none) = (match T[i]? with
      | some (.dct kvs) => some kvs
      | _ => none)
    rw [app_get]
  | d x => cases x <;> rfl
  | _ => rfl
theorem inD_sh (x y : Vl) : inD (sh S0.length x) (sh S0.length y) (S0 ++ T) = inD x y T := by
  unfold inD
  rw [dko_sh]
  cases dko T y with
  | none => cases x <;> rfl
  | some kvs => cases x <;> rfl
theorem mkDct_sh (m : Bool) (kvs : List (D × D)) : mkDct m kvs (S0 ++ T) = shR (sh S0.length) S0 (mkDct m kvs T) := by
  cases m with
  | false => rfl
  | true =>
    show R.ok (.r (S0 ++ T).length) (S0 ++ T ++ [.dct kvs]) = R.ok (sh S0.length (.r T.length)) (S0 ++ (T ++ [.dct kvs]))
    rw [app_len, List.append_assoc]
    rfl
theorem allD_sh : ∀ xs : List Vl, allD (xs.map (sh n)) = allD xs
  | [] => rfl
  | .d x :: xs => by
    show (match allD (xs.map (sh n)) with
      | some ys => some (x :: ys)
      | none => none) = _
    rw [allD_sh xs]
    rfl
  | .r _ :: _ => rfl
  | .sc _ :: _ => rfl
  | .fn _ :: _ => rfl
  | .tv _ :: _ => rfl
  | .lv _ :: _ => rfl
  | .co _ :: _ => rfl
  | .cv _ _ :: _ => rfl
  | .ex _ _ :: _ => rfl
theorem mkTup_sh (xs : List Vl) : mkTup (xs.map (sh n)) = sh n (mkTup xs) := by
  unfold mkTup
  rw [allD_sh]
  cases allD xs with
  | some ds => rfl
  | none => show _ = sh n (.tv xs); unfold sh; rw [shs_map]
theorem mkLst_sh (m : Bool) (xs : List D) : mkLst m xs (S0 ++ T) = shR (sh S0.length) S0 (mkLst m xs T) := by
  cases m with
  | false => rfl
  | true =>
    show R.ok (.r (S0 ++ T).length) (S0 ++ T ++ [.lst xs]) = R.ok (sh S0.length (.r T.length)) (S0 ++ (T ++ [.lst xs]))
    rw [app_len, List.append_assoc]
    rfl
theorem sh_d (n : Nat) (x : D) : sh n (.d x) = .d x := rfl
/-- a value that is data -/
theorem sh_eq_d {v : Vl} {x : D} : sh n v = .d x ↔ v = .d x := by
  constructor
  · intro h; cases v <;> first | exact h | (unfold sh at h; cases h)
  · rintro rfl; rfl
theorem bin_sh (o : BO) (m : Bool) (x y : Vl) : bin o m (sh S0.length x) (sh S0.length y) (S0 ++ T) = shR (sh S0.length) S0 (bin o m x y T) := by
  cases o with
  | add =>
    unfold bin
    dsimp only
    rw [dat_sh, dat_sh, lit_sh, lit_sh]
    cases h1 : dat T x with
    | none =>
      cases dat T y with
      | _ =>
      cases lit T x with
      | none => rfl
      | some xs =>
        cases lit T y with
        | none => rfl
        | some ys =>
          dsimp only [Option.map]
          rw [List.length_map, List.length_map]
          split
          · show R.ok _ _ = R.ok (sh _ (.lv (xs ++ ys))) _
            unfold sh; rw [shs_map, List.map_append]
          · rfl
    | some a =>
      cases h2 : dat T y with
      | none =>
        cases a <;> (
          cases lit T x with
          | none => rfl
          | some xs =>
            cases lit T y with
            | none => rfl
            | some ys =>
              dsimp only [Option.map]
              rw [List.length_map, List.length_map]
              split
              · show R.ok _ _ = R.ok (sh _ (.lv (xs ++ ys))) _
                unfold sh; rw [shs_map, List.map_append]
              · rfl)
      | some b =>
        cases a <;> cases b <;> dsimp only <;> first
          | rfl
          | (split <;> rfl)
          | (split <;> first | rfl | exact mkLst_sh _ _)
          | (cases lit T x with
              | none => rfl
              | some xs =>
                cases lit T y with
                | none => rfl
                | some ys =>
                  dsimp only [Option.map]
                  rw [List.length_map, List.length_map]
                  split
                  · show R.ok _ _ = R.ok (sh _ (.lv (xs ++ ys))) _
                    unfold sh; rw [shs_map, List.map_append]
                  · rfl)
  | mul =>
    unfold bin
    dsimp only
    rw [dat_sh]
    cases y with
    | d b =>
      rw [sh_d]
      cases dat T x with
      | none => rfl
      | some a =>
        cases a <;> cases b <;> dsimp only <;> first
          | rfl
          | (split <;> first | rfl | exact mkLst_sh _ _)
    | _ =>
      cases dat T x with
      | none => rfl
      | some a => cases a <;> rfl
  | _ =>
    cases x with
    | d a =>
      cases y with
      | d b => cases a <;> cases b <;> first | rfl | (unfold bin; dsimp only [sh]; split <;> rfl)
      | _ => cases a <;> rfl
    | _ => rfl
theorem cmp_sh (o : CO) (x y : Vl) : cmp o (sh S0.length x) (sh S0.length y) (S0 ++ T) = cmp o x y T := by
  cases o with
  | eq => unfold cmp; dsimp only; rw [dat_sh, dat_sh]
  | ne => unfold cmp; dsimp only; rw [dat_sh, dat_sh]
  | inn => unfold cmp; dsimp only; rw [dat_sh, dat_sh, inD_sh]
  | notIn => unfold cmp; dsimp only; rw [dat_sh, dat_sh, inD_sh]
  | isN =>
    cases y with
    | d b => cases b <;> first | rfl | (cases x <;> first | rfl | (rename_i a; cases a <;> rfl))
    | _ => cases x <;> rfl
  | isNotN =>
    cases y with
    | d b => cases b <;> first | rfl | (cases x <;> first | rfl | (rename_i a; cases a <;> rfl))
    | _ => cases x <;> rfl
  | _ =>
    cases x with
    | d a =>
      cases y with
      | d b => rfl
      | _ => cases a <;> rfl
    | _ => rfl
theorem tru_sh (x : Vl) : tru (S0 ++ T) (sh S0.length x) = tru T x := by unfold tru; rw [dat_sh]
theorem at_map {α β : Type} (f : α → β) (xs : List α) (i : Int) : at? (xs.map f) i = (at? xs i).map f := by
  unfold at?
  rw [List.length_map]
  split
  · rw [List.getElem?_map]
  · split
    · rw [List.getElem?_map]
    · rfl
theorem ixS_sh (x y : Vl) : ixS (sh S0.length x) (sh S0.length y) (S0 ++ T) = shR (sh S0.length) S0 (ixS x y T) := by
  cases y with
  | d b =>
    rw [sh_d]
    cases x with
    | sc xs =>
      cases b with
      | int i =>
        show (match at? xs i with
          | some v => R.ok (Vl.d v) (S0 ++ T)
          | none => .stuck) = shR _ S0 (match at? xs i with
          | some v => R.ok (Vl.d v) T
          | none => .stuck)
        cases at? xs i <;> rfl
      | _ => rfl
    | lv xs =>
      cases b with
      | int i =>
        show (match at? (shs S0.length xs) i with
          | some v => R.ok v (S0 ++ T)
          | none => .stuck) = shR _ S0 (match at? xs i with
          | some v => R.ok v T
          | none => .stuck)
        rw [shs_map, at_map]
        cases at? xs i <;> rfl
      | _ => rfl
    | tv xs =>
      cases b with
      | int i =>
        show (match at? (shs S0.length xs) i with
          | some v => R.ok v (S0 ++ T)
          | none => .stuck) = shR _ S0 (match at? xs i with
          | some v => R.ok v T
          | none => .stuck)
        rw [shs_map, at_map]
        cases at? xs i <;> rfl
      | _ => rfl
    | _ => rfl
  | _ => cases x <;> rfl
theorem ixD_sh (x y : Vl) : (match dko (S0 ++ T) (sh S0.length x), sh S0.length y with
    | some kvs, .d k => if isK k then match getK kvs k with
      | some v => R.ok (Vl.d v) (S0 ++ T)
      | none => .stuck else .stuck
    | _, _ => ixS (sh S0.length x) (sh S0.length y) (S0 ++ T)) = shR (sh S0.length) S0 (match dko T x, y with
    | some kvs, .d k => if isK k then match getK kvs k with
      | some v => R.ok (Vl.d v) T
      | none => .stuck else .stuck
    | _, _ => ixS x y T) := by
  have q := ixS_sh (S0 := S0) (T := T) x y
  rw [dko_sh]
  cases dko T x with
  | none => exact q
  | some kvs =>
    cases y with
    | d k =>
      rw [sh_d]
      dsimp only
      split
      · cases getK kvs k <;> rfl
      · rfl
    | _ => exact q
theorem ix_sh (x y : Vl) : ix (sh S0.length x) (sh S0.length y) (S0 ++ T) = shR (sh S0.length) S0 (ix x y T) := by
  have q := ixD_sh (S0 := S0) (T := T) x y
  unfold ix
  rw [dat_sh]
  cases y with
  | d b =>
    rw [sh_d] at q ⊢
    cases dat T x with
    | none => exact q
    | some a =>
      cases a <;> cases b <;> first
        | exact q
        | (dsimp only
           rename_i xs i
           cases at? xs i <;> rfl)
        | (dsimp only
           split
           · rename_i z i _
             cases at? z.cps.toList i <;> rfl
           · rfl)
  | _ =>
    cases dat T x with
    | none => exact q
    | some a => cases a <;> exact q
theorem sl_sh (m : Bool) (x : Vl) (lo hi : Option Int) : sl m (sh S0.length x) lo hi (S0 ++ T) = shR (sh S0.length) S0 (sl m x lo hi T) := by
  unfold sl
  rw [dat_sh]
  cases dat T x with
  | none => rfl
  | some a => cases a <;> first | rfl | exact mkLst_sh _ _
/-! ### built-ins -/
abbrev FrB (f : List Vl → Store → R Vl) : Prop := ∀ (S0 T : Store) (xs : List Vl), f (xs.map (sh S0.length)) (S0 ++ T) = shR (sh S0.length) S0 (f xs T)
theorem fb_len : FrB bLen := by
  intro S0 T xs
  have key : ∀ x : Vl, (match dat (S0 ++ T) (sh S0.length x) with
        | some (.list xs) => R.ok (I xs.length) (S0 ++ T)
        | some (.tuple xs) => .ok (I xs.length) (S0 ++ T)
        | some (.str a) => if a.length ≤ LINE then .ok (I a.length) (S0 ++ T) else .stuck
        | _ => match dko (S0 ++ T) (sh S0.length x) with
          | some kvs => .ok (I kvs.length) (S0 ++ T)
          | none => .stuck) = shR (sh S0.length) S0 (match dat T x with
        | some (.list xs) => R.ok (I xs.length) T
        | some (.tuple xs) => .ok (I xs.length) T
        | some (.str a) => if a.length ≤ LINE then .ok (I a.length) T else .stuck
        | _ => match dko T x with
          | some kvs => .ok (I kvs.length) T
          | none => .stuck) := fun x => by
    rw [dat_sh, dko_sh]
    cases dat T x with
    | none => cases dko T x <;> rfl
    | some a => cases a <;> first | rfl | (dsimp only; split <;> rfl) | (cases dko T x <;> rfl)
  match xs with
  | [] => rfl
  | [x] =>
    cases x with
    | sc xs => rfl
    | lv xs => show R.ok (I (shs _ xs).length) _ = _; rw [shs_map, List.length_map]; rfl
    | tv xs => show R.ok (I (shs _ xs).length) _ = _; rw [shs_map, List.length_map]; rfl
    | d a => exact key _
    | r i => exact key _
    | _ => rfl
  | x :: y :: r => cases x <;> rfl
theorem fb_sorted (m : Bool) : FrB (bSorted m) := by
  intro S0 T xs
  match xs with
  | [] => rfl
  | [x] =>
    show (match dat (S0 ++ T) (sh S0.length x) with
      | some (.list ys) => match allInt ys with
        | some is => mkLst m ((sortI is).map .int) (S0 ++ T)
        | none => .stuck
      | _ => match dko (S0 ++ T) (sh S0.length x) with
        | some kvs => match allInt (kvs.map (·.1)) with
          | some is => if is.length < 64 then mkLst m ((sortI is).map .int) (S0 ++ T) else .stuck
          | none => .stuck
        | none => .stuck) = shR (sh S0.length) S0 (match dat T x with
      | some (.list ys) => match allInt ys with
        | some is => mkLst m ((sortI is).map .int) T
        | none => .stuck
      | _ => match dko T x with
        | some kvs => match allInt (kvs.map (·.1)) with
          | some is => if is.length < 64 then mkLst m ((sortI is).map .int) T else .stuck
          | none => .stuck
        | none => .stuck)
    have key : (match dko T x with
        | some kvs => match allInt (kvs.map (·.1)) with
          | some is => if is.length < 64 then mkLst m ((sortI is).map .int) (S0 ++ T) else .stuck
          | none => .stuck
        | none => .stuck) = shR (sh S0.length) S0 (match dko T x with
        | some kvs => match allInt (kvs.map (·.1)) with
          | some is => if is.length < 64 then mkLst m ((sortI is).map .int) T else .stuck
          | none => .stuck
        | none => .stuck) := by
      cases dko T x with
      | none => rfl
      | some kvs =>
        dsimp only
        cases allInt (kvs.map (·.1)) with
        | none => rfl
        | some is =>
          dsimp only
          split
          · exact mkLst_sh m _
          · rfl
    rw [dat_sh, dko_sh]
    cases dat T x with
    | none => exact key
    | some a =>
      cases a <;> first
        | exact key
        | (dsimp only
           rename_i ys
           cases allInt ys with
           | none => rfl
           | some is => exact mkLst_sh m _)
  | x :: y :: r => rfl
theorem fb_abs : FrB bAbs := by
  intro S0 T xs
  match xs with
  | [] => rfl
  | [x] => cases x with
    | d a => cases a <;> rfl
    | _ => rfl
  | x :: y :: r => cases x with
    | d a => cases a <;> rfl
    | _ => rfl
theorem fb_max : FrB bMax := by
  intro S0 T xs
  match xs with
  | [] => rfl
  | [x] => cases x with
    | d a => cases a <;> rfl
    | _ => rfl
  | [x, y] => cases x with
    | d a => cases y with
      | d b => cases a <;> cases b <;> rfl
      | _ => cases a <;> rfl
    | _ => rfl
  | x :: y :: z :: r => cases x with
    | d a => cases y with
      | d b => cases a <;> cases b <;> rfl
      | _ => cases a <;> rfl
    | _ => rfl
theorem fb_min : FrB bMin := by
  intro S0 T xs
  match xs with
  | [] => rfl
  | [x] => cases x with
    | d a => cases a <;> rfl
    | _ => rfl
  | [x, y] => cases x with
    | d a => cases y with
      | d b => cases a <;> cases b <;> rfl
      | _ => cases a <;> rfl
    | _ => rfl
  | x :: y :: z :: r => cases x with
    | d a => cases y with
      | d b => cases a <;> cases b <;> rfl
      | _ => cases a <;> rfl
    | _ => rfl
theorem fb_int : FrB bInt := by
  intro S0 T xs
  match xs with
  | [] => rfl
  | [x] => cases x with
    | d a => cases a <;> rfl
    | _ => rfl
  | x :: y :: r => cases x with
    | d a => cases a <;> rfl
    | _ => rfl
theorem fb_repr : FrB bRepr := by
  intro S0 T xs
  match xs with
  | [] => rfl
  | [x] =>
    show (match dat (S0 ++ T) (sh S0.length x) with
      | some a => if reprOk a then R.ok (Vl.d (.str a.shown)) (S0 ++ T) else .stuck
      | none => .stuck) = shR _ S0 (match dat T x with
      | some a => if reprOk a then R.ok (Vl.d (.str a.shown)) T else .stuck
      | none => .stuck)
    rw [dat_sh]
    cases dat T x with
    | none => rfl
    | some a => dsimp only; split <;> rfl
  | x :: y :: r => rfl
theorem fb_tuple : FrB bTuple := by
  intro S0 T xs
  match xs with
  | [] => rfl
  | [x] =>
    show (match dat (S0 ++ T) (sh S0.length x) with
      | some (.list xs) => R.ok (Vl.d (.tuple xs)) (S0 ++ T)
      | some (.tuple xs) => R.ok (Vl.d (.tuple xs)) (S0 ++ T)
      | _ => .stuck) = shR _ S0 (match dat T x with
      | some (.list xs) => R.ok (Vl.d (.tuple xs)) T
      | some (.tuple xs) => R.ok (Vl.d (.tuple xs)) T
      | _ => .stuck)
    rw [dat_sh]
    cases dat T x with
    | none => rfl
    | some a => cases a <;> rfl
  | x :: y :: r => rfl
theorem fb_list (m : Bool) : FrB (bList m) := by
  intro S0 T xs
  match xs with
  | [] => rfl
  | [x] =>
    show (match dat (S0 ++ T) (sh S0.length x) with
      | some (.list xs) => mkLst m xs (S0 ++ T)
      | some (.tuple xs) => mkLst m xs (S0 ++ T)
      | _ => .stuck) = shR _ S0 (match dat T x with
      | some (.list xs) => mkLst m xs T
      | some (.tuple xs) => mkLst m xs T
      | _ => .stuck)
    rw [dat_sh]
    cases dat T x with
    | none => rfl
    | some a => cases a <;> first | rfl | exact mkLst_sh _ _
  | x :: y :: r => rfl
theorem fb_all : FrB bAll := by
  intro S0 T xs
  match xs with
  | [] => rfl
  | [x] =>
    show (match dat (S0 ++ T) (sh S0.length x) with
      | some (.list xs) => match allT xs with
        | some b => R.ok (B b) (S0 ++ T)
        | none => .stuck
      | _ => .stuck) = shR _ S0 (match dat T x with
      | some (.list xs) => match allT xs with
        | some b => R.ok (B b) T
        | none => .stuck
      | _ => .stuck)
    rw [dat_sh]
    cases dat T x with
    | none => rfl
    | some a => cases a <;> first | rfl | (rename_i ys; dsimp only; cases allT ys <;> rfl)
  | x :: y :: r => rfl
theorem fb_any : FrB bAny := by
  intro S0 T xs
  match xs with
  | [] => rfl
  | [x] =>
    show (match dat (S0 ++ T) (sh S0.length x) with
      | some (.list xs) => match anyT xs with
        | some b => R.ok (B b) (S0 ++ T)
        | none => .stuck
      | _ => .stuck) = shR _ S0 (match dat T x with
      | some (.list xs) => match anyT xs with
        | some b => R.ok (B b) T
        | none => .stuck
      | _ => .stuck)
    rw [dat_sh]
    cases dat T x with
    | none => rfl
    | some a => cases a <;> first | rfl | (rename_i ys; dsimp only; cases anyT ys <;> rfl)
  | x :: y :: r => rfl
theorem fb_sum : FrB bSum := by
  intro S0 T xs
  match xs with
  | [] => rfl
  | [x] =>
    show (match dat (S0 ++ T) (sh S0.length x) with
      | some (.list xs) => match sumI xs with
        | some s => R.ok (I s) (S0 ++ T)
        | none => .stuck
      | _ => .stuck) = shR _ S0 (match dat T x with
      | some (.list xs) => match sumI xs with
        | some s => R.ok (I s) T
        | none => .stuck
      | _ => .stuck)
    rw [dat_sh]
    cases dat T x with
    | none => rfl
    | some a => cases a <;> first | rfl | (rename_i ys; dsimp only; cases sumI ys <;> rfl)
  | x :: y :: r => rfl
end
end Mk
/-! Mf2: the same of every combinator. -/
namespace Mk
open PySem (PyData Str)
section
variable {S0 T : Store} {γ : Env} {n : Nat}
/-! ### lambdas -/
mutual
theorem flat_sh : ∀ v : Vl, flat (sh n v) = flat v
  | .r i => rfl
  | .tv xs => by unfold sh flat; exact flats_sh xs
  | .lv xs => by unfold sh flat; exact flats_sh xs
  | .cv l xs => by unfold sh flat; exact flats_sh xs
  | .d x => rfl
  | .sc xs => rfl
  | .fn f => rfl
  | .co l => rfl
  | .ex k x => rfl
theorem flats_sh : ∀ xs : List Vl, flats (shs n xs) = flats xs
  | [] => rfl
  | x :: xs => by unfold shs flats; rw [flat_sh x, flats_sh xs]
end
theorem capt_sh (N : List Str) : ∀ ys : List Str, capt N (shE n γ) ys = (capt N γ ys).map (shs n)
  | [] => rfl
  | y :: r => by
    unfold capt
    cases idx N y with
    | none => rfl
    | some i =>
      dsimp only
      rw [shE_get, capt_sh N r]
      cases γ[i]? with
      | none => rfl
      | some o =>
        cases o with
        | none => rfl
        | some v =>
          cases capt N γ r with
          | none => rfl
          | some vs =>
            dsimp only [Option.map]
            rw [flat_sh]
            split <;> rfl
theorem cpOf_sh (N : List Str) (l : LamT) : cpOf N (shE n γ) l = (cpOf N γ l).map (shs n) := capt_sh N l.caps
mutual
theorem clsV_sh {cp cp' : LamT → Option (List Vl)} (h : ∀ l, cp' l = (cp l).map (shs n)) : ∀ v : Vl, clsV cp' (sh n v) = (clsV cp v).map (sh n)
  | .r i => rfl
  | .tv xs => by
    unfold sh clsV
    rw [clsVs_sh h xs]
    cases clsVs cp xs <;> rfl
  | .lv xs => by
    unfold sh clsV
    rw [clsVs_sh h xs]
    cases clsVs cp xs <;> rfl
  | .cv l xs => by
    unfold sh clsV
    rw [flats_sh]
    split <;> rfl
  | .d x => rfl
  | .sc xs => rfl
  | .fn f => rfl
  | .co l => by
    unfold sh clsV
    rw [h]
    cases cp l <;> rfl
  | .ex k x => rfl
theorem clsVs_sh {cp cp' : LamT → Option (List Vl)} (h : ∀ l, cp' l = (cp l).map (shs n)) : ∀ xs : List Vl, clsVs cp' (shs n xs) = (clsVs cp xs).map (shs n)
  | [] => rfl
  | x :: xs => by
    unfold shs clsVs
    rw [clsV_sh h x, clsVs_sh h xs]
    cases clsV cp x with
    | none => rfl
    | some y => cases clsVs cp xs <;> rfl
end
theorem clsVs_map {cp cp' : LamT → Option (List Vl)} (h : ∀ l, cp' l = (cp l).map (shs n)) (xs : List Vl) : clsVs cp' (xs.map (sh n)) = (clsVs cp xs).map (List.map (sh n)) := by
  rw [← shs_map, clsVs_sh h xs]
  cases clsVs cp xs with
  | none => rfl
  | some ys => show some (shs n ys) = some (ys.map (sh n)); rw [shs_map]
theorem clsE_sh {cp cp' : LamT → Option (List Vl)} (h : ∀ l, cp' l = (cp l).map (shs n)) : clsE cp' (shE n γ) = shE n (clsE cp γ) := by
  unfold clsE shE
  rw [List.map_map, List.map_map]
  refine List.map_congr_left fun o _ => ?_
  cases o with
  | none => rfl
  | some v => exact clsV_sh h v
theorem flatE_sh : flatE (shE n γ) = shE n (flatE γ) := by
  unfold flatE shE
  rw [List.map_map, List.map_map]
  refine List.map_congr_left fun o _ => ?_
  cases o with
  | none => rfl
  | some v =>
    show (if flat (sh n v) = true then some (sh n v) else none) = (if flat v = true then some v else none).map (sh n)
    rw [flat_sh]
    split <;> rfl
theorem fuel_sh : ∀ γ : Env, fuelOf (shE n γ) = fuelOf γ
  | [] => rfl
  | none :: r => fuel_sh r
  | some v :: r => by
    cases v with
    | d x => cases x <;> first | exact fuel_sh r | (show fuelOf (shE n r) + _ = _; rw [fuel_sh r]; rfl)
    | _ => exact fuel_sh r
theorem wipe_sh : ∀ (w : List Nat) (γ : Env), wipeE (shE n γ) w = shE n (wipeE γ w)
  | [], γ => rfl
  | i :: r, γ => by
    unfold wipeE
    rw [shE_set0, wipe_sh r]
end
/-! ### combinators -/
/-- calls make no difference -/
structure FrC (c : Cl) : Prop where
  call : ∀ (S0 T : Store) (f : Nat) (xs : List Vl), c.call f (xs.map (sh S0.length)) (S0 ++ T) = shR (sh S0.length) S0 (c.call f xs T)
  lam : ∀ (S0 T : Store) (l : LamT) (xs : List Vl), c.lam l (xs.map (sh S0.length)) (S0 ++ T) = shR (sh S0.length) S0 (c.lam l xs T)
abbrev FrX {α : Type} (f : Nat → α → α) (c : Cl) (x : Cl → Env → Store → R α) : Prop := ∀ (S0 : Store) (γ : Env) (T : Store), x c (shE S0.length γ) (S0 ++ T) = shR (f S0.length) S0 (x c γ T)
abbrev FrE (c : Cl) (x : TEx) : Prop := FrX sh c x
abbrev idn {α : Type} (_ : Nat) (a : α) : α := a
abbrev FrT (c : Cl) (x : TTs) : Prop := FrX idn c x
abbrev FrA (c : Cl) (x : TAr) : Prop := FrX (fun n => List.map (sh n)) c x
abbrev FrP (c : Cl) (x : TPt) : Prop := FrX idn c x
abbrev FrI (c : Cl) (x : TIt) : Prop := FrX shI c x
abbrev FrG (g : TTg) : Prop := ∀ (n : Nat) (v : Vl) (γ : Env), g (sh n v) (shE n γ) = (g v γ).map (shE n)
abbrev FrGs (g : List Vl → Env → Option Env) : Prop := ∀ (n : Nat) (vs : List Vl) (γ : Env), g (vs.map (sh n)) (shE n γ) = (g vs γ).map (shE n)
abbrev FrS (c : Cl) (s : TSt) : Prop := ∀ (S0 : Store) (γ : Env) (T : Store), s c (shE S0.length γ) (S0 ++ T) = shRS S0.length S0 (s c γ T)
section
variable {c : Cl} {S0 T : Store} {γ : Env} {n : Nat}
theorem fe_V (i : Nat) : FrE c (xV i) := fun S0 γ T => by
  unfold xV
  rw [shE_get]
  cases γ[i]? with
  | none => rfl
  | some o => cases o <;> rfl
theorem fe_C (d : D) : FrE c (xC (.d d)) := fun _ _ _ => rfl
theorem fe_F (f : Nat) : FrE c (xC (.fn f)) := fun _ _ _ => rfl
theorem fe_bin (o : BO) (m : Bool) {a b : TEx} (ha : FrE c a) (hb : FrE c b) : FrE c (xBin o m a b) := fun S0 γ T => by
  unfold xBin
  rw [ha]
  refine shR_bind fun x T1 => ?_
  rw [hb]
  exact shR_bind fun y T2 => bin_sh o m x y
theorem fe_cmp (o : CO) {a b : TEx} (ha : FrE c a) (hb : FrE c b) : FrE c (xCmp o a b) := fun S0 γ T => by
  unfold xCmp
  rw [ha]
  refine shR_bind fun x T1 => ?_
  rw [hb]
  refine shR_bind fun y T2 => ?_
  rw [cmp_sh]
  cases cmp o x y T2 <;> rfl
theorem fe_cmp2 (o p : CO) {a b e : TEx} (ha : FrE c a) (hb : FrE c b) (he : FrE c e) : FrE c (xCmp2 o p a b e) := fun S0 γ T => by
  unfold xCmp2
  rw [ha]
  refine shR_bind fun x T1 => ?_
  rw [hb]
  refine shR_bind fun y T2 => ?_
  rw [cmp_sh]
  cases cmp o x y T2 with
  | none => rfl
  | some k =>
    cases k with
    | false => rfl
    | true =>
      dsimp only
      rw [he]
      refine shR_bind fun z T3 => ?_
      rw [cmp_sh]
      cases cmp p y z T3 <;> rfl
theorem fe_neg {a : TEx} (ha : FrE c a) : FrE c (xNeg a) := fun S0 γ T => by
  unfold xNeg
  rw [ha]
  refine shR_bind fun x T1 => ?_
  cases x with
  | d y => cases y <;> rfl
  | _ => rfl
theorem fe_not {a : TEx} (ha : FrE c a) : FrE c (xNot a) := fun S0 γ T => by
  unfold xNot
  rw [ha]
  refine shR_bind fun x T1 => ?_
  cases x with
  | d y => cases y <;> rfl
  | _ => rfl
theorem fe_and {a b : TEx} (ha : FrE c a) (hb : FrE c b) : FrE c (xAnd a b) := fun S0 γ T => by
  unfold xAnd
  rw [ha]
  refine shR_bind fun x T1 => ?_
  cases x with
  | d y =>
    cases y with
    | bool k => cases k with
      | true => exact hb _ _ _
      | false => rfl
    | _ => rfl
  | _ => rfl
theorem fe_or {a b : TEx} (ha : FrE c a) (hb : FrE c b) : FrE c (xOr a b) := fun S0 γ T => by
  unfold xOr
  rw [ha]
  refine shR_bind fun x T1 => ?_
  cases x with
  | d y =>
    cases y with
    | bool k => cases k with
      | false => exact hb _ _ _
      | true => rfl
    | _ => rfl
  | _ => rfl
theorem fe_if {t : TTs} {a b : TEx} (ht : FrT c t) (ha : FrE c a) (hb : FrE c b) : FrE c (xIf t a b) := fun S0 γ T => by
  unfold xIf
  rw [ht]
  refine shR_bind fun k T1 => ?_
  cases k with
  | true => exact ha _ _ _
  | false => exact hb _ _ _
theorem fa_nil : FrA c aNil := fun _ _ _ => rfl
theorem fa_cons {a : TEx} {r : TAr} (ha : FrE c a) (hr : FrA c r) : FrA c (aCons a r) := fun S0 γ T => by
  unfold aCons
  rw [ha]
  refine shR_bind fun x T1 => ?_
  rw [hr]
  exact shR_bind fun xs T2 => rfl
theorem fe_tup {a : TAr} (ha : FrA c a) : FrE c (xTup a) := fun S0 γ T => by
  unfold xTup
  rw [ha]
  refine shR_bind fun xs T1 => ?_
  show R.ok (mkTup (xs.map (sh S0.length))) _ = R.ok (sh S0.length (mkTup xs)) _
  rw [mkTup_sh]
theorem fe_lst (m : Bool) {a : TAr} (ha : FrA c a) : FrE c (xLst m a) := fun S0 γ T => by
  unfold xLst
  rw [ha]
  refine shR_bind fun xs T1 => ?_
  dsimp only
  rw [allD_sh]
  cases allD xs with
  | some ds => exact mkLst_sh m ds
  | none =>
    cases m with
    | true => rfl
    | false =>
      show R.ok (.lv (xs.map (sh S0.length))) _ = R.ok (sh S0.length (.lv xs)) _
      unfold sh
      rw [shs_map]
theorem fe_ix {a b : TEx} (ha : FrE c a) (hb : FrE c b) : FrE c (xIx a b) := fun S0 γ T => by
  unfold xIx
  rw [ha]
  refine shR_bind fun x T1 => ?_
  rw [hb]
  exact shR_bind fun y T2 => ix_sh x y
theorem fp_no : FrP c pNo := fun _ _ _ => rfl
theorem fp_some {a : TEx} (ha : FrE c a) : FrP c (pSome a) := fun S0 γ T => by
  unfold pSome
  rw [ha]
  refine shR_bind fun x T1 => ?_
  cases x with
  | d y => cases y <;> rfl
  | _ => rfl
theorem fe_sl (m : Bool) {a : TEx} {l h : TPt} (ha : FrE c a) (hl : FrP c l) (hh : FrP c h) : FrE c (xSl m a l h) := fun S0 γ T => by
  unfold xSl
  rw [ha]
  refine shR_bind fun x T1 => ?_
  rw [hl]
  refine shR_bind fun lo T2 => ?_
  rw [hh]
  exact shR_bind fun hi T3 => sl_sh m x lo hi
theorem fe_rev (m : Bool) {a : TEx} (ha : FrE c a) : FrE c (xRev m a) := fun S0 γ T => by
  unfold xRev
  rw [ha]
  refine shR_bind fun x T1 => ?_
  rw [dat_sh]
  cases dat T1 x with
  | none => rfl
  | some y => cases y <;> first | rfl | exact mkLst_sh m _
theorem fe_B {f : List Vl → Store → R Vl} {a : TAr} (hf : FrB f) (ha : FrA c a) : FrE c (xB f a) := fun S0 γ T => by
  unfold xB
  rw [ha]
  exact shR_bind fun xs T1 => hf _ _ _
theorem fe_is {a : TEx} (t : Ty) (ha : FrE c a) : FrE c (xIs a t) := fun S0 γ T => by
  unfold xIs
  rw [ha]
  refine shR_bind fun x T1 => ?_
  rw [dat_sh]
  cases dat T1 x <;> rfl
theorem map_I (ds : List Int) : (ds.map I).map (sh n) = ds.map I := by
  rw [List.map_map]
  rfl
theorem fe_call (hc : FrC c) (f : Nat) {a : TAr} (ds : List Int) (ha : FrA c a) : FrE c (xCall f a (ds.map I)) := fun S0 γ T => by
  unfold xCall
  rw [ha]
  refine shR_bind fun xs T1 => ?_
  have := hc.call S0 T1 f (xs ++ ds.map I)
  rw [List.map_append, map_I] at this
  exact this
theorem fe_lam (l : LamT) : FrE c (xLam l) := fun _ _ _ => rfl
theorem fe_callL (hc : FrC c) (N : List Str) (f : Nat) {a : TAr} (ds : List Int) (ha : FrA c a) : FrE c (xCallL N f a (ds.map I)) := fun S0 γ T => by
  unfold xCallL
  rw [ha]
  refine shR_bind fun xs T1 => ?_
  dsimp only
  rw [clsVs_map (cpOf_sh N)]
  cases clsVs (cpOf N γ) xs with
  | none => rfl
  | some ys =>
    have := hc.call S0 T1 f (ys ++ ds.map I)
    rw [List.map_append, map_I] at this
    exact this
theorem fe_callV (hc : FrC c) (N : List Str) (i : Nat) : FrE c (xCallV N i) := fun S0 γ T => by
  unfold xCallV
  rw [fe_V]
  refine shR_bind fun v T1 => ?_
  rw [clsV_sh (cpOf_sh N)]
  cases clsV (cpOf N γ) v with
  | none => rfl
  | some y =>
    cases y with
    | cv l vs =>
      show c.lam l (shs S0.length vs) (S0 ++ T1) = _
      rw [shs_map]
      exact hc.lam S0 T1 l vs
    | _ => rfl
theorem fe_callW (hc : FrC c) (i : Nat) : FrE c (xCallW i) := fun S0 γ T => by
  unfold xCallW
  rw [fe_V]
  refine shR_bind fun v T1 => ?_
  cases v with
  | cv l vs =>
    show c.lam l (shs S0.length vs) (S0 ++ T1) = _
    rw [shs_map]
    exact hc.lam S0 T1 l vs
  | _ => rfl
theorem allDk_none : True := trivial
theorem tit_sh (v : Vl) : tit (sh n v) = (tit v).map (List.map (sh n)) := by
  cases v with
  | d x => cases x <;> first | rfl | (show some _ = some _; rw [List.map_map]; rfl)
  | tv xs => show some (shs n xs) = some (xs.map _); rw [shs_map]
  | _ => rfl
theorem spl_sh (v : Vl) (T : Store) : spl (S0 ++ T) (sh S0.length v) = (spl T v).map (List.map (sh S0.length)) := by
  unfold spl
  rw [tit_sh, lit_sh]
  cases tit v <;> rfl
theorem fa_star {a : TEx} {r : TAr} (ha : FrE c a) (hr : FrA c r) : FrA c (aStar a r) := fun S0 γ T => by
  unfold aStar
  rw [ha]
  refine shR_bind fun x T1 => ?_
  rw [spl_sh]
  cases spl T1 x with
  | none => rfl
  | some xs =>
    dsimp only [Option.map]
    rw [hr]
    refine shR_bind fun ys T2 => ?_
    show R.ok (xs.map _ ++ ys.map _) _ = R.ok ((xs ++ ys).map _) _
    rw [List.map_append]
theorem fa_few {r : TAr} (hr : FrA c r) : FrA c (aFew r) := fun S0 γ T => by
  unfold aFew
  rw [hr]
  refine shR_bind fun xs T1 => ?_
  rw [List.length_map]
  split <;> rfl
theorem fe_lrng (m : Bool) {a : TEx} (ha : FrE c a) : FrE c (xLRng m a) := fun S0 γ T => by
  unfold xLRng
  rw [ha]
  refine shR_bind fun x T1 => ?_
  cases x with
  | d y =>
    cases y with
    | int j =>
      show (if 0 ≤ j ∧ j ≤ LINE then mkLst m ((List.range j.toNat).map fun (k : Nat) => .int k) (S0 ++ T1) else .stuck) = shR _ S0 (if 0 ≤ j ∧ j ≤ LINE then mkLst m ((List.range j.toNat).map fun (k : Nat) => .int k) T1 else .stuck)
      split
      · exact mkLst_sh m _
      · rfl
    | _ => rfl
  | _ => rfl
theorem fe_callF (hc : FrC c) (i : Nat) {a : TAr} (ha : FrA c a) : FrE c (xCallF i a) := fun S0 γ T => by
  unfold xCallF xCallFG
  rw [fe_V]
  refine shR_bind fun v T1 => ?_
  cases v with
  | fn f =>
    dsimp only [sh]
    rw [ha]
    exact shR_bind fun xs T2 => hc.call S0 T2 f xs
  | _ => rfl
theorem fe_callFL (hc : FrC c) (N : List Str) (i : Nat) {a : TAr} (ha : FrA c a) : FrE c (xCallFL N i a) := fun S0 γ T => by
  unfold xCallFL xCallFG
  rw [fe_V]
  refine shR_bind fun v T1 => ?_
  cases v with
  | fn f =>
    dsimp only [sh]
    rw [ha]
    refine shR_bind fun xs T2 => ?_
    rw [clsVs_map (cpOf_sh N)]
    cases clsVs (cpOf N γ) xs with
    | none => rfl
    | some ys => exact hc.call S0 T2 f ys
  | _ => rfl
theorem fe_dct (m : Bool) (kvs : List (D × D)) : FrE c (xDct m kvs) := fun S0 γ T => mkDct_sh m kvs
theorem fe_fld (k : Nat) {a : TEx} (ha : FrE c a) : FrE c (xFld k a) := fun S0 γ T => by
  unfold xFld
  rw [ha]
  refine shR_bind fun v T1 => ?_
  cases v with
  | ex j x =>
    show (if j = k then R.ok (Vl.d x) (S0 ++ T1) else .stuck) = shR _ S0 (if j = k then R.ok (Vl.d x) T1 else .stuck)
    split <;> rfl
  | _ => rfl
/-! ### tests -/
theorem ft_V {a : TEx} (ha : FrE c a) : FrT c (tV a) := fun S0 γ T => by
  unfold tV
  rw [ha]
  refine shR_bind fun x T1 => ?_
  rw [tru_sh]
  cases tru T1 x <;> rfl
theorem ft_not {t : TTs} (ht : FrT c t) : FrT c (tNot t) := fun S0 γ T => by
  unfold tNot
  rw [ht]
  exact shR_bind fun k T1 => rfl
theorem ft_and {t u : TTs} (ht : FrT c t) (hu : FrT c u) : FrT c (tAnd t u) := fun S0 γ T => by
  unfold tAnd
  rw [ht]
  refine shR_bind fun k T1 => ?_
  cases k with
  | true => exact hu _ _ _
  | false => rfl
theorem ft_or {t u : TTs} (ht : FrT c t) (hu : FrT c u) : FrT c (tOr t u) := fun S0 γ T => by
  unfold tOr
  rw [ht]
  refine shR_bind fun k T1 => ?_
  cases k with
  | false => exact hu _ _ _
  | true => rfl
theorem ft_ifx {t u v : TTs} (ht : FrT c t) (hu : FrT c u) (hv : FrT c v) : FrT c (tIfx t u v) := fun S0 γ T => by
  unfold tIfx
  rw [ht]
  refine shR_bind fun k T1 => ?_
  cases k with
  | true => exact hu _ _ _
  | false => exact hv _ _ _
theorem ft_cmp (o : CO) {a b : TEx} (ha : FrE c a) (hb : FrE c b) : FrT c (tCmp o a b) := fun S0 γ T => by
  unfold tCmp
  rw [ha]
  refine shR_bind fun x T1 => ?_
  rw [hb]
  refine shR_bind fun y T2 => ?_
  rw [cmp_sh]
  cases cmp o x y T2 <;> rfl
theorem ft_cmp2 (o p : CO) {a b e : TEx} (ha : FrE c a) (hb : FrE c b) (he : FrE c e) : FrT c (tCmp2 o p a b e) := fun S0 γ T => by
  unfold tCmp2
  rw [ha]
  refine shR_bind fun x T1 => ?_
  rw [hb]
  refine shR_bind fun y T2 => ?_
  rw [cmp_sh]
  cases cmp o x y T2 with
  | none => rfl
  | some k =>
    cases k with
    | false => rfl
    | true =>
      dsimp only
      rw [he]
      refine shR_bind fun z T3 => ?_
      rw [cmp_sh]
      cases cmp p y z T3 <;> rfl
theorem ft_yes : FrT c tYes := fun _ _ _ => rfl
/-! ### targets -/
theorem fg_V (i : Nat) : FrG (gV i) := fun n v γ => by
  unfold gV
  rw [shE_set]
  rfl
theorem fg_nil : FrGs gNil := fun n vs γ => by cases vs <;> rfl
theorem fg_cons {g : TTg} {r : List Vl → Env → Option Env} (hg : FrG g) (hr : FrGs r) : FrGs (gCons g r) := fun n vs γ => by
  cases vs with
  | nil => rfl
  | cons v ws =>
    show (match g (sh n v) (shE n γ) with
      | some γ' => r (ws.map (sh n)) γ'
      | none => none) = (match g v γ with
      | some γ' => r ws γ'
      | none => none).map (shE n)
    rw [hg]
    cases g v γ with
    | none => rfl
    | some γ' => exact hr n ws γ'
theorem map_d (ds : List D) : (ds.map Vl.d).map (sh n) = ds.map Vl.d := by
  rw [List.map_map]
  rfl
theorem fg_tup {g : List Vl → Env → Option Env} (hg : FrGs g) : FrG (gTup g) := fun n v γ => by
  cases v with
  | d x =>
    cases x with
    | tuple ds =>
      show g (ds.map .d) (shE n γ) = (g (ds.map .d) γ).map (shE n)
      have := hg n (ds.map .d) γ
      rwa [map_d] at this
    | _ => rfl
  | tv xs =>
    show g (shs n xs) (shE n γ) = (g xs γ).map (shE n)
    rw [shs_map]
    exact hg n xs γ
  | _ => rfl
/-! ### iterables -/
theorem fi_V {a : TEx} (ha : FrE c a) : FrI c (iV a) := fun S0 γ T => by
  unfold iV
  rw [ha]
  refine shR_bind fun x T1 => ?_
  cases x with
  | d y =>
    cases y with
    | list xs => show R.ok (Itr.its (xs.map .d)) _ = R.ok (Itr.its ((xs.map Vl.d).map _)) _; rw [map_d]
    | tuple xs => show R.ok (Itr.its (xs.map .d)) _ = R.ok (Itr.its ((xs.map Vl.d).map _)) _; rw [map_d]
    | str z =>
      show R.ok (Itr.its (z.cps.toList.map fun ch => .d (.str ⟨#[ch]⟩))) _ = R.ok (Itr.its ((z.cps.toList.map fun ch => Vl.d (.str ⟨#[ch]⟩)).map _)) _
      rw [List.map_map]
      rfl
    | _ => rfl
  | tv xs => show R.ok (Itr.its (shs _ xs)) _ = R.ok (Itr.its (xs.map _)) _; rw [shs_map]
  | lv xs => show R.ok (Itr.its (shs _ xs)) _ = R.ok (Itr.its (xs.map _)) _; rw [shs_map]
  | r i =>
    show (match (S0 ++ T1)[i + S0.length]? with
      | some (.lst _) => R.ok (Itr.ref (i + S0.length)) (S0 ++ T1)
      | _ => .stuck) = shR _ S0 (match T1[i]? with
      | some (.lst _) => R.ok (Itr.ref i) T1
      | _ => .stuck)
    rw [app_get]
    cases T1[i]? with
    | none => rfl
    | some o => cases o <;> rfl
  | _ => rfl
theorem rng_sh (lo hi : Int) : (rng lo hi).map (sh n) = rng lo hi := by
  unfold rng
  rw [List.map_map]
  rfl
theorem fi_rng1 {a : TEx} (ha : FrE c a) : FrI c (iRng1 a) := fun S0 γ T => by
  unfold iRng1
  rw [ha]
  refine shR_bind fun x T1 => ?_
  cases x with
  | d y =>
    cases y with
    | int j =>
      show (if rngOk j = true then R.ok (Itr.its (rng 0 j)) (S0 ++ T1) else .stuck) = shR _ S0 (if rngOk j = true then R.ok (Itr.its (rng 0 j)) T1 else .stuck)
      split
      · show _ = R.ok (Itr.its ((rng 0 j).map _)) _
        rw [rng_sh]
      · rfl
    | _ => rfl
  | _ => rfl
theorem fi_rng2 {a b : TEx} (ha : FrE c a) (hb : FrE c b) : FrI c (iRng2 a b) := fun S0 γ T => by
  unfold iRng2
  rw [ha]
  refine shR_bind fun x T1 => ?_
  rw [hb]
  refine shR_bind fun y T2 => ?_
  cases x with
  | d u =>
    cases y with
    | d v =>
      cases u with
      | int i =>
        cases v with
        | int j =>
          show (if (rngOk i && rngOk j) = true then R.ok (Itr.its (rng i j)) (S0 ++ T2) else .stuck) = shR _ S0 (if (rngOk i && rngOk j) = true then R.ok (Itr.its (rng i j)) T2 else .stuck)
          split
          · show _ = R.ok (Itr.its ((rng i j).map _)) _
            rw [rng_sh]
          · rfl
        | _ => rfl
      | _ => rfl
    | _ => cases u <;> rfl
  | _ => rfl
theorem pairs_sh (xs ys : List D) : (pairs xs ys).map (sh n) = pairs xs ys := by
  unfold pairs
  rw [List.map_map]
  rfl
theorem fi_zip {a b : TEx} (ha : FrE c a) (hb : FrE c b) : FrI c (iZip a b) := fun S0 γ T => by
  unfold iZip
  rw [ha]
  refine shR_bind fun x T1 => ?_
  rw [hb]
  refine shR_bind fun y T2 => ?_
  cases x with
  | d u =>
    cases y with
    | d v =>
      cases u <;> cases v <;> first
        | rfl
        | (rename_i xs ys
           show R.ok (Itr.its (pairs xs ys)) (S0 ++ T2) = R.ok (Itr.its ((pairs xs ys).map _)) (S0 ++ T2)
           rw [pairs_sh])
    | _ => cases u <;> rfl
  | _ => rfl
theorem fi_enum {a : TEx} (ha : FrE c a) : FrI c (iEnum a) := fun S0 γ T => by
  unfold iEnum
  rw [ha]
  refine shR_bind fun x T1 => ?_
  cases x with
  | d u =>
    cases u with
    | list xs =>
      show R.ok (Itr.its (enumD xs)) (S0 ++ T1) = R.ok (Itr.its ((enumD xs).map _)) (S0 ++ T1)
      have : (enumD xs).map (sh S0.length) = enumD xs := by
        unfold enumD
        rw [List.map_map]
        rfl
      rw [this]
    | tuple xs =>
      show R.ok (Itr.its (enumD xs)) (S0 ++ T1) = R.ok (Itr.its ((enumD xs).map _)) (S0 ++ T1)
      have : (enumD xs).map (sh S0.length) = enumD xs := by
        unfold enumD
        rw [List.map_map]
        rfl
      rw [this]
    | _ => rfl
  | _ => rfl
/-! ### comprehensions -/
theorem lcLoop_sh {g : TTg} {t : TTs} {e : TEx} (hg : FrG g) (ht : FrT c t) (he : FrE c e) (k : Nat) : ∀ (xs : List Vl) (T : Store), lcLoop g t e c (shE S0.length γ) (k + S0.length) (xs.map (sh S0.length)) (S0 ++ T) = shR id S0 (lcLoop g t e c γ k xs T)
  | [], T => rfl
  | x :: xs, T => by
    rw [List.map_cons]
    unfold lcLoop
    rw [hg]
    cases g x γ with
    | none => rfl
    | some γ1 =>
      dsimp only [Option.map]
      rw [ht]
      cases t c γ1 T with
      | stuck => rfl
      | er kk y T1 => rfl
      | ok b T1 =>
        cases b with
        | false => exact lcLoop_sh hg ht he k xs T1
        | true =>
          dsimp only [shR]
          rw [he]
          cases e c γ1 T1 with
          | stuck => rfl
          | er kk y T2 => rfl
          | ok v T2 =>
            cases v with
            | d d =>
              dsimp only [shR, sh]
              rw [app_get]
              cases T2[k]? with
              | none => rfl
              | some o =>
                cases o with
                | dct kvs => rfl
                | lst out =>
                  dsimp only
                  split
                  · rw [app_set]
                    exact lcLoop_sh hg ht he k xs _
                  · rfl
            | _ => rfl
theorem lcRef_sh {g : TTg} {t : TTs} {e : TEx} (hg : FrG g) (ht : FrT c t) (he : FrE c e) (k i : Nat) : ∀ (f j : Nat) (T : Store), lcRef g t e c (shE S0.length γ) (k + S0.length) (i + S0.length) f j (S0 ++ T) = shR id S0 (lcRef g t e c γ k i f j T)
  | 0, j, T => rfl
  | f + 1, j, T => by
    unfold lcRef
    rw [app_get]
    cases T[i]? with
    | none => rfl
    | some o =>
      cases o with
      | dct kvs => rfl
      | lst xs =>
        dsimp only
        cases xs[j]? with
        | none => rfl
        | some x =>
          dsimp only
          have hx := hg S0.length (.d x) γ
          rw [sh_d] at hx
          rw [hx]
          cases g (.d x) γ with
          | none => rfl
          | some γ1 =>
            dsimp only [Option.map]
            rw [ht]
            cases t c γ1 T with
            | stuck => rfl
            | er kk y T1 => rfl
            | ok b T1 =>
              cases b with
              | false => exact lcRef_sh hg ht he k i f (j + 1) T1
              | true =>
                dsimp only [shR]
                rw [he]
                cases e c γ1 T1 with
                | stuck => rfl
                | er kk y T2 => rfl
                | ok v T2 =>
                  cases v with
                  | d d =>
                    dsimp only [shR, sh]
                    rw [app_get]
                    cases T2[k]? with
                    | none => rfl
                    | some o =>
                      cases o with
                      | dct kvs => rfl
                      | lst out =>
                        dsimp only
                        split
                        · rw [app_set]
                          exact lcRef_sh hg ht he k i f (j + 1) _
                        · rfl
                  | _ => rfl
theorem lcFin_sh (m : Bool) (k : Nat) (r : R Unit) : lcFin m (k + S0.length) (shR id S0 r) = shR (sh S0.length) S0 (lcFin m k r) := by
  cases r with
  | ok u T =>
    show lcEnd m (k + S0.length) (S0 ++ T) = shR (sh S0.length) S0 (lcEnd m k T)
    unfold lcEnd
    rw [app_len, app_get]
    by_cases h : T.length = k + 1
    · rw [if_pos h, if_pos (by omega)]
      cases T[k]? with
      | none => rfl
      | some o =>
        cases o with
        | dct kvs => rfl
        | lst out =>
          cases m with
          | true => rfl
          | false => show R.ok _ ((S0 ++ T).take (k + S0.length)) = _; rw [app_take]; rfl
    · rw [if_neg h, if_neg (by omega)]
      rfl
  | er kk x T => rfl
  | stuck => rfl
theorem lcRun_sh {g : TTg} {t : TTs} {e : TEx} (hg : FrG g) (ht : FrT c t) (he : FrE c e) (k : Nat) (J : Itr) (T : Store) : lcRun g t e c (shE S0.length γ) (k + S0.length) (shI S0.length J) (S0 ++ T) = shR id S0 (lcRun g t e c γ k J T) := by
  cases J with
  | its xs => exact lcLoop_sh hg ht he k xs T
  | ref i => exact lcRef_sh hg ht he k i _ 0 T
theorem fe_lc (m : Bool) (w : List Nat) {it : TIt} {g : TTg} {t : TTs} {e : TEx} (hi : FrI c it) (hg : FrG g) (ht : FrT c t) (he : FrE c e) : FrE c (xLc m w it g t e) := fun S0 γ T => by
  unfold xLc
  rw [hi]
  refine shR_bind fun J T1 => ?_
  rw [app_len, wipe_sh, List.append_assoc, lcRun_sh hg ht he]
  exact lcFin_sh m _ _
theorem clsI_sh {cp cp' : LamT → Option (List Vl)} (h : ∀ l, cp' l = (cp l).map (shs n)) (J : Itr) : clsI cp' (shI n J) = (clsI cp J).map (shI n) := by
  cases J with
  | ref i => rfl
  | its xs =>
    show (match clsVs cp' (xs.map (sh n)) with
      | some ys => some (Itr.its ys)
      | none => none) = (match clsVs cp xs with
      | some ys => some (Itr.its ys)
      | none => none).map (shI n)
    rw [clsVs_map h]
    cases clsVs cp xs <;> rfl
theorem fe_lcL (N : List Str) (m : Bool) (w : List Nat) {it : TIt} {g : TTg} {t : TTs} {e : TEx} (hi : FrI c it) (hg : FrG g) (ht : FrT c t) (he : FrE c e) : FrE c (xLcL N m w it g t e) := fun S0 γ T => by
  unfold xLcL
  rw [hi]
  refine shR_bind fun J T1 => ?_
  rw [clsI_sh (cpOf_sh N)]
  cases clsI (cpOf N γ) J with
  | none => rfl
  | some J' =>
    dsimp only [Option.map]
    rw [app_len, clsE_sh (cpOf_sh N), wipe_sh, List.append_assoc, lcRun_sh hg ht he]
    exact lcFin_sh m _ _
/-! ### comprehensions without lambdas -/
abbrev FrM (c : Cl) (em : TEm) : Prop := ∀ (S0 : Store) (γ : Env) (k : Nat) (T : Store), em c (shE S0.length γ) (k + S0.length) (S0 ++ T) = shR id S0 (em c γ k T)
theorem fm_L {e : TEx} (he : FrE c e) : FrM c (emL e) := fun S0 γ k T => by
  unfold emL
  rw [he]
  cases e c γ T with
  | stuck => rfl
  | er kk y T2 => rfl
  | ok v T2 =>
    cases v with
    | d d =>
      dsimp only [shR, sh]
      rw [app_get]
      cases T2[k]? with
      | none => rfl
      | some o =>
        cases o with
        | dct kvs => rfl
        | lst out =>
          dsimp only
          split
          · rw [app_set]
          · rfl
    | _ => rfl
theorem fm_D {ke ve : TEx} (hk : FrE c ke) (hv : FrE c ve) : FrM c (emD ke ve) := fun S0 γ k T => by
  unfold emD
  rw [hk]
  cases ke c γ T with
  | stuck => rfl
  | er kk y T2 => rfl
  | ok y T2 =>
    cases y with
    | d y =>
      dsimp only [shR, sh]
      rw [hv]
      cases ve c γ T2 with
      | stuck => rfl
      | er kk y T2 => rfl
      | ok z T3 =>
        cases z with
        | d z =>
          dsimp only [shR, sh]
          rw [app_get]
          cases T3[k]? with
          | none => rfl
          | some o =>
            cases o with
            | lst out => rfl
            | dct kvs =>
              dsimp only
              split
              · rw [app_set]
              · rfl
        | _ => rfl
    | _ => rfl
theorem gLoop_sh {g : TTg} {t : TTs} {em : TEm} (hg : FrG g) (ht : FrT c t) (he : FrM c em) (k : Nat) : ∀ (xs : List Vl) (T : Store), gLoop g t em c (shE S0.length γ) (k + S0.length) (xs.map (sh S0.length)) (S0 ++ T) = shR id S0 (gLoop g t em c γ k xs T)
  | [], T => rfl
  | x :: xs, T => by
    rw [List.map_cons]
    unfold gLoop
    rw [hg]
    cases g x γ with
    | none => rfl
    | some γ1 =>
      dsimp only [Option.map]
      rw [ht]
      cases t c γ1 T with
      | stuck => rfl
      | er kk y T1 => rfl
      | ok b T1 =>
        cases b with
        | false => exact gLoop_sh hg ht he k xs T1
        | true =>
          dsimp only [shR]
          rw [he]
          cases em c γ1 k T1 with
          | stuck => rfl
          | er kk y T2 => rfl
          | ok v T2 => exact gLoop_sh hg ht he k xs T2
theorem gRef_sh {g : TTg} {t : TTs} {em : TEm} (hg : FrG g) (ht : FrT c t) (he : FrM c em) (k i : Nat) : ∀ (f j : Nat) (T : Store), gRef g t em c (shE S0.length γ) (k + S0.length) (i + S0.length) f j (S0 ++ T) = shR id S0 (gRef g t em c γ k i f j T)
  | 0, j, T => rfl
  | f + 1, j, T => by
    unfold gRef
    rw [app_get]
    cases T[i]? with
    | none => rfl
    | some o =>
      cases o with
      | dct kvs => rfl
      | lst xs =>
        dsimp only
        cases xs[j]? with
        | none => rfl
        | some x =>
          dsimp only
          have hx := hg S0.length (.d x) γ
          rw [sh_d] at hx
          rw [hx]
          cases g (.d x) γ with
          | none => rfl
          | some γ1 =>
            dsimp only [Option.map]
            rw [ht]
            cases t c γ1 T with
            | stuck => rfl
            | er kk y T1 => rfl
            | ok b T1 =>
              cases b with
              | false => exact gRef_sh hg ht he k i f (j + 1) T1
              | true =>
                dsimp only [shR]
                rw [he]
                cases em c γ1 k T1 with
                | stuck => rfl
                | er kk y T2 => rfl
                | ok v T2 => exact gRef_sh hg ht he k i f (j + 1) T2
theorem gRun_sh {g : TTg} {t : TTs} {em : TEm} (hg : FrG g) (ht : FrT c t) (he : FrM c em) (k : Nat) (J : Itr) (T : Store) : gRun g t em c (shE S0.length γ) (k + S0.length) (shI S0.length J) (S0 ++ T) = shR id S0 (gRun g t em c γ k J T) := by
  cases J with
  | its xs => exact gLoop_sh hg ht he k xs T
  | ref i => exact gRef_sh hg ht he k i _ 0 T
theorem fm_In (w : List Nat) {it : TIt} {g : TTg} {t : TTs} {em : TEm} (hi : FrI c it) (hg : FrG g) (ht : FrT c t) (he : FrM c em) : FrM c (emIn w it g t em) := fun S0 γ k T => by
  unfold emIn
  rw [hi]
  cases it c γ T with
  | stuck => rfl
  | er kk y T2 => rfl
  | ok J T1 =>
    show gRun g t em c (wipeE (shE S0.length γ) w) (k + S0.length) (shI S0.length J) (S0 ++ T1) = _
    rw [wipe_sh]
    exact gRun_sh hg ht he k J T1
mutual
theorem noC_sh (n : Nat) : ∀ v : Vl, noC (sh n v) = noC v
  | .d x => rfl
  | .sc xs => rfl
  | .r i => rfl
  | .fn f => rfl
  | .co l => rfl
  | .ex k x => rfl
  | .cv l xs => rfl
  | .tv xs => by show noCs (shs n xs) = noCs xs; exact noCs_sh n xs
  | .lv xs => by show noCs (shs n xs) = noCs xs; exact noCs_sh n xs
theorem noCs_sh (n : Nat) : ∀ vs : List Vl, noCs (shs n vs) = noCs vs
  | [] => rfl
  | v :: vs => by
    show (noC (sh n v) && noCs (shs n vs)) = (noC v && noCs vs)
    rw [noC_sh n v, noCs_sh n vs]
end
theorem dropE_sh (n : Nat) (γ : Env) : dropE (shE n γ) = shE n (dropE γ) := by
  unfold dropE shE
  rw [List.map_map, List.map_map]
  refine List.map_congr_left fun o _ => ?_
  cases o with
  | none => rfl
  | some v =>
    show (if noC (sh n v) = true then some (sh n v) else none) = (if noC v = true then some v else none).map (sh n)
    rw [noC_sh]
    split <;> rfl
theorem dropI_sh (n : Nat) (J : Itr) : dropI (shI n J) = (dropI J).map (shI n) := by
  cases J with
  | ref i => rfl
  | its xs =>
    show (if noCs (xs.map (sh n)) = true then some (Itr.its (xs.map (sh n))) else none) = (if noCs xs = true then some (Itr.its xs) else none).map (shI n)
    rw [← shs_map, noCs_sh]
    split
    · rw [shs_map]; rfl
    · rfl
theorem cmEnd_sh (m : Bool) (k : Nat) (T : Store) : cmEnd m (k + S0.length) (S0 ++ T) = shR (sh S0.length) S0 (cmEnd m k T) := by
  unfold cmEnd
  rw [app_len, app_get]
  by_cases h : T.length = k + 1
  · rw [if_pos h, if_pos (by omega)]
    cases T[k]? with
    | none => rfl
    | some o =>
      cases m with
      | true => rfl
      | false => show R.ok _ ((S0 ++ T).take (k + S0.length)) = _; rw [app_take]; rfl
  · rw [if_neg h, if_neg (by omega)]
    rfl
theorem fe_cm (m : Bool) (o : Ob) (w : List Nat) {it : TIt} {g : TTg} {t : TTs} {em : TEm} (hi : FrI c it) (hg : FrG g) (ht : FrT c t) (he : FrM c em) : FrE c (xCm m o w it g t em) := fun S0 γ T => by
  unfold xCm
  rw [hi]
  refine shR_bind fun J T1 => ?_
  rw [dropI_sh]
  cases dropI J with
  | none => rfl
  | some J' =>
    dsimp only [Option.map]
    rw [app_len, dropE_sh, wipe_sh, List.append_assoc, gRun_sh hg ht he]
    cases gRun g t em c (wipeE (dropE γ) w) T1.length J' (T1 ++ [o]) with
    | stuck => rfl
    | er kk y T2 => rfl
    | ok u T2 => exact cmEnd_sh m _ T2
theorem fe_dp1 (m : Bool) {ke ve : TEx} (hk : FrE c ke) (hv : FrE c ve) : FrE c (xDp1 m ke ve) := fun S0 γ T => by
  unfold xDp1
  rw [List.append_assoc, hk]
  cases ke c γ (T ++ [.dct []]) with
  | stuck => rfl
  | er kk y T2 => rfl
  | ok y T2 =>
    cases y with
    | d y =>
      dsimp only [shR, sh]
      rw [hv]
      cases ve c γ T2 with
      | stuck => rfl
      | er kk y T2 => rfl
      | ok z T3 =>
        cases z with
        | d z =>
          dsimp only [shR, sh]
          rw [app_len, app_get]
          cases T3[T.length]? with
          | none => rfl
          | some o =>
            cases o with
            | lst out => rfl
            | dct kvs =>
              cases kvs with
              | cons a b => rfl
              | nil =>
                dsimp only
                split
                · rw [app_set]; exact cmEnd_sh m _ _
                · rfl
        | _ => rfl
    | _ => rfl
end
end Mk
/-! Mf3: the same of statements, of what is read from a text, of calls. -/
namespace Mk
open PySem (PyData Str Expr Stmt Scope Const Operator CmpOp Pos ExceptHandler)
section
variable {c : Cl} {S0 T : Store} {γ : Env} {n : Nat}
theorem fs_pass : FrS c sPass := fun _ _ _ => rfl
theorem fs_brk : FrS c sBrk := fun _ _ _ => rfl
theorem fs_cnt : FrS c sCnt := fun _ _ _ => rfl
theorem fs_no : FrS c sNo := fun _ _ _ => rfl
theorem fs_seq {s r : TSt} (hs : FrS c s) (hr : FrS c r) : FrS c (sSeq s r) := fun S0 γ T => by
  unfold sSeq
  rw [hs]
  cases s c γ T <;> first | rfl | exact hr _ _ _
theorem fs_set (i : Nat) {e : TEx} (he : FrE c e) : FrS c (sSet i e) := fun S0 γ T => by
  unfold sSet
  rw [he]
  refine shR_next fun x T1 => ?_
  show RS.nx _ _ = RS.nx _ _
  rw [shE_set]
theorem fs_asg {g : TTg} {e : TEx} (hg : FrG g) (he : FrE c e) : FrS c (sAsg g e) := fun S0 γ T => by
  unfold sAsg
  rw [he]
  refine shR_next fun x T1 => ?_
  rw [hg]
  cases g x γ <;> rfl
theorem fs_par (i j : Nat) {a b : TEx} (ha : FrE c a) (hb : FrE c b) : FrS c (sPar i j a b) := fun S0 γ T => by
  unfold sPar
  rw [ha]
  refine shR_next fun x T1 => ?_
  rw [hb]
  refine shR_next fun y T2 => ?_
  show RS.nx _ _ = RS.nx _ _
  rw [shE_set, shE_set]
theorem fs_par3 (i j l : Nat) {a b e : TEx} (ha : FrE c a) (hb : FrE c b) (he : FrE c e) : FrS c (sPar3 i j l a b e) := fun S0 γ T => by
  unfold sPar3
  rw [ha]
  refine shR_next fun x T1 => ?_
  rw [hb]
  refine shR_next fun y T2 => ?_
  rw [he]
  refine shR_next fun z T3 => ?_
  show RS.nx _ _ = RS.nx _ _
  rw [shE_set, shE_set, shE_set]
theorem setAt_sh (v k x : Vl) : setAt (sh S0.length v) (sh S0.length k) (sh S0.length x) (S0 ++ T) = (setAt v k x T).map (S0 ++ ·) := by
  cases v with
  | r i =>
    cases k with
    | d b =>
      cases b with
      | int j =>
        cases x with
        | d y =>
          unfold setAt
          dsimp only [sh]
          rw [app_get]
          cases T[i]? with
          | none => rfl
          | some o =>
            cases o with
            | dct kvs => rfl
            | lst xs =>
              dsimp only
              split
              · rw [app_set]; rfl
              · split
                · rw [app_set]; rfl
                · rfl
        | _ => rfl
      | _ => rfl
    | _ => rfl
  | _ => rfl
theorem setD_sh (v k x : Vl) : setD (sh S0.length v) (sh S0.length k) (sh S0.length x) (S0 ++ T) = (setD v k x T).map (S0 ++ ·) := by
  cases v with
  | r i =>
    cases k with
    | d y =>
      cases x with
      | d z =>
        unfold setD
        dsimp only [sh]
        rw [app_get]
        cases T[i]? with
        | none => rfl
        | some o =>
          cases o with
          | lst xs => rfl
          | dct kvs =>
            dsimp only
            split
            · rw [app_set]; rfl
            · rfl
      | _ => rfl
    | _ => rfl
  | _ => rfl
theorem fs_setIx {o i e : TEx} (ho : FrE c o) (hi : FrE c i) (he : FrE c e) : FrS c (sSetIx o i e) := fun S0 γ T => by
  unfold sSetIx
  rw [he]
  refine shR_next fun x T1 => ?_
  rw [ho]
  refine shR_next fun v T2 => ?_
  rw [hi]
  refine shR_next fun k T3 => ?_
  rw [setAt_sh, setD_sh]
  cases setAt v k x T3 with
  | some S4 => rfl
  | none => cases setD v k x T3 <;> rfl
theorem fs_aug (i : Nat) (o : BO) {e : TEx} (he : FrE c e) : FrS c (sAug i o e) := fun S0 γ T => by
  unfold sAug
  rw [shE_get]
  cases γ[i]? with
  | none => rfl
  | some u =>
    cases u with
    | none => rfl
    | some v =>
      cases v with
      | d y =>
        cases y with
        | int x =>
          dsimp only [Option.map, sh]
          rw [he]
          refine shR_next fun y T1 => ?_
          cases y with
          | d z =>
            cases o <;> first
              | rfl
              | (cases z with
                  | int k =>
                    show RS.nx ((shE S0.length γ).set i (some (sh S0.length (I (x + k))))) _ = RS.nx _ _
                    rw [shE_set]
                  | _ => rfl)
          | _ => cases o <;> rfl
        | _ => rfl
      | _ => rfl
theorem fs_ret {e : TEx} (he : FrE c e) : FrS c (sRet e) := fun S0 γ T => by
  unfold sRet
  rw [he]
  exact shR_next fun x T1 => rfl
theorem fs_expr {e : TEx} (he : FrE c e) : FrS c (sExpr e) := fun S0 γ T => by
  unfold sExpr
  rw [he]
  exact shR_next fun x T1 => rfl
theorem fs_if {t : TTs} {a b : TSt} (ht : FrT c t) (ha : FrS c a) (hb : FrS c b) : FrS c (sIf t a b) := fun S0 γ T => by
  unfold sIf
  rw [ht]
  refine shR_next fun k T1 => ?_
  cases k with
  | true => exact ha _ _ _
  | false => exact hb _ _ _
theorem fLoop_sh {g : TTg} {b : TSt} (hg : FrG g) (hb : FrS c b) : ∀ (xs : List Vl) (γ : Env) (T : Store), fLoop g b c (xs.map (sh S0.length)) (shE S0.length γ) (S0 ++ T) = shRS S0.length S0 (fLoop g b c xs γ T)
  | [], γ, T => rfl
  | x :: xs, γ, T => by
    rw [List.map_cons]
    unfold fLoop
    rw [hg]
    cases g x γ with
    | none => rfl
    | some γ1 =>
      dsimp only [Option.map]
      rw [hb]
      cases b c γ1 T with
      | nx γ' T' => exact fLoop_sh hg hb xs γ' T'
      | ct γ' T' => exact fLoop_sh hg hb xs γ' T'
      | bk γ' T' => rfl
      | rt v T' => rfl
      | er k y γ' T' => rfl
      | stuck => rfl
theorem rLoop_sh {g : TTg} {b : TSt} (hg : FrG g) (hb : FrS c b) (i : Nat) : ∀ (f k : Nat) (γ : Env) (T : Store), rLoop g b c (i + S0.length) f k (shE S0.length γ) (S0 ++ T) = shRS S0.length S0 (rLoop g b c i f k γ T)
  | 0, k, γ, T => rfl
  | f + 1, k, γ, T => by
    unfold rLoop
    rw [app_get]
    cases T[i]? with
    | none => rfl
    | some o =>
      cases o with
      | dct kvs => rfl
      | lst xs =>
        dsimp only
        cases xs[k]? with
        | none => rfl
        | some x =>
          dsimp only
          have hx := hg S0.length (.d x) γ
          rw [sh_d] at hx
          rw [hx]
          cases g (.d x) γ with
          | none => rfl
          | some γ1 =>
            dsimp only [Option.map]
            rw [hb]
            cases b c γ1 T with
            | nx γ' T' => exact rLoop_sh hg hb i f (k + 1) γ' T'
            | ct γ' T' => exact rLoop_sh hg hb i f (k + 1) γ' T'
            | bk γ' T' => rfl
            | rt v T' => rfl
            | er kk y γ' T' => rfl
            | stuck => rfl
theorem fs_for {it : TIt} {g : TTg} {b : TSt} (hi : FrI c it) (hg : FrG g) (hb : FrS c b) : FrS c (sFor it g b) := fun S0 γ T => by
  unfold sFor
  rw [hi]
  refine shR_next fun J T1 => ?_
  cases J with
  | its xs => exact fLoop_sh hg hb xs γ T1
  | ref i => exact rLoop_sh hg hb i _ 0 γ T1
theorem wLoop_sh {t : TTs} {b : TSt} (ht : FrT c t) (hb : FrS c b) : ∀ (f : Nat) (γ : Env) (T : Store), wLoop t b c f (shE S0.length γ) (S0 ++ T) = shRS S0.length S0 (wLoop t b c f γ T)
  | 0, γ, T => rfl
  | f + 1, γ, T => by
    unfold wLoop
    rw [ht]
    refine shR_next fun k T1 => ?_
    cases k with
    | false => rfl
    | true =>
      show (match b c (shE S0.length γ) (S0 ++ T1) with
        | .nx γ' S' => wLoop t b c f γ' S'
        | .ct γ' S' => wLoop t b c f γ' S'
        | .bk γ' S' => .nx γ' S'
        | o => o) = shRS S0.length S0 (match b c γ T1 with
        | .nx γ' S' => wLoop t b c f γ' S'
        | .ct γ' S' => wLoop t b c f γ' S'
        | .bk γ' S' => .nx γ' S'
        | o => o)
      rw [hb]
      cases b c γ T1 with
      | nx γ' T' => exact wLoop_sh ht hb f γ' T'
      | ct γ' T' => exact wLoop_sh ht hb f γ' T'
      | bk γ' T' => rfl
      | rt v T' => rfl
      | er kk y γ' T' => rfl
      | stuck => rfl
theorem fs_while {t : TTs} {b : TSt} (ht : FrT c t) (hb : FrS c b) : FrS c (sWhile t b) := fun S0 γ T => by
  unfold sWhile
  rw [fuel_sh]
  exact wLoop_sh ht hb _ γ T
theorem app1_sh (v x : Vl) : app1 (sh S0.length v) (sh S0.length x) (S0 ++ T) = (app1 v x T).map (S0 ++ ·) := by
  cases v with
  | r i =>
    cases x with
    | d y =>
      unfold app1
      dsimp only [sh]
      rw [app_get]
      cases T[i]? with
      | none => rfl
      | some o =>
        cases o with
        | dct kvs => rfl
        | lst xs =>
          dsimp only
          split
          · rw [app_set]; rfl
          · rfl
    | _ => rfl
  | _ => rfl
theorem fs_app {o e : TEx} (ho : FrE c o) (he : FrE c e) : FrS c (sApp o e) := fun S0 γ T => by
  unfold sApp
  rw [ho]
  refine shR_next fun v T1 => ?_
  cases v with
  | r i =>
    dsimp only [sh]
    rw [app_get]
    cases T1[i]? with
    | none => rfl
    | some o =>
    cases o with
    | dct kvs => rfl
    | lst xs =>
    dsimp only
    rw [he]
    refine shR_next fun x T2 => ?_
    have := app1_sh (S0 := S0) (T := T2) (.r i) x
    dsimp only [sh] at this
    rw [this]
    cases app1 (.r i) x T2 <;> rfl
  | _ => rfl
theorem ext1_sh (i : Nat) (x : Vl) : ext1 (i + S0.length) (sh S0.length x) (S0 ++ T) = (ext1 i x T).map (S0 ++ ·) := by
  unfold ext1
  rw [app_get, dat_sh]
  cases T[i]? with
  | none => rfl
  | some o =>
    cases o with
    | dct kvs => rfl
    | lst xs =>
      cases dat T x with
      | none => rfl
      | some y =>
        cases y with
        | list ys =>
          dsimp only
          split
          · rw [app_set]; rfl
          · rfl
        | _ => rfl
theorem fs_ext {o e : TEx} (ho : FrE c o) (he : FrE c e) : FrS c (sExt o e) := fun S0 γ T => by
  unfold sExt
  rw [ho]
  refine shR_next fun v T1 => ?_
  cases v with
  | r i =>
    dsimp only [sh]
    rw [app_get]
    cases T1[i]? with
    | none => rfl
    | some o =>
    cases o with
    | dct kvs => rfl
    | lst xs =>
    dsimp only
    rw [he]
    refine shR_next fun x T2 => ?_
    rw [ext1_sh]
    cases ext1 i x T2 <;> rfl
  | _ => rfl
theorem isRef_sh (i n : Nat) (x : Vl) : isRef (i + n) (sh n x) = isRef i x := by
  cases x with
  | r j =>
    show decide (i + n = j + n) = decide (i = j)
    by_cases h : i = j
    · rw [decide_eq_true h, decide_eq_true (by omega)]
    · rw [decide_eq_false h, decide_eq_false (by omega)]
  | _ => rfl
theorem upd1_sh (i : Nat) (x : Vl) : upd1 (i + S0.length) (sh S0.length x) (S0 ++ T) = (upd1 i x T).map (S0 ++ ·) := by
  unfold upd1
  rw [app_get, dko_sh, isRef_sh]
  cases T[i]? with
  | none => rfl
  | some o =>
    cases o with
    | lst xs => rfl
    | dct kvs =>
      cases dko T x with
      | none => rfl
      | some more =>
        dsimp only
        split
        · rw [app_set]; rfl
        · rfl
theorem fs_upd {o e : TEx} (ho : FrE c o) (he : FrE c e) : FrS c (sUpd o e) := fun S0 γ T => by
  unfold sUpd
  rw [ho]
  refine shR_next fun v T1 => ?_
  cases v with
  | r i =>
    dsimp only [sh]
    rw [app_get]
    cases T1[i]? with
    | none => rfl
    | some o =>
    cases o with
    | lst xs => rfl
    | dct kvs =>
    dsimp only
    rw [he]
    refine shR_next fun x T2 => ?_
    rw [upd1_sh]
    cases upd1 i x T2 <;> rfl
  | _ => rfl
theorem fs_err (k : Nat) : FrS c (sErr k) := fun _ _ _ => rfl
theorem fs_errX (k : Nat) {e : TEx} (he : FrE c e) : FrS c (sErrX k e) := fun S0 γ T => by
  unfold sErrX
  rw [he]
  refine shR_next fun v T1 => ?_
  cases v with
  | d y =>
    show (if txtOk y = true then RS.er k y (shE S0.length γ) (S0 ++ T1) else .stuck) = shRS _ S0 (if txtOk y = true then RS.er k y γ T1 else .stuck)
    split <;> rfl
  | _ => rfl
theorem unslot_sh (o : Option Nat) : unslot (shE n γ) o = shE n (unslot γ o) := by
  cases o with
  | none => rfl
  | some i => exact shE_set0 n i
theorem endSu_sh (o : Option Nat) (r : RS) : endSu o (shRS S0.length S0 r) = shRS S0.length S0 (endSu o r) := by
  cases r with
  | nx γ T => show RS.nx _ _ = RS.nx _ _; rw [flatE_sh, unslot_sh]
  | bk γ T => show RS.bk _ _ = RS.bk _ _; rw [flatE_sh, unslot_sh]
  | ct γ T => show RS.ct _ _ = RS.ct _ _; rw [flatE_sh, unslot_sh]
  | rt v T =>
    show (if flat (sh S0.length v) = true then RS.rt (sh S0.length v) (S0 ++ T) else .stuck) = shRS _ S0 (if flat v = true then RS.rt v T else .stuck)
    rw [flat_sh]
    split <;> rfl
  | er k x γ T => rfl
  | stuck => rfl
theorem inSu_sh (k : Nat) (x : D) (o : Option Nat) : inSu (shE n γ) k x o = shE n (inSu γ k x o) := by
  cases o with
  | none => exact flatE_sh
  | some i =>
    show (Mk.flatE (shE n γ)).set i (some (sh n (.ex k x))) = _
    rw [flatE_sh, shE_set]
    rfl
theorem tryH_sh (k : Nat) (x : D) : ∀ {hs : List Hd}, (∀ h ∈ hs, FrS c h.b) → tryH c k x (shE S0.length γ) (S0 ++ T) hs = shRS S0.length S0 (tryH c k x γ T hs)
  | [], _ => rfl
  | h :: r, hh => by
    unfold tryH
    split
    · rw [inSu_sh, hh h List.mem_cons_self]
      exact endSu_sh _ _
    · exact tryH_sh k x fun h hm => hh h (List.mem_cons_of_mem _ hm)
theorem fs_try {b : TSt} {hs : List Hd} (hb : FrS c b) (hh : ∀ h ∈ hs, FrS c h.b) : FrS c (sTry b hs) := fun S0 γ T => by
  unfold sTry
  rw [hb]
  cases b c γ T with
  | er k x γ' T' => exact tryH_sh k x hh
  | _ => rfl
end
/-! ### what is read from a text -/
structure FrCs (c : Cl) (r : Cs) : Prop where
  e : ∀ {sc : Scope} {e : Expr} {x : TEx}, r.e sc e = some x → FrE c x
  t : ∀ {sc : Scope} {e : Expr} {x : TTs}, r.t sc e = some x → FrT c x
  i : ∀ {sc : Scope} {tg e : Expr} {x : TIt}, r.i sc tg e = some x → FrI c x
  g : ∀ {fnb : Str → Bool} {sc : Scope} {e : Expr} {g : TTg} {ws : List Nat}, r.g fnb sc e = some (g, ws) → FrG g
section
variable {c : Cl} {G : Gt} {r rb : Cs} {sc : Scope} {pos : Pos}
theorem fr_args (s : FrCs c r) : ∀ {es : List Expr} {xs : TAr}, cArgs r sc es = some xs → FrA c xs
  | [], _, h => by unfold cArgs at h; cases h; exact fa_nil
  | e :: es, _, h => by
    unfold cArgs at h
    split at h
    · rename_i e1 e2
      cases h
      exact fa_cons (s.e e1) (fr_args s e2)
    · cases h
theorem fr_name {x : Str} {xe : TEx} (h : cName G sc x = some xe) : FrE c xe := by
  unfold cName at h
  split at h
  case isFalse => cases h
  split at h
  · split at h
    · cases h; exact fe_V _
    · cases h
  · split at h
    · split at h
      · cases h; exact fe_C _
      · split at h
        · cases h; exact fe_F _
        · cases h
    · cases h
theorem fr_const {k : Const} {xe : TEx} (h : cConst k = some xe) : FrE c xe := by
  unfold cConst at h
  split at h
  · cases h; exact fe_C _
  · cases h; exact fe_C _
  · cases h; exact fe_C _
  · cases h; exact fe_C _
  · cases h
theorem fr_bin (s : FrCs c r) {a b : Expr} {op : Operator} {xe : TEx} (h : cBin G r sc a op b pos = some xe) : FrE c xe := by
  unfold cBin at h
  split at h
  · rename_i e1 e2 e3
    cases h
    exact fe_bin _ _ (s.e e2) (s.e e3)
  · cases h
theorem fr_bool (s : FrCs c r) {op : PySem.BoolOp} : ∀ {vs : List Expr} {xe : TEx}, cBool r sc op vs = some xe → FrE c xe
  | [], _, h => by cases h
  | [a], _, h => by unfold cBool at h; exact s.e h
  | a :: b :: es, xe, h => by
    unfold cBool at h
    split at h
    · rename_i x y e1 e2
      have h2 := fr_bool s e2
      cases op with
      | And => cases h; exact fe_and (s.e e1) h2
      | Or => cases h; exact fe_or (s.e e1) h2
    · cases h
theorem fr_boolT (s : FrCs c r) {op : PySem.BoolOp} : ∀ {vs : List Expr} {xe : TTs}, cBoolT r sc op vs = some xe → FrT c xe
  | [], _, h => by cases h
  | [a], _, h => by unfold cBoolT at h; exact s.t h
  | a :: b :: es, xe, h => by
    unfold cBoolT at h
    split at h
    · rename_i x y e1 e2
      have h2 := fr_boolT s e2
      cases op with
      | And => cases h; exact ft_and (s.t e1) h2
      | Or => cases h; exact ft_or (s.t e1) h2
    · cases h
theorem fr_cmp (s : FrCs c r) {a : Expr} {ops : List CmpOp} {bs : List Expr} {xe : TEx} (h : cCmp r sc a ops bs = some xe) : FrE c xe := by
  unfold cCmp at h
  split at h
  · split at h
    case isFalse => cases h
    split at h
    · rename_i e1 e2; cases h; exact fe_cmp _ (s.e e1) (s.e e2)
    · cases h
  · split at h
    case isFalse => cases h
    split at h
    · rename_i e1 e2 e3; cases h; exact fe_cmp2 _ _ (s.e e1) (s.e e2) (s.e e3)
    · cases h
  · cases h
theorem fr_cmpT (s : FrCs c r) {a : Expr} {ops : List CmpOp} {bs : List Expr} {xe : TTs} (h : cCmpT r sc a ops bs = some xe) : FrT c xe := by
  unfold cCmpT at h
  split at h
  · split at h
    case isFalse => cases h
    split at h
    · rename_i e1 e2; cases h; exact ft_cmp _ (s.e e1) (s.e e2)
    · cases h
  · split at h
    case isFalse => cases h
    split at h
    · rename_i e1 e2 e3; cases h; exact ft_cmp2 _ _ (s.e e1) (s.e e2) (s.e e3)
    · cases h
  · cases h
theorem fr_pt (s : FrCs c r) {e : Option Expr} {x : TPt} (h : cPt r sc e = some x) : FrP c x := by
  unfold cPt at h
  split at h
  · cases h; exact fp_no
  · split at h
    · rename_i e1; cases h; exact fp_some (s.e e1)
    · cases h
theorem fr_sub (s : FrCs c r) {a b : Expr} {xe : TEx} (h : cSub G r sc a b pos = some xe) : FrE c xe := by
  unfold cSub at h
  split at h
  · split at h
    · rename_i e1 e2 e3; cases h; exact fe_sl _ (s.e e1) (fr_pt s e2) (fr_pt s e3)
    · cases h
  · split at h
    · rename_i e1; cases h; exact fe_rev _ (s.e e1)
    · cases h
  · split at h
    case isFalse => cases h
    split at h
    · rename_i e1 e2; cases h; exact fe_ix (s.e e1) (s.e e2)
    · cases h
theorem fr_ifs (s : FrCs c r) {ifs : List Expr} {t : TTs} (h : cIfs r sc ifs = some t) : FrT c t := by
  unfold cIfs at h
  split at h
  · cases h; exact ft_yes
  · exact s.t h
  · cases h
theorem fr_lc (s : FrCs c r) (sb : FrCs c rb) {elt tg iter : Expr} {ifs : List Expr} {scope : Scope} {m : Bool} {xe : TEx} (h : cLc G r rb sc elt tg iter ifs scope m = some xe) : FrE c xe := by
  unfold cLc at h
  split at h
  case isFalse => cases h
  split at h
  · rename_i it g ws t e e1 e2 e3 e4
    split at h
    case isFalse => cases h
    injection h with h
    rw [← h]
    cases G.lams with
    | true => exact fe_lcL _ _ _ (s.i e1) (sb.g e2) (fr_ifs sb e3) (sb.e e4)
    | false => exact fe_lc _ _ (s.i e1) (sb.g e2) (fr_ifs sb e3) (sb.e e4)
  · cases h
theorem fr_bi {b m : Bool} {x : Str} {f : List Vl → Store → R Vl} (h : biOf b m x = some f) : FrB f := by
  unfold biOf at h
  split at h
  · cases h; exact fb_len
  split at h
  · cases h; exact fb_abs
  split at h
  · cases h; exact fb_repr
  split at h
  case isFalse => cases h
  split at h
  · cases h; exact fb_max
  split at h
  · cases h; exact fb_min
  split at h
  · cases h; exact fb_all
  split at h
  · cases h; exact fb_any
  split at h
  · cases h; exact fb_sum
  split at h
  · cases h; exact fb_sorted m
  cases h
theorem fr_bt {m : Bool} {x : Str} {f : List Vl → Store → R Vl} (h : btOf m x = some f) : FrB f := by
  unfold btOf at h
  split at h
  · cases h; exact fb_int
  split at h
  · cases h; exact fb_tuple
  split at h
  · cases h; exact fb_list m
  cases h
theorem fr_argsS (s : FrCs c r) : ∀ {es : List Expr} {xs : TAr}, cArgsS r sc es = some xs → FrA c xs
  | [], _, h => by
    unfold cArgsS at h
    cases h
    exact fun _ _ _ => rfl
  | e :: es, xs, h => by
    unfold cArgsS at h
    split at h
    · rename_i e0; cases e0
    · rename_i e1 p es1 e0
      cases e0
      split at h
      · rename_i q1 q2
        cases h
        exact fa_star (s.e q1) (fr_argsS s q2)
      · cases h
    · rename_i e1 es1 _ e0
      cases e0
      split at h
      case isFalse => cases h
      split at h
      · rename_i q1 q2
        cases h
        exact fa_cons (s.e q1) (fr_argsS s q2)
      · cases h
theorem fr_dc (s : FrCs c r) (sb : FrCs c rb) {kx vx tg iter : Expr} {ifs : List Expr} {scope : Scope} {m : Bool} {xe : TEx} (h : cDc G r rb sc kx vx tg iter ifs scope m = some xe) : FrE c xe := by
  unfold cDc at h
  split at h
  case isFalse => cases h
  split at h
  · rename_i it g ws t ke ve e1 e2 e3 e4 e5
    split at h
    case isFalse => cases h
    injection h with h
    rw [← h]
    exact fe_cm m _ _ (s.i e1) (sb.g e2) (fr_ifs sb e3) (fm_D (sb.e e4) (sb.e e5))
  · cases h
theorem fr_lc2 (s : FrCs c r) (sb : FrCs c rb) {elt tg iter tg1 iter1 : Expr} {ifs ifs1 : List Expr} {scope : Scope} {m : Bool} {xe : TEx} (h : cLc2 G r rb sc elt tg iter ifs tg1 iter1 ifs1 scope m = some xe) : FrE c xe := by
  unfold cLc2 at h
  split at h
  case isFalse => cases h
  split at h
  · rename_i it g ws t e1 e2 e3
    split at h
    · rename_i it1 g1 ws1 t1 e f1 f2 f3 f4
      split at h
      case isFalse => cases h
      injection h with h
      rw [← h]
      exact fe_cm m _ _ (s.i e1) (sb.g e2) (fr_ifs sb e3) (fm_In _ (sb.i f1) (sb.g f2) (fr_ifs sb f3) (fm_L (sb.e f4)))
    · cases h
  · cases h
theorem fr_callV (hc : FrC c) (s : FrCs c r) {f : Str} {args : List Expr} {xe : TEx} (h : cCallV G r sc f args = some xe) : FrE c xe := by
  unfold cCallV at h
  split at h
  case isFalse => cases h
  split at h
  case h_3 => cases h
  · rename_i i ei
    injection h with h
    rw [← h]
    cases G.lams with
    | true => exact fe_callV hc _ i
    | false => exact fe_callW hc i
  · rename_i e es i ei
    split at h
    case isFalse => cases h
    split at h
    case h_2 => cases h
    rename_i xs ea
    injection h with h
    rw [← h]
    cases G.lams with
    | true => exact fe_callFL hc _ i (fr_args s ea)
    | false => exact fe_callF hc i (fr_args s ea)
theorem fr_call (hc : FrC c) (s : FrCs c r) {f : Str} {args : List Expr} {xe : TEx} (h : cCall G r sc f args pos = some xe) : FrE c xe := by
  unfold cCall at h
  split at h
  case isFalse => exact fr_callV hc s h
  split at h
  · split at h
    case h_2 => cases h
    split at h
    case isFalse => cases h
    split at h
    · rename_i e1 e2; cases h; exact fe_is _ (s.e e1)
    · cases h
  · split at h
    · rename_i id np ds el
      split at h
      case isFalse => cases h
      split at h
      case h_2 => cases h
      rename_i xs ea
      injection h with h
      rw [← h]
      have ha := fr_args s ea
      cases G.lams with
      | false => exact fe_call hc id _ ha
      | true =>
        cases args with
        | nil => exact fe_call hc id _ ha
        | cons e es => exact fe_callL hc _ id _ ha
    · split at h
      case isFalse => cases h
      split at h
      · cases h
      · split at h
        · rename_i ea eb; cases h; exact fe_B (fr_bi eb) (fr_args s ea)
        · rename_i ea eb ec; cases h; exact fe_B (fr_bt ec) (fr_args s ea)
        · cases h
theorem fr_e (hc : FrC c) (s : FrCs c r) (sb : FrCs c rb) {e : Expr} {xe : TEx} (h : cE G r rb sc e = some xe) : FrE c xe := by
  unfold cE at h
  split at h
  · exact fr_name h
  · exact fr_const h
  · exact fr_bin s h
  · split at h
    · rename_i e1; cases h; exact fe_neg (s.e e1)
    · cases h
  · split at h
    · rename_i e1; cases h; exact fe_not (s.e e1)
    · cases h
  · exact fr_bool s h
  · split at h
    · rename_i e1 e2 e3; cases h; exact fe_if (s.t e1) (s.e e2) (s.e e3)
    · cases h
  · exact fr_cmp s h
  · split at h
    case isFalse =>
      split at h
      · rename_i e1; cases h; exact fe_tup (fa_few (fr_argsS s e1))
      · cases h
    split at h
    · rename_i e1; cases h; exact fe_tup (fr_args s e1)
    · cases h
  · split at h
    case isFalse =>
      split at h
      · rename_i e1; cases h; exact fe_lst _ (fa_few (fr_argsS s e1))
      · cases h
    split at h
    · rename_i e1; cases h; exact fe_lst _ (fr_args s e1)
    · cases h
  · exact fr_sub s h
  · exact fr_lc s sb h
  · split at h
    · cases h; exact fe_lam _
    · cases h
  · exact fr_lc2 s sb h
  · exact fr_dc s sb h
  · split at h
    · split at h
      · cases h; exact fe_dct _ _
      · cases h
    · split at h
      · split at h
        · rename_i e1 e2; cases h; exact fe_dp1 _ (s.e e1) (s.e e2)
        · cases h
      · cases h
  · split at h
    · split at h
      case isFalse => cases h
      split at h
      · rename_i e1; cases h; exact fe_fld _ (s.e e1)
      · cases h
    · cases h
  · split at h
    · rename_i x hx
      cases h
      unfold cLRng at hx
      split at hx
      case h_2 => cases hx
      split at hx
      case isFalse => cases hx
      split at hx
      · rename_i e1; cases hx; exact fe_lrng _ (s.e e1)
      · cases hx
    · exact fr_call hc s h
  · cases h
theorem fr_t (s : FrCs c r) {e : Expr} {xe : TTs} (h : cT r sc e = some xe) : FrT c xe := by
  unfold cT at h
  split at h
  · split at h
    · rename_i e1; cases h; exact ft_not (s.t e1)
    · cases h
  · exact fr_boolT s h
  · exact fr_cmpT s h
  · split at h
    · rename_i e1 e2 e3; cases h; exact ft_ifx (s.t e1) (s.t e2) (s.t e3)
    · cases h
  · split at h
    case isFalse => cases h
    split at h
    · rename_i e1; cases h; exact ft_V (s.e e1)
    · cases h
theorem fr_i (s : FrCs c r) {tg e : Expr} {xe : TIt} (h : cI G r sc tg e = some xe) : FrI c xe := by
  unfold cI at h
  split at h
  · split at h
    · split at h
      · split at h
        · rename_i e1; cases h; exact fi_rng1 (s.e e1)
        · cases h
      · split at h
        · rename_i e1 e2; cases h; exact fi_rng2 (s.e e1) (s.e e2)
        · cases h
      · cases h
    · split at h
      · split at h
        · split at h
          · rename_i e1 e2; cases h; exact fi_zip (s.e e1) (s.e e2)
          · cases h
        · cases h
      · split at h
        · split at h
          · split at h
            · rename_i e1; cases h; exact fi_enum (s.e e1)
            · cases h
          · cases h
        · split at h
          · rename_i e1; cases h; exact fi_V (s.e e1)
          · cases h
  · split at h
    · rename_i e1; cases h; exact fi_V (s.e e1)
    · cases h
theorem fr_gs (s : FrCs c r) {fnb : Str → Bool} : ∀ {es : List Expr} {gs : List Vl → Env → Option Env} {ws : List Nat}, cGs r fnb sc es = some (gs, ws) → FrGs gs
  | [], _, _, h => by unfold cGs at h; cases h; exact fg_nil
  | e :: es, gs, ws, h => by
    unfold cGs at h
    split at h
    · rename_i g ws1 gs1 ws2 e1 e2
      cases h
      exact fg_cons (s.g e1) (fr_gs s e2)
    · cases h
theorem fr_g (s : FrCs c r) {fnb : Str → Bool} {e : Expr} {g : TTg} {ws : List Nat} (h : cG G r fnb sc e = some (g, ws)) : FrG g := by
  unfold cG at h
  split at h
  · split at h
    case isFalse => cases h
    split at h
    · cases h; exact fg_V _
    · cases h
  · split at h
    case isFalse => cases h
    split at h
    · rename_i eg; cases h; exact fg_tup (fr_gs s eg)
    · cases h
  · cases h
theorem fr_comp (hc : FrC c) : ∀ (n : Nat) (G : Gt), FrCs c (comp G n)
  | 0, G => ⟨fun h => (by cases h), fun h => (by cases h), fun h => (by cases h), fun h => (by cases h)⟩
  | n + 1, G => ⟨fun h => fr_e hc (fr_comp hc n G) (fr_comp hc n G.blk) h, fun h => fr_t (fr_comp hc n G) h, fun h => fr_i (fr_comp hc n G) h, fun h => fr_g (fr_comp hc n G) h⟩
/-! statements -/
abbrev FrSs (c : Cl) (q : Ss) : Prop := ∀ (sc : Scope) (st : Stmt), FrS c (q.s sc st)
variable {q : Ss} {su : Option Nat → Ss}
theorem fr_ss (s : FrSs c q) : ∀ sts : List Stmt, FrS c (cSs q sc sts)
  | [] => fs_pass
  | [st] => s sc st
  | st :: t :: rest => fs_seq (s sc st) (fr_ss s (t :: rest))
theorem fr_setName (s : FrCs c r) (sb : FrCs c rb) {x : Str} {p : Pos} {e : Expr} : FrS c (cSetName G r rb sc x p e) := by
  unfold cSetName
  split
  case isFalse => exact fs_no
  split
  case h_2 => exact fs_no
  rename_i i xe e1 e2
  split
  · split
    · split
      · rename_i xl el; exact fs_set i (fr_lc s sb el)
      · exact fs_no
    · exact fs_set i (s.e e2)
  · split
    · exact fs_set i (s.e e2)
    · exact fs_no
theorem fr_plainTup (s : FrCs c r) {ts : List Expr} {kk : Nat} {p : Pos} {e : Expr} : FrS c (cPlainTup G r sc ts kk p e) := by
  unfold cPlainTup
  split
  case isFalse => exact fs_no
  split
  · rename_i e1 e2; exact fs_asg (s.g e1) (s.e e2)
  · exact fs_no
theorem fr_setTup (s : FrCs c r) {ts : List Expr} {kk : Nat} {p : Pos} {e : Expr} : FrS c (cSetTup G r sc ts kk p e) := by
  unfold cSetTup
  split
  · split
    · exact fr_plainTup s
    · split
      · split
        case isFalse => exact fs_no
        split
        · rename_i e1 e2 e3 e4; exact fs_par _ _ (s.e e3) (s.e e4)
        · exact fs_no
      · split
        case isFalse => exact fs_no
        split
        · rename_i e1 e2 e3 e4 e5 e6; exact fs_par3 _ _ _ (s.e e4) (s.e e5) (s.e e6)
        · exact fs_no
      · exact fs_no
    · exact fs_no
  · split
    · exact fr_plainTup s
    · exact fs_no
theorem fr_expr (s : FrCs c r) {e : Expr} : FrS c (cExpr r sc e) := by
  unfold cExpr
  split
  · exact fs_pass
  · split
    case isFalse =>
      split
      · split
        · rename_i e1 e2; exact fs_ext (s.e e1) (s.e e2)
        · exact fs_no
      · split
        · split
          · rename_i e1 e2; exact fs_upd (s.e e1) (s.e e2)
          · exact fs_no
        · exact fs_no
    split
    · rename_i e1 e2; exact fs_app (s.e e1) (s.e e2)
    · exact fs_no
  · split
    case isFalse => exact fs_no
    split
    · rename_i e1; exact fs_expr (s.e e1)
    · exact fs_no
theorem fr_raise (s : FrCs c r) {x : Str} {a : Expr} : FrS c (cRaise G r sc x a) := by
  unfold cRaise
  split
  case isFalse => exact fs_no
  split
  · split
    · exact fs_err _
    · exact fs_no
  · split
    · rename_i ea; exact fs_errX _ (s.e ea)
    · exact fs_no
  · exact fs_no
theorem fr_hd (ssu : ∀ k, FrSs c (su k)) {h : ExceptHandler} {x : Hd} (e : cHd G su sc h = some x) : FrS c x.b := by
  unfold cHd at e
  split at e
  case h_2 => cases e
  split at e
  case isFalse => cases e
  split at e
  case h_2 => cases e
  rename_i ks el
  split at e
  · cases e; exact fr_ss (ssu (kOf ks)) _
  · split at e
    case isFalse => cases e
    split at e
    case h_2 => cases e
    cases e
    exact fr_ss (ssu (kOf ks)) _
theorem fr_hds (ssu : ∀ k, FrSs c (su k)) : ∀ {hs : List ExceptHandler} {l : List Hd}, cHds G su sc hs = some l → ∀ h ∈ l, FrS c h.b
  | [], l, e => by unfold cHds at e; cases e; exact fun h hm => nomatch hm
  | h :: hs, l, e => by
    unfold cHds at e
    split at e
    case h_2 => cases e
    rename_i x xs e1 e2
    cases e
    intro y hy
    rcases List.mem_cons.mp hy with rfl | hy
    · exact fr_hd ssu e1
    · exact fr_hds ssu e2 y hy
theorem fr_s (s : FrCs c r) (sb : FrCs c rb) (sq : FrSs c q) (ssu : ∀ k, FrSs c (su k)) (st : Stmt) : FrS c (cS G r rb q su sc st) := by
  unfold cS
  split
  · exact fr_expr s
  · exact fr_setName s sb
  · exact fr_setTup s
  · split
    case isFalse => exact fs_no
    split
    · rename_i e1 e2 e3; exact fs_setIx (s.e e1) (s.e e2) (s.e e3)
    · exact fs_no
  · split
    case isFalse => exact fs_no
    split
    · rename_i e1 e2; exact fs_aug _ _ (s.e e2)
    · exact fs_no
  · exact fs_ret (fe_C _)
  · split
    · rename_i e1; exact fs_ret (s.e e1)
    · exact fs_no
  · split
    · rename_i e1; exact fs_if (s.t e1) (fr_ss sq _) (fr_ss sq _)
    · exact fs_no
  · split
    case isFalse => exact fs_no
    split
    · rename_i e1; exact fs_while (s.t e1) (fr_ss sq _)
    · exact fs_no
  · exact fr_raise s
  · split
    case isFalse => exact fs_no
    split
    · rename_i l el; exact fs_try (fr_ss sq _) (fr_hds ssu el)
    · exact fs_no
  · split
    case isFalse => exact fs_no
    split
    · rename_i e1 e2; exact fs_for (s.i e1) (s.g e2) (fr_ss sq _)
    · exact fs_no
  · exact fs_pass
  · exact fs_brk
  · exact fs_cnt
  · exact fs_no
theorem fr_compS (hc : FrC c) (m : Nat) : ∀ (n : Nat) (G : Gt), FrSs c (compS G m n)
  | 0, G => fun _ _ => fs_no
  | n + 1, G => fun _ st => fr_s (fr_comp hc m G) (fr_comp hc m G.blk) (fr_compS hc m n G) (fun k => fr_compS hc m n (G.su k)) st
end
/-! ### calls -/
theorem fin_sh {S0 : Store} (keep : Bool) (n : Nat) (v : Vl) (T : Store) : fin keep (n + S0.length) (sh S0.length v) (S0 ++ T) = shR (sh S0.length) S0 (fin keep n v T) := by
  cases v with
  | r i =>
    unfold fin
    dsimp only [sh]
    by_cases h : i < n
    · rw [if_pos h, if_pos (by omega), app_take]
      rfl
    · rw [if_neg h, if_neg (by omega), app_get]
      cases T[i]? with
      | none => rfl
      | some o =>
        dsimp only
        split
        · rw [app_take, List.append_assoc]; rfl
        · rw [app_take]; rfl
  | d x =>
    show R.ok (Vl.d x) ((S0 ++ T).take (n + S0.length)) = R.ok _ _
    rw [app_take]
    rfl
  | _ => rfl
theorem runFn_sh {c : Cl} {fd : Fn} (hb : FrS c fd.body) (S0 T : Store) (xs : List Vl) : runFn fd c (xs.map (sh S0.length)) (S0 ++ T) = shR (sh S0.length) S0 (runFn fd c xs T) := by
  unfold runFn
  rw [List.length_map]
  split
  case isFalse => rfl
  have e : (xs.map (sh S0.length)).map some ++ List.replicate (fd.ns - fd.np) none = shE S0.length (xs.map some ++ List.replicate (fd.ns - fd.np) none) := by
    unfold shE
    rw [List.map_append, List.map_replicate, List.map_map, List.map_map]
    rfl
  rw [e, hb, app_len]
  cases fd.body c (xs.map some ++ List.replicate (fd.ns - fd.np) none) T with
  | nx γ' T' => exact fin_sh _ _ (.d .none) T'
  | rt v T' => exact fin_sh _ _ v T'
  | bk γ' T' => rfl
  | ct γ' T' => rfl
  | er k x γ' T' =>
    show R.er k x ((S0 ++ T').take (T.length + S0.length)) = R.er k x _
    rw [app_take]
  | stuck => rfl
theorem frC_cls {ds : List DefI} {G0 : Gt} {m n : Nat} (hb : ∀ d ∈ ds, d.fn.body = cBody d.G m n d.scope d.body) : ∀ j : Nat, FrC (cls (tabOf ds) (lamFn G0 m) j)
  | 0 => ⟨fun _ _ _ _ => rfl, fun _ _ _ _ => rfl⟩
  | j + 1 => by
    have ih := frC_cls (G0 := G0) hb j
    refine ⟨fun S0 T f xs => ?_, fun S0 T l xs => ?_⟩
    · show (match tabOf ds f with
        | some fd => runFn fd (cls (tabOf ds) (lamFn G0 m) j) (xs.map (sh S0.length)) (S0 ++ T)
        | none => .stuck) = shR _ S0 (match tabOf ds f with
        | some fd => runFn fd (cls (tabOf ds) (lamFn G0 m) j) xs T
        | none => .stuck)
      unfold tabOf
      cases hd : ds[f]? with
      | none => rfl
      | some d =>
        refine runFn_sh ?_ S0 T xs
        rw [hb d (List.mem_of_getElem? hd)]
        exact fr_ss (fr_compS ih m n d.G) _
    · show runFn (lamFn G0 m l) _ _ _ = shR _ S0 (runFn (lamFn G0 m l) _ xs T)
      refine runFn_sh ?_ S0 T xs
      unfold lamFn
      dsimp only
      split
      · rename_i x hx; exact fs_ret ((fr_comp ih m _).e hx)
      · exact fs_no
/-- values that name no object of the store -/
theorem run_any {c : Cl} (hc : FrC c) {f : Nat} {xs : List Vl} {v : Vl} (hx : ∀ n, xs.map (sh n) = xs) (hv : ∀ n, sh n v = v) (h : c.call f xs [] = .ok v []) (S : Store) : c.call f xs S = .ok v S := by
  have := hc.call S [] f xs
  rw [hx, List.append_nil, h] at this
  rw [this]
  show R.ok (sh S.length v) (S ++ []) = _
  rw [hv, List.append_nil]
theorem run_er {c : Cl} (hc : FrC c) {f : Nat} {xs : List Vl} {k : Nat} {x : D} (hx : ∀ n, xs.map (sh n) = xs) (h : c.call f xs [] = .er k x []) (S : Store) : c.call f xs S = .er k x S := by
  have := hc.call S [] f xs
  rw [hx, List.append_nil, h] at this
  rw [this]
  show R.er k x (S ++ []) = _
  rw [List.append_nil]
end Mk
/-! Mh3: the law's call and its end. -/
namespace Mk
open PySem PySem.Spec PyProof.Rows L2
/-- nothing is tracked but the script and empty tables -/
structure Bare0 (h : Heap) (H : Hp) (a : Addr) (ts : List Addr) : Prop where
  tb : ∀ t ∈ ts, H t = some (.tbl #[])
  or_ : ∀ b, H b = none ∨ b ∈ ts ∨ ∃ o xs, H b = some (.frz o (.lst xs))
  at_ : ∀ b, H b ≠ none → b = a ∨ b ∈ ts
section
variable {P : Program} {w : World} {K : PySem.W.Frag} {mg mb : Str → Option Value} {k : Nat} {fa a : Addr} {cs : List (Addr × Addr)} {fd : FuncData} {x : Str} {s₁ : Shared} {vs : List Value} {H : Hp}
/-- what else stands in the heap is not tracked -/
theorem free_of (ht : ∀ p ∈ cs, s₁.heap.get? p.2 = some (PySem.W.tabObj #[])) (ha : s₁.heap.get? a = some { cls := .type "list", data := .seq vs.toArray }) (B : Bare0 s₁.heap H a (cs.map (·.2))) {b : Addr} {o : Obj} (e : s₁.heap.get? b = some o) (n1 : ∀ us n, o.data ≠ .seq us n) (n2 : o.data ≠ .fields #[]) : H b = none := by
  cases q : H b with
  | none => rfl
  | some u =>
    rcases B.at_ b (by rw [q]; exact fun z => nomatch z) with z | z
    · rw [z, ha] at e
      cases e
      exact (n1 _ _ rfl).elim
    · obtain ⟨p, hp, ep⟩ := List.mem_map.mp z
      have t := ht p hp
      rw [ep, e] at t
      cases t
      exact (n2 rfl).elim
theorem old_of {H' : Hp} {h' : Heap} (ht : ∀ p ∈ cs, s₁.heap.get? p.2 = some (PySem.W.tabObj #[])) (C : ∀ p ∈ cs, PySem.W.CodeHd s₁.heap p.1 p.2) (B : Bare0 s₁.heap H a (cs.map (·.2))) (hok : HOk P w H s₁.heap) (hok' : HOk P w H' h') (un : Un [] [] H H' s₁.heap h') : PySem.OldK s₁.heap h' := by
  have plain : ∀ b o, b ∉ cs.map (·.2) → s₁.heap.get? b = some o → h'.get? b = some o := fun b o nb e => by
    rcases B.or_ b with z | z | ⟨ob, xs, z⟩
    · exact un.keep b o e z (fun m => nomatch m) (fun m => nomatch m)
    · exact absurd z nb
    · obtain ⟨e1, _⟩ := hok b _ z
      obtain ⟨e2, _⟩ := hok' b _ (un.frzs b ob _ z)
      rw [e] at e1
      cases e1
      exact e2
  have tabs : ∀ p ∈ cs, ∃ more : Array Value, h'.get? p.2 = some { cls := .none, data := .fields more } := fun p hp => by
    obtain ⟨more, z⟩ := un.tbls p.2 #[] (B.tb p.2 (List.mem_map.mpr ⟨p, hp, rfl⟩))
    exact ⟨_, hok' p.2 _ z⟩
  refine ⟨fun b o e => ?_, fun b o e => ?_⟩
  · by_cases hb : b ∈ cs.map (·.2)
    · obtain ⟨p, hp, ep⟩ := List.mem_map.mp hb
      obtain ⟨more, hm⟩ := tabs p hp
      subst ep
      rw [ht p hp] at e
      cases e
      exact .inr (.inl ⟨((C p hp).tab (ht p hp)).isCodeTable, rfl, #[], more, rfl, by rw [Array.empty_append]; exact hm⟩)
    · exact .inl (plain b o hb e)
  · by_cases hb : b ∈ cs.map (·.2)
    · obtain ⟨p, hp, ep⟩ := List.mem_map.mp hb
      obtain ⟨more, hm⟩ := tabs p hp
      subst ep
      exact ⟨_, hm⟩
    · exact ⟨o, plain b o hb e⟩
theorem base_of (KX : K.In s₁.heap) (hns : s₁.heap.Ns mainGlobals mg) (hb : s₁.heap.Ns builtinsNs mb) (hbb : ∀ x : Str, x ≠ "__name__" → mb x = bootBuiltins x) (hlim : s₁.heap.NoLimit) (hg : s₁.gens = #[]) (ht : ∀ p ∈ cs, s₁.heap.get? p.2 = some (PySem.W.tabObj #[])) (nT : ∀ p ∈ cs, K.lookup p.2 = none) (C : ∀ p ∈ cs, PySem.W.CodeHd s₁.heap p.1 p.2)
    (hbm : ∃ (bm : Addr) (ob : Obj), mg "__builtins__" = some (.ref bm) ∧ bm ≠ builtinsNs ∧ s₁.heap.get? bm = some ob ∧ ob.cls = .type "module" ∧ ob.dict = some builtinsNs ∧ ob.data = .plain) (ha : s₁.heap.get? a = some { cls := .type "list", data := .seq vs.toArray })
    (B : Bare0 s₁.heap H a (cs.map (·.2))) (hok : HOk P w H s₁.heap) (hK : H a ≠ none → K.lookup a = none) :
    K.In (hidT s₁.heap H) ∧ (hidT s₁.heap H).Ns mainGlobals mg ∧ (∀ p ∈ cs, LamX.TabB (hidT s₁.heap H) mg p.1 p.2) ∧ Env0 P w K mg (hidT s₁.heap H) callerA [] s₁ H := by
  have ns : ∀ {b : Addr} {m : Str → Option Value}, s₁.heap.Ns b m → (hidT s₁.heap H).Ns b m := fun {b m} ⟨o, es, ep, e, d, r⟩ => ⟨o, es, ep, hidT_get e (free_of ht ha B e (fun us n z => by rw [d] at z; cases z) fun z => by rw [d] at z; cases z), d, r⟩
  have kin : K.In (hidT s₁.heap H) := fun b o e => hidT_get (KX b o e) (by
    cases q : H b with
    | none => rfl
    | some u =>
      have nn : H b ≠ none := by rw [q]; exact fun z => nomatch z
      rcases B.at_ b nn with z | z
      · subst z
        rw [hK nn] at e
        cases e
      · obtain ⟨p, hp, ep⟩ := List.mem_map.mp z
        rw [← ep, nT p hp] at e
        cases e)
  obtain ⟨mc, l1, l2⟩ := hlim
  have md : L2.Mod K mg (hidT s₁.heap H) := ⟨kin, ns hns, ⟨mb, ns hb, hbb⟩, mc, ns l1, l2⟩
  have gne : ∀ p ∈ cs, mainGlobals ≠ p.2 := fun p hp z => by
    obtain ⟨o, es, ep, e, d, _⟩ := id hns
    rw [z, ht p hp] at e
    cases e
    cases d
  refine ⟨kin, ns hns, fun p hp => ⟨?_, ?_, gne p hp⟩, { frames := rfl, mod := md, bs := fun b o e => of_hidT e, bsz := Nat.le_of_eq (hidT_size _ _), funs := trivial, frf := fun b z => (nomatch z), hok := hok, bare := AllBare.of_eq hg }⟩
  · obtain ⟨o, us, file, tf, flags, tg, inF, text, tt, c1, c2, c3, c4, c5⟩ := C p hp
    refine ⟨o, us, file, tf, flags, tg, inF, text, tt, hidT_get c1 (free_of ht ha B c1 (fun us n z => by rw [c3] at z; cases z) fun z => ?_), c2, c3, c4, c5⟩
    rw [c3] at z
    cases z
    simp at c4
  · obtain ⟨bm, ob, b1, b2, b3, b4, b5, b6⟩ := hbm
    have ng : bm ≠ mainGlobals := fun z => by
      obtain ⟨o, es, ep, e, d, _⟩ := id hns
      rw [z, e] at b3
      cases b3
      rw [d] at b6
      cases b6
    have np : bm ≠ p.2 := fun z => by
      rw [z, ht p hp] at b3
      cases b3
      cases b6
    exact ⟨bm, ob, b1, b2, ng, np, hidT_get b3 (free_of ht ha B b3 (fun us n z => by rw [b6] at z; cases z) fun z => by rw [b6] at z; cases z), b4, b5, b6⟩
theorem law_callT {sp : SpA} {ns : List Int} (KX : K.In s₁.heap) (hns : s₁.heap.Ns mainGlobals mg) (hb : s₁.heap.Ns builtinsNs mb) (hbb : ∀ x : Str, x ≠ "__name__" → mb x = bootBuiltins x) (hlim : s₁.heap.NoLimit) (hg : s₁.gens = #[]) (ht : ∀ p ∈ cs, s₁.heap.get? p.2 = some (PySem.W.tabObj #[])) (nT : ∀ p ∈ cs, K.lookup p.2 = none) (C : ∀ p ∈ cs, PySem.W.CodeHd s₁.heap p.1 p.2)
    (hbm : ∃ (bm : Addr) (ob : Obj), mg "__builtins__" = some (.ref bm) ∧ bm ≠ builtinsNs ∧ s₁.heap.get? bm = some ob ∧ ob.cls = .type "module" ∧ ob.dict = some builtinsNs ∧ ob.data = .plain)
    (ha : s₁.heap.get? a = some { cls := .type "list", data := .seq vs.toArray }) (hi : IntsAre vs ns) (hl : ns.length ≤ sizeLine) (hr : Room k callerA)
    (F : ∀ base : Heap, K.In base → base.Ns mainGlobals mg → (∀ p ∈ cs, LamX.TabB base mg p.1 p.2) → FnM P w K mg base k fa fd [x] sp) (hbind : ∀ (s : Shared) (u : Value), BindsTo s fd ⟨[u], []⟩ [(x, u)])
    (hsp : ∀ H : Hp, (∀ p ∈ cs, H p.2 = some (.tbl #[])) → SqL K H a (ns.map V.int) → sp (fun _ _ => False) [.ref a] H (fun v _ => v = .bl true) fun _ _ _ => False) :
    codeAny (model P w) callerA (.call (.ref fa) ⟨[.ref a], []⟩) (fun r s' => r = .ok (.ret (.bool true)) ∧ PySem.OldK s₁.heap s'.heap ∧ s'.os = s₁.os ∧ AllBare s'.gens) s₁ := by
  have rv := vals_ints hi
  have am : a ∉ cs.map (·.2) := fun z => by
    obtain ⟨p, hp, ep⟩ := List.mem_map.mp z
    have t := ht p hp
    rw [ep, ha] at t
    have t' : Data.seq vs.toArray 0 = Data.fields #[] := congrArg Obj.data (Option.some.inj t)
    cases t'
  have go : ∀ H : Hp, Bare0 s₁.heap H a (cs.map (·.2)) → SqL K H a (ns.map V.int) → HOk P w H s₁.heap → (H a ≠ none → K.lookup a = none) →
      codeAny (model P w) callerA (.call (.ref fa) ⟨[.ref a], []⟩) (fun r s' => r = .ok (.ret (.bool true)) ∧ PySem.OldK s₁.heap s'.heap ∧ s'.os = s₁.os ∧ AllBare s'.gens) s₁ := fun H B hS hok hK => by
    obtain ⟨b1, b2, b3, e0⟩ := base_of KX hns hb hbb hlim hg ht nT C hbm ha B hok hK
    refine codeAny_mono ((F _ b1 b2 b3).run callerA [] s₁ H ⟨[.ref a], []⟩ [.ref a] [.ref a] _ _ (fun _ _ => False) (fun _ _ z => z.elim) hr rfl e0 (hbind s₁ (.ref a)) (.cons rfl .nil) (hsp H (fun p hp => B.tb p.2 (List.mem_map.mpr ⟨p, hp, rfl⟩)) hS)) fun r s' h => ?_
    cases r with
    | error e =>
      obtain ⟨_, _, _, _, _, _, _, _, _, _, _, _, z⟩ := h
      exact z.elim
    | ok fl =>
      cases fl with
      | ret u =>
        obtain ⟨v, H', os, bare, un, hok', r', q⟩ := h
        have q' : v = .bl true := q
        subst q'
        cases r'
        exact ⟨rfl, old_of ht C B hok hok' un, os, bare⟩
      | next => exact False.elim h
      | brk => exact False.elim h
      | cont => exact False.elim h
  cases hk : K.lookup a with
  | some o =>
    have e := KX a o hk
    rw [ha] at e
    cases e
    have at_ : ∀ b u, (if b ∈ cs.map (·.2) then some (HO.tbl #[]) else none) = some u → b ∈ cs.map (·.2) ∧ u = .tbl #[] := fun b u z => by
      by_cases hb : b ∈ cs.map (·.2)
      · rw [if_pos hb] at z; cases z; exact ⟨hb, rfl⟩
      · rw [if_neg hb] at z; cases z
    refine go (fun b => if b ∈ cs.map (·.2) then some (.tbl #[]) else none) ⟨fun t h => if_pos h, fun b => ?_, fun b z => ?_⟩ (.inr ⟨_, vs.toArray, _, hk, rfl, rfl, rfl, by rw [List.size_toArray, hi.length]; exact hl, by simpa using rv⟩) (fun b u z => ?_) fun z => absurd (if_neg am) z
    · by_cases hb : b ∈ cs.map (·.2)
      · exact .inr (.inl hb)
      · exact .inl (if_neg hb)
    · by_cases hb : b ∈ cs.map (·.2)
      · exact .inr hb
      · exact absurd (if_neg hb) z
    · obtain ⟨hb, rfl⟩ := at_ b u z
      obtain ⟨p, hp, rfl⟩ := List.mem_map.mp hb
      exact ht p hp
  | none =>
    have at_ : ∀ b u, (if b = a then some (HO.frz { cls := .type "list", data := .seq vs.toArray } (.lst (ns.map V.int))) else if b ∈ cs.map (·.2) then some (.tbl #[]) else none) = some u →
        (b = a ∧ u = .frz { cls := .type "list", data := .seq vs.toArray } (.lst (ns.map V.int))) ∨ (b ∈ cs.map (·.2) ∧ u = .tbl #[]) := fun b u z => by
      by_cases h0 : b = a
      · rw [if_pos h0] at z; cases z; exact .inl ⟨h0, rfl⟩
      · rw [if_neg h0] at z
        by_cases hb : b ∈ cs.map (·.2)
        · rw [if_pos hb] at z; cases z; exact .inr ⟨hb, rfl⟩
        · rw [if_neg hb] at z; cases z
    have ne : ∀ t ∈ cs.map (·.2), t ≠ a := fun t h z => am (by rw [← z]; exact h)
    refine go (fun b => if b = a then some (.frz { cls := .type "list", data := .seq vs.toArray } (.lst (ns.map V.int))) else if b ∈ cs.map (·.2) then some (.tbl #[]) else none) ⟨fun t h => (if_neg (ne t h)).trans (if_pos h), fun b => ?_, fun b z => ?_⟩ (.inl (.inr ⟨_, if_pos rfl⟩)) (fun b u z => ?_) fun _ => hk
    · by_cases h0 : b = a
      · exact .inr (.inr ⟨_, _, if_pos h0⟩)
      · by_cases hb : b ∈ cs.map (·.2)
        · exact .inr (.inl hb)
        · exact .inl ((if_neg h0).trans (if_neg hb))
    · by_cases h0 : b = a
      · exact .inl h0
      · by_cases hb : b ∈ cs.map (·.2)
        · exact .inr hb
        · exact absurd ((if_neg h0).trans (if_neg hb)) z
    · rcases at_ b u z with ⟨rfl, rfl⟩ | ⟨hb, rfl⟩
      · exact ⟨ha, by rw [List.length_map]; exact hl, vs, _, rv, ha⟩
      · obtain ⟨p, hp, rfl⟩ := List.mem_map.mp hb
        exact ht p hp
end
theorem dvs_int {K : PySem.W.Frag} (ds : List Int) : (ds.map He.Dv.int).map (He.Dv.v K) = ds.map V.int := by
  rw [List.map_map] <;> rfl
/-- what is seen in the text: the classes' __init__s -/
def Hk.erB (k : Hk) : Bool := k.er.all fun e => match e.init with
  | none => true
  | some i => i.okB k.P
def Hk.Bd (k : Hk) : Prop := ∀ e ∈ k.er, ∀ i, e.init = some i → i.Bd
def HdE.stB (h : HdE) : Bool := match h.bi with
  | none => true
  | some t => decide (h.name ≠ "__name__") && (match bootBuiltins h.name with
    | some (.type u) => decide (u = t)
    | _ => false)
theorem says_of {ds : List DefI} {k : Hk} {fr : List Str} {K : PySem.W.Frag} {h : Heap} {mg : Str → Option Value} (hfn : k.fn = ds.map DefI.dd) (c : k.says K) (KX : K.In h) (G : h.Ns mainGlobals mg)
    (h1 : ∀ d ∈ ds, He.Fa.glo d.name ∈ k.fa) (h2 : ∀ x ∈ fr, He.Fa.free x ∈ k.fa) (h3 : ∀ e ∈ k.er, He.Fa.glo e.name ∈ k.fa) (h4 : ∀ e ∈ k.hd, (match e.bi with
      | none => He.Fa.glo e.name
      | some _ => He.Fa.free e.name) ∈ k.fa) (h5 : k.erB = true) (h6 : k.Bd) (h7 : k.hd.all HdE.stB = true) : Says ds k fr K mg (fun i => match ds[i]? with
      | some d => He.ga K d.name
      | none => 0) where
  df := fun i d hd => by
    rw [hd]
    refine ⟨He.glo_ok KX G (Hk.fact c (h1 d (List.mem_of_getElem? hd))), ?_⟩
    obtain ⟨fd, F⟩ := Hk.def_ c i (d := d.dd) (by rw [hfn, List.getElem?_map, hd]; rfl)
    have e : d.dd.dvs K = d.dfl.map V.int := dvs_int d.dfl
    rw [e] at F
    exact ⟨fd, F⟩
  cs := fun q hq => by
    have z := Hk.const c hq
    unfold constB at z
    split at z
    · rename_i u e
      obtain ⟨v, r1, r2⟩ := dataB_ok z
      exact ⟨u, v, PySem.W.mg_of KX G e, r1, r2⟩
    · cases z
  fr := fun x hx => He.free_ok KX G (Hk.fact c (h2 x hx))
  er := fun n e he => by
    have hm := List.mem_of_getElem? he
    refine ⟨He.glo_ok KX G (Hk.fact c (h3 e hm)), ?_⟩
    have z := Hk.erOk c hm
    unfold ErI.okB at z
    cases hi : e.init with
    | none =>
      rw [hi] at z
      exact plainB_ok z
    | some i =>
      rw [hi] at z
      have o := Hk.init c n he
      unfold ErI.obs ErI.val at o
      rw [hi] at o
      have s := List.all_eq_true.mp h5 e hm
      rw [hi] at s
      exact fldB_ok z o s (h6 e hm i hi)
  hd := fun e he => by
    have z := Hk.hdOk c he
    have f := h4 e he
    have st := List.all_eq_true.mp h7 e he
    refine ⟨e.cv K, ?_, fun n x hx => ?_⟩
    · unfold HdE.cv
      unfold HdE.stB at st
      cases hb : e.bi with
      | none =>
        rw [hb] at f
        exact .inl (He.glo_ok KX G (Hk.fact c f))
      | some t =>
        rw [hb] at f st
        obtain ⟨s1, s2⟩ := ba2 st
        refine .inr ⟨He.free_ok KX G (Hk.fact c f), ?_, of_decide_eq_true s1⟩
        split at s2
        · rename_i u eu
          rw [eu, of_decide_eq_true s2]
        · cases s2
    · unfold HdE.okB at z
      have hl : n < k.er.length := (List.getElem?_eq_some_iff.mp hx).1
      have zz := List.all_eq_true.mp z n (List.mem_range.mpr hl)
      rw [hx] at zz
      exact of_decide_eq_true zz
  lm := fun x hx => Hk.lmOk c hx
  nd := Hk.nd c
theorem rep_ns [TabC] {K : PySem.W.Frag} {ρ : List Addr} {H : Hp} : ∀ ns : List Int, RepDs K ρ H (ns.map .int) (ns.map V.int)
  | [] => RepDs.nil
  | n :: ns => RepDs.cons (by unfold RepD; rfl) (rep_ns ns)
theorem fd_eq {K : PySem.W.Frag} {x x' qual qual' : Str} {params params' : Arguments} {body body' : List Stmt} {scope scope' : Scope} {dvs dvs' : List L2.V} {kws kws' : List (Str × L2.V)} {f : Addr} {fd fd' : FuncData} (F : FunD K x qual params body scope dvs kws f fd) (F' : FunD K x' qual' params' body' scope' dvs' kws' f fd') : fd = fd' := by
  obtain ⟨_, _, _, _, _, _, _, _, _, _, _, q, _⟩ := F.ex
  obtain ⟨_, _, _, _, _, _, _, _, _, _, _, q', _⟩ := F'.ex
  rw [q] at q'
  cases q'
  rfl
theorem script_rep [TabC] {T : Tb} {K : PySem.W.Frag} {H : Hp} {a : Addr} {ns : List Int} (h : SqL K H a (ns.map V.int)) : RepV T K [] H (.sc (ns.map .int)) (.ref a) := by
  unfold RepV
  refine ⟨a, ns.map V.int, rfl, ?_, ?_⟩
  · rcases h with h | h
    · exact .inl ⟨by simp, h⟩
    · exact .inr (.inr h)
  · exact rep_ns ns
theorem law_of {l : PySem.W.OpenLaw} {j iL : Nat} {q : Program} {loose : List Str} {XP : (Str → Option Value) → Heap → Prop} {d : PySem.DefRec} {ds : List DefI} {k : Hk} {fr : List Str} {dL : DefI} {G0 : Gt} {m n : Nat} {YP : World → Heap → Prop}
    (hY : ∀ w h, YP w h → ∃ K : PySem.W.Frag, K.In h ∧ k.says K ∧ NoTab K h ∧ k.TabH K h)
    (hn : l.most = some 63) (hdf : d.params.defaults = []) (hr : Room j callerA) (hP : k.P = l.prog) (hd : d.name = dL.name) (hL : ds[iL]? = some dL) (hps : dL.ps = [("script" : Str)]) (hdl : dL.dfl = [])
    (hbL : ∀ (kV doc pm : Value) (an : Option Addr) (cdv ct : Value) (us : List Value), us.length = dL.ps.length → bindArgs (PySem.W.fnOf dL.name dL.name dL.params dL.body dL.scope .none kV doc pm an cdv ct) ⟨us, []⟩ = pure (dL.ps.zip us))
    (hfn : k.fn = ds.map DefI.dd) (h1 : ∀ d ∈ ds, He.Fa.glo d.name ∈ k.fa) (h2 : ∀ x ∈ fr, He.Fa.free x ∈ k.fa) (h3 : ∀ e ∈ k.er, He.Fa.glo e.name ∈ k.fa) (h4 : ∀ e ∈ k.hd, (match e.bi with
      | none => He.Fa.glo e.name
      | some _ => He.Fa.free e.name) ∈ k.fa) (h5 : k.erB = true) (h6 : k.Bd) (h7 : k.hd.all HdE.stB = true) (h9 : ∀ x ∈ k.lm, He.Fa.glo x ∈ k.fa)
    (hok : ∀ d ∈ ds, d.okB ds fr k.er k.hd k.lm = true) (hcs : ∀ d ∈ ds, d.G.cs = k.cs) (hbd : ∀ d ∈ ds, d.Bd) (hb : ∀ d ∈ ds, d.fn.body = cBody d.G m n d.scope d.body) (hG0 : G0.okB ds fr k.er k.hd = true) (hcs0 : G0.cs = k.cs)
    (hrun : ∀ ns : List Int, ns.length ≤ 63 → (∀ z ∈ ns, Builtin.Int.intBits z ≤ 1048576) → ∃ S, run (tabOf ds) (lamFn G0 m) j iL [.sc (ns.map .int)] [] = .ok (B true) S) :
    PySem.W.WalkO q loose XP YP l.row.toRowW d [] (fun f vs => PySem.call f vs) := by
  refine Att.attach_callB hn hdf fun w s₀ s₁ mg mb fa o pm cd doc a vs ns G Y ho hd' hcd hmg hobj hints hlen hbits hg => ?_
  obtain ⟨K, KX, c, nt, tb⟩ := hY w _ Y
  have A := says_of (fr := fr) hfn c KX G.T.g h1 h2 h3 h4 h5 h6 h7
  obtain ⟨e1, fd, F⟩ := A.df iL dL hL
  rw [hd, e1] at hmg
  cases hmg
  rw [hdl] at F
  have mem : ∀ p ∈ k.lm.filterMap (PySem.W.tabIn K), ∃ x ∈ k.lm, PySem.W.tabIn K x = some p := fun p hp => by
    obtain ⟨x, hx, e⟩ := List.mem_filterMap.mp hp
    exact ⟨x, hx, e⟩
  let tc : TabC := ⟨k.tabs K⟩
  refine law_callT (cs := k.lm.filterMap (PySem.W.tabIn K)) (k := j) (fd := fd) (sp := spF (txOf k K (fun i => match ds[i]? with
    | some d => He.ga K d.name
    | none => 0) ds.length) K 1 (run (tabOf ds) (lamFn G0 m) j iL)) (x := "script") KX G.T.g G.T.b G.T.builtins G.T.nolimit hg (fun p hp => ?_) (fun p hp => ?_) (fun p hp => ?_) G.T.bmain hobj hints (Nat.le_trans hlen (by decide)) hr (fun base b1 b2 b3 => ?_) (fun s u => ?_) fun H hH hS => ?_
  · obtain ⟨x, hx, e⟩ := mem p hp
    exact (tb x hx p.1 p.2 e).2
  · obtain ⟨x, hx, e⟩ := mem p hp
    exact nt _ (tb x hx p.1 p.2 e).2
  · obtain ⟨x, hx, e⟩ := mem p hp
    exact (tb x hx p.1 p.2 e).1
  · obtain ⟨fd', F', M⟩ := (all_ok (P := l.prog) (w := w) (base := base) A hP (fun x hx cd P e => b3 (cd, P) (List.mem_filterMap.mpr ⟨x, hx, e⟩)) rfl (fun x f e hx => by
        have g := Hk.fact c (h9 x hx)
        have g1 := He.glo_ok KX G.T.g g
        rw [e] at g1
        cases g1
        exact He.eqO_ok g) hok hcs hbd hb hG0 hcs0 j).1 iL dL hL
    have e := fd_eq F F'
    subst e
    have hnp : dL.fn.np = 1 := by
      have ok := hok dL (List.mem_of_getElem? hL)
      unfold DefI.okB at ok
      simp only [Bool.and_eq_true, decide_eq_true_eq] at ok
      have := ok.1.1.1.1.2
      rw [hps] at this
      exact this
    rw [hnp, hps] at M
    exact M
  · have := FunD.bindsA (ps := dL.ps) F hbL s [u] (by rw [hps]; rfl)
    rw [hps] at this
    exact this
  · obtain ⟨S, e⟩ := hrun ns hlen hbits
    refine ⟨[.sc (ns.map .int)], [], [], rfl, ?_, ⟨rfl, List.nodup_nil, fun a m => (nomatch m), fun p hp => ?_, fun i xs z => (by cases z), fun i xs z => (by cases z)⟩, ?_⟩
    · unfold RepVs
      exact ⟨_, [], rfl, script_rep hS, by unfold RepVs; rfl⟩
    · obtain ⟨x, hx, e⟩ := List.mem_filterMap.mp (show p ∈ k.tabs K from hp)
      cases ht : PySem.W.tabIn K x with
      | none => rw [ht] at e; cases e
      | some pp =>
        rw [ht] at e
        cases e
        exact LamX.TabS.nil (hH pp (List.mem_filterMap.mpr ⟨x, hx, ht⟩))
    · rw [e]
      intro v H' ρ' _ r _
      unfold B RepF RepD at r
      exact r
end Mk
/-! Mh4: places in a text. -/
namespace Mk
open PySem PySem.Spec PyProof.Rows L2
def noE : Expr := .Constant .none 0 ⟨0, 0, 0, 0⟩
def noS : Stmt := .Pass ⟨0, 0, 0, 0⟩
/-- a statement's expression; an expression's i-th part; a statement's i-th inner statement -/
def sE : Stmt → Expr
  | .Assign _ e _ => e
  | .Return (some e) _ => e
  | .Expr e _ => e
  | .AugAssign _ _ e _ => e
  | .If t _ _ _ => t
  | .While t _ _ _ => t
  | .For _ i _ _ _ => i
  | _ => noE
def eC (e : Expr) (i : Nat) : Expr := match e with
  | .Call f as _ _ => (f :: as).getD i noE
  | .Tuple es _ _ => es.getD i noE
  | .List es _ => es.getD i noE
  | .BinOp a _ b _ => [a, b].getD i noE
  | .BoolOp _ es _ => es.getD i noE
  | .UnaryOp _ a _ => a
  | .Compare a _ es _ => (a :: es).getD i noE
  | .IfExp a b c _ => [a, b, c].getD i noE
  | .Subscript a b _ => [a, b].getD i noE
  | _ => noE
def sC (s : Stmt) (i : Nat) : Stmt := match s with
  | .If _ a b _ => (a ++ b).getD i noS
  | .While _ a b _ => (a ++ b).getD i noS
  | .For _ _ a b _ => (a ++ b).getD i noS
  | .Try a _ _ _ _ => a.getD i noS
  | _ => noS
def mkLam (q : Str) (e : Expr) : LamT := match e with
  | .Lambda _ b sc _ => ⟨q, b, sc, capsOf sc⟩
  | _ => ⟨q, noE, { kind := .function, names := [], isGenerator := false, isCoroutine := false }, []⟩
def clsBody : Stmt → List Stmt
  | .ClassDef _ _ _ b _ _ _ _ _ _ _ => b
  | _ => []
def argAt (a : Arguments) (i : Nat) : Arg := a.args.getD i ⟨"", none, ⟨0, 0, 0, 0⟩⟩
end Mk
/-! Ml1: words for the plain laws. -/
namespace Mk
open PySem (PyData Str)
theorem call_at {tab : Nat → Option Fn} {lf : LamT → Fn} {i : Nat} {fd : Fn} (h : tab i = some fd) (k : Nat) (args : List Vl) (S : Store) : (cls tab lf (k + 1)).call i args S = runFn fd (cls tab lf k) args S := by
  show (match tab i with
    | some fd => runFn fd (cls tab lf k) args S
    | none => .stuck) = _
  rw [h]
@[simp] theorem bind_ok {α β : Type} (a : α) (S : Store) (f : α → Store → R β) : (R.ok a S).bind f = f a S := rfl
@[simp] theorem next_ok {α : Type} (a : α) (S : Store) (γ : Env) (f : α → Store → RS) : (R.ok a S).next γ f = f a S := rfl
theorem fin_d (keep : Bool) (n : Nat) (x : D) (S : Store) : fin keep n (.d x) S = .ok (.d x) (S.take n) := rfl
def fq (q : Rat) : D := .tuple [.int q.num, .int (q.den : Int)]
/-- numerator and denominator below 2 ^ n -/
structure Sz (n : Nat) (q : Rat) : Prop where
  num : q.num.natAbs < 2 ^ n
  den : q.den < 2 ^ n
theorem fr_num {t b : Int} (hb : b ≠ 0) : Rat.num (Rat.divInt t b) = b.sign * t / (Int.gcd t b : Int) := by
  rw [Rat.num_divInt, Int.gcd_comm]
theorem fr_den {t b : Int} (hb : b ≠ 0) : ((Rat.divInt t b).den : Int) = b.sign * b / (Int.gcd t b : Int) := by
  rw [Rat.den_divInt, if_neg hb, Int.gcd_comm, Int.natCast_ediv]
  have : b.sign * b = b.natAbs := by
    rcases Int.lt_trichotomy b 0 with h | h | h
    · rw [Int.sign_eq_neg_one_of_neg h]; omega
    · exact absurd h hb
    · rw [Int.sign_eq_one_of_pos h]; omega
  rw [this]
theorem log_lt {n m : Nat} (h : n < 2 ^ m) (hm : 0 < m) : n.log2 < m := by
  by_cases h0 : n = 0
  · subst h0; simpa using hm
  · exact (Nat.log2_lt h0).mpr h
theorem gcd_divOk {t b : Int} {n : Nat} (hb : b ≠ 0) (h : b.natAbs < 2 ^ n) (hn : n ≤ 8999) : divOk (Int.gcd t b) = true := by
  have h1 : 0 < Int.gcd t b := Int.gcd_pos_of_ne_zero_right _ hb
  have h2 : Int.gcd t b ≤ b.natAbs := Nat.le_of_dvd (by omega) (Int.gcd_dvd_natAbs_right _ _)
  have hn0 : 0 < n := by
    rcases Nat.eq_zero_or_pos n with z | z
    · subst z
      have h' : b.natAbs < 1 := h
      omega
    · exact z
  have h3 : (Int.gcd t b).log2 < 9000 := by
    have := log_lt (Nat.lt_of_le_of_lt h2 h) hn0
    omega
  unfold divOk
  simp only [Bool.and_eq_true, decide_eq_true_eq]
  exact ⟨by omega, by simpa using h3⟩
theorem mulOk_of {i j : Int} {a b : Nat} (hi : i.natAbs < 2 ^ a) (hj : j.natAbs < 2 ^ b) (h : a + b ≤ 100000) : mulOk i j = true := by
  unfold mulOk
  by_cases h1 : i.natAbs < 18446744073709551616
  · simp [h1]
  · by_cases h2 : j.natAbs < 18446744073709551616
    · simp [h2]
    · have ha : 0 < a := by
        rcases Nat.eq_zero_or_pos a with z | z
        · subst z; omega
        · exact z
      have hb : 0 < b := by
        rcases Nat.eq_zero_or_pos b with z | z
        · subst z; omega
        · exact z
      have := log_lt hi ha
      have := log_lt hj hb
      have h3 : i.natAbs.log2 + j.natAbs.log2 < 1000000 := by omega
      simp [h3]
theorem div_sz {a b : Int} {n : Nat} (h : a.natAbs < 2 ^ n) : (a / b).natAbs < 2 ^ n := by
  have := Int.natAbs_ediv_le_natAbs a b
  omega
theorem Sz.divInt {t b : Int} {n : Nat} (hb : b ≠ 0) (ht : t.natAbs < 2 ^ n) (hb2 : b.natAbs < 2 ^ n) : Sz n (Rat.divInt t b) := by
  have hs : ∀ x : Int, (b.sign * x).natAbs = x.natAbs := fun x => by rw [Int.natAbs_mul, Int.natAbs_sign_of_ne_zero hb, Nat.one_mul]
  constructor
  · rw [fr_num hb]
    exact div_sz (by rw [hs]; exact ht)
  · have : (((Rat.divInt t b).den : Int)).natAbs < 2 ^ n := by
      rw [fr_den hb]
      exact div_sz (by rw [hs]; exact hb2)
    simpa using this
theorem pow_mul_lt {x y a b : Nat} (hx : x < 2 ^ a) (hy : y < 2 ^ b) : x * y < 2 ^ (a + b) := by
  rw [Nat.pow_add]
  exact Nat.mul_lt_mul'' hx hy
theorem add_eq (p q : Rat) : p + q = Rat.divInt (p.num * q.den + q.num * p.den) (p.den * q.den) := by
  rw [Rat.add_def', ← Rat.divInt_ofNat]
  simp
theorem mul_eq (p q : Rat) : p * q = Rat.divInt (p.num * q.num) (p.den * q.den) := by
  rw [Rat.mul_def', ← Rat.divInt_ofNat]
  simp
theorem sub_eq (p q : Rat) : p - q = Rat.divInt (p.num * q.den - q.num * p.den) (p.den * q.den) := by
  rw [Rat.sub_def', ← Rat.divInt_ofNat]
  simp
theorem den_ne (p q : Rat) : ((p.den : Int) * q.den) ≠ 0 := Int.mul_ne_zero (by have := p.den_nz; omega) (by have := q.den_nz; omega)
theorem den_sz {p q : Rat} {a b : Nat} (hp : Sz a p) (hq : Sz b q) : ((p.den : Int) * q.den).natAbs < 2 ^ (a + b) := by
  rw [Int.natAbs_mul]
  exact pow_mul_lt (by simpa using hp.den) (by simpa using hq.den)
theorem add_num_sz {p q : Rat} {a b : Nat} (hp : Sz a p) (hq : Sz b q) : (p.num * q.den + q.num * p.den).natAbs < 2 ^ (a + b + 1) := by
  have h1 : (p.num * q.den).natAbs < 2 ^ (a + b) := by rw [Int.natAbs_mul]; exact pow_mul_lt hp.num (by simpa using hq.den)
  have h2 : (q.num * p.den).natAbs < 2 ^ (a + b) := by rw [Int.natAbs_mul, Nat.mul_comm]; exact pow_mul_lt (by simpa using hp.den) hq.num
  rw [Nat.pow_succ]
  omega
theorem sub_num_sz {p q : Rat} {a b : Nat} (hp : Sz a p) (hq : Sz b q) : (p.num * q.den - q.num * p.den).natAbs < 2 ^ (a + b + 1) := by
  have h1 : (p.num * q.den).natAbs < 2 ^ (a + b) := by rw [Int.natAbs_mul]; exact pow_mul_lt hp.num (by simpa using hq.den)
  have h2 : (q.num * p.den).natAbs < 2 ^ (a + b) := by rw [Int.natAbs_mul, Nat.mul_comm]; exact pow_mul_lt (by simpa using hp.den) hq.num
  rw [Nat.pow_succ]
  omega
theorem Sz.mono {a b : Nat} {p : Rat} (h : Sz a p) (hl : a ≤ b) : Sz b p := ⟨Nat.lt_of_lt_of_le h.num (Nat.pow_le_pow_right (by omega) hl), Nat.lt_of_lt_of_le h.den (Nat.pow_le_pow_right (by omega) hl)⟩
theorem Sz.add {p q : Rat} {a b : Nat} (hp : Sz a p) (hq : Sz b q) : Sz (a + b + 1) (p + q) := by
  rw [add_eq]
  exact Sz.divInt (den_ne p q) (add_num_sz hp hq) (Nat.lt_of_lt_of_le (den_sz hp hq) (Nat.pow_le_pow_right (by omega) (by omega)))
theorem Sz.sub {p q : Rat} {a b : Nat} (hp : Sz a p) (hq : Sz b q) : Sz (a + b + 1) (p - q) := by
  rw [sub_eq]
  exact Sz.divInt (den_ne p q) (sub_num_sz hp hq) (Nat.lt_of_lt_of_le (den_sz hp hq) (Nat.pow_le_pow_right (by omega) (by omega)))
theorem Sz.mul {p q : Rat} {a b : Nat} (hp : Sz a p) (hq : Sz b q) : Sz (a + b) (p * q) := by
  rw [mul_eq]
  exact Sz.divInt (den_ne p q) (by rw [Int.natAbs_mul]; exact pow_mul_lt hp.num hq.num) (den_sz hp hq)
theorem Sz.neg {p : Rat} {a : Nat} (hp : Sz a p) : Sz a (-p) := ⟨by simpa using hp.num, by simpa using hp.den⟩
theorem div_eq (p q : Rat) : p / q = Rat.divInt (p.num * q.den) (p.den * q.num) := by
  rw [Rat.div_def, mul_eq]
  rw [Rat.num_inv, Rat.den_inv]
  by_cases h0 : q.num = 0
  · simp [h0]
  · rw [if_neg h0]
    rcases Int.lt_or_gt_of_ne h0 with h | h
    · rw [Int.sign_eq_neg_one_of_neg h]
      have : (q.num.natAbs : Int) = - q.num := by omega
      rw [this, ← Rat.neg_divInt_neg (p.num * q.den)]
      congr 1 <;> grind
    · rw [Int.sign_eq_one_of_pos h]
      have : (q.num.natAbs : Int) = q.num := by omega
      rw [this]
      simp
theorem num_ne {q : Rat} (h : q ≠ 0) : q.num ≠ 0 := fun z => h (Rat.num_eq_zero.mp z)
theorem div_ne (p : Rat) {q : Rat} (h : q ≠ 0) : ((p.den : Int) * q.num) ≠ 0 := Int.mul_ne_zero (by have := p.den_nz; omega) (num_ne h)
theorem div_sz2 {p q : Rat} {a b : Nat} (hp : Sz a p) (hq : Sz b q) : ((p.den : Int) * q.num).natAbs < 2 ^ (a + b) := by
  rw [Int.natAbs_mul]
  exact pow_mul_lt (by simpa using hp.den) hq.num
theorem Sz.div {p q : Rat} {a b : Nat} (hp : Sz a p) (hq : Sz b q) (h : q ≠ 0) : Sz (a + b) (p / q) := by
  rw [div_eq]
  exact Sz.divInt (div_ne p h) (by rw [Int.natAbs_mul]; exact pow_mul_lt hp.num (by simpa using hq.den)) (div_sz2 hp hq)
def cmpQ (p q : Rat) : Int := (if q < p then 1 else 0) - (if p < q then 1 else 0)
@[simp] theorem take_len_set (S : Store) (i : Nat) (X : Ob) : List.take S.length (S.set i X) = S.set i X := by
  rw [show S.length = (S.set i X).length by simp, List.take_length]
theorem set_get {α : Type} {S : List α} {i : Nat} {X : α} (h : i < S.length) : (S.set i X)[i]? = some X := List.getElem?_set_self h
/-! ### comprehensions that change nothing -/
theorem lcLoop_pure {g : TTg} {t : TTs} {e : TEx} {c : Cl} {γ : Env} {n : Nat} {p : Vl → Bool} {f : Vl → D} : ∀ (xs : List Vl) (out : List D) (S : Store), S[n]? = some (.lst out) → out.length + xs.length ≤ LINE →
    (∀ x ∈ xs, ∃ γ1, g x γ = some γ1 ∧ (∀ S, t c γ1 S = .ok (p x) S) ∧ (p x = true → ∀ S, e c γ1 S = .ok (.d (f x)) S)) → lcLoop g t e c γ n xs S = .ok () (S.set n (.lst (out ++ (xs.filter p).map f)))
  | [], out, S, h, _, _ => by
    unfold lcLoop
    have hn : n < S.length := (List.getElem?_eq_some_iff.mp h).1
    have : S.set n (.lst out) = S := by
      refine List.ext_getElem? fun i => ?_
      by_cases e : n = i
      · subst e; rw [List.getElem?_set_self hn, h]
      · rw [List.getElem?_set_ne e]
    simp [this]
  | x :: xs, out, S, h, hl, hx => by
    have hn : n < S.length := (List.getElem?_eq_some_iff.mp h).1
    obtain ⟨γ1, g1, t1, e1⟩ := hx x List.mem_cons_self
    rw [List.length_cons] at hl
    unfold lcLoop
    rw [g1]
    dsimp only
    rw [t1]
    cases q : p x with
    | false =>
      dsimp only
      rw [lcLoop_pure xs out S h (by omega) fun y hy => hx y (List.mem_cons_of_mem _ hy)]
      simp [q]
    | true =>
      dsimp only
      rw [e1 q]
      dsimp only
      rw [h]
      dsimp only
      rw [if_pos (by omega)]
      rw [lcLoop_pure xs (out ++ [f x]) (S.set n (.lst (out ++ [f x]))) (List.getElem?_set_self hn) (by rw [List.length_append, List.length_singleton]; omega) fun y hy => hx y (List.mem_cons_of_mem _ hy)]
      simp [q]
theorem xLc_pure {w : List Nat} {it : TIt} {g : TTg} {t : TTs} {e : TEx} {c : Cl} {γ : Env} {S S1 : Store} {xs : List Vl} {p : Vl → Bool} {f : Vl → D} (hi : it c γ S = .ok (.its xs) S1) (hl : xs.length ≤ LINE)
    (hx : ∀ x ∈ xs, ∃ γ1, g x (wipeE γ w) = some γ1 ∧ (∀ S, t c γ1 S = .ok (p x) S) ∧ (p x = true → ∀ S, e c γ1 S = .ok (.d (f x)) S)) (m : Bool) :
    xLc m w it g t e c γ S = match m with
      | true => .ok (.r S1.length) (S1 ++ [.lst ((xs.filter p).map f)])
      | false => .ok (.d (.list ((xs.filter p).map f))) S1 := by
  unfold xLc
  rw [hi]
  have h1 : List.set (S1 ++ [Ob.lst []]) S1.length (.lst ([] ++ (xs.filter p).map f)) = S1 ++ [.lst ((xs.filter p).map f)] := by simp
  have h2 := lcLoop_pure (n := S1.length) xs [] (S1 ++ [Ob.lst []] : List Ob) (by simp) (by simpa using hl) hx
  rw [h1] at h2
  have h3 : lcRun g t e c (wipeE γ w) S1.length (.its xs) (S1 ++ [Ob.lst []]) = _ := h2
  show lcFin m S1.length (lcRun g t e c (wipeE γ w) S1.length (.its xs) (S1 ++ [Ob.lst []])) = _
  rw [h3]
  unfold lcFin lcEnd
  dsimp only
  simp only [List.length_append, List.length_singleton, if_true, List.getElem?_append_right (Nat.le_refl _), Nat.sub_self, List.getElem?_cons_zero]
  cases m with
  | true => rfl
  | false => simp
theorem allT_true : ∀ {ds : List D}, (∀ d ∈ ds, d = .bool true) → allT ds = some true
  | [], _ => rfl
  | d :: ds, h => by
    have e := h d List.mem_cons_self
    subst e
    unfold allT truD
    exact allT_true fun x hx => h x (List.mem_cons_of_mem _ hx)
theorem tYes_ok (c : Cl) (γ : Env) (S : Store) : tYes c γ S = .ok true S := rfl
/-- the sum from the left -/
def sumQ (qs : List Rat) : Rat := qs.foldl (· + ·) 0
theorem foldl_add (qs : List Rat) (a : Rat) : qs.foldl (· + ·) a = a + sumQ qs := by
  unfold sumQ
  induction qs generalizing a with
  | nil => simp [Rat.add_zero]
  | cons q qs ih =>
    rw [List.foldl_cons, List.foldl_cons, ih, ih (0 + q), Rat.zero_add, Rat.add_assoc]
theorem sumQ_cons (q : Rat) (qs : List Rat) : sumQ (q :: qs) = q + sumQ qs := by
  show qs.foldl (· + ·) (0 + q) = _
  rw [foldl_add, Rat.zero_add]
theorem sumQ_append (xs ys : List Rat) : sumQ (xs ++ ys) = sumQ xs + sumQ ys := by
  unfold sumQ
  rw [List.foldl_append, foldl_add]
  rfl
theorem sumQ_reverse (qs : List Rat) : sumQ qs.reverse = sumQ qs := by
  induction qs with
  | nil => rfl
  | cons q qs ih => rw [List.reverse_cons, sumQ_append, ih, sumQ_cons, sumQ_cons, show sumQ [] = 0 from rfl, Rat.add_zero, Rat.add_comm]
theorem Sz.zero : Sz 1 0 := ⟨by decide, by decide⟩
theorem Sz.one : Sz 1 1 := ⟨by decide, by decide⟩
theorem okD_fq (q : Rat) : okD (fq q) = true := by simp [fq, okD, PyData.plain, PyData.plainAll, PyData.depth, PyData.depthAll]
theorem eqv_fq (p q : Rat) : PyData.eqv (fq p) (fq q) = decide (p = q) := by
  simp only [fq, PyData.eqv, PyData.eqvAll, Bool.and_true]
  rw [Bool.eq_iff_iff]
  simp only [Bool.and_eq_true, beq_iff_eq, decide_eq_true_eq]
  constructor
  · rintro ⟨h1, h2⟩
    exact Rat.ext h1 (by omega)
  · rintro rfl
    exact ⟨rfl, rfl⟩
mutual
theorem eqv_refl : ∀ d : D, d.plain = true → PyData.eqv d d = true
  | .none, _ => rfl
  | .bool b, _ => by simp [PyData.eqv]
  | .int i, _ => by simp [PyData.eqv]
  | .str s, _ => by simp [PyData.eqv]
  | .list xs, h => by
    simp only [PyData.plain] at h
    simp only [PyData.eqv]
    exact eqvAll_refl xs h
  | .tuple xs, h => by
    simp only [PyData.plain] at h
    simp only [PyData.eqv]
    exact eqvAll_refl xs h
  | .dict kvs, h => by simp [PyData.plain] at h
theorem eqvAll_refl : ∀ ds : List D, PyData.plainAll ds = true → PyData.eqvAll ds ds = true
  | [], _ => rfl
  | d :: ds, h => by
    simp only [PyData.plainAll, Bool.and_eq_true] at h
    simp only [PyData.eqvAll, Bool.and_eq_true]
    exact ⟨eqv_refl d h.1, eqvAll_refl ds h.2⟩
end
/-! ### what is shown -/
structure Wd (d : D) (w k : Nat) : Prop where
  s : d.showable = true
  h : d.hasDict = false
  w : d.shown.length ≤ w
  k : d.depth ≤ k
theorem Wd.ok {d : D} {w k : Nat} (x : Wd d w k) (hw : w ≤ LINE) (hk : k ≤ 60) : reprOk d = true := by
  unfold reprOk
  have h1 := x.w
  have h2 := x.k
  simp only [x.s, x.h, Bool.and_eq_true, Bool.not_false, Bool.true_or, decide_eq_true_eq, and_self, true_and]
  exact ⟨by omega, by omega⟩
theorem Wd.int {i : Int} {n : Nat} (h : i.natAbs < 2 ^ n) (h0 : 0 < n) (hn : n ≤ 1900) : Wd (.int i) (n + 1) 1 := by
  have hl := log_lt h h0
  refine ⟨by simp [PyData.showable]; omega, rfl, ?_, by simp [PyData.depth]⟩
  have := PySem.int_text_length_le (a := i) h0 hl
  show (Str.ofString (toString i)).length ≤ n + 1
  rw [PySem.ofString_length]
  exact this
theorem wd_all : ∀ {ds : List D} {w k : Nat}, (∀ d ∈ ds, Wd d w k) → PyData.showableAll ds = true ∧ PyData.hasDictAll ds = false ∧ ((PyData.shownAll ds).map (·.length)).sum ≤ w * ds.length ∧ (PyData.shownAll ds).length = ds.length ∧ PyData.depthAll ds ≤ k
  | [], w, k, _ => by simp [PyData.showableAll, PyData.hasDictAll, PyData.shownAll, PyData.depthAll]
  | d :: ds, w, k, h => by
    obtain ⟨a1, a2, a3, a4, a5⟩ := wd_all fun x hx => h x (List.mem_cons_of_mem _ hx)
    have b := h d List.mem_cons_self
    have b1 := b.w
    have b2 := b.k
    refine ⟨by simp [PyData.showableAll, b.s, a1], by simp [PyData.hasDictAll, b.h, a2], ?_, by simp [PyData.shownAll, a4], ?_⟩
    · simp only [PyData.shownAll, List.map_cons, List.sum_cons, List.length_cons, Nat.mul_succ]
      omega
    · simp only [PyData.depthAll]
      omega
theorem Wd.list {ds : List D} {w k : Nat} (h : ∀ d ∈ ds, Wd d w k) : Wd (.list ds) ((w + 2) * ds.length + 3) (k + 1) := by
  obtain ⟨a1, a2, a3, a4, a5⟩ := wd_all h
  refine ⟨by simpa [PyData.showable] using a1, by simpa [PyData.hasDict] using a2, ?_, by simp only [PyData.depth]; omega⟩
  have := PySem.listText_len_le (PyData.shownAll ds)
  rw [a4] at this
  show (PySem.listText (PyData.shownAll ds)).length ≤ _
  rw [Nat.add_mul]
  omega
theorem Wd.tuple {ds : List D} {w k : Nat} (h : ∀ d ∈ ds, Wd d w k) : Wd (.tuple ds) ((w + 2) * ds.length + 3) (k + 1) := by
  obtain ⟨a1, a2, a3, a4, a5⟩ := wd_all h
  refine ⟨by simpa [PyData.showable] using a1, by simpa [PyData.hasDict] using a2, ?_, by simp only [PyData.depth]; omega⟩
  have := PySem.tupleText_len_le (PyData.shownAll ds)
  rw [a4] at this
  show (PySem.tupleText (PyData.shownAll ds)).length ≤ _
  rw [Nat.add_mul]
  omega
theorem Wd.fq {q : Rat} {n : Nat} (h : Sz n q) (h0 : 0 < n) (hn : n ≤ 1900) : Wd (fq q) ((n + 3) * 2 + 3) 2 := Wd.tuple fun d hd => by
  simp at hd
  rcases hd with rfl | rfl
  · exact Wd.int h.num h0 hn
  · exact Wd.int (by simpa using h.den) h0 hn
theorem Wd.mono {d : D} {w k w' k' : Nat} (x : Wd d w k) (h1 : w ≤ w') (h2 : k ≤ k') : Wd d w' k' := ⟨x.s, x.h, Nat.le_trans x.w h1, Nat.le_trans x.k h2⟩
theorem rngOk_nat {n : Nat} (h : n ≤ 1000000) : rngOk (n : Int) = true := by
  unfold rngOk
  simp only [decide_eq_true_eq]
  omega
theorem set_same {α : Type} {S : List α} {i : Nat} {x : α} (h : S[i]? = some x) : S.set i x = S := by
  refine List.ext_getElem? fun j => ?_
  by_cases e : i = j
  · subst e; rw [List.getElem?_set_self (List.getElem?_eq_some_iff.mp h).1, h]
  · rw [List.getElem?_set_ne e]
end Mk
/-! Me1: steps of the laws of errors: draws, words of calls, lists that are compared. -/
namespace Mk
open PySem (PyData Str)
section
variable {c : Cl} {γ γ' γ2 : Env} {S S1 S2 S3 : Store}
theorem seq_nx {s r : TSt} (h : s c γ S = .nx γ' S1) : sSeq s r c γ S = r c γ' S1 := by
  unfold sSeq
  rw [h]
theorem set_nx {i : Nat} {e : TEx} {v : Vl} (h : e c γ S = .ok v S1) : sSet i e c γ S = .nx (γ.set i (some v)) S1 := by
  unfold sSet
  rw [h]
  rfl
theorem par_nx {i j : Nat} {a b : TEx} {x y : Vl} (h1 : a c γ S = .ok x S1) (h2 : b c γ S1 = .ok y S2) : sPar i j a b c γ S = .nx ((γ.set i (some x)).set j (some y)) S2 := by
  unfold sPar
  rw [h1]
  show (b c γ S1).next γ _ = _
  rw [h2]
  rfl
theorem par3_nx {i j l : Nat} {a b e : TEx} {x y z : Vl} (h1 : a c γ S = .ok x S1) (h2 : b c γ S1 = .ok y S2) (h3 : e c γ S2 = .ok z S3) : sPar3 i j l a b e c γ S = .nx (((γ.set i (some x)).set j (some y)).set l (some z)) S3 := by
  unfold sPar3
  rw [h1]
  show (b c γ S1).next γ _ = _
  rw [h2]
  show (e c γ S2).next γ _ = _
  rw [h3]
  rfl
theorem args_cons {a : TEx} {r : TAr} {x : Vl} {xs : List Vl} (h1 : a c γ S = .ok x S1) (h2 : r c γ S1 = .ok xs S2) : aCons a r c γ S = .ok (x :: xs) S2 := by
  unfold aCons
  rw [h1]
  show (r c γ S1).bind _ = _
  rw [h2]
  rfl
theorem args_nil : aNil c γ S = .ok [] S := rfl
/-- a, b = e of data -/
theorem asg_tup {g : List Vl → Env → Option Env} {a : TAr} {xs : List Vl} {ds : List D} (h : a c γ S = .ok xs S1) (hd : allD xs = some ds) (hg : g (ds.map .d) γ = some γ') : sAsg (gTup g) (xTup a) c γ S = .nx γ' S1 := by
  unfold sAsg xTup
  rw [h]
  show (match gTup g (mkTup xs) γ with
    | some γ' => RS.nx γ' S1
    | none => .stuck) = _
  unfold mkTup
  rw [hd]
  show (match g (ds.map .d) γ with
    | some γ' => RS.nx γ' S1
    | none => .stuck) = _
  rw [hg]
/-- a draw -/
theorem pick_e {N : List Str} {f i : Nat} {m : TEx} {xs : List D} {x : D} {o o' : Ob} (hi : γ[i]? = some (some (.r 0))) (hm : m c γ [o] = .ok (.d (.list xs)) [o]) (e : c.call f [.r 0, .d (.list xs)] [o] = .ok (.d x) [o']) :
    xCallL N f (aCons (xV i) (aCons m aNil)) [] c γ [o] = .ok (.d x) [o'] := by
  unfold xCallL
  have hv : xV i c γ [o] = .ok (.r 0) [o] := by unfold xV; rw [hi]
  rw [args_cons hv (args_cons hm args_nil)]
  exact e
/-! ### words -/
inductive Ws (c : Cl) (f : Nat) : List Vl → List D → Prop
  | nil : Ws c f [] []
  | cons {v : Vl} {w : D} {vs : List Vl} {ws : List D} (h : ∀ S, c.call f [v] S = .ok (.d w) S) (t : Ws c f vs ws) : Ws c f (v :: vs) (w :: ws)
theorem Ws.len {f : Nat} {vs : List Vl} {ws : List D} (h : Ws c f vs ws) : vs.length = ws.length := by
  induction h with
  | nil => rfl
  | cons h t ih => simp [ih]
theorem wipeE_len' : ∀ {w : List Nat} {γ : Env}, (wipeE γ w).length = γ.length
  | [], γ => rfl
  | j :: w, γ => by unfold wipeE; rw [wipeE_len']; simp
theorem ws_loop {f i : Nat} {vs : List Vl} {ws : List D} (h : Ws c f vs ws) : ∀ (acc : List D), i < γ.length → acc.length + ws.length < LINE →
    lcLoop (gV i) tYes (xCall f (aCons (xV i) aNil) []) c γ S.length vs (S ++ [.lst acc]) = .ok () (S ++ [.lst (acc ++ ws)]) := by
  induction h with
  | nil => intro acc _ _; unfold lcLoop; rw [List.append_nil]
  | @cons v w vs ws h t ih =>
    intro acc hi hl
    unfold lcLoop
    show (match xCall f (aCons (xV i) aNil) [] c (γ.set i (some v)) (S ++ [.lst acc]) with
      | .ok (.d d) S2 => match S2[S.length]? with
        | some (.lst out) => if out.length < LINE then lcLoop (gV i) tYes (xCall f (aCons (xV i) aNil) []) c γ S.length vs (S2.set S.length (.lst (out ++ [d]))) else .stuck
        | _ => .stuck
      | _ => .stuck) = _
    have hv : xV i c (γ.set i (some v)) (S ++ [.lst acc]) = .ok v (S ++ [.lst acc]) := by
      unfold xV
      rw [List.getElem?_set_self hi]
    unfold xCall
    rw [args_cons hv args_nil]
    show (match c.call f ([v] ++ []) (S ++ [.lst acc]) with
      | .ok (.d d) S2 => match S2[S.length]? with
        | some (.lst out) => if out.length < LINE then lcLoop (gV i) tYes (xCall f (aCons (xV i) aNil) []) c γ S.length vs (S2.set S.length (.lst (out ++ [d]))) else .stuck
        | _ => .stuck
      | _ => .stuck) = _
    rw [List.append_nil, h]
    have hg : (S ++ [Ob.lst acc])[S.length]? = some (.lst acc) := by simp
    dsimp only
    rw [hg]
    dsimp only
    rw [List.length_cons] at hl
    rw [if_pos (by omega)]
    have hs : (S ++ [Ob.lst acc]).set S.length (.lst (acc ++ [w])) = S ++ [.lst (acc ++ [w])] := by simp
    rw [hs, ih (acc ++ [w]) hi (by simp; omega)]
    simp
theorem ws_lc {N : List Str} {i j f : Nat} {vs cs : List Vl} {ws : List D} (hγ : γ[j]? = some (some (.lv vs))) (hc : clsVs (cpOf N γ) vs = some cs) (h : Ws c f cs ws) (hi : i < γ.length) (hl : ws.length < LINE) :
    xLcL N false [i] (iV (xV j)) (gV i) tYes (xCall f (aCons (xV i) aNil) []) c γ S = .ok (.d (.list ws)) S := by
  unfold xLcL iV
  have hv : xV j c γ S = .ok (.lv vs) S := by unfold xV; rw [hγ]
  rw [hv]
  show (match clsI (cpOf N γ) (.its vs) with
    | some J' => lcFin false S.length (lcRun (gV i) tYes (xCall f (aCons (xV i) aNil) []) c (wipeE (clsE (cpOf N γ) γ) [i]) S.length J' (S ++ [Ob.lst []]))
    | none => .stuck) = _
  have hci : clsI (cpOf N γ) (.its vs) = some (.its cs) := by
    show (match clsVs (cpOf N γ) vs with
      | some ys => some (Itr.its ys)
      | none => none) = _
    rw [hc]
  rw [hci]
  show lcFin false S.length (lcLoop (gV i) tYes (xCall f (aCons (xV i) aNil) []) c (wipeE (clsE (cpOf N γ) γ) [i]) S.length cs (S ++ [.lst []])) = _
  rw [ws_loop h [] (by rw [wipeE_len']; unfold clsE; rw [List.length_map]; exact hi) (by simpa using hl)]
  show lcEnd false S.length (S ++ [Ob.lst ([] ++ ws)]) = _
  unfold lcEnd
  rw [if_pos (by simp)]
  have hg : (S ++ [Ob.lst ([] ++ ws)])[S.length]? = some (.lst ws) := by simp
  rw [hg]
  show R.ok _ _ = R.ok _ _
  simp
/-! ### lists of texts -/
def txtL : List D → Bool
  | [] => true
  | .str _ :: r => txtL r
  | _ :: _ => false
theorem txtL_plain : ∀ {ws : List D}, txtL ws = true → PyData.plainAll ws = true ∧ PyData.depthAll ws ≤ 1 ∧ PyData.eqvAll ws ws = true
  | [], _ => ⟨rfl, by decide, rfl⟩
  | x :: r, h => by
    cases x with
    | str z =>
      obtain ⟨h1, h2, h3⟩ := txtL_plain (ws := r) (by unfold txtL at h; exact h)
      refine ⟨?_, ?_, ?_⟩
      · unfold PyData.plainAll PyData.plain; simp [h1]
      · unfold PyData.depthAll PyData.depth; omega
      · unfold PyData.eqvAll PyData.eqv; simp [h3]
    | _ => unfold txtL at h; cases h
theorem txtL_ok {ws : List D} (h : txtL ws = true) : okD (.list ws) = true ∧ PyData.eqv (.list ws) (.list ws) = true := by
  obtain ⟨h1, h2, h3⟩ := txtL_plain h
  refine ⟨?_, ?_⟩
  · unfold okD PyData.plain PyData.depth
    rw [h1, Bool.true_and, decide_eq_true_eq]
    omega
  · unfold PyData.eqv
    exact h3
theorem cmp_eq_self {ws : List D} (h : txtL ws = true) : cmp .eq (.d (.list ws)) (.d (.list ws)) S = some true := by
  obtain ⟨h1, h2⟩ := txtL_ok h
  show (if okD (.list ws) && okD (.list ws) then some (PyData.eqv (.list ws) (.list ws)) else none) = _
  rw [h1, h2]
  rfl
theorem cmp_ne_self {ws : List D} (h : txtL ws = true) : cmp .ne (.d (.list ws)) (.d (.list ws)) S = some false := by
  obtain ⟨h1, h2⟩ := txtL_ok h
  show (if okD (.list ws) && okD (.list ws) then some (!PyData.eqv (.list ws) (.list ws)) else none) = _
  rw [h1, h2]
  rfl
theorem if_ne {A B : TEx} {r : TSt} {ws : List D} (hA : A c γ S = .ok (.d (.list ws)) S) (hB : B c γ S = .ok (.d (.list ws)) S) (hs : txtL ws = true) : sIf (tCmp .ne A B) r sPass c γ S = .nx γ S := by
  unfold sIf tCmp
  rw [hA]
  show ((B c γ S).bind _).next γ _ = _
  rw [hB]
  show (match cmp .ne (.d (.list ws)) (.d (.list ws)) S with
    | some k => R.ok k S
    | none => .stuck).next γ _ = _
  rw [cmp_ne_self hs]
  rfl
theorem ret_eq {A B : TEx} {ws : List D} (hA : A c γ S = .ok (.d (.list ws)) S) (hB : B c γ S = .ok (.d (.list ws)) S) (hs : txtL ws = true) : sRet (xCmp .eq A B) c γ S = .rt (Mk.B true) S := by
  unfold sRet xCmp
  rw [hA]
  show ((B c γ S).bind _).next γ _ = _
  rw [hB]
  show (match cmp .eq (.d (.list ws)) (.d (.list ws)) S with
    | some k => R.ok (Mk.B k) S
    | none => .stuck).next γ _ = _
  rw [cmp_eq_self hs]
  rfl
/-! ### 'count ' + repr(x) -/
def cnt (x : D) : D := .str ("count " ++ x.shown)
def cntOk (x : D) : Bool := reprOk x && decide (("count " : Str).length + x.shown.length ≤ LINE)
theorem cnt_e {i : Nat} {x : D} {m : Bool} (h : cntOk x = true) (hi : γ[i]? = some (some (.d x))) : xBin .add m (xC (.d (.str "count "))) (xB bRepr (aCons (xV i) aNil)) c γ S = .ok (.d (cnt x)) S := by
  unfold cntOk at h
  rw [Bool.and_eq_true, decide_eq_true_eq] at h
  unfold xBin
  show ((xB bRepr (aCons (xV i) aNil)) c γ S).bind _ = _
  unfold xB
  have hv : xV i c γ S = .ok (.d x) S := by unfold xV; rw [hi]
  rw [args_cons hv args_nil]
  show (if reprOk x then R.ok (Vl.d (.str x.shown)) S else .stuck).bind _ = _
  rw [if_pos h.1]
  show (if ("count " : Str).length + x.shown.length ≤ LINE then R.ok (Vl.d (.str ("count " ++ x.shown))) S else .stuck) = _
  rw [if_pos h.2]
  rfl
/-! ### walks over defs -/
theorem for_its {it : TIt} {g : TTg} {b : TSt} {xs : List Vl} (hi : it c γ S = .ok (.its xs) S) (h : fLoop g b c xs γ S = .nx γ' S) : sFor it g b c γ S = .nx γ' S := by
  unfold sFor
  rw [hi]
  exact h
theorem loop_cons {i : Nat} {b : TSt} {x : Vl} {xs : List Vl} (h : b c (γ.set i (some x)) S = .nx γ2 S) (h2 : fLoop (gV i) b c xs γ2 S = .nx γ' S) : fLoop (gV i) b c (x :: xs) γ S = .nx γ' S := by
  unfold fLoop
  show (match b c (γ.set i (some x)) S with
    | .nx γ' S' => fLoop (gV i) b c xs γ' S'
    | .ct γ' S' => fLoop (gV i) b c xs γ' S'
    | .bk γ' S' => .nx γ' S'
    | o => o) = _
  rw [h]
  exact h2
theorem loop_nil {g : TTg} {b : TSt} : fLoop g b c [] γ S = .nx γ S := rfl
/-- facts by a menu -/
theorem map_all {α β : Type} {f g : α → β} : ∀ {l : List α}, l.map f = l.map g → ∀ x ∈ l, f x = g x
  | [], _, x, hx => nomatch hx
  | a :: l, h, x, hx => by
    rw [List.map_cons, List.map_cons] at h
    injection h with h1 h2
    rcases List.mem_cons.mp hx with rfl | hx
    · exact h1
    · exact map_all h2 x hx
end
end Mk
namespace Mk
open PySem (PyData Str)
section
variable {c : Cl} {γ γ' γ2 : Env} {S S1 S2 S3 : Store}
theorem lst_e {a : TAr} {xs : List Vl} {ds : List D} (h : a c γ S = .ok xs S1) (hd : allD xs = some ds) : xLst false a c γ S = .ok (.d (.list ds)) S1 := by
  unfold xLst
  rw [h]
  show (match allD xs with
    | some ds => mkLst false ds S1
    | none => match false with
      | false => .ok (.lv xs) S1
      | true => .stuck) = _
  rw [hd]
  rfl
theorem cat_e {m : Bool} {a b : TEx} {xs ys : List D} (h1 : a c γ S = .ok (.d (.list xs)) S1) (h2 : b c γ S1 = .ok (.d (.list ys)) S2) (hl : xs.length + ys.length ≤ LINE) : xBin .add false a b c γ S = .ok (.d (.list (xs ++ ys))) S2 := by
  unfold xBin
  rw [h1]
  show (b c γ S1).bind _ = _
  rw [h2]
  show (if xs.length + ys.length ≤ LINE then mkLst false (xs ++ ys) S2 else .stuck) = _
  rw [if_pos hl]
  rfl
end
end Mk
namespace K38
open PySem PySem.Spec PyProof.Rows L2 Mk
abbrev prog := PySem.Challenge.pw_makesmore_k38_errors_of_who_needs_whom
def sX : Stmt := .Pass ⟨0, 0, 0, 0⟩
def top (i : Nat) : Stmt := prog.main.body.getD i sX
def c_APART : D := (.str "apart")
def c_MAX_WIDTH : D := (.int 12)
def cs : List (Str × D) := [("APART", c_APART), ("MAX_WIDTH", c_MAX_WIDTH)]
def fr : List Str := ["abs", "all", "any", "bool", "enumerate", "int", "isinstance", "len", "list", "max", "min", "range", "repr", "sorted", "tuple", "zip"]
def e_MakeError : ErI := ⟨"MakeError", .value, none⟩
def e_InvalidTable : ErI := ⟨"InvalidTable", .value, none⟩
def e_InvalidOperation : ErI := ⟨"InvalidOperation", .value, none⟩
def in_InvalidCount : InI := ⟨"__init__", "InvalidCount.__init__", argAt (defArgs ((clsBody (top 4)).getD 0 sX)) 0, argAt (defArgs ((clsBody (top 4)).getD 0 sX)) 1, defScope ((clsBody (top 4)).getD 0 sX), defBody ((clsBody (top 4)).getD 0 sX), "given"⟩
def e_InvalidCount : ErI := ⟨"InvalidCount", .index, some in_InvalidCount⟩
def in_Refused : InI := ⟨"__init__", "Refused.__init__", argAt (defArgs ((clsBody (top 5)).getD 0 sX)) 0, argAt (defArgs ((clsBody (top 5)).getD 0 sX)) 1, defScope ((clsBody (top 5)).getD 0 sX), defBody ((clsBody (top 5)).getD 0 sX), "reason"⟩
def e_Refused : ErI := ⟨"Refused", .arith, some in_Refused⟩
def ers : List ErI := [e_MakeError, e_InvalidTable, e_InvalidOperation, e_InvalidCount, e_Refused]
def er : List (Str × Nat × Option Str) := [("MakeError", 0, none), ("InvalidTable", 1, none), ("InvalidOperation", 2, none), ("InvalidCount", 3, some "given"), ("Refused", 4, some "reason")]
def hds : List HdE := [⟨"InvalidTable", none, [1]⟩, ⟨"InvalidOperation", none, [2]⟩, ⟨"InvalidCount", none, [3]⟩, ⟨"Refused", none, [4]⟩]
def hd : List (Str × List Nat) := [("InvalidTable", [1]), ("InvalidOperation", [2]), ("InvalidCount", [3]), ("Refused", [4])]
abbrev i_is_integer : Nat := 0
abbrev i_common_divisor : Nat := 1
abbrev i_is_number : Nat := 2
abbrev i_require_count : Nat := 3
abbrev i_is_plain_row : Nat := 4
abbrev i_is_plain_table : Nat := 5
abbrev i_are_from_nought : Nat := 6
abbrev i_is_plain_uses : Nat := 7
abbrev i_require_uses : Nat := 8
abbrev i_require_index : Nat := 9
abbrev i_require_placed : Nat := 10
abbrev i_require_both : Nat := 11
abbrev i_used_by_row : Nat := 12
abbrev i_needs_from : Nat := 13
abbrev i_all_needs : Nat := 14
abbrev i_classes_of : Nat := 15
abbrev i_class_at : Nat := 16
abbrev i_part_of : Nat := 17
abbrev i_needs : Nat := 18
abbrev i_does_need : Nat := 19
abbrev i_classes : Nat := 20
abbrev i_class_of : Nat := 21
abbrev i_are_needed : Nat := 22
abbrev i_do_need_others : Nat := 23
abbrev i_first_classes : Nat := 24
abbrev i_last_classes : Nat := 25
abbrev i_is_one : Nat := 26
abbrev i_chain_of : Nat := 27
abbrev i_chain : Nat := 28
abbrev i_steps_within : Nat := 29
abbrev i_period_at : Nat := 30
abbrev i_period : Nat := 31
abbrev i_led_from : Nat := 32
abbrev i_is_used : Nat := 33
abbrev i_all_from : Nat := 34
abbrev i_are_indices : Nat := 35
abbrev i_require_indices : Nat := 36
abbrev i_part : Nat := 37
abbrev i_does_close : Nat := 38
abbrev i_is_closed : Nat := 39
abbrev i__law_dice : Nat := 40
abbrev i__law_roll : Nat := 41
abbrev i__law_pick : Nat := 42
abbrev i__law_word : Nat := 43
abbrev i__law_right : Nat := 44
abbrev i_law : Nat := 45
def l__law_right_0 : LamT := mkLam "_law_right.<locals>.<lambda>" (eC (sE ((defBody (top 58)).getD 11 sX)) 0)
def l__law_right_1 : LamT := mkLam "_law_right.<locals>.<lambda>" (eC (sE ((defBody (top 58)).getD 11 sX)) 1)
def l__law_right_2 : LamT := mkLam "_law_right.<locals>.<lambda>" (eC (sE ((defBody (top 58)).getD 11 sX)) 2)
def l__law_right_3 : LamT := mkLam "_law_right.<locals>.<lambda>" (eC (sE ((defBody (top 58)).getD 11 sX)) 3)
def l__law_right_4 : LamT := mkLam "_law_right.<locals>.<lambda>" (eC (sE ((defBody (top 58)).getD 11 sX)) 4)
def l__law_right_5 : LamT := mkLam "_law_right.<locals>.<lambda>" (eC (sE ((defBody (top 58)).getD 11 sX)) 5)
def l__law_right_6 : LamT := mkLam "_law_right.<locals>.<lambda>" (eC (sE ((defBody (top 58)).getD 11 sX)) 6)
def l__law_right_7 : LamT := mkLam "_law_right.<locals>.<lambda>" (eC (sE (sC ((defBody (top 58)).getD 10 sX) 0)) 0)
def l__law_right_8 : LamT := mkLam "_law_right.<locals>.<lambda>" (eC (sE (sC ((defBody (top 58)).getD 10 sX) 0)) 1)
def l__law_right_9 : LamT := mkLam "_law_right.<locals>.<lambda>" (eC (sE (sC ((defBody (top 58)).getD 10 sX) 0)) 2)
def l__law_right_10 : LamT := mkLam "_law_right.<locals>.<lambda>" (eC (sE (sC ((defBody (top 58)).getD 10 sX) 0)) 3)
def l__law_right_11 : LamT := mkLam "_law_right.<locals>.<lambda>" (eC (sE (sC ((defBody (top 58)).getD 9 sX) 0)) 0)
def l__law_right_12 : LamT := mkLam "_law_right.<locals>.<lambda>" (eC (sE (sC ((defBody (top 58)).getD 9 sX) 0)) 1)
def l__law_right_13 : LamT := mkLam "_law_right.<locals>.<lambda>" (eC (sE (sC ((defBody (top 58)).getD 9 sX) 0)) 2)
def l__law_right_14 : LamT := mkLam "_law_right.<locals>.<lambda>" (eC (sE (sC ((defBody (top 58)).getD 9 sX) 0)) 3)
def l__law_right_15 : LamT := mkLam "_law_right.<locals>.<lambda>" (eC (sE (sC ((defBody (top 58)).getD 9 sX) 0)) 4)
def l__law_right_16 : LamT := mkLam "_law_right.<locals>.<lambda>" (eC (sE (sC ((defBody (top 58)).getD 8 sX) 0)) 0)
def l__law_right_17 : LamT := mkLam "_law_right.<locals>.<lambda>" (eC (sE (sC ((defBody (top 58)).getD 8 sX) 0)) 1)
def l__law_right_18 : LamT := mkLam "_law_right.<locals>.<lambda>" (eC (sE (sC ((defBody (top 58)).getD 8 sX) 0)) 2)
def l__law_right_19 : LamT := mkLam "_law_right.<locals>.<lambda>" (eC (sE (sC ((defBody (top 58)).getD 8 sX) 0)) 3)
def l__law_right_20 : LamT := mkLam "_law_right.<locals>.<lambda>" (eC (sE (sC ((defBody (top 58)).getD 7 sX) 0)) 0)
def l__law_right_21 : LamT := mkLam "_law_right.<locals>.<lambda>" (eC (sE (sC ((defBody (top 58)).getD 7 sX) 0)) 1)
def l__law_right_22 : LamT := mkLam "_law_right.<locals>.<lambda>" (eC (sE (sC ((defBody (top 58)).getD 7 sX) 0)) 2)
def l_law_0 : LamT := mkLam "law.<locals>.<lambda>" (eC (eC (eC (sE ((defBody (top 59)).getD 4 sX)) 0) 0) 1)
def n_is_integer : List Str := ["value"]
def n_common_divisor : List Str := ["one", "other"]
def n_is_number : List Str := ["value", "one"]
def n_require_count : List Str := ["value", "least", "most"]
def n_is_plain_row : List Str := ["width", "value", "one"]
def n_is_plain_table : List Str := ["height", "width", "value", "row"]
def n_are_from_nought : List Str := ["row", "number"]
def n_is_plain_uses : List Str := ["width", "value", "row"]
def n_require_uses : List Str := ["width", "table"]
def n_require_index : List Str := ["width", "index"]
def n_require_placed : List Str := ["width", "table", "index"]
def n_require_both : List Str := ["width", "table", "one", "other"]
def n_used_by_row : List Str := ["row", "index", "number"]
def n_needs_from : List Str := ["table", "indices", "found", "fresh", "later", "index", "one"]
def n_all_needs : List Str := ["table", "index"]
def n_classes_of : List Str := ["table", "needed", "found", "seen", "index", "some", "one"]
def n_class_at : List Str := ["table", "index", "some"]
def n_part_of : List Str := ["table", "indices", "one", "other"]
def n_needs : List Str := ["width", "table", "index"]
def n_does_need : List Str := ["width", "table", "one", "other"]
def n_classes : List Str := ["width", "table"]
def n_class_of : List Str := ["width", "table", "index"]
def n_are_needed : List Str := ["table", "some", "others", "index", "one"]
def n_do_need_others : List Str := ["table", "some", "one"]
def n_first_classes : List Str := ["width", "table", "some"]
def n_last_classes : List Str := ["width", "table", "some"]
def n_is_one : List Str := ["width", "table"]
def n_chain_of : List Str := ["table", "one", "other", "rows", "seen", "longer", "row", "index"]
def n_chain : List Str := ["width", "table", "one", "other", "found"]
def n_steps_within : List Str := ["table", "some", "index", "found", "fresh", "later", "one", "other"]
def n_period_at : List Str := ["table", "index", "some", "found", "steps", "one", "other", "gap"]
def n_period : List Str := ["width", "table", "index"]
def n_led_from : List Str := ["table", "lots", "found", "lot", "later", "index", "one"]
def n_is_used : List Str := ["width", "table", "one", "other", "ticks", "lots", "_"]
def n_all_from : List Str := ["width", "table", "every", "lots", "found", "tick", "index", "lot"]
def n_are_indices : List Str := ["width", "value", "one", "other"]
def n_require_indices : List Str := ["width", "table", "indices"]
def n_part : List Str := ["width", "table", "indices"]
def n_does_close : List Str := ["table", "indices", "index", "one"]
def n_is_closed : List Str := ["width", "table", "indices"]
def n__law_dice : List Str := ["script", "spot", "cell", "great", "seed"]
def n__law_roll : List Str := ["dice", "total", "found", "one", "two"]
def n__law_pick : List Str := ["dice", "things"]
def n__law_word : List Str := ["call", "error"]
def n__law_right : List Str := ["dice", "table", "one", "nought", "odd", "bad", "wrong", "far", "ticks", "lot", "first", "second", "third", "call", "calls", "due", "each"]
def n_law : List Str := ["script", "one", "nought", "table", "spot", "dice", "turn", "wide"]
def b_is_integer : TSt :=
 (sRet (xAnd (xIs (xV 0) .int) (xNot (xIs (xV 0) .bool))))
def b_common_divisor : TSt :=
 (sSeq (sPar 0 1 (xB bAbs (aCons (xV 0) aNil)) (xB bAbs (aCons (xV 1) aNil)))
 (sSeq (sWhile (tCmp .gt (xV 1) (xC (.d (.int 0))))
 (sPar 0 1 (xV 1) (xBin .mod false (xV 0) (xV 1))))
 (sRet (xV 0))))
def b_is_number : TSt :=
 (sSeq (sIf (tOr (tNot (tV (xIs (xV 0) .tuple))) (tOr (tCmp .ne (xB bLen (aCons (xV 0) aNil)) (xC (.d (.int 2)))) (tNot (tV (xB bAll (aCons (xLc false [1] (iV (xV 0)) (gV 1) tYes (xCall i_is_integer (aCons (xV 1) aNil) [])) aNil))))))
 (sRet (xC (.d (.bool false))))
 sPass)
 (sRet (xAnd (xCmp .ge (xIx (xV 0) (xC (.d (.int 1)))) (xC (.d (.int 1)))) (xCmp .eq (xCall i_common_divisor (aCons (xIx (xV 0) (xC (.d (.int 0)))) (aCons (xIx (xV 0) (xC (.d (.int 1)))) aNil)) []) (xC (.d (.int 1)))))))
def b_require_count : TSt :=
 (sIf (tOr (tNot (tV (xCall i_is_integer (aCons (xV 0) aNil) []))) (tNot (tCmp2 .le .le (xV 1) (xV 0) (xV 2))))
 (sErrX 3 (xV 0))
 sPass)
def b_is_plain_row : TSt :=
 (sRet (xAnd (xIs (xV 1) .tuple) (xAnd (xCmp .eq (xB bLen (aCons (xV 1) aNil)) (xV 0)) (xB bAll (aCons (xLc false [2] (iV (xV 1)) (gV 2) tYes (xCall i_is_number (aCons (xV 2) aNil) [])) aNil)))))
def b_is_plain_table : TSt :=
 (sRet (xAnd (xIs (xV 2) .tuple) (xAnd (xCmp .eq (xB bLen (aCons (xV 2) aNil)) (xV 0)) (xB bAll (aCons (xLc false [3] (iV (xV 2)) (gV 3) tYes (xCall i_is_plain_row (aCons (xV 1) (aCons (xV 3) aNil)) [])) aNil)))))
def b_are_from_nought : TSt :=
 (sRet (xB bAll (aCons (xLc false [1] (iV (xV 0)) (gV 1) tYes (xCmp .ge (xIx (xV 1) (xC (.d (.int 0)))) (xC (.d (.int 0))))) aNil)))
def b_is_plain_uses : TSt :=
 (sRet (xAnd (xCall i_is_plain_table (aCons (xV 0) (aCons (xV 0) (aCons (xV 1) aNil))) []) (xB bAll (aCons (xLc false [2] (iV (xV 1)) (gV 2) tYes (xCall i_are_from_nought (aCons (xV 2) aNil) [])) aNil))))
def b_require_uses : TSt :=
 (sSeq (sExpr (xCall i_require_count (aCons (xV 0) (aCons (xC (.d (.int 1))) (aCons (xC (.d c_MAX_WIDTH)) aNil))) []))
 (sIf (tNot (tV (xCall i_is_plain_uses (aCons (xV 0) (aCons (xV 1) aNil)) [])))
 (sErr 1)
 sPass))
def b_require_index : TSt :=
 (sIf (tOr (tNot (tV (xCall i_is_integer (aCons (xV 1) aNil) []))) (tNot (tCmp2 .le .lt (xC (.d (.int 0))) (xV 1) (xV 0))))
 (sErrX 3 (xV 1))
 sPass)
def b_require_placed : TSt :=
 (sSeq (sExpr (xCall i_require_uses (aCons (xV 0) (aCons (xV 1) aNil)) []))
 (sExpr (xCall i_require_index (aCons (xV 0) (aCons (xV 2) aNil)) [])))
def b_require_both : TSt :=
 (sSeq (sExpr (xCall i_require_uses (aCons (xV 0) (aCons (xV 1) aNil)) []))
 (sSeq (sExpr (xCall i_require_index (aCons (xV 0) (aCons (xV 2) aNil)) []))
 (sExpr (xCall i_require_index (aCons (xV 0) (aCons (xV 3) aNil)) []))))
def b_used_by_row : TSt :=
 (sRet (xLc false [1, 2] (iEnum (xV 0)) (gTup (gCons (gV 1) (gCons (gV 2) gNil))) (tCmp .gt (xIx (xV 2) (xC (.d (.int 0)))) (xC (.d (.int 0)))) (xV 1)))
def b_needs_from : TSt :=
 (sSeq (sAsg (gTup (gCons (gV 2) (gCons (gV 3) gNil))) (xTup (aCons (xDct true []) (aCons (xB (bList false) (aCons (xV 1) aNil)) aNil))))
 (sSeq (sWhile (tCmp .ne (xV 3) (xLst false aNil))
 (sSeq (sSet 4 (xLst true aNil))
 (sSeq (sFor (iV (xV 3)) (gV 5)
 (sSeq (sExt (xV 4) (xLc false [6] (iV (xCall i_used_by_row (aCons (xIx (xV 0) (xV 5)) aNil) [])) (gV 6) (tCmp .notIn (xV 6) (xV 2)) (xV 6)))
 (sUpd (xV 2) (xCm false (.dct []) [6] (iV (xV 4)) (gV 6) tYes (emD (xV 6) (xC (.d (.bool true))))))))
 (sSet 3 (xB (bSorted false) (aCons (xCm false (.dct []) [6] (iV (xV 4)) (gV 6) tYes (emD (xV 6) (xC (.d (.bool true))))) aNil))))))
 (sRet (xB (bSorted false) (aCons (xV 2) aNil)))))
def b_all_needs : TSt :=
 (sRet (xLc false [1] (iRng1 (xB bLen (aCons (xV 0) aNil))) (gV 1) tYes (xCall i_needs_from (aCons (xV 0) (aCons (xLst false (aCons (xV 1) aNil)) aNil)) [])))
def b_classes_of : TSt :=
 (sSeq (sAsg (gTup (gCons (gV 1) (gCons (gV 2) (gCons (gV 3) gNil)))) (xTup (aCons (xCall i_all_needs (aCons (xV 0) aNil) []) (aCons (xLst true aNil) (aCons (xDct true []) aNil)))))
 (sSeq (sFor (iRng1 (xB bLen (aCons (xV 0) aNil))) (gV 4)
 (sIf (tCmp .notIn (xV 4) (xV 3))
 (sSeq (sSet 5 (xLc false [6] (iRng1 (xB bLen (aCons (xV 0) aNil))) (gV 6) (tOr (tCmp .eq (xV 6) (xV 4)) (tAnd (tCmp .inn (xV 6) (xIx (xV 1) (xV 4))) (tCmp .inn (xV 4) (xIx (xV 1) (xV 6))))) (xV 6)))
 (sSeq (sUpd (xV 3) (xCm false (.dct []) [6] (iV (xV 5)) (gV 6) tYes (emD (xV 6) (xC (.d (.bool true))))))
 (sApp (xV 2) (xB bTuple (aCons (xV 5) aNil)))))
 sPass))
 (sRet (xB bTuple (aCons (xV 2) aNil)))))
def b_class_at : TSt :=
 (sRet (xIx (xLc false [2] (iV (xCall i_classes_of (aCons (xV 0) aNil) [])) (gV 2) (tCmp .inn (xV 1) (xV 2)) (xV 2)) (xC (.d (.int 0)))))
def b_part_of : TSt :=
 (sRet (xB bTuple (aCons (xLc false [2] (iV (xV 1)) (gV 2) tYes (xB bTuple (aCons (xLc false [3] (iV (xV 1)) (gV 3) tYes (xIx (xIx (xV 0) (xV 2)) (xV 3))) aNil))) aNil)))
def b_needs : TSt :=
 (sSeq (sExpr (xCall i_require_placed (aCons (xV 0) (aCons (xV 1) (aCons (xV 2) aNil))) []))
 (sRet (xB bTuple (aCons (xCall i_needs_from (aCons (xV 1) (aCons (xLst false (aCons (xV 2) aNil)) aNil)) []) aNil))))
def b_does_need : TSt :=
 (sSeq (sExpr (xCall i_require_both (aCons (xV 0) (aCons (xV 1) (aCons (xV 2) (aCons (xV 3) aNil)))) []))
 (sRet (xCmp .inn (xV 3) (xCall i_needs_from (aCons (xV 1) (aCons (xLst false (aCons (xV 2) aNil)) aNil)) []))))
def b_classes : TSt :=
 (sSeq (sExpr (xCall i_require_uses (aCons (xV 0) (aCons (xV 1) aNil)) []))
 (sRet (xCall i_classes_of (aCons (xV 1) aNil) [])))
def b_class_of : TSt :=
 (sSeq (sExpr (xCall i_require_placed (aCons (xV 0) (aCons (xV 1) (aCons (xV 2) aNil))) []))
 (sRet (xCall i_class_at (aCons (xV 1) (aCons (xV 2) aNil)) [])))
def b_are_needed : TSt :=
 (sSeq (sSet 2 (xLc false [3] (iRng1 (xB bLen (aCons (xV 0) aNil))) (gV 3) (tCmp .notIn (xV 3) (xV 1)) (xV 3)))
 (sRet (xB bAny (aCons (xCm false (.lst []) [3, 4] (iV (xV 2)) (gV 3) tYes (emIn [4] (iV (xV 1)) (gV 4) tYes (emL (xCmp .inn (xV 4) (xCall i_needs_from (aCons (xV 0) (aCons (xLst false (aCons (xV 3) aNil)) aNil)) []))))) aNil))))
def b_do_need_others : TSt :=
 (sRet (xB bAny (aCons (xLc false [2] (iV (xCall i_needs_from (aCons (xV 0) (aCons (xV 1) aNil)) [])) (gV 2) tYes (xCmp .notIn (xV 2) (xV 1))) aNil)))
def b_first_classes : TSt :=
 (sSeq (sExpr (xCall i_require_uses (aCons (xV 0) (aCons (xV 1) aNil)) []))
 (sRet (xB bTuple (aCons (xLc false [2] (iV (xCall i_classes_of (aCons (xV 1) aNil) [])) (gV 2) (tNot (tV (xCall i_are_needed (aCons (xV 1) (aCons (xV 2) aNil)) []))) (xV 2)) aNil))))
def b_last_classes : TSt :=
 (sSeq (sExpr (xCall i_require_uses (aCons (xV 0) (aCons (xV 1) aNil)) []))
 (sRet (xB bTuple (aCons (xLc false [2] (iV (xCall i_classes_of (aCons (xV 1) aNil) [])) (gV 2) (tNot (tV (xCall i_do_need_others (aCons (xV 1) (aCons (xV 2) aNil)) []))) (xV 2)) aNil))))
def b_is_one : TSt :=
 (sSeq (sExpr (xCall i_require_uses (aCons (xV 0) (aCons (xV 1) aNil)) []))
 (sRet (xCmp .eq (xB bLen (aCons (xCall i_classes_of (aCons (xV 1) aNil) []) aNil)) (xC (.d (.int 1))))))
def b_chain_of : TSt :=
 (sSeq (sPar 3 4 (xLst false (aCons (xTup (aCons (xV 1) aNil)) aNil)) (xDct true []))
 (sSeq (sWhile (tCmp .ne (xV 3) (xLst false aNil))
 (sSeq (sSet 5 (xLst true aNil))
 (sSeq (sFor (iV (xV 3)) (gV 6)
 (sFor (iV (xCall i_used_by_row (aCons (xIx (xV 0) (xIx (xV 6) (xNeg (xC (.d (.int 1)))))) aNil) [])) (gV 7)
 (sSeq (sIf (tCmp .eq (xV 7) (xV 2))
 (sRet (xTup (aFew (aStar (xV 6) (aCons (xV 7) aNil)))))
 sPass)
 (sIf (tCmp .notIn (xV 7) (xV 4))
 (sSeq (sSetIx (xV 4) (xV 7) (xC (.d (.bool true))))
 (sApp (xV 5) (xTup (aFew (aStar (xV 6) (aCons (xV 7) aNil))))))
 sPass))))
 (sSet 3 (xV 5)))))
 (sRet (xC (.d .none)))))
def b_chain : TSt :=
 (sSeq (sExpr (xCall i_require_both (aCons (xV 0) (aCons (xV 1) (aCons (xV 2) (aCons (xV 3) aNil)))) []))
 (sSeq (sSet 4 (xCall i_chain_of (aCons (xV 1) (aCons (xV 2) (aCons (xV 3) aNil))) []))
 (sSeq (sIf (tCmp .isN (xV 4) (xC (.d .none)))
 (sErrX 4 (xTup (aCons (xC (.d c_APART)) aNil)))
 sPass)
 (sRet (xV 4)))))
def b_steps_within : TSt :=
 (sSeq (sPar 3 4 (xDp1 true (xV 2) (xC (.d (.int 0)))) (xLst false (aCons (xV 2) aNil)))
 (sSeq (sWhile (tCmp .ne (xV 4) (xLst false aNil))
 (sSeq (sSet 5 (xLst true aNil))
 (sSeq (sFor (iV (xV 4)) (gV 6)
 (sFor (iV (xCall i_used_by_row (aCons (xIx (xV 0) (xV 6)) aNil) [])) (gV 7)
 (sIf (tAnd (tCmp .inn (xV 7) (xV 1)) (tCmp .notIn (xV 7) (xV 3)))
 (sSeq (sSetIx (xV 3) (xV 7) (xBin .add false (xIx (xV 3) (xV 6)) (xC (.d (.int 1)))))
 (sApp (xV 5) (xV 7)))
 sPass)))
 (sSet 4 (xV 5)))))
 (sRet (xV 3))))
def b_period_at : TSt :=
 (sSeq (sPar 2 3 (xCall i_class_at (aCons (xV 0) (aCons (xV 1) aNil)) []) (xC (.d (.int 0))))
 (sSeq (sSet 4 (xCall i_steps_within (aCons (xV 0) (aCons (xV 2) (aCons (xV 1) aNil))) []))
 (sSeq (sFor (iV (xV 2)) (gV 5)
 (sFor (iV (xCall i_used_by_row (aCons (xIx (xV 0) (xV 5)) aNil) [])) (gV 6)
 (sIf (tCmp .inn (xV 6) (xV 2))
 (sSeq (sSet 7 (xBin .sub false (xBin .add false (xIx (xV 4) (xV 5)) (xC (.d (.int 1)))) (xIx (xV 4) (xV 6))))
 (sSet 3 (xIf (tCmp .eq (xV 7) (xC (.d (.int 0)))) (xV 3) (xCall i_common_divisor (aCons (xV 7) (aCons (xV 3) aNil)) []))))
 sPass)))
 (sRet (xV 3)))))
def b_period : TSt :=
 (sSeq (sExpr (xCall i_require_placed (aCons (xV 0) (aCons (xV 1) (aCons (xV 2) aNil))) []))
 (sRet (xCall i_period_at (aCons (xV 1) (aCons (xV 2) aNil)) [])))
def b_led_from : TSt :=
 (sSeq (sSet 2 (xLst true aNil))
 (sSeq (sFor (iV (xV 1)) (gV 3)
 (sSeq (sSet 4 (xDct true []))
 (sSeq (sFor (iV (xV 3)) (gV 5)
 (sUpd (xV 4) (xCm false (.dct []) [6] (iV (xCall i_used_by_row (aCons (xIx (xV 0) (xV 5)) aNil) [])) (gV 6) tYes (emD (xV 6) (xC (.d (.bool true)))))))
 (sApp (xV 2) (xB (bSorted false) (aCons (xV 4) aNil))))))
 (sRet (xV 2))))
def b_is_used : TSt :=
 (sSeq (sExpr (xCall i_require_both (aCons (xV 0) (aCons (xV 1) (aCons (xV 2) (aCons (xV 3) aNil)))) []))
 (sSeq (sExpr (xCall i_require_count (aCons (xV 4) aNil) [I 0, I 60]))
 (sSeq (sSet 5 (xLst false (aCons (xLst false (aCons (xV 2) aNil)) aNil)))
 (sSeq (sFor (iRng1 (xV 4)) (gV 6)
 (sSet 5 (xCall i_led_from (aCons (xV 1) (aCons (xV 5) aNil)) [])))
 (sRet (xCmp .inn (xV 3) (xIx (xV 5) (xC (.d (.int 0))))))))))
def b_all_from : TSt :=
 (sSeq (sExpr (xCall i_require_uses (aCons (xV 0) (aCons (xV 1) aNil)) []))
 (sSeq (sAsg (gTup (gCons (gV 2) (gCons (gV 3) (gCons (gV 4) gNil)))) (xTup (aCons (xLRng false (xV 0)) (aCons (xLc false [6] (iRng1 (xV 0)) (gV 6) tYes (xLst false (aCons (xV 6) aNil))) (aCons (xC (.d .none)) aNil)))))
 (sSeq (sFor (iRng1 (xBin .add false (xBin .mul false (xBin .sub false (xV 0) (xC (.d (.int 1)))) (xBin .sub false (xV 0) (xC (.d (.int 1))))) (xC (.d (.int 3))))) (gV 5)
 (sSeq (sIf (tV (xB bAll (aCons (xLc false [7] (iV (xV 3)) (gV 7) tYes (xCmp .eq (xV 7) (xV 2))) aNil)))
 (sSet 4 (xIf (tCmp .isN (xV 4) (xC (.d .none))) (xV 5) (xV 4)))
 (sSet 4 (xC (.d .none))))
 (sSet 3 (xCall i_led_from (aCons (xV 1) (aCons (xV 3) aNil)) []))))
 (sRet (xV 4)))))
def b_are_indices : TSt :=
 (sSeq (sIf (tOr (tNot (tV (xIs (xV 1) .tuple))) (tOr (tCmp .eq (xV 1) (xTup aNil)) (tNot (tV (xB bAll (aCons (xLc false [2] (iV (xV 1)) (gV 2) tYes (xAnd (xCall i_is_integer (aCons (xV 2) aNil) []) (xCmp2 .le .lt (xC (.d (.int 0))) (xV 2) (xV 0)))) aNil))))))
 (sRet (xC (.d (.bool false))))
 sPass)
 (sRet (xB bAll (aCons (xLc false [2, 3] (iZip (xV 1) (xSl false (xV 1) (pSome (xC (.d (.int 1)))) pNo)) (gTup (gCons (gV 2) (gCons (gV 3) gNil))) tYes (xCmp .lt (xV 2) (xV 3))) aNil))))
def b_require_indices : TSt :=
 (sSeq (sExpr (xCall i_require_uses (aCons (xV 0) (aCons (xV 1) aNil)) []))
 (sIf (tNot (tV (xCall i_are_indices (aCons (xV 0) (aCons (xV 2) aNil)) [])))
 (sErr 2)
 sPass))
def b_part : TSt :=
 (sSeq (sExpr (xCall i_require_indices (aCons (xV 0) (aCons (xV 1) (aCons (xV 2) aNil))) []))
 (sRet (xCall i_part_of (aCons (xV 1) (aCons (xV 2) aNil)) [])))
def b_does_close : TSt :=
 (sRet (xB bAll (aCons (xCm false (.lst []) [2, 3] (iV (xV 1)) (gV 2) tYes (emIn [3] (iV (xCall i_used_by_row (aCons (xIx (xV 0) (xV 2)) aNil) [])) (gV 3) tYes (emL (xCmp .inn (xV 3) (xV 1))))) aNil)))
def b_is_closed : TSt :=
 (sSeq (sExpr (xCall i_require_indices (aCons (xV 0) (aCons (xV 1) (aCons (xV 2) aNil))) []))
 (sRet (xCall i_does_close (aCons (xV 1) (aCons (xV 2) aNil)) [])))
def b__law_dice : TSt :=
 (sSeq (sSet 2 (xIf (tCmp .lt (xV 1) (xB bLen (aCons (xV 0) aNil))) (xB bInt (aCons (xIx (xV 0) (xV 1)) aNil)) (xBin .add false (xBin .mul false (xC (.d (.int 131))) (xV 1)) (xC (.d (.int 37))))))
 (sSeq (sSet 3 (xBin .mod false (xB bInt (aCons (xB bAbs (aCons (xV 2) aNil)) aNil)) (xBin .pow false (xBin .pow false (xC (.d (.int 10))) (xC (.d (.int 53)))) (xC (.d (.int 6))))))
 (sSeq (sSet 4 (xBin .add false (xBin .add false (xBin .add false (xBin .mul false (xBin .mod false (xV 3) (xC (.d (.int 2305843009213693907)))) (xC (.d (.int 73)))) (xBin .mul false (xC (.d (.int 619))) (xV 1))) (xBin .mul false (xC (.d (.int 41))) (xB bInt (aCons (xCmp .lt (xV 2) (xC (.d (.int 0)))) aNil)))) (xC (.d (.int 17)))))
 (sRet (xLst true (aCons (xB bMax (aCons (xC (.d (.int 0))) (aCons (xBin .sub false (xV 3) (xBin .pow false (xC (.d (.int 10))) (xC (.d (.int 16))))) aNil))) (aCons (xV 4) (aCons (xC (.d (.int 0))) aNil))))))))
def b__law_roll : TSt :=
 (sSeq (sIf (tCmp .gt (xIx (xV 0) (xC (.d (.int 0)))) (xC (.d (.int 0))))
 (sSeq (sSet 2 (xBin .mod false (xIx (xV 0) (xC (.d (.int 0)))) (xV 1)))
 (sSeq (sSetIx (xV 0) (xC (.d (.int 0))) (xBin .fdiv false (xIx (xV 0) (xC (.d (.int 0)))) (xV 1)))
 (sRet (xB bInt (aCons (xV 2) aNil)))))
 sPass)
 (sSeq (sSetIx (xV 0) (xC (.d (.int 2))) (xBin .add false (xIx (xV 0) (xC (.d (.int 2)))) (xC (.d (.int 1)))))
 (sSeq (sSet 3 (xBin .mod false (xBin .add false (xIx (xV 0) (xC (.d (.int 1)))) (xBin .mul false (xC (.d (.int 49979687))) (xIx (xV 0) (xC (.d (.int 2)))))) (xC (.d (.int 2305843009213693951)))))
 (sSeq (sSet 4 (xBin .add false (xBin .mul false (xBin .mod false (xBin .add false (xBin .mul false (xV 3) (xV 3)) (xBin .mul false (xC (.d (.int 131))) (xIx (xV 0) (xC (.d (.int 2)))))) (xC (.d (.int 2305843009213693921)))) (xC (.d (.int 32452843)))) (xV 3)))
 (sRet (xBin .mod false (xB bInt (aCons (xBin .fdiv false (xV 4) (xC (.d (.int 65587)))) aNil)) (xV 1)))))))
def b__law_pick : TSt :=
 (sRet (xIx (xV 1) (xCall i__law_roll (aCons (xV 0) (aCons (xB bLen (aCons (xV 1) aNil)) aNil)) [])))
def b__law_word : TSt :=
 (sSeq (sTry (sExpr (xCallW 0))
 [⟨[1], none, (sRet (xC (.d (.str "table"))))⟩,
 ⟨[2], none, (sRet (xC (.d (.str "operation"))))⟩,
 ⟨[3], some 1, (sRet (xBin .add false (xC (.d (.str "count "))) (xB bRepr (aCons (xFld 3 (xV 1)) aNil))))⟩,
 ⟨[4], some 1, (sRet (xBin .add false (xC (.d (.str "refused "))) (xB bRepr (aCons (xFld 4 (xV 1)) aNil))))⟩])
 (sRet (xC (.d (.str "fine")))))
def b__law_right : TSt :=
 (sSeq (sAsg (gTup (gCons (gV 2) (gCons (gV 3) gNil))) (xTup (aCons (xTup (aCons (xC (.d (.int 1))) (aCons (xC (.d (.int 1))) aNil))) (aCons (xTup (aCons (xC (.d (.int 0))) (aCons (xC (.d (.int 1))) aNil))) aNil))))
 (sSeq (sSet 4 (xCallL n__law_right i__law_pick (aCons (xV 0) (aCons (xLst false (aCons (xC (.d .none)) (aCons (xC (.d (.int 0))) (aCons (xNeg (xC (.d (.int 1)))) (aCons (xC (.d (.int 13))) (aCons (xC (.d (.bool true))) (aCons (xC (.d (.str "1"))) (aCons (xBin .pow false (xC (.d (.int 10))) (xC (.d (.int 20)))) aNil)))))))) aNil)) []))
 (sSeq (sSet 5 (xCallL n__law_right i__law_pick (aCons (xV 0) (aCons (xLst false (aCons (xC (.d .none)) (aCons (xTup aNil) (aCons (xTup (aCons (xTup (aCons (xV 2) aNil)) aNil)) (aCons (xLst false (aCons (xTup (aCons (xV 2) (aCons (xV 3) aNil))) (aCons (xTup (aCons (xV 3) (aCons (xV 2) aNil))) aNil))) (aCons (xTup (aCons (xTup (aCons (xV 2) (aCons (xV 3) aNil))) (aCons (xTup (aCons (xV 3) (aCons (xTup (aCons (xNeg (xC (.d (.int 1)))) (aCons (xC (.d (.int 1))) aNil))) aNil))) aNil))) (aCons (xTup (aCons (xTup (aCons (xV 2) (aCons (xV 3) aNil))) (aCons (xTup (aCons (xV 2) aNil)) aNil))) (aCons (xC (.d (.str "table"))) (aCons (xTup (aCons (xTup (aCons (xV 2) (aCons (xC (.d (.int 1))) aNil))) (aCons (xTup (aCons (xV 2) (aCons (xV 2) aNil))) aNil))) (aCons (xTup (aCons (xV 2) (aCons (xV 2) aNil))) (aCons (xTup (aCons (xTup (aCons (xV 2) (aCons (xTup (aCons (xC (.d (.int 2))) (aCons (xC (.d (.int 2))) aNil))) aNil))) (aCons (xTup (aCons (xV 2) (aCons (xV 2) aNil))) aNil))) aNil))))))))))) aNil)) []))
 (sSeq (sAsg (gTup (gCons (gV 6) (gCons (gV 7) gNil))) (xTup (aCons (xCallL n__law_right i__law_pick (aCons (xV 0) (aCons (xLst false (aCons (xC (.d .none)) (aCons (xNeg (xC (.d (.int 1)))) (aCons (xC (.d (.int 2))) (aCons (xC (.d (.bool true))) (aCons (xC (.d (.str "0"))) (aCons (xTup (aCons (xC (.d (.int 0))) aNil)) aNil))))))) aNil)) []) (aCons (xCallL n__law_right i__law_pick (aCons (xV 0) (aCons (xLst false (aCons (xC (.d .none)) (aCons (xNeg (xC (.d (.int 1)))) (aCons (xC (.d (.int 7))) (aCons (xC (.d (.bool false))) (aCons (xC (.d (.str "1"))) aNil)))))) aNil)) []) aNil))))
 (sSeq (sSet 8 (xCallL n__law_right i__law_pick (aCons (xV 0) (aCons (xLst false (aCons (xC (.d .none)) (aCons (xNeg (xC (.d (.int 1)))) (aCons (xC (.d (.int 61))) (aCons (xC (.d (.bool true))) (aCons (xC (.d (.str "1"))) (aCons (xBin .pow false (xC (.d (.int 10))) (xC (.d (.int 20)))) aNil))))))) aNil)) []))
 (sSeq (sSet 9 (xCallL n__law_right i__law_pick (aCons (xV 0) (aCons (xLst false (aCons (xC (.d .none)) (aCons (xTup aNil) (aCons (xLst false (aCons (xC (.d (.int 0))) aNil)) (aCons (xTup (aCons (xC (.d (.int 1))) (aCons (xC (.d (.int 0))) aNil))) (aCons (xTup (aCons (xC (.d (.int 0))) (aCons (xC (.d (.int 0))) aNil))) (aCons (xTup (aCons (xC (.d (.int 2))) aNil)) (aCons (xTup (aCons (xNeg (xC (.d (.int 1)))) aNil)) (aCons (xTup (aCons (xC (.d (.bool true))) aNil)) (aCons (xTup (aCons (xC (.d (.str "0"))) aNil)) (aCons (xC (.d (.int 0))) (aCons (xTup (aCons (xC (.d (.int 0))) (aCons (xC (.d (.int 1))) (aCons (xC (.d (.int 2))) aNil)))) aNil)))))))))))) aNil)) []))
 (sSeq (sPar3 10 11 12 (xBin .add false (xC (.d (.str "count "))) (xB bRepr (aCons (xV 4) aNil))) (xBin .add false (xC (.d (.str "count "))) (xB bRepr (aCons (xV 6) aNil))) (xBin .add false (xC (.d (.str "count "))) (xB bRepr (aCons (xV 7) aNil))))
 (sSeq (sFor (iV (xTup (aCons (xC (.fn i_classes)) (aCons (xC (.fn i_first_classes)) (aCons (xC (.fn i_last_classes)) (aCons (xC (.fn i_is_one)) (aCons (xC (.fn i_all_from)) aNil))))))) (gV 13)
 (sSeq (sSet 14 (xLst false (aCons (xLam l__law_right_20) (aCons (xLam l__law_right_21) (aCons (xLam l__law_right_22) aNil)))))
 (sIf (tCmp .ne (xLcL n__law_right false [16] (iV (xV 14)) (gV 16) tYes (xCall i__law_word (aCons (xV 16) aNil) [])) (xLst false (aCons (xV 10) (aCons (xC (.d (.str "table"))) (aCons (xC (.d (.str "fine"))) aNil)))))
 (sRet (xC (.d (.bool false))))
 sPass)))
 (sSeq (sFor (iV (xTup (aCons (xC (.fn i_needs)) (aCons (xC (.fn i_class_of)) (aCons (xC (.fn i_period)) aNil))))) (gV 13)
 (sSeq (sSet 14 (xLst false (aCons (xLam l__law_right_16) (aCons (xLam l__law_right_17) (aCons (xLam l__law_right_18) (aCons (xLam l__law_right_19) aNil))))))
 (sIf (tCmp .ne (xLcL n__law_right false [16] (iV (xV 14)) (gV 16) tYes (xCall i__law_word (aCons (xV 16) aNil) [])) (xLst false (aCons (xV 10) (aCons (xC (.d (.str "table"))) (aCons (xV 11) (aCons (xC (.d (.str "fine"))) aNil))))))
 (sRet (xC (.d (.bool false))))
 sPass)))
 (sSeq (sFor (iV (xTup (aCons (xC (.fn i_does_need)) (aCons (xC (.fn i_chain)) aNil)))) (gV 13)
 (sSeq (sSet 14 (xLst false (aCons (xLam l__law_right_11) (aCons (xLam l__law_right_12) (aCons (xLam l__law_right_13) (aCons (xLam l__law_right_14) (aCons (xLam l__law_right_15) aNil)))))))
 (sIf (tCmp .ne (xLcL n__law_right false [16] (iV (xV 14)) (gV 16) tYes (xCall i__law_word (aCons (xV 16) aNil) [])) (xLst false (aCons (xV 10) (aCons (xC (.d (.str "table"))) (aCons (xV 11) (aCons (xV 12) (aCons (xC (.d (.str "fine"))) aNil)))))))
 (sRet (xC (.d (.bool false))))
 sPass)))
 (sSeq (sFor (iV (xTup (aCons (xC (.fn i_part)) (aCons (xC (.fn i_is_closed)) aNil)))) (gV 13)
 (sSeq (sSet 14 (xLst false (aCons (xLam l__law_right_7) (aCons (xLam l__law_right_8) (aCons (xLam l__law_right_9) (aCons (xLam l__law_right_10) aNil))))))
 (sIf (tCmp .ne (xLcL n__law_right false [16] (iV (xV 14)) (gV 16) tYes (xCall i__law_word (aCons (xV 16) aNil) [])) (xLst false (aCons (xV 10) (aCons (xC (.d (.str "table"))) (aCons (xC (.d (.str "operation"))) (aCons (xC (.d (.str "fine"))) aNil))))))
 (sRet (xC (.d (.bool false))))
 sPass)))
 (sSeq (sSet 14 (xLst false (aCons (xLam l__law_right_0) (aCons (xLam l__law_right_1) (aCons (xLam l__law_right_2) (aCons (xLam l__law_right_3) (aCons (xLam l__law_right_4) (aCons (xLam l__law_right_5) (aCons (xLam l__law_right_6) aNil)))))))))
 (sSeq (sSet 15 (xLst false (aCons (xV 10) (aCons (xC (.d (.str "table"))) (aCons (xV 11) (aCons (xV 12) (aCons (xBin .add false (xC (.d (.str "count "))) (xB bRepr (aCons (xV 8) aNil))) (aCons (xC (.d (.str "fine"))) (aCons (xC (.d (.str "refused ('apart',)"))) aNil)))))))))
 (sRet (xCmp .eq (xLcL n__law_right false [13] (iV (xV 14)) (gV 13) tYes (xCall i__law_word (aCons (xV 13) aNil) [])) (xV 15))))))))))))))))
def b_law : TSt :=
 (sSeq (sAsg (gTup (gCons (gV 1) (gCons (gV 2) gNil))) (xTup (aCons (xTup (aCons (xC (.d (.int 1))) (aCons (xC (.d (.int 1))) aNil))) (aCons (xTup (aCons (xC (.d (.int 0))) (aCons (xC (.d (.int 1))) aNil))) aNil))))
 (sSeq (sSet 3 (xTup (aCons (xTup (aCons (xV 1) (aCons (xV 1) aNil))) (aCons (xTup (aCons (xV 2) (aCons (xV 1) aNil))) aNil))))
 (sSeq (sFor (iRng1 (xB bMax (aCons (xC (.d (.int 1))) (aCons (xB bMin (aCons (xC (.d (.int 5))) (aCons (xB bLen (aCons (xV 0) aNil)) aNil))) aNil)))) (gV 4)
 (sSeq (sSet 5 (xCallL n_law i__law_dice (aCons (xV 0) (aCons (xV 4) aNil)) []))
 (sFor (iRng1 (xC (.d (.int 4)))) (gV 6)
 (sIf (tNot (tV (xCallL n_law i__law_right (aCons (xV 5) (aCons (xV 3) aNil)) [])))
 (sRet (xC (.d (.bool false))))
 sPass))))
 (sSeq (sSet 7 (xBin .mul false (xTup (aCons (xBin .mul false (xTup (aCons (xV 2) aNil)) (xC (.d (.int 12)))) aNil)) (xC (.d (.int 12)))))
 (sRet (xAnd (xCmp .eq (xCallL n_law i__law_word (aCons (xLam l_law_0) aNil) []) (xC (.d (.str "fine")))) (xCmp .eq (xV 3) (xTup (aCons (xTup (aCons (xV 1) (aCons (xV 1) aNil))) (aCons (xTup (aCons (xV 2) (aCons (xV 1) aNil))) aNil))))))))))
def fsAll : List (Str × Nat × Nat × List Int) := [(("is_integer" : Str), 0, 1, ([] : List Int)), (("common_divisor" : Str), 1, 2, ([] : List Int)), (("is_number" : Str), 2, 1, ([] : List Int)), (("require_count" : Str), 3, 3, ([0, 60] : List Int)), (("is_plain_row" : Str), 4, 2, ([] : List Int)), (("is_plain_table" : Str), 5, 3, ([] : List Int)), (("are_from_nought" : Str), 6, 1, ([] : List Int)), (("is_plain_uses" : Str), 7, 2, ([] : List Int)), (("require_uses" : Str), 8, 2, ([] : List Int)), (("require_index" : Str), 9, 2, ([] : List Int)), (("require_placed" : Str), 10, 3, ([] : List Int)), (("require_both" : Str), 11, 4, ([] : List Int)), (("used_by_row" : Str), 12, 1, ([] : List Int)), (("needs_from" : Str), 13, 2, ([] : List Int)), (("all_needs" : Str), 14, 1, ([] : List Int)), (("classes_of" : Str), 15, 1, ([] : List Int)), (("class_at" : Str), 16, 2, ([] : List Int)), (("part_of" : Str), 17, 2, ([] : List Int)), (("needs" : Str), 18, 3, ([] : List Int)), (("does_need" : Str), 19, 4, ([] : List Int)), (("classes" : Str), 20, 2, ([] : List Int)), (("class_of" : Str), 21, 3, ([] : List Int)), (("are_needed" : Str), 22, 2, ([] : List Int)), (("do_need_others" : Str), 23, 2, ([] : List Int)), (("first_classes" : Str), 24, 2, ([] : List Int)), (("last_classes" : Str), 25, 2, ([] : List Int)), (("is_one" : Str), 26, 2, ([] : List Int)), (("chain_of" : Str), 27, 3, ([] : List Int)), (("chain" : Str), 28, 4, ([] : List Int)), (("steps_within" : Str), 29, 3, ([] : List Int)), (("period_at" : Str), 30, 2, ([] : List Int)), (("period" : Str), 31, 3, ([] : List Int)), (("led_from" : Str), 32, 2, ([] : List Int)), (("is_used" : Str), 33, 5, ([] : List Int)), (("all_from" : Str), 34, 2, ([] : List Int)), (("are_indices" : Str), 35, 2, ([] : List Int)), (("require_indices" : Str), 36, 3, ([] : List Int)), (("part" : Str), 37, 3, ([] : List Int)), (("does_close" : Str), 38, 2, ([] : List Int)), (("is_closed" : Str), 39, 3, ([] : List Int)), (("_law_dice" : Str), 40, 2, ([] : List Int)), (("_law_roll" : Str), 41, 2, ([] : List Int)), (("_law_pick" : Str), 42, 2, ([] : List Int)), (("_law_word" : Str), 43, 1, ([] : List Int)), (("_law_right" : Str), 44, 2, ([] : List Int)), (("law" : Str), 45, 1, ([] : List Int))]
def g0 : Gt := { N := [], fs := fsAll, fr := fr, cs := cs, mu := [], er := er, hd := hd }
def g_is_integer : Gt := { N := n_is_integer, fs := fsAll, fr := fr, cs := cs, mu := [], er := er, hd := hd }
def d_is_integer : DefI := ⟨"is_integer", defArgs (top 8), defBody (top 8), defScope (top 8), ["value"], [], g_is_integer, ⟨1, 1, b_is_integer, false⟩⟩
def g_common_divisor : Gt := { N := n_common_divisor, fs := fsAll, fr := fr, cs := cs, mu := [], er := er, hd := hd }
def d_common_divisor : DefI := ⟨"common_divisor", defArgs (top 9), defBody (top 9), defScope (top 9), ["one", "other"], [], g_common_divisor, ⟨2, 2, b_common_divisor, false⟩⟩
def g_is_number : Gt := { N := n_is_number, fs := fsAll, fr := fr, cs := cs, mu := [], er := er, hd := hd }
def d_is_number : DefI := ⟨"is_number", defArgs (top 10), defBody (top 10), defScope (top 10), ["value"], [], g_is_number, ⟨1, 2, b_is_number, false⟩⟩
def g_require_count : Gt := { N := n_require_count, fs := fsAll, fr := fr, cs := cs, mu := [], er := er, hd := hd }
def d_require_count : DefI := ⟨"require_count", defArgs (top 11), defBody (top 11), defScope (top 11), ["value", "least", "most"], [0, 60], g_require_count, ⟨3, 3, b_require_count, false⟩⟩
def g_is_plain_row : Gt := { N := n_is_plain_row, fs := fsAll, fr := fr, cs := cs, mu := [], er := er, hd := hd }
def d_is_plain_row : DefI := ⟨"is_plain_row", defArgs (top 13), defBody (top 13), defScope (top 13), ["width", "value"], [], g_is_plain_row, ⟨2, 3, b_is_plain_row, false⟩⟩
def g_is_plain_table : Gt := { N := n_is_plain_table, fs := fsAll, fr := fr, cs := cs, mu := [], er := er, hd := hd }
def d_is_plain_table : DefI := ⟨"is_plain_table", defArgs (top 14), defBody (top 14), defScope (top 14), ["height", "width", "value"], [], g_is_plain_table, ⟨3, 4, b_is_plain_table, false⟩⟩
def g_are_from_nought : Gt := { N := n_are_from_nought, fs := fsAll, fr := fr, cs := cs, mu := [], er := er, hd := hd }
def d_are_from_nought : DefI := ⟨"are_from_nought", defArgs (top 16), defBody (top 16), defScope (top 16), ["row"], [], g_are_from_nought, ⟨1, 2, b_are_from_nought, false⟩⟩
def g_is_plain_uses : Gt := { N := n_is_plain_uses, fs := fsAll, fr := fr, cs := cs, mu := [], er := er, hd := hd }
def d_is_plain_uses : DefI := ⟨"is_plain_uses", defArgs (top 20), defBody (top 20), defScope (top 20), ["width", "value"], [], g_is_plain_uses, ⟨2, 3, b_is_plain_uses, false⟩⟩
def g_require_uses : Gt := { N := n_require_uses, fs := fsAll, fr := fr, cs := cs, mu := [], er := er, hd := hd }
def d_require_uses : DefI := ⟨"require_uses", defArgs (top 21), defBody (top 21), defScope (top 21), ["width", "table"], [], g_require_uses, ⟨2, 2, b_require_uses, false⟩⟩
def g_require_index : Gt := { N := n_require_index, fs := fsAll, fr := fr, cs := cs, mu := [], er := er, hd := hd }
def d_require_index : DefI := ⟨"require_index", defArgs (top 22), defBody (top 22), defScope (top 22), ["width", "index"], [], g_require_index, ⟨2, 2, b_require_index, false⟩⟩
def g_require_placed : Gt := { N := n_require_placed, fs := fsAll, fr := fr, cs := cs, mu := [], er := er, hd := hd }
def d_require_placed : DefI := ⟨"require_placed", defArgs (top 23), defBody (top 23), defScope (top 23), ["width", "table", "index"], [], g_require_placed, ⟨3, 3, b_require_placed, false⟩⟩
def g_require_both : Gt := { N := n_require_both, fs := fsAll, fr := fr, cs := cs, mu := [], er := er, hd := hd }
def d_require_both : DefI := ⟨"require_both", defArgs (top 24), defBody (top 24), defScope (top 24), ["width", "table", "one", "other"], [], g_require_both, ⟨4, 4, b_require_both, false⟩⟩
def g_used_by_row : Gt := { N := n_used_by_row, fs := fsAll, fr := fr, cs := cs, mu := [], er := er, hd := hd }
def d_used_by_row : DefI := ⟨"used_by_row", defArgs (top 25), defBody (top 25), defScope (top 25), ["row"], [], g_used_by_row, ⟨1, 3, b_used_by_row, false⟩⟩
def g_needs_from : Gt := { N := n_needs_from, fs := fsAll, fr := fr, cs := cs, mu := [(64, 20), (66, 16)], er := er, hd := hd }
def d_needs_from : DefI := ⟨"needs_from", defArgs (top 26), defBody (top 26), defScope (top 26), ["table", "indices"], [], g_needs_from, ⟨2, 7, b_needs_from, false⟩⟩
def g_all_needs : Gt := { N := n_all_needs, fs := fsAll, fr := fr, cs := cs, mu := [], er := er, hd := hd }
def d_all_needs : DefI := ⟨"all_needs", defArgs (top 27), defBody (top 27), defScope (top 27), ["table"], [], g_all_needs, ⟨1, 2, b_all_needs, false⟩⟩
def g_classes_of : Gt := { N := n_classes_of, fs := fsAll, fr := fr, cs := cs, mu := [(75, 45), (75, 49)], er := er, hd := hd }
def d_classes_of : DefI := ⟨"classes_of", defArgs (top 28), defBody (top 28), defScope (top 28), ["table"], [], g_classes_of, ⟨1, 7, b_classes_of, false⟩⟩
def g_class_at : Gt := { N := n_class_at, fs := fsAll, fr := fr, cs := cs, mu := [], er := er, hd := hd }
def d_class_at : DefI := ⟨"class_at", defArgs (top 29), defBody (top 29), defScope (top 29), ["table", "index"], [], g_class_at, ⟨2, 3, b_class_at, false⟩⟩
def g_part_of : Gt := { N := n_part_of, fs := fsAll, fr := fr, cs := cs, mu := [], er := er, hd := hd }
def d_part_of : DefI := ⟨"part_of", defArgs (top 30), defBody (top 30), defScope (top 30), ["table", "indices"], [], g_part_of, ⟨2, 4, b_part_of, false⟩⟩
def g_needs : Gt := { N := n_needs, fs := fsAll, fr := fr, cs := cs, mu := [], er := er, hd := hd }
def d_needs : DefI := ⟨"needs", defArgs (top 31), defBody (top 31), defScope (top 31), ["width", "table", "index"], [], g_needs, ⟨3, 3, b_needs, false⟩⟩
def g_does_need : Gt := { N := n_does_need, fs := fsAll, fr := fr, cs := cs, mu := [], er := er, hd := hd }
def d_does_need : DefI := ⟨"does_need", defArgs (top 32), defBody (top 32), defScope (top 32), ["width", "table", "one", "other"], [], g_does_need, ⟨4, 4, b_does_need, false⟩⟩
def g_classes : Gt := { N := n_classes, fs := fsAll, fr := fr, cs := cs, mu := [], er := er, hd := hd }
def d_classes : DefI := ⟨"classes", defArgs (top 33), defBody (top 33), defScope (top 33), ["width", "table"], [], g_classes, ⟨2, 2, b_classes, false⟩⟩
def g_class_of : Gt := { N := n_class_of, fs := fsAll, fr := fr, cs := cs, mu := [], er := er, hd := hd }
def d_class_of : DefI := ⟨"class_of", defArgs (top 34), defBody (top 34), defScope (top 34), ["width", "table", "index"], [], g_class_of, ⟨3, 3, b_class_of, false⟩⟩
def g_are_needed : Gt := { N := n_are_needed, fs := fsAll, fr := fr, cs := cs, mu := [], er := er, hd := hd }
def d_are_needed : DefI := ⟨"are_needed", defArgs (top 35), defBody (top 35), defScope (top 35), ["table", "some"], [], g_are_needed, ⟨2, 5, b_are_needed, false⟩⟩
def g_do_need_others : Gt := { N := n_do_need_others, fs := fsAll, fr := fr, cs := cs, mu := [], er := er, hd := hd }
def d_do_need_others : DefI := ⟨"do_need_others", defArgs (top 36), defBody (top 36), defScope (top 36), ["table", "some"], [], g_do_need_others, ⟨2, 3, b_do_need_others, false⟩⟩
def g_first_classes : Gt := { N := n_first_classes, fs := fsAll, fr := fr, cs := cs, mu := [], er := er, hd := hd }
def d_first_classes : DefI := ⟨"first_classes", defArgs (top 37), defBody (top 37), defScope (top 37), ["width", "table"], [], g_first_classes, ⟨2, 3, b_first_classes, false⟩⟩
def g_last_classes : Gt := { N := n_last_classes, fs := fsAll, fr := fr, cs := cs, mu := [], er := er, hd := hd }
def d_last_classes : DefI := ⟨"last_classes", defArgs (top 38), defBody (top 38), defScope (top 38), ["width", "table"], [], g_last_classes, ⟨2, 3, b_last_classes, false⟩⟩
def g_is_one : Gt := { N := n_is_one, fs := fsAll, fr := fr, cs := cs, mu := [], er := er, hd := hd }
def d_is_one : DefI := ⟨"is_one", defArgs (top 39), defBody (top 39), defScope (top 39), ["width", "table"], [], g_is_one, ⟨2, 2, b_is_one, false⟩⟩
def g_chain_of : Gt := { N := n_chain_of, fs := fsAll, fr := fr, cs := cs, mu := [(113, 28), (115, 17)], er := er, hd := hd }
def d_chain_of : DefI := ⟨"chain_of", defArgs (top 40), defBody (top 40), defScope (top 40), ["table", "one", "other"], [], g_chain_of, ⟨3, 8, b_chain_of, false⟩⟩
def g_chain : Gt := { N := n_chain, fs := fsAll, fr := fr, cs := cs, mu := [], er := er, hd := hd }
def d_chain : DefI := ⟨"chain", defArgs (top 41), defBody (top 41), defScope (top 41), ["width", "table", "one", "other"], [], g_chain, ⟨4, 5, b_chain, false⟩⟩
def g_steps_within : Gt := { N := n_steps_within, fs := fsAll, fr := fr, cs := cs, mu := [(132, 20), (134, 16)], er := er, hd := hd }
def d_steps_within : DefI := ⟨"steps_within", defArgs (top 42), defBody (top 42), defScope (top 42), ["table", "some", "index"], [], g_steps_within, ⟨3, 8, b_steps_within, false⟩⟩
def g_period_at : Gt := { N := n_period_at, fs := fsAll, fr := fr, cs := cs, mu := [], er := er, hd := hd }
def d_period_at : DefI := ⟨"period_at", defArgs (top 43), defBody (top 43), defScope (top 43), ["table", "index"], [], g_period_at, ⟨2, 8, b_period_at, false⟩⟩
def g_period : Gt := { N := n_period, fs := fsAll, fr := fr, cs := cs, mu := [], er := er, hd := hd }
def d_period : DefI := ⟨"period", defArgs (top 44), defBody (top 44), defScope (top 44), ["width", "table", "index"], [], g_period, ⟨3, 3, b_period, false⟩⟩
def g_led_from : Gt := { N := n_led_from, fs := fsAll, fr := fr, cs := cs, mu := [(155, 12), (157, 16)], er := er, hd := hd }
def d_led_from : DefI := ⟨"led_from", defArgs (top 45), defBody (top 45), defScope (top 45), ["table", "lots"], [], g_led_from, ⟨2, 7, b_led_from, false⟩⟩
def g_is_used : Gt := { N := n_is_used, fs := fsAll, fr := fr, cs := cs, mu := [], er := er, hd := hd }
def d_is_used : DefI := ⟨"is_used", defArgs (top 46), defBody (top 46), defScope (top 46), ["width", "table", "one", "other", "ticks"], [], g_is_used, ⟨5, 7, b_is_used, false⟩⟩
def g_all_from : Gt := { N := n_all_from, fs := fsAll, fr := fr, cs := cs, mu := [], er := er, hd := hd }
def d_all_from : DefI := ⟨"all_from", defArgs (top 47), defBody (top 47), defScope (top 47), ["width", "table"], [], g_all_from, ⟨2, 8, b_all_from, false⟩⟩
def g_are_indices : Gt := { N := n_are_indices, fs := fsAll, fr := fr, cs := cs, mu := [], er := er, hd := hd }
def d_are_indices : DefI := ⟨"are_indices", defArgs (top 48), defBody (top 48), defScope (top 48), ["width", "value"], [], g_are_indices, ⟨2, 4, b_are_indices, false⟩⟩
def g_require_indices : Gt := { N := n_require_indices, fs := fsAll, fr := fr, cs := cs, mu := [], er := er, hd := hd }
def d_require_indices : DefI := ⟨"require_indices", defArgs (top 49), defBody (top 49), defScope (top 49), ["width", "table", "indices"], [], g_require_indices, ⟨3, 3, b_require_indices, false⟩⟩
def g_part : Gt := { N := n_part, fs := fsAll, fr := fr, cs := cs, mu := [], er := er, hd := hd }
def d_part : DefI := ⟨"part", defArgs (top 50), defBody (top 50), defScope (top 50), ["width", "table", "indices"], [], g_part, ⟨3, 3, b_part, false⟩⟩
def g_does_close : Gt := { N := n_does_close, fs := fsAll, fr := fr, cs := cs, mu := [], er := er, hd := hd }
def d_does_close : DefI := ⟨"does_close", defArgs (top 51), defBody (top 51), defScope (top 51), ["table", "indices"], [], g_does_close, ⟨2, 4, b_does_close, false⟩⟩
def g_is_closed : Gt := { N := n_is_closed, fs := fsAll, fr := fr, cs := cs, mu := [], er := er, hd := hd }
def d_is_closed : DefI := ⟨"is_closed", defArgs (top 52), defBody (top 52), defScope (top 52), ["width", "table", "indices"], [], g_is_closed, ⟨3, 3, b_is_closed, false⟩⟩
def g__law_dice : Gt := { N := n__law_dice, fs := fsAll, fr := fr, cs := cs, mu := [(200, 11)], er := er, hd := hd }
def d__law_dice : DefI := ⟨"_law_dice", defArgs (top 54), defBody (top 54), defScope (top 54), ["script", "spot"], [], g__law_dice, ⟨2, 5, b__law_dice, true⟩⟩
def g__law_roll : Gt := { N := n__law_roll, fs := fsAll, fr := fr, cs := cs, mu := [], er := er, hd := hd }
def d__law_roll : DefI := ⟨"_law_roll", defArgs (top 55), defBody (top 55), defScope (top 55), ["dice", "total"], [], g__law_roll, ⟨2, 5, b__law_roll, false⟩⟩
def g__law_pick : Gt := { N := n__law_pick, fs := fsAll, fr := fr, cs := cs, mu := [], er := er, hd := hd }
def d__law_pick : DefI := ⟨"_law_pick", defArgs (top 56), defBody (top 56), defScope (top 56), ["dice", "things"], [], g__law_pick, ⟨2, 2, b__law_pick, false⟩⟩
def g__law_word : Gt := { N := n__law_word, fs := fsAll, fr := fr, cs := cs, mu := [], er := er, hd := hd }
def d__law_word : DefI := ⟨"_law_word", defArgs (top 57), defBody (top 57), defScope (top 57), ["call"], [], g__law_word, ⟨1, 2, b__law_word, false⟩⟩
def g__law_right : Gt := { N := n__law_right, fs := fsAll, fr := fr, cs := cs, mu := [], er := er, hd := hd, q := "_law_right.<locals>.", lams := true }
def d__law_right : DefI := ⟨"_law_right", defArgs (top 58), defBody (top 58), defScope (top 58), ["dice", "table"], [], g__law_right, ⟨2, 17, b__law_right, false⟩⟩
def g_law : Gt := { N := n_law, fs := fsAll, fr := fr, cs := cs, mu := [], er := er, hd := hd, q := "law.<locals>.", lams := true }
def d_law : DefI := ⟨"law", defArgs (top 59), defBody (top 59), defScope (top 59), ["script"], [], g_law, ⟨1, 8, b_law, false⟩⟩
def ds : List DefI := [d_is_integer, d_common_divisor, d_is_number, d_require_count, d_is_plain_row, d_is_plain_table, d_are_from_nought, d_is_plain_uses, d_require_uses, d_require_index, d_require_placed, d_require_both, d_used_by_row, d_needs_from, d_all_needs, d_classes_of, d_class_at, d_part_of, d_needs, d_does_need, d_classes, d_class_of, d_are_needed, d_do_need_others, d_first_classes, d_last_classes, d_is_one, d_chain_of, d_chain, d_steps_within, d_period_at, d_period, d_led_from, d_is_used, d_all_from, d_are_indices, d_require_indices, d_part, d_does_close, d_is_closed, d__law_dice, d__law_roll, d__law_pick, d__law_word, d__law_right, d_law]
def lms : List Str := ["_law_right", "law"]
def fa : List He.Fa := (ds.map fun d => He.Fa.glo d.name) ++ (ers.map fun e => He.Fa.glo e.name) ++ (hds.map fun e => match e.bi with
  | none => He.Fa.glo e.name
  | some _ => He.Fa.free e.name) ++ fr.map He.Fa.free
abbrev RowK : PySem.W.OpenRow := PySem.W.OpenLaw.row PySem.Challenge.rw_makesmore_k38_errors_of_who_needs_whom
def kk : Hk := ⟨PySem.W.OpenLaw.prog PySem.Challenge.rw_makesmore_k38_errors_of_who_needs_whom, fa, ds.map DefI.dd, cs, ers, hds, lms⟩
abbrev hk : PySem.W.Hook := hookM 5 kk
def ob (s : PySem.W.SharedT) : AlT := kk.obsG 5 (HandSHeadRun.getT s)
theorem ob_eq (s : PySem.W.SharedT) : ob s = hk.obs s.abs := obsG_eq (HandSHeadRun.getT_eq s)
def loose : List Str := (prog.main.scope.names.filter (fun p => p.2 == .local && p.1 != PySem.Str.ofString "law" && p.1 != PySem.Str.ofString "__name__")).map (·.1)
theorem headrun (w : World) : HandSHeadRun.RunEq RowK (PySem.W.view RowK.prog [59]) hk ob 4000 loose w := by
  intro os
  kernel_rfl
theorem hok : ∀ d ∈ ds, d.okB ds fr kk.er kk.hd kk.lm = true := by
  have h : (ds.all fun d => d.okB ds fr kk.er kk.hd kk.lm) = true := by decide +kernel
  exact fun d hd => List.all_eq_true.mp h d hd
theorem hG0 : g0.okB ds fr kk.er kk.hd = true := by decide +kernel
theorem hb_is_integer : d_is_integer.fn.body = cBody d_is_integer.G 30 20 d_is_integer.scope d_is_integer.body := by kernel_rfl
theorem hb_common_divisor : d_common_divisor.fn.body = cBody d_common_divisor.G 30 20 d_common_divisor.scope d_common_divisor.body := by kernel_rfl
theorem hb_is_number : d_is_number.fn.body = cBody d_is_number.G 30 20 d_is_number.scope d_is_number.body := by kernel_rfl
theorem hb_require_count : d_require_count.fn.body = cBody d_require_count.G 30 20 d_require_count.scope d_require_count.body := by kernel_rfl
theorem hb_is_plain_row : d_is_plain_row.fn.body = cBody d_is_plain_row.G 30 20 d_is_plain_row.scope d_is_plain_row.body := by kernel_rfl
theorem hb_is_plain_table : d_is_plain_table.fn.body = cBody d_is_plain_table.G 30 20 d_is_plain_table.scope d_is_plain_table.body := by kernel_rfl
theorem hb_are_from_nought : d_are_from_nought.fn.body = cBody d_are_from_nought.G 30 20 d_are_from_nought.scope d_are_from_nought.body := by kernel_rfl
theorem hb_is_plain_uses : d_is_plain_uses.fn.body = cBody d_is_plain_uses.G 30 20 d_is_plain_uses.scope d_is_plain_uses.body := by kernel_rfl
theorem hb_require_uses : d_require_uses.fn.body = cBody d_require_uses.G 30 20 d_require_uses.scope d_require_uses.body := by kernel_rfl
theorem hb_require_index : d_require_index.fn.body = cBody d_require_index.G 30 20 d_require_index.scope d_require_index.body := by kernel_rfl
theorem hb_require_placed : d_require_placed.fn.body = cBody d_require_placed.G 30 20 d_require_placed.scope d_require_placed.body := by kernel_rfl
theorem hb_require_both : d_require_both.fn.body = cBody d_require_both.G 30 20 d_require_both.scope d_require_both.body := by kernel_rfl
theorem hb_used_by_row : d_used_by_row.fn.body = cBody d_used_by_row.G 30 20 d_used_by_row.scope d_used_by_row.body := by kernel_rfl
theorem hb_needs_from : d_needs_from.fn.body = cBody d_needs_from.G 30 20 d_needs_from.scope d_needs_from.body := by kernel_rfl
theorem hb_all_needs : d_all_needs.fn.body = cBody d_all_needs.G 30 20 d_all_needs.scope d_all_needs.body := by kernel_rfl
theorem hb_classes_of : d_classes_of.fn.body = cBody d_classes_of.G 30 20 d_classes_of.scope d_classes_of.body := by kernel_rfl
theorem hb_class_at : d_class_at.fn.body = cBody d_class_at.G 30 20 d_class_at.scope d_class_at.body := by kernel_rfl
theorem hb_part_of : d_part_of.fn.body = cBody d_part_of.G 30 20 d_part_of.scope d_part_of.body := by kernel_rfl
theorem hb_needs : d_needs.fn.body = cBody d_needs.G 30 20 d_needs.scope d_needs.body := by kernel_rfl
theorem hb_does_need : d_does_need.fn.body = cBody d_does_need.G 30 20 d_does_need.scope d_does_need.body := by kernel_rfl
theorem hb_classes : d_classes.fn.body = cBody d_classes.G 30 20 d_classes.scope d_classes.body := by kernel_rfl
theorem hb_class_of : d_class_of.fn.body = cBody d_class_of.G 30 20 d_class_of.scope d_class_of.body := by kernel_rfl
theorem hb_are_needed : d_are_needed.fn.body = cBody d_are_needed.G 30 20 d_are_needed.scope d_are_needed.body := by kernel_rfl
theorem hb_do_need_others : d_do_need_others.fn.body = cBody d_do_need_others.G 30 20 d_do_need_others.scope d_do_need_others.body := by kernel_rfl
theorem hb_first_classes : d_first_classes.fn.body = cBody d_first_classes.G 30 20 d_first_classes.scope d_first_classes.body := by kernel_rfl
theorem hb_last_classes : d_last_classes.fn.body = cBody d_last_classes.G 30 20 d_last_classes.scope d_last_classes.body := by kernel_rfl
theorem hb_is_one : d_is_one.fn.body = cBody d_is_one.G 30 20 d_is_one.scope d_is_one.body := by kernel_rfl
theorem hb_chain_of : d_chain_of.fn.body = cBody d_chain_of.G 30 20 d_chain_of.scope d_chain_of.body := by kernel_rfl
theorem hb_chain : d_chain.fn.body = cBody d_chain.G 30 20 d_chain.scope d_chain.body := by kernel_rfl
theorem hb_steps_within : d_steps_within.fn.body = cBody d_steps_within.G 30 20 d_steps_within.scope d_steps_within.body := by kernel_rfl
theorem hb_period_at : d_period_at.fn.body = cBody d_period_at.G 30 20 d_period_at.scope d_period_at.body := by kernel_rfl
theorem hb_period : d_period.fn.body = cBody d_period.G 30 20 d_period.scope d_period.body := by kernel_rfl
theorem hb_led_from : d_led_from.fn.body = cBody d_led_from.G 30 20 d_led_from.scope d_led_from.body := by kernel_rfl
theorem hb_is_used : d_is_used.fn.body = cBody d_is_used.G 30 20 d_is_used.scope d_is_used.body := by kernel_rfl
theorem hb_all_from : d_all_from.fn.body = cBody d_all_from.G 30 20 d_all_from.scope d_all_from.body := by kernel_rfl
theorem hb_are_indices : d_are_indices.fn.body = cBody d_are_indices.G 30 20 d_are_indices.scope d_are_indices.body := by kernel_rfl
theorem hb_require_indices : d_require_indices.fn.body = cBody d_require_indices.G 30 20 d_require_indices.scope d_require_indices.body := by kernel_rfl
theorem hb_part : d_part.fn.body = cBody d_part.G 30 20 d_part.scope d_part.body := by kernel_rfl
theorem hb_does_close : d_does_close.fn.body = cBody d_does_close.G 30 20 d_does_close.scope d_does_close.body := by kernel_rfl
theorem hb_is_closed : d_is_closed.fn.body = cBody d_is_closed.G 30 20 d_is_closed.scope d_is_closed.body := by kernel_rfl
theorem hb__law_dice : d__law_dice.fn.body = cBody d__law_dice.G 30 20 d__law_dice.scope d__law_dice.body := by kernel_rfl
theorem hb__law_roll : d__law_roll.fn.body = cBody d__law_roll.G 30 20 d__law_roll.scope d__law_roll.body := by kernel_rfl
theorem hb__law_pick : d__law_pick.fn.body = cBody d__law_pick.G 30 20 d__law_pick.scope d__law_pick.body := by kernel_rfl
theorem hb__law_word : d__law_word.fn.body = cBody d__law_word.G 30 20 d__law_word.scope d__law_word.body := by kernel_rfl
theorem hb__law_right : d__law_right.fn.body = cBody d__law_right.G 30 20 d__law_right.scope d__law_right.body := by kernel_rfl
theorem hb_law : d_law.fn.body = cBody d_law.G 30 20 d_law.scope d_law.body := by kernel_rfl
theorem bd_is_integer : d_is_integer.Bd := DefI.bd0 rfl rfl fun _ _ _ _ _ _ us hl => match us, hl with | [_], _ => rfl
theorem bd_common_divisor : d_common_divisor.Bd := DefI.bd0 rfl rfl fun _ _ _ _ _ _ us hl => match us, hl with | [_, _], _ => rfl
theorem bd_is_number : d_is_number.Bd := DefI.bd0 rfl rfl fun _ _ _ _ _ _ us hl => match us, hl with | [_], _ => rfl
theorem bd_require_count : d_require_count.Bd := DefI.bd1 (by decide) rfl fun n h1 h2 T kV doc pm an cdv ct us its hu hi => by
  replace h1 : n ≤ 3 := h1
  replace h2 : 3 ≤ n + 2 := h2
  have hc : n = 1 ∨ n = 2 ∨ n = 3 := by omega
  rcases hc with rfl | rfl | rfl
  · exact match us, its, hu, hi with
    | [_], [_, _], _, _ => ⟨_, rfl, rfl⟩
  · exact match us, its, hu, hi with
    | [_, _], [_, _], _, _ => ⟨_, rfl, rfl⟩
  · exact match us, its, hu, hi with
    | [_, _, _], [_, _], _, _ => ⟨_, rfl, rfl⟩
theorem bd_is_plain_row : d_is_plain_row.Bd := DefI.bd0 rfl rfl fun _ _ _ _ _ _ us hl => match us, hl with | [_, _], _ => rfl
theorem bd_is_plain_table : d_is_plain_table.Bd := DefI.bd0 rfl rfl fun _ _ _ _ _ _ us hl => match us, hl with | [_, _, _], _ => rfl
theorem bd_are_from_nought : d_are_from_nought.Bd := DefI.bd0 rfl rfl fun _ _ _ _ _ _ us hl => match us, hl with | [_], _ => rfl
theorem bd_is_plain_uses : d_is_plain_uses.Bd := DefI.bd0 rfl rfl fun _ _ _ _ _ _ us hl => match us, hl with | [_, _], _ => rfl
theorem bd_require_uses : d_require_uses.Bd := DefI.bd0 rfl rfl fun _ _ _ _ _ _ us hl => match us, hl with | [_, _], _ => rfl
theorem bd_require_index : d_require_index.Bd := DefI.bd0 rfl rfl fun _ _ _ _ _ _ us hl => match us, hl with | [_, _], _ => rfl
theorem bd_require_placed : d_require_placed.Bd := DefI.bd0 rfl rfl fun _ _ _ _ _ _ us hl => match us, hl with | [_, _, _], _ => rfl
theorem bd_require_both : d_require_both.Bd := DefI.bd0 rfl rfl fun _ _ _ _ _ _ us hl => match us, hl with | [_, _, _, _], _ => rfl
theorem bd_used_by_row : d_used_by_row.Bd := DefI.bd0 rfl rfl fun _ _ _ _ _ _ us hl => match us, hl with | [_], _ => rfl
theorem bd_needs_from : d_needs_from.Bd := DefI.bd0 rfl rfl fun _ _ _ _ _ _ us hl => match us, hl with | [_, _], _ => rfl
theorem bd_all_needs : d_all_needs.Bd := DefI.bd0 rfl rfl fun _ _ _ _ _ _ us hl => match us, hl with | [_], _ => rfl
theorem bd_classes_of : d_classes_of.Bd := DefI.bd0 rfl rfl fun _ _ _ _ _ _ us hl => match us, hl with | [_], _ => rfl
theorem bd_class_at : d_class_at.Bd := DefI.bd0 rfl rfl fun _ _ _ _ _ _ us hl => match us, hl with | [_, _], _ => rfl
theorem bd_part_of : d_part_of.Bd := DefI.bd0 rfl rfl fun _ _ _ _ _ _ us hl => match us, hl with | [_, _], _ => rfl
theorem bd_needs : d_needs.Bd := DefI.bd0 rfl rfl fun _ _ _ _ _ _ us hl => match us, hl with | [_, _, _], _ => rfl
theorem bd_does_need : d_does_need.Bd := DefI.bd0 rfl rfl fun _ _ _ _ _ _ us hl => match us, hl with | [_, _, _, _], _ => rfl
theorem bd_classes : d_classes.Bd := DefI.bd0 rfl rfl fun _ _ _ _ _ _ us hl => match us, hl with | [_, _], _ => rfl
theorem bd_class_of : d_class_of.Bd := DefI.bd0 rfl rfl fun _ _ _ _ _ _ us hl => match us, hl with | [_, _, _], _ => rfl
theorem bd_are_needed : d_are_needed.Bd := DefI.bd0 rfl rfl fun _ _ _ _ _ _ us hl => match us, hl with | [_, _], _ => rfl
theorem bd_do_need_others : d_do_need_others.Bd := DefI.bd0 rfl rfl fun _ _ _ _ _ _ us hl => match us, hl with | [_, _], _ => rfl
theorem bd_first_classes : d_first_classes.Bd := DefI.bd0 rfl rfl fun _ _ _ _ _ _ us hl => match us, hl with | [_, _], _ => rfl
theorem bd_last_classes : d_last_classes.Bd := DefI.bd0 rfl rfl fun _ _ _ _ _ _ us hl => match us, hl with | [_, _], _ => rfl
theorem bd_is_one : d_is_one.Bd := DefI.bd0 rfl rfl fun _ _ _ _ _ _ us hl => match us, hl with | [_, _], _ => rfl
theorem bd_chain_of : d_chain_of.Bd := DefI.bd0 rfl rfl fun _ _ _ _ _ _ us hl => match us, hl with | [_, _, _], _ => rfl
theorem bd_chain : d_chain.Bd := DefI.bd0 rfl rfl fun _ _ _ _ _ _ us hl => match us, hl with | [_, _, _, _], _ => rfl
theorem bd_steps_within : d_steps_within.Bd := DefI.bd0 rfl rfl fun _ _ _ _ _ _ us hl => match us, hl with | [_, _, _], _ => rfl
theorem bd_period_at : d_period_at.Bd := DefI.bd0 rfl rfl fun _ _ _ _ _ _ us hl => match us, hl with | [_, _], _ => rfl
theorem bd_period : d_period.Bd := DefI.bd0 rfl rfl fun _ _ _ _ _ _ us hl => match us, hl with | [_, _, _], _ => rfl
theorem bd_led_from : d_led_from.Bd := DefI.bd0 rfl rfl fun _ _ _ _ _ _ us hl => match us, hl with | [_, _], _ => rfl
theorem bd_is_used : d_is_used.Bd := DefI.bd0 rfl rfl fun _ _ _ _ _ _ us hl => match us, hl with | [_, _, _, _, _], _ => rfl
theorem bd_all_from : d_all_from.Bd := DefI.bd0 rfl rfl fun _ _ _ _ _ _ us hl => match us, hl with | [_, _], _ => rfl
theorem bd_are_indices : d_are_indices.Bd := DefI.bd0 rfl rfl fun _ _ _ _ _ _ us hl => match us, hl with | [_, _], _ => rfl
theorem bd_require_indices : d_require_indices.Bd := DefI.bd0 rfl rfl fun _ _ _ _ _ _ us hl => match us, hl with | [_, _, _], _ => rfl
theorem bd_part : d_part.Bd := DefI.bd0 rfl rfl fun _ _ _ _ _ _ us hl => match us, hl with | [_, _, _], _ => rfl
theorem bd_does_close : d_does_close.Bd := DefI.bd0 rfl rfl fun _ _ _ _ _ _ us hl => match us, hl with | [_, _], _ => rfl
theorem bd_is_closed : d_is_closed.Bd := DefI.bd0 rfl rfl fun _ _ _ _ _ _ us hl => match us, hl with | [_, _, _], _ => rfl
theorem bd__law_dice : d__law_dice.Bd := DefI.bd0 rfl rfl fun _ _ _ _ _ _ us hl => match us, hl with | [_, _], _ => rfl
theorem bd__law_roll : d__law_roll.Bd := DefI.bd0 rfl rfl fun _ _ _ _ _ _ us hl => match us, hl with | [_, _], _ => rfl
theorem bd__law_pick : d__law_pick.Bd := DefI.bd0 rfl rfl fun _ _ _ _ _ _ us hl => match us, hl with | [_, _], _ => rfl
theorem bd__law_word : d__law_word.Bd := DefI.bd0 rfl rfl fun _ _ _ _ _ _ us hl => match us, hl with | [_], _ => rfl
theorem bd__law_right : d__law_right.Bd := DefI.bd0 rfl rfl fun _ _ _ _ _ _ us hl => match us, hl with | [_, _], _ => rfl
theorem bd_law : d_law.Bd := DefI.bd0 rfl rfl fun _ _ _ _ _ _ us hl => match us, hl with | [_], _ => rfl
theorem t_is_integer : tabOf ds i_is_integer = some d_is_integer.fn := rfl
theorem t_common_divisor : tabOf ds i_common_divisor = some d_common_divisor.fn := rfl
theorem t_is_number : tabOf ds i_is_number = some d_is_number.fn := rfl
theorem t_require_count : tabOf ds i_require_count = some d_require_count.fn := rfl
theorem t_is_plain_row : tabOf ds i_is_plain_row = some d_is_plain_row.fn := rfl
theorem t_is_plain_table : tabOf ds i_is_plain_table = some d_is_plain_table.fn := rfl
theorem t_are_from_nought : tabOf ds i_are_from_nought = some d_are_from_nought.fn := rfl
theorem t_is_plain_uses : tabOf ds i_is_plain_uses = some d_is_plain_uses.fn := rfl
theorem t_require_uses : tabOf ds i_require_uses = some d_require_uses.fn := rfl
theorem t_require_index : tabOf ds i_require_index = some d_require_index.fn := rfl
theorem t_require_placed : tabOf ds i_require_placed = some d_require_placed.fn := rfl
theorem t_require_both : tabOf ds i_require_both = some d_require_both.fn := rfl
theorem t_used_by_row : tabOf ds i_used_by_row = some d_used_by_row.fn := rfl
theorem t_needs_from : tabOf ds i_needs_from = some d_needs_from.fn := rfl
theorem t_all_needs : tabOf ds i_all_needs = some d_all_needs.fn := rfl
theorem t_classes_of : tabOf ds i_classes_of = some d_classes_of.fn := rfl
theorem t_class_at : tabOf ds i_class_at = some d_class_at.fn := rfl
theorem t_part_of : tabOf ds i_part_of = some d_part_of.fn := rfl
theorem t_needs : tabOf ds i_needs = some d_needs.fn := rfl
theorem t_does_need : tabOf ds i_does_need = some d_does_need.fn := rfl
theorem t_classes : tabOf ds i_classes = some d_classes.fn := rfl
theorem t_class_of : tabOf ds i_class_of = some d_class_of.fn := rfl
theorem t_are_needed : tabOf ds i_are_needed = some d_are_needed.fn := rfl
theorem t_do_need_others : tabOf ds i_do_need_others = some d_do_need_others.fn := rfl
theorem t_first_classes : tabOf ds i_first_classes = some d_first_classes.fn := rfl
theorem t_last_classes : tabOf ds i_last_classes = some d_last_classes.fn := rfl
theorem t_is_one : tabOf ds i_is_one = some d_is_one.fn := rfl
theorem t_chain_of : tabOf ds i_chain_of = some d_chain_of.fn := rfl
theorem t_chain : tabOf ds i_chain = some d_chain.fn := rfl
theorem t_steps_within : tabOf ds i_steps_within = some d_steps_within.fn := rfl
theorem t_period_at : tabOf ds i_period_at = some d_period_at.fn := rfl
theorem t_period : tabOf ds i_period = some d_period.fn := rfl
theorem t_led_from : tabOf ds i_led_from = some d_led_from.fn := rfl
theorem t_is_used : tabOf ds i_is_used = some d_is_used.fn := rfl
theorem t_all_from : tabOf ds i_all_from = some d_all_from.fn := rfl
theorem t_are_indices : tabOf ds i_are_indices = some d_are_indices.fn := rfl
theorem t_require_indices : tabOf ds i_require_indices = some d_require_indices.fn := rfl
theorem t_part : tabOf ds i_part = some d_part.fn := rfl
theorem t_does_close : tabOf ds i_does_close = some d_does_close.fn := rfl
theorem t_is_closed : tabOf ds i_is_closed = some d_is_closed.fn := rfl
theorem t__law_dice : tabOf ds i__law_dice = some d__law_dice.fn := rfl
theorem t__law_roll : tabOf ds i__law_roll = some d__law_roll.fn := rfl
theorem t__law_pick : tabOf ds i__law_pick = some d__law_pick.fn := rfl
theorem t__law_word : tabOf ds i__law_word = some d__law_word.fn := rfl
theorem t__law_right : tabOf ds i__law_right = some d__law_right.fn := rfl
theorem t_law : tabOf ds i_law = some d_law.fn := rfl
theorem forall_ds {P : DefI → Prop} (h0 : P d_is_integer) (h1 : P d_common_divisor) (h2 : P d_is_number) (h3 : P d_require_count) (h4 : P d_is_plain_row) (h5 : P d_is_plain_table) (h6 : P d_are_from_nought) (h7 : P d_is_plain_uses) (h8 : P d_require_uses) (h9 : P d_require_index) (h10 : P d_require_placed) (h11 : P d_require_both) (h12 : P d_used_by_row) (h13 : P d_needs_from) (h14 : P d_all_needs) (h15 : P d_classes_of) (h16 : P d_class_at) (h17 : P d_part_of) (h18 : P d_needs) (h19 : P d_does_need) (h20 : P d_classes) (h21 : P d_class_of) (h22 : P d_are_needed) (h23 : P d_do_need_others) (h24 : P d_first_classes) (h25 : P d_last_classes) (h26 : P d_is_one) (h27 : P d_chain_of) (h28 : P d_chain) (h29 : P d_steps_within) (h30 : P d_period_at) (h31 : P d_period) (h32 : P d_led_from) (h33 : P d_is_used) (h34 : P d_all_from) (h35 : P d_are_indices) (h36 : P d_require_indices) (h37 : P d_part) (h38 : P d_does_close) (h39 : P d_is_closed) (h40 : P d__law_dice) (h41 : P d__law_roll) (h42 : P d__law_pick) (h43 : P d__law_word) (h44 : P d__law_right) (h45 : P d_law) : ∀ d ∈ ds, P d := by
  intro d hd
  simp only [ds, List.mem_cons, List.not_mem_nil, or_false] at hd
  rcases hd with rfl | rfl | rfl | rfl | rfl | rfl | rfl | rfl | rfl | rfl | rfl | rfl | rfl | rfl | rfl | rfl | rfl | rfl | rfl | rfl | rfl | rfl | rfl | rfl | rfl | rfl | rfl | rfl | rfl | rfl | rfl | rfl | rfl | rfl | rfl | rfl | rfl | rfl | rfl | rfl | rfl | rfl | rfl | rfl | rfl | rfl
  · exact h0
  · exact h1
  · exact h2
  · exact h3
  · exact h4
  · exact h5
  · exact h6
  · exact h7
  · exact h8
  · exact h9
  · exact h10
  · exact h11
  · exact h12
  · exact h13
  · exact h14
  · exact h15
  · exact h16
  · exact h17
  · exact h18
  · exact h19
  · exact h20
  · exact h21
  · exact h22
  · exact h23
  · exact h24
  · exact h25
  · exact h26
  · exact h27
  · exact h28
  · exact h29
  · exact h30
  · exact h31
  · exact h32
  · exact h33
  · exact h34
  · exact h35
  · exact h36
  · exact h37
  · exact h38
  · exact h39
  · exact h40
  · exact h41
  · exact h42
  · exact h43
  · exact h44
  · exact h45
theorem hbd : ∀ d ∈ ds, d.Bd := forall_ds bd_is_integer bd_common_divisor bd_is_number bd_require_count bd_is_plain_row bd_is_plain_table bd_are_from_nought bd_is_plain_uses bd_require_uses bd_require_index bd_require_placed bd_require_both bd_used_by_row bd_needs_from bd_all_needs bd_classes_of bd_class_at bd_part_of bd_needs bd_does_need bd_classes bd_class_of bd_are_needed bd_do_need_others bd_first_classes bd_last_classes bd_is_one bd_chain_of bd_chain bd_steps_within bd_period_at bd_period bd_led_from bd_is_used bd_all_from bd_are_indices bd_require_indices bd_part bd_does_close bd_is_closed bd__law_dice bd__law_roll bd__law_pick bd__law_word bd__law_right bd_law
theorem hb : ∀ d ∈ ds, d.fn.body = cBody d.G 30 20 d.scope d.body := forall_ds hb_is_integer hb_common_divisor hb_is_number hb_require_count hb_is_plain_row hb_is_plain_table hb_are_from_nought hb_is_plain_uses hb_require_uses hb_require_index hb_require_placed hb_require_both hb_used_by_row hb_needs_from hb_all_needs hb_classes_of hb_class_at hb_part_of hb_needs hb_does_need hb_classes hb_class_of hb_are_needed hb_do_need_others hb_first_classes hb_last_classes hb_is_one hb_chain_of hb_chain hb_steps_within hb_period_at hb_period hb_led_from hb_is_used hb_all_from hb_are_indices hb_require_indices hb_part hb_does_close hb_is_closed hb__law_dice hb__law_roll hb__law_pick hb__law_word hb__law_right hb_law
theorem hcs : ∀ d ∈ ds, d.G.cs = kk.cs := forall_ds rfl rfl rfl rfl rfl rfl rfl rfl rfl rfl rfl rfl rfl rfl rfl rfl rfl rfl rfl rfl rfl rfl rfl rfl rfl rfl rfl rfl rfl rfl rfl rfl rfl rfl rfl rfl rfl rfl rfl rfl rfl rfl rfl rfl rfl rfl
theorem h1 : ∀ d ∈ ds, He.Fa.glo d.name ∈ kk.fa := fun d hd => List.mem_append_left _ (List.mem_append_left _ (List.mem_append_left _ (List.mem_map.mpr ⟨d, hd, rfl⟩)))
theorem h2 : ∀ x ∈ fr, He.Fa.free x ∈ kk.fa := fun x hx => List.mem_append_right _ (List.mem_map.mpr ⟨x, hx, rfl⟩)
theorem h3 : ∀ e ∈ kk.er, He.Fa.glo e.name ∈ kk.fa := fun e he => List.mem_append_left _ (List.mem_append_left _ (List.mem_append_right _ (List.mem_map.mpr ⟨e, he, rfl⟩)))
theorem h4 : ∀ e ∈ kk.hd, (match e.bi with
  | none => He.Fa.glo e.name
  | some _ => He.Fa.free e.name) ∈ kk.fa := fun e he => List.mem_append_left _ (List.mem_append_right _ (List.mem_map.mpr ⟨e, he, rfl⟩))
theorem h5 : kk.erB = true := by decide +kernel
theorem bi_InvalidCount : in_InvalidCount.Bd := fun _ _ _ _ _ _ us hl => match us, hl with | [_, _], _ => rfl
theorem bi_Refused : in_Refused.Bd := fun _ _ _ _ _ _ us hl => match us, hl with | [_, _], _ => rfl
theorem h6 : kk.Bd := by
  intro e he i hi
  have he : e ∈ ers := he
  simp only [ers, List.mem_cons, List.not_mem_nil, or_false] at he
  rcases he with rfl | rfl | rfl | rfl | rfl
  · cases hi
  · cases hi
  · cases hi
  · cases hi; exact bi_InvalidCount
  · cases hi; exact bi_Refused
theorem h7 : kk.hd.all HdE.stB = true := by decide +kernel
theorem h9 : ∀ x ∈ kk.lm, He.Fa.glo x ∈ kk.fa := fun x hx => List.mem_append_left _ (List.mem_append_left _ (List.mem_append_left _ (List.mem_map.mpr (by
  have h : (lms.all fun x => ds.any fun d => decide (d.name = x)) = true := by decide +kernel
  obtain ⟨d, hd, e⟩ := List.any_eq_true.mp (List.all_eq_true.mp h x hx)
  exact ⟨d, hd, by rw [of_decide_eq_true e]⟩))))
end K38
namespace K38
open PySem Mk
def lvl : Nat := 30
def C (k : Nat) : Cl := cls (tabOf ds) (lamFn g0 30) k

theorem r_dice (k : Nat) (ns : List Int) (spot : Int) (h0 : 0 ≤ spot) (S : Store) : ∃ a b c : Int, (C (k + 1)).call i__law_dice [.sc (ns.map .int), I spot] S = .ok (.r S.length) (S ++ [.lst [.int a, .int b, .int c]]) := by
  unfold C
  rw [call_at t__law_dice]
  have p1 : powOk 10 53 = true := by decide
  have p2 : powOk 100000000000000000000000000000000000000000000000000000 6 = true := by decide +kernel
  have p3 : powOk 10 16 = true := by decide
  by_cases hl : spot < ns.length
  · have hx : (ns.map PyData.int)[spot.toNat]? = some (.int (ns[spot.toNat]'(by omega))) := by
      rw [List.getElem?_map, List.getElem?_eq_getElem (by omega)]
      rfl
    generalize ns[spot.toNat]'(by omega) = v at hx
    simp [runFn, sRet, sSeq, sSet, sAsg, sPar, sPar3, sIf, sExpr, sPass, xV, xC, xBin, xCmp, xCmp2, xNeg, xNot, xAnd, xOr, xIf, xTup, xLst, xIx, xB, xIs, xCall, tV, tNot, tAnd, tOr, tCmp, tCmp2, tYes, aNil, aCons, bin, cmp, dat, dko, tru, ix, at?, I, B, mkTup, allD, mkLst, fin_d, gV, gNil, gCons, gTup, bLen, bAbs, bMax, bMin, bInt, bTuple, isA, d__law_dice, b__law_dice, hl, ixS, h0, hx, p1, p2, p3, mulOk, fin]
  · simp [runFn, sRet, sSeq, sSet, sAsg, sPar, sPar3, sIf, sExpr, sPass, xV, xC, xBin, xCmp, xCmp2, xNeg, xNot, xAnd, xOr, xIf, xTup, xLst, xIx, xB, xIs, xCall, tV, tNot, tAnd, tOr, tCmp, tCmp2, tYes, aNil, aCons, bin, cmp, dat, dko, tru, ix, at?, I, B, mkTup, allD, mkLst, fin_d, gV, gNil, gCons, gTup, bLen, bAbs, bMax, bMin, bInt, bTuple, isA, d__law_dice, b__law_dice, hl, p1, p2, p3, mulOk, fin]
theorem r_roll (k : Nat) (a b c many : Int) (hm : 0 < many) (hm2 : many.natAbs.log2 < 9000) :
    ∃ v a' b' c' : Int, 0 ≤ v ∧ v < many ∧ (C (k + 1)).call i__law_roll [.r 0, I many] [.lst [.int a, .int b, .int c]] = .ok (I v) [.lst [.int a', .int b', .int c']] := by
  unfold C
  rw [call_at t__law_roll]
  have hd : divOk many = true := by unfold divOk; simp [hm, hm2]
  have hd2 : divOk 65587 = true := by decide
  by_cases ha : 0 < a
  · refine ⟨a % many, a / many, b, c, Int.emod_nonneg _ (by omega), Int.emod_lt_of_pos _ hm, ?_⟩
    simp [runFn, sRet, sSeq, sSet, sAsg, sPar, sPar3, sIf, sExpr, sPass, xV, xC, xBin, xCmp, xCmp2, xNeg, xNot, xAnd, xOr, xIf, xTup, xLst, xIx, xB, xIs, xCall, tV, tNot, tAnd, tOr, tCmp, tCmp2, tYes, aNil, aCons, bin, cmp, dat, dko, tru, ix, at?, I, B, mkTup, allD, mkLst, fin_d, gV, gNil, gCons, gTup, bLen, bAbs, bMax, bMin, bInt, bTuple, isA, d__law_roll, b__law_roll, ha, hm, hd, sSetIx, setAt, fin]
  · have m1 : ∀ x : Int, mulOk 49979687 x = true := fun x => by simp [mulOk]
    have m2 : ∀ x : Int, mulOk 131 x = true := fun x => by simp [mulOk]
    have m3 : ∀ x : Int, mulOk x 32452843 = true := fun x => by simp [mulOk]
    have m4 : ∀ x y : Int, mulOk (x % 2305843009213693951) y = true := fun x y => by
      have h1 := Int.emod_nonneg x (show (2305843009213693951 : Int) ≠ 0 by decide)
      have h2 := Int.emod_lt_of_pos x (show (0 : Int) < 2305843009213693951 by decide)
      have h3 : (x % 2305843009213693951).natAbs < 18446744073709551616 := by omega
      simp [mulOk, h3]
    refine ⟨(((b + 49979687 * (c + 1)) % 2305843009213693951 * ((b + 49979687 * (c + 1)) % 2305843009213693951) + 131 * (c + 1)) % 2305843009213693921 * 32452843 + (b + 49979687 * (c + 1)) % 2305843009213693951) / 65587 % many, a, b, c + 1, Int.emod_nonneg _ (by omega), Int.emod_lt_of_pos _ hm, ?_⟩
    simp [runFn, sRet, sSeq, sSet, sAsg, sPar, sPar3, sIf, sExpr, sPass, xV, xC, xBin, xCmp, xCmp2, xNeg, xNot, xAnd, xOr, xIf, xTup, xLst, xIx, xB, xIs, xCall, tV, tNot, tAnd, tOr, tCmp, tCmp2, tYes, aNil, aCons, bin, cmp, dat, dko, tru, ix, at?, I, B, mkTup, allD, mkLst, fin_d, gV, gNil, gCons, gTup, bLen, bAbs, bMax, bMin, bInt, bTuple, isA, d__law_roll, b__law_roll, ha, hm, hd, hd2, sSetIx, setAt, fin, m1, m2, m3, m4]
theorem r_pick (k : Nat) (a b c : Int) (xs : List D) (hx : xs ≠ []) (hm2 : xs.length < 2 ^ 64) :
    ∃ (x : D) (a' b' c' : Int), x ∈ xs ∧ (C (k + 2)).call i__law_pick [.r 0, .d (.list xs)] [.lst [.int a, .int b, .int c]] = .ok (.d x) [.lst [.int a', .int b', .int c']] := by
  have hp : 0 < xs.length := List.length_pos_iff.mpr hx
  obtain ⟨v, a', b', c', h1, h2, e⟩ := r_roll k a b c xs.length (by omega) (by
    have : (xs.length : Int).natAbs = xs.length := by omega
    rw [this]
    have := log_lt hm2 (by decide)
    omega)
  have hv : v.toNat < xs.length := by omega
  refine ⟨xs[v.toNat], a', b', c', List.getElem_mem hv, ?_⟩
  unfold C at e ⊢
  rw [call_at t__law_pick]
  simp [I] at e
  simp [runFn, sRet, sSeq, sSet, sAsg, sPar, sPar3, sIf, sExpr, sPass, xV, xC, xBin, xCmp, xCmp2, xNeg, xNot, xAnd, xOr, xIf, xTup, xLst, xIx, xB, xIs, xCall, tV, tNot, tAnd, tOr, tCmp, tCmp2, tYes, aNil, aCons, bin, cmp, dat, dko, tru, ix, at?, I, B, mkTup, allD, mkLst, fin_d, gV, gNil, gCons, gTup, bLen, bAbs, bMax, bMin, bInt, bTuple, isA, d__law_pick, b__law_pick, e, h1, List.getElem?_eq_getElem hv, fin]

theorem hfr (k : Nat) : FrC (C k) := frC_cls hb k
def law_right_s0_t : TSt := (sAsg (gTup (gCons (gV 2) (gCons (gV 3) gNil))) (xTup (aCons (xTup (aCons (xC (.d (.int 1))) (aCons (xC (.d (.int 1))) aNil))) (aCons (xTup (aCons (xC (.d (.int 0))) (aCons (xC (.d (.int 1))) aNil))) aNil))))
theorem law_right_s0 {o0 : Ob} : law_right_s0_t (C 28) [some (.r 0), some (.d (.tuple [.tuple [.tuple [.int 1, .int 1], .tuple [.int 1, .int 1]], .tuple [.tuple [.int 0, .int 1], .tuple [.int 1, .int 1]]])), none, none, none, none, none, none, none, none, none, none, none, none, none, none, none] [o0] = .nx [some (.r 0), some (.d (.tuple [.tuple [.tuple [.int 1, .int 1], .tuple [.int 1, .int 1]], .tuple [.tuple [.int 0, .int 1], .tuple [.int 1, .int 1]]])), some (.d (.tuple [.int 1, .int 1])), some (.d (.tuple [.int 0, .int 1])), none, none, none, none, none, none, none, none, none, none, none, none, none] [o0] :=
  by kernel_rfl
def m_0 : List D := [.none, .int 0, .int (-1), .int 13, .bool true, .str "1", .int 100000000000000000000]
theorem law_right_m0 {o : Ob} : ((xLst false (aCons (xC (.d .none)) (aCons (xC (.d (.int 0))) (aCons (xNeg (xC (.d (.int 1)))) (aCons (xC (.d (.int 13))) (aCons (xC (.d (.bool true))) (aCons (xC (.d (.str "1"))) (aCons (xBin .pow false (xC (.d (.int 10))) (xC (.d (.int 20)))) aNil))))))))) (C 28) [some (.r 0), some (.d (.tuple [.tuple [.tuple [.int 1, .int 1], .tuple [.int 1, .int 1]], .tuple [.tuple [.int 0, .int 1], .tuple [.int 1, .int 1]]])), some (.d (.tuple [.int 1, .int 1])), some (.d (.tuple [.int 0, .int 1])), none, none, none, none, none, none, none, none, none, none, none, none, none] [o] = .ok (.d (.list m_0)) [o] := by kernel_rfl
def law_right_s1_t : TSt := (sSet 4 (xCallL n__law_right i__law_pick (aCons (xV 0) (aCons (xLst false (aCons (xC (.d .none)) (aCons (xC (.d (.int 0))) (aCons (xNeg (xC (.d (.int 1)))) (aCons (xC (.d (.int 13))) (aCons (xC (.d (.bool true))) (aCons (xC (.d (.str "1"))) (aCons (xBin .pow false (xC (.d (.int 10))) (xC (.d (.int 20)))) aNil)))))))) aNil)) []))
theorem law_right_s1 {x0 : D} {o0 o1 : Ob} (e0 : (C 28).call i__law_pick [.r 0, .d (.list m_0)] [o0] = .ok (.d x0) [o1]) : law_right_s1_t (C 28) [some (.r 0), some (.d (.tuple [.tuple [.tuple [.int 1, .int 1], .tuple [.int 1, .int 1]], .tuple [.tuple [.int 0, .int 1], .tuple [.int 1, .int 1]]])), some (.d (.tuple [.int 1, .int 1])), some (.d (.tuple [.int 0, .int 1])), none, none, none, none, none, none, none, none, none, none, none, none, none] [o0] = .nx [some (.r 0), some (.d (.tuple [.tuple [.tuple [.int 1, .int 1], .tuple [.int 1, .int 1]], .tuple [.tuple [.int 0, .int 1], .tuple [.int 1, .int 1]]])), some (.d (.tuple [.int 1, .int 1])), some (.d (.tuple [.int 0, .int 1])), some (.d (x0)), none, none, none, none, none, none, none, none, none, none, none, none] [o1] :=
  set_nx (pick_e rfl law_right_m0 e0)
def m_1 : List D := [.none, .tuple [], .tuple [.tuple [.tuple [.int 1, .int 1]]], .list [.tuple [.tuple [.int 1, .int 1], .tuple [.int 0, .int 1]], .tuple [.tuple [.int 0, .int 1], .tuple [.int 1, .int 1]]], .tuple [.tuple [.tuple [.int 1, .int 1], .tuple [.int 0, .int 1]], .tuple [.tuple [.int 0, .int 1], .tuple [.int (-1), .int 1]]], .tuple [.tuple [.tuple [.int 1, .int 1], .tuple [.int 0, .int 1]], .tuple [.tuple [.int 1, .int 1]]], .str "table", .tuple [.tuple [.tuple [.int 1, .int 1], .int 1], .tuple [.tuple [.int 1, .int 1], .tuple [.int 1, .int 1]]], .tuple [.tuple [.int 1, .int 1], .tuple [.int 1, .int 1]], .tuple [.tuple [.tuple [.int 1, .int 1], .tuple [.int 2, .int 2]], .tuple [.tuple [.int 1, .int 1], .tuple [.int 1, .int 1]]]]
theorem law_right_m1 {x0 : D} {o : Ob} : ((xLst false (aCons (xC (.d .none)) (aCons (xTup aNil) (aCons (xTup (aCons (xTup (aCons (xV 2) aNil)) aNil)) (aCons (xLst false (aCons (xTup (aCons (xV 2) (aCons (xV 3) aNil))) (aCons (xTup (aCons (xV 3) (aCons (xV 2) aNil))) aNil))) (aCons (xTup (aCons (xTup (aCons (xV 2) (aCons (xV 3) aNil))) (aCons (xTup (aCons (xV 3) (aCons (xTup (aCons (xNeg (xC (.d (.int 1)))) (aCons (xC (.d (.int 1))) aNil))) aNil))) aNil))) (aCons (xTup (aCons (xTup (aCons (xV 2) (aCons (xV 3) aNil))) (aCons (xTup (aCons (xV 2) aNil)) aNil))) (aCons (xC (.d (.str "table"))) (aCons (xTup (aCons (xTup (aCons (xV 2) (aCons (xC (.d (.int 1))) aNil))) (aCons (xTup (aCons (xV 2) (aCons (xV 2) aNil))) aNil))) (aCons (xTup (aCons (xV 2) (aCons (xV 2) aNil))) (aCons (xTup (aCons (xTup (aCons (xV 2) (aCons (xTup (aCons (xC (.d (.int 2))) (aCons (xC (.d (.int 2))) aNil))) aNil))) (aCons (xTup (aCons (xV 2) (aCons (xV 2) aNil))) aNil))) aNil)))))))))))) (C 28) [some (.r 0), some (.d (.tuple [.tuple [.tuple [.int 1, .int 1], .tuple [.int 1, .int 1]], .tuple [.tuple [.int 0, .int 1], .tuple [.int 1, .int 1]]])), some (.d (.tuple [.int 1, .int 1])), some (.d (.tuple [.int 0, .int 1])), some (.d (x0)), none, none, none, none, none, none, none, none, none, none, none, none] [o] = .ok (.d (.list m_1)) [o] := by kernel_rfl
def law_right_s2_t : TSt := (sSet 5 (xCallL n__law_right i__law_pick (aCons (xV 0) (aCons (xLst false (aCons (xC (.d .none)) (aCons (xTup aNil) (aCons (xTup (aCons (xTup (aCons (xV 2) aNil)) aNil)) (aCons (xLst false (aCons (xTup (aCons (xV 2) (aCons (xV 3) aNil))) (aCons (xTup (aCons (xV 3) (aCons (xV 2) aNil))) aNil))) (aCons (xTup (aCons (xTup (aCons (xV 2) (aCons (xV 3) aNil))) (aCons (xTup (aCons (xV 3) (aCons (xTup (aCons (xNeg (xC (.d (.int 1)))) (aCons (xC (.d (.int 1))) aNil))) aNil))) aNil))) (aCons (xTup (aCons (xTup (aCons (xV 2) (aCons (xV 3) aNil))) (aCons (xTup (aCons (xV 2) aNil)) aNil))) (aCons (xC (.d (.str "table"))) (aCons (xTup (aCons (xTup (aCons (xV 2) (aCons (xC (.d (.int 1))) aNil))) (aCons (xTup (aCons (xV 2) (aCons (xV 2) aNil))) aNil))) (aCons (xTup (aCons (xV 2) (aCons (xV 2) aNil))) (aCons (xTup (aCons (xTup (aCons (xV 2) (aCons (xTup (aCons (xC (.d (.int 2))) (aCons (xC (.d (.int 2))) aNil))) aNil))) (aCons (xTup (aCons (xV 2) (aCons (xV 2) aNil))) aNil))) aNil))))))))))) aNil)) []))
theorem law_right_s2 {x0 x1 : D} {o1 o2 : Ob} (e1 : (C 28).call i__law_pick [.r 0, .d (.list m_1)] [o1] = .ok (.d x1) [o2]) : law_right_s2_t (C 28) [some (.r 0), some (.d (.tuple [.tuple [.tuple [.int 1, .int 1], .tuple [.int 1, .int 1]], .tuple [.tuple [.int 0, .int 1], .tuple [.int 1, .int 1]]])), some (.d (.tuple [.int 1, .int 1])), some (.d (.tuple [.int 0, .int 1])), some (.d (x0)), none, none, none, none, none, none, none, none, none, none, none, none] [o1] = .nx [some (.r 0), some (.d (.tuple [.tuple [.tuple [.int 1, .int 1], .tuple [.int 1, .int 1]], .tuple [.tuple [.int 0, .int 1], .tuple [.int 1, .int 1]]])), some (.d (.tuple [.int 1, .int 1])), some (.d (.tuple [.int 0, .int 1])), some (.d (x0)), some (.d (x1)), none, none, none, none, none, none, none, none, none, none, none] [o2] :=
  set_nx (pick_e rfl law_right_m1 e1)
def m_2 : List D := [.none, .int (-1), .int 2, .bool true, .str "0", .tuple [.int 0]]
def m_3 : List D := [.none, .int (-1), .int 7, .bool false, .str "1"]
theorem law_right_m2 {x0 x1 : D} {o : Ob} : ((xLst false (aCons (xC (.d .none)) (aCons (xNeg (xC (.d (.int 1)))) (aCons (xC (.d (.int 2))) (aCons (xC (.d (.bool true))) (aCons (xC (.d (.str "0"))) (aCons (xTup (aCons (xC (.d (.int 0))) aNil)) aNil)))))))) (C 28) [some (.r 0), some (.d (.tuple [.tuple [.tuple [.int 1, .int 1], .tuple [.int 1, .int 1]], .tuple [.tuple [.int 0, .int 1], .tuple [.int 1, .int 1]]])), some (.d (.tuple [.int 1, .int 1])), some (.d (.tuple [.int 0, .int 1])), some (.d (x0)), some (.d (x1)), none, none, none, none, none, none, none, none, none, none, none] [o] = .ok (.d (.list m_2)) [o] := by kernel_rfl
theorem law_right_m3 {x0 x1 : D} {o : Ob} : ((xLst false (aCons (xC (.d .none)) (aCons (xNeg (xC (.d (.int 1)))) (aCons (xC (.d (.int 7))) (aCons (xC (.d (.bool false))) (aCons (xC (.d (.str "1"))) aNil))))))) (C 28) [some (.r 0), some (.d (.tuple [.tuple [.tuple [.int 1, .int 1], .tuple [.int 1, .int 1]], .tuple [.tuple [.int 0, .int 1], .tuple [.int 1, .int 1]]])), some (.d (.tuple [.int 1, .int 1])), some (.d (.tuple [.int 0, .int 1])), some (.d (x0)), some (.d (x1)), none, none, none, none, none, none, none, none, none, none, none] [o] = .ok (.d (.list m_3)) [o] := by kernel_rfl
def law_right_s3_t : TSt := (sAsg (gTup (gCons (gV 6) (gCons (gV 7) gNil))) (xTup (aCons (xCallL n__law_right i__law_pick (aCons (xV 0) (aCons (xLst false (aCons (xC (.d .none)) (aCons (xNeg (xC (.d (.int 1)))) (aCons (xC (.d (.int 2))) (aCons (xC (.d (.bool true))) (aCons (xC (.d (.str "0"))) (aCons (xTup (aCons (xC (.d (.int 0))) aNil)) aNil))))))) aNil)) []) (aCons (xCallL n__law_right i__law_pick (aCons (xV 0) (aCons (xLst false (aCons (xC (.d .none)) (aCons (xNeg (xC (.d (.int 1)))) (aCons (xC (.d (.int 7))) (aCons (xC (.d (.bool false))) (aCons (xC (.d (.str "1"))) aNil)))))) aNil)) []) aNil))))
theorem law_right_s3 {x0 x1 x2 x3 : D} {o2 o3 o4 : Ob} (e2 : (C 28).call i__law_pick [.r 0, .d (.list m_2)] [o2] = .ok (.d x2) [o3]) (e3 : (C 28).call i__law_pick [.r 0, .d (.list m_3)] [o3] = .ok (.d x3) [o4]) : law_right_s3_t (C 28) [some (.r 0), some (.d (.tuple [.tuple [.tuple [.int 1, .int 1], .tuple [.int 1, .int 1]], .tuple [.tuple [.int 0, .int 1], .tuple [.int 1, .int 1]]])), some (.d (.tuple [.int 1, .int 1])), some (.d (.tuple [.int 0, .int 1])), some (.d (x0)), some (.d (x1)), none, none, none, none, none, none, none, none, none, none, none] [o2] = .nx [some (.r 0), some (.d (.tuple [.tuple [.tuple [.int 1, .int 1], .tuple [.int 1, .int 1]], .tuple [.tuple [.int 0, .int 1], .tuple [.int 1, .int 1]]])), some (.d (.tuple [.int 1, .int 1])), some (.d (.tuple [.int 0, .int 1])), some (.d (x0)), some (.d (x1)), some (.d (x2)), some (.d (x3)), none, none, none, none, none, none, none, none, none] [o4] :=
  asg_tup (args_cons (pick_e rfl law_right_m2 e2) (args_cons (pick_e rfl law_right_m3 e3) args_nil)) rfl rfl
def m_4 : List D := [.none, .int (-1), .int 61, .bool true, .str "1", .int 100000000000000000000]
theorem law_right_m4 {x0 x1 x2 x3 : D} {o : Ob} : ((xLst false (aCons (xC (.d .none)) (aCons (xNeg (xC (.d (.int 1)))) (aCons (xC (.d (.int 61))) (aCons (xC (.d (.bool true))) (aCons (xC (.d (.str "1"))) (aCons (xBin .pow false (xC (.d (.int 10))) (xC (.d (.int 20)))) aNil)))))))) (C 28) [some (.r 0), some (.d (.tuple [.tuple [.tuple [.int 1, .int 1], .tuple [.int 1, .int 1]], .tuple [.tuple [.int 0, .int 1], .tuple [.int 1, .int 1]]])), some (.d (.tuple [.int 1, .int 1])), some (.d (.tuple [.int 0, .int 1])), some (.d (x0)), some (.d (x1)), some (.d (x2)), some (.d (x3)), none, none, none, none, none, none, none, none, none] [o] = .ok (.d (.list m_4)) [o] := by kernel_rfl
def law_right_s4_t : TSt := (sSet 8 (xCallL n__law_right i__law_pick (aCons (xV 0) (aCons (xLst false (aCons (xC (.d .none)) (aCons (xNeg (xC (.d (.int 1)))) (aCons (xC (.d (.int 61))) (aCons (xC (.d (.bool true))) (aCons (xC (.d (.str "1"))) (aCons (xBin .pow false (xC (.d (.int 10))) (xC (.d (.int 20)))) aNil))))))) aNil)) []))
theorem law_right_s4 {x0 x1 x2 x3 x4 : D} {o4 o5 : Ob} (e4 : (C 28).call i__law_pick [.r 0, .d (.list m_4)] [o4] = .ok (.d x4) [o5]) : law_right_s4_t (C 28) [some (.r 0), some (.d (.tuple [.tuple [.tuple [.int 1, .int 1], .tuple [.int 1, .int 1]], .tuple [.tuple [.int 0, .int 1], .tuple [.int 1, .int 1]]])), some (.d (.tuple [.int 1, .int 1])), some (.d (.tuple [.int 0, .int 1])), some (.d (x0)), some (.d (x1)), some (.d (x2)), some (.d (x3)), none, none, none, none, none, none, none, none, none] [o4] = .nx [some (.r 0), some (.d (.tuple [.tuple [.tuple [.int 1, .int 1], .tuple [.int 1, .int 1]], .tuple [.tuple [.int 0, .int 1], .tuple [.int 1, .int 1]]])), some (.d (.tuple [.int 1, .int 1])), some (.d (.tuple [.int 0, .int 1])), some (.d (x0)), some (.d (x1)), some (.d (x2)), some (.d (x3)), some (.d (x4)), none, none, none, none, none, none, none, none] [o5] :=
  set_nx (pick_e rfl law_right_m4 e4)
def m_5 : List D := [.none, .tuple [], .list [.int 0], .tuple [.int 1, .int 0], .tuple [.int 0, .int 0], .tuple [.int 2], .tuple [.int (-1)], .tuple [.bool true], .tuple [.str "0"], .int 0, .tuple [.int 0, .int 1, .int 2]]
theorem law_right_m5 {x0 x1 x2 x3 x4 : D} {o : Ob} : ((xLst false (aCons (xC (.d .none)) (aCons (xTup aNil) (aCons (xLst false (aCons (xC (.d (.int 0))) aNil)) (aCons (xTup (aCons (xC (.d (.int 1))) (aCons (xC (.d (.int 0))) aNil))) (aCons (xTup (aCons (xC (.d (.int 0))) (aCons (xC (.d (.int 0))) aNil))) (aCons (xTup (aCons (xC (.d (.int 2))) aNil)) (aCons (xTup (aCons (xNeg (xC (.d (.int 1)))) aNil)) (aCons (xTup (aCons (xC (.d (.bool true))) aNil)) (aCons (xTup (aCons (xC (.d (.str "0"))) aNil)) (aCons (xC (.d (.int 0))) (aCons (xTup (aCons (xC (.d (.int 0))) (aCons (xC (.d (.int 1))) (aCons (xC (.d (.int 2))) aNil)))) aNil))))))))))))) (C 28) [some (.r 0), some (.d (.tuple [.tuple [.tuple [.int 1, .int 1], .tuple [.int 1, .int 1]], .tuple [.tuple [.int 0, .int 1], .tuple [.int 1, .int 1]]])), some (.d (.tuple [.int 1, .int 1])), some (.d (.tuple [.int 0, .int 1])), some (.d (x0)), some (.d (x1)), some (.d (x2)), some (.d (x3)), some (.d (x4)), none, none, none, none, none, none, none, none] [o] = .ok (.d (.list m_5)) [o] := by kernel_rfl
def law_right_s5_t : TSt := (sSet 9 (xCallL n__law_right i__law_pick (aCons (xV 0) (aCons (xLst false (aCons (xC (.d .none)) (aCons (xTup aNil) (aCons (xLst false (aCons (xC (.d (.int 0))) aNil)) (aCons (xTup (aCons (xC (.d (.int 1))) (aCons (xC (.d (.int 0))) aNil))) (aCons (xTup (aCons (xC (.d (.int 0))) (aCons (xC (.d (.int 0))) aNil))) (aCons (xTup (aCons (xC (.d (.int 2))) aNil)) (aCons (xTup (aCons (xNeg (xC (.d (.int 1)))) aNil)) (aCons (xTup (aCons (xC (.d (.bool true))) aNil)) (aCons (xTup (aCons (xC (.d (.str "0"))) aNil)) (aCons (xC (.d (.int 0))) (aCons (xTup (aCons (xC (.d (.int 0))) (aCons (xC (.d (.int 1))) (aCons (xC (.d (.int 2))) aNil)))) aNil)))))))))))) aNil)) []))
theorem law_right_s5 {x0 x1 x2 x3 x4 x5 : D} {o5 o6 : Ob} (e5 : (C 28).call i__law_pick [.r 0, .d (.list m_5)] [o5] = .ok (.d x5) [o6]) : law_right_s5_t (C 28) [some (.r 0), some (.d (.tuple [.tuple [.tuple [.int 1, .int 1], .tuple [.int 1, .int 1]], .tuple [.tuple [.int 0, .int 1], .tuple [.int 1, .int 1]]])), some (.d (.tuple [.int 1, .int 1])), some (.d (.tuple [.int 0, .int 1])), some (.d (x0)), some (.d (x1)), some (.d (x2)), some (.d (x3)), some (.d (x4)), none, none, none, none, none, none, none, none] [o5] = .nx [some (.r 0), some (.d (.tuple [.tuple [.tuple [.int 1, .int 1], .tuple [.int 1, .int 1]], .tuple [.tuple [.int 0, .int 1], .tuple [.int 1, .int 1]]])), some (.d (.tuple [.int 1, .int 1])), some (.d (.tuple [.int 0, .int 1])), some (.d (x0)), some (.d (x1)), some (.d (x2)), some (.d (x3)), some (.d (x4)), some (.d (x5)), none, none, none, none, none, none, none] [o6] :=
  set_nx (pick_e rfl law_right_m5 e5)
theorem cok_0 : ∀ x ∈ m_0, cntOk x = true := by
  have h : (m_0.all cntOk) = true := by decide +kernel
  exact fun x hx => List.all_eq_true.mp h x hx
theorem cok_2 : ∀ x ∈ m_2, cntOk x = true := by
  have h : (m_2.all cntOk) = true := by decide +kernel
  exact fun x hx => List.all_eq_true.mp h x hx
theorem cok_3 : ∀ x ∈ m_3, cntOk x = true := by
  have h : (m_3.all cntOk) = true := by decide +kernel
  exact fun x hx => List.all_eq_true.mp h x hx
def law_right_s6_t : TSt := (sPar3 10 11 12 (xBin .add false (xC (.d (.str "count "))) (xB bRepr (aCons (xV 4) aNil))) (xBin .add false (xC (.d (.str "count "))) (xB bRepr (aCons (xV 6) aNil))) (xBin .add false (xC (.d (.str "count "))) (xB bRepr (aCons (xV 7) aNil))))
theorem law_right_s6 {x0 x1 x2 x3 x4 x5 : D} {o6 : Ob} (h0 : x0 ∈ m_0) (h2 : x2 ∈ m_2) (h3 : x3 ∈ m_3) : law_right_s6_t (C 28) [some (.r 0), some (.d (.tuple [.tuple [.tuple [.int 1, .int 1], .tuple [.int 1, .int 1]], .tuple [.tuple [.int 0, .int 1], .tuple [.int 1, .int 1]]])), some (.d (.tuple [.int 1, .int 1])), some (.d (.tuple [.int 0, .int 1])), some (.d (x0)), some (.d (x1)), some (.d (x2)), some (.d (x3)), some (.d (x4)), some (.d (x5)), none, none, none, none, none, none, none] [o6] = .nx [some (.r 0), some (.d (.tuple [.tuple [.tuple [.int 1, .int 1], .tuple [.int 1, .int 1]], .tuple [.tuple [.int 0, .int 1], .tuple [.int 1, .int 1]]])), some (.d (.tuple [.int 1, .int 1])), some (.d (.tuple [.int 0, .int 1])), some (.d (x0)), some (.d (x1)), some (.d (x2)), some (.d (x3)), some (.d (x4)), some (.d (x5)), some (.d (cnt x0)), some (.d (cnt x2)), some (.d (cnt x3)), none, none, none, none] [o6] :=
  par3_nx (cnt_e (cok_0 x0 h0) rfl) (cnt_e (cok_2 x2 h2) rfl) (cnt_e (cok_3 x3 h3) rfl)
def law_right_s7_b : TSt := (sSeq (sSet 14 (xLst false (aCons (xLam l__law_right_20) (aCons (xLam l__law_right_21) (aCons (xLam l__law_right_22) aNil)))))
 (sIf (tCmp .ne (xLcL n__law_right false [16] (iV (xV 14)) (gV 16) tYes (xCall i__law_word (aCons (xV 16) aNil) [])) (xLst false (aCons (xV 10) (aCons (xC (.d (.str "table"))) (aCons (xC (.d (.str "fine"))) aNil)))))
 (sRet (xC (.d (.bool false))))
 sPass))
theorem cl_1 {x0 x1 x2 x3 x4 x5 : D} : clsVs (cpOf n__law_right [some (.r 0), some (.d (.tuple [.tuple [.tuple [.int 1, .int 1], .tuple [.int 1, .int 1]], .tuple [.tuple [.int 0, .int 1], .tuple [.int 1, .int 1]]])), some (.d (.tuple [.int 1, .int 1])), some (.d (.tuple [.int 0, .int 1])), some (.d (x0)), some (.d (x1)), some (.d (x2)), some (.d (x3)), some (.d (x4)), some (.d (x5)), some (.d (cnt x0)), some (.d (cnt x2)), some (.d (cnt x3)), some (.fn i_classes), some (.lv [.co l__law_right_20, .co l__law_right_21, .co l__law_right_22]), none, none]) [.co l__law_right_20, .co l__law_right_21, .co l__law_right_22] = some [.cv l__law_right_20 [.d (x1), .fn i_classes, .d (x0)], .cv l__law_right_21 [.d (x1), .fn i_classes], .cv l__law_right_22 [.fn i_classes, .d (.tuple [.tuple [.tuple [.int 1, .int 1], .tuple [.int 1, .int 1]], .tuple [.tuple [.int 0, .int 1], .tuple [.int 1, .int 1]]])]] := by kernel_rfl
theorem f_1 : (C 28).call i__law_word [.cv l__law_right_22 [.fn i_classes, .d (.tuple [.tuple [.tuple [.int 1, .int 1], .tuple [.int 1, .int 1]], .tuple [.tuple [.int 0, .int 1], .tuple [.int 1, .int 1]]])]] [] = .ok (.d (.str "fine")) [] := by kernel_rfl
theorem f_2 : (m_1.map fun x => (C 28).call i__law_word [.cv l__law_right_21 [.d x, .fn i_classes]] []) = m_1.map fun x => .ok (.d (.str "table")) [] := by kernel_rfl
theorem f_3 (x1 : D) : (m_0.map fun x => (C 28).call i__law_word [.cv l__law_right_20 [.d (x1), .fn i_classes, .d x]] []) = m_0.map fun x => .ok (.d (cnt x)) [] := by kernel_rfl
theorem law_right_s7_f0 {x0 x1 x2 x3 x4 x5 : D} {o6 : Ob} (h1 : x1 ∈ m_1) (h0 : x0 ∈ m_0) : law_right_s7_b (C 28) [some (.r 0), some (.d (.tuple [.tuple [.tuple [.int 1, .int 1], .tuple [.int 1, .int 1]], .tuple [.tuple [.int 0, .int 1], .tuple [.int 1, .int 1]]])), some (.d (.tuple [.int 1, .int 1])), some (.d (.tuple [.int 0, .int 1])), some (.d (x0)), some (.d (x1)), some (.d (x2)), some (.d (x3)), some (.d (x4)), some (.d (x5)), some (.d (cnt x0)), some (.d (cnt x2)), some (.d (cnt x3)), some (.fn i_classes), none, none, none] [o6] = .nx [some (.r 0), some (.d (.tuple [.tuple [.tuple [.int 1, .int 1], .tuple [.int 1, .int 1]], .tuple [.tuple [.int 0, .int 1], .tuple [.int 1, .int 1]]])), some (.d (.tuple [.int 1, .int 1])), some (.d (.tuple [.int 0, .int 1])), some (.d (x0)), some (.d (x1)), some (.d (x2)), some (.d (x3)), some (.d (x4)), some (.d (x5)), some (.d (cnt x0)), some (.d (cnt x2)), some (.d (cnt x3)), some (.fn i_classes), some (.lv [.co l__law_right_20, .co l__law_right_21, .co l__law_right_22]), none, none] [o6] :=
  ((seq_nx (set_nx (by kernel_rfl))).trans (if_ne (ws_lc rfl cl_1 (Ws.cons (fun S => run_any (hfr 28) (fun _ => rfl) (fun _ => rfl) (map_all (f_3 x1) x0 h0) S) (Ws.cons (fun S => run_any (hfr 28) (fun _ => rfl) (fun _ => rfl) (map_all (f_2) x1 h1) S) (Ws.cons (fun S => run_any (hfr 28) (fun _ => rfl) (fun _ => rfl) (f_1) S) Ws.nil))) (show (16 : Nat) < 17 from by decide) (show (3 : Nat) < LINE from by decide)) (show ((xLst false (aCons (xV 10) (aCons (xC (.d (.str "table"))) (aCons (xC (.d (.str "fine"))) aNil))))) (C 28) [some (.r 0), some (.d (.tuple [.tuple [.tuple [.int 1, .int 1], .tuple [.int 1, .int 1]], .tuple [.tuple [.int 0, .int 1], .tuple [.int 1, .int 1]]])), some (.d (.tuple [.int 1, .int 1])), some (.d (.tuple [.int 0, .int 1])), some (.d (x0)), some (.d (x1)), some (.d (x2)), some (.d (x3)), some (.d (x4)), some (.d (x5)), some (.d (cnt x0)), some (.d (cnt x2)), some (.d (cnt x3)), some (.fn i_classes), some (.lv [.co l__law_right_20, .co l__law_right_21, .co l__law_right_22]), none, none] [o6] = .ok (.d (.list [cnt x0, .str "table", .str "fine"])) [o6] from by kernel_rfl) rfl))
theorem cl_2 {x0 x1 x2 x3 x4 x5 : D} : clsVs (cpOf n__law_right [some (.r 0), some (.d (.tuple [.tuple [.tuple [.int 1, .int 1], .tuple [.int 1, .int 1]], .tuple [.tuple [.int 0, .int 1], .tuple [.int 1, .int 1]]])), some (.d (.tuple [.int 1, .int 1])), some (.d (.tuple [.int 0, .int 1])), some (.d (x0)), some (.d (x1)), some (.d (x2)), some (.d (x3)), some (.d (x4)), some (.d (x5)), some (.d (cnt x0)), some (.d (cnt x2)), some (.d (cnt x3)), some (.fn i_first_classes), some (.lv [.co l__law_right_20, .co l__law_right_21, .co l__law_right_22]), none, none]) [.co l__law_right_20, .co l__law_right_21, .co l__law_right_22] = some [.cv l__law_right_20 [.d (x1), .fn i_first_classes, .d (x0)], .cv l__law_right_21 [.d (x1), .fn i_first_classes], .cv l__law_right_22 [.fn i_first_classes, .d (.tuple [.tuple [.tuple [.int 1, .int 1], .tuple [.int 1, .int 1]], .tuple [.tuple [.int 0, .int 1], .tuple [.int 1, .int 1]]])]] := by kernel_rfl
theorem f_4 : (C 28).call i__law_word [.cv l__law_right_22 [.fn i_first_classes, .d (.tuple [.tuple [.tuple [.int 1, .int 1], .tuple [.int 1, .int 1]], .tuple [.tuple [.int 0, .int 1], .tuple [.int 1, .int 1]]])]] [] = .ok (.d (.str "fine")) [] := by kernel_rfl
theorem f_5 : (m_1.map fun x => (C 28).call i__law_word [.cv l__law_right_21 [.d x, .fn i_first_classes]] []) = m_1.map fun x => .ok (.d (.str "table")) [] := by kernel_rfl
theorem f_6 (x1 : D) : (m_0.map fun x => (C 28).call i__law_word [.cv l__law_right_20 [.d (x1), .fn i_first_classes, .d x]] []) = m_0.map fun x => .ok (.d (cnt x)) [] := by kernel_rfl
theorem law_right_s7_f1 {x0 x1 x2 x3 x4 x5 : D} {o6 : Ob} (h1 : x1 ∈ m_1) (h0 : x0 ∈ m_0) : law_right_s7_b (C 28) [some (.r 0), some (.d (.tuple [.tuple [.tuple [.int 1, .int 1], .tuple [.int 1, .int 1]], .tuple [.tuple [.int 0, .int 1], .tuple [.int 1, .int 1]]])), some (.d (.tuple [.int 1, .int 1])), some (.d (.tuple [.int 0, .int 1])), some (.d (x0)), some (.d (x1)), some (.d (x2)), some (.d (x3)), some (.d (x4)), some (.d (x5)), some (.d (cnt x0)), some (.d (cnt x2)), some (.d (cnt x3)), some (.fn i_first_classes), some (.lv [.co l__law_right_20, .co l__law_right_21, .co l__law_right_22]), none, none] [o6] = .nx [some (.r 0), some (.d (.tuple [.tuple [.tuple [.int 1, .int 1], .tuple [.int 1, .int 1]], .tuple [.tuple [.int 0, .int 1], .tuple [.int 1, .int 1]]])), some (.d (.tuple [.int 1, .int 1])), some (.d (.tuple [.int 0, .int 1])), some (.d (x0)), some (.d (x1)), some (.d (x2)), some (.d (x3)), some (.d (x4)), some (.d (x5)), some (.d (cnt x0)), some (.d (cnt x2)), some (.d (cnt x3)), some (.fn i_first_classes), some (.lv [.co l__law_right_20, .co l__law_right_21, .co l__law_right_22]), none, none] [o6] :=
  ((seq_nx (set_nx (by kernel_rfl))).trans (if_ne (ws_lc rfl cl_2 (Ws.cons (fun S => run_any (hfr 28) (fun _ => rfl) (fun _ => rfl) (map_all (f_6 x1) x0 h0) S) (Ws.cons (fun S => run_any (hfr 28) (fun _ => rfl) (fun _ => rfl) (map_all (f_5) x1 h1) S) (Ws.cons (fun S => run_any (hfr 28) (fun _ => rfl) (fun _ => rfl) (f_4) S) Ws.nil))) (show (16 : Nat) < 17 from by decide) (show (3 : Nat) < LINE from by decide)) (show ((xLst false (aCons (xV 10) (aCons (xC (.d (.str "table"))) (aCons (xC (.d (.str "fine"))) aNil))))) (C 28) [some (.r 0), some (.d (.tuple [.tuple [.tuple [.int 1, .int 1], .tuple [.int 1, .int 1]], .tuple [.tuple [.int 0, .int 1], .tuple [.int 1, .int 1]]])), some (.d (.tuple [.int 1, .int 1])), some (.d (.tuple [.int 0, .int 1])), some (.d (x0)), some (.d (x1)), some (.d (x2)), some (.d (x3)), some (.d (x4)), some (.d (x5)), some (.d (cnt x0)), some (.d (cnt x2)), some (.d (cnt x3)), some (.fn i_first_classes), some (.lv [.co l__law_right_20, .co l__law_right_21, .co l__law_right_22]), none, none] [o6] = .ok (.d (.list [cnt x0, .str "table", .str "fine"])) [o6] from by kernel_rfl) rfl))
theorem cl_3 {x0 x1 x2 x3 x4 x5 : D} : clsVs (cpOf n__law_right [some (.r 0), some (.d (.tuple [.tuple [.tuple [.int 1, .int 1], .tuple [.int 1, .int 1]], .tuple [.tuple [.int 0, .int 1], .tuple [.int 1, .int 1]]])), some (.d (.tuple [.int 1, .int 1])), some (.d (.tuple [.int 0, .int 1])), some (.d (x0)), some (.d (x1)), some (.d (x2)), some (.d (x3)), some (.d (x4)), some (.d (x5)), some (.d (cnt x0)), some (.d (cnt x2)), some (.d (cnt x3)), some (.fn i_last_classes), some (.lv [.co l__law_right_20, .co l__law_right_21, .co l__law_right_22]), none, none]) [.co l__law_right_20, .co l__law_right_21, .co l__law_right_22] = some [.cv l__law_right_20 [.d (x1), .fn i_last_classes, .d (x0)], .cv l__law_right_21 [.d (x1), .fn i_last_classes], .cv l__law_right_22 [.fn i_last_classes, .d (.tuple [.tuple [.tuple [.int 1, .int 1], .tuple [.int 1, .int 1]], .tuple [.tuple [.int 0, .int 1], .tuple [.int 1, .int 1]]])]] := by kernel_rfl
theorem f_7 : (C 28).call i__law_word [.cv l__law_right_22 [.fn i_last_classes, .d (.tuple [.tuple [.tuple [.int 1, .int 1], .tuple [.int 1, .int 1]], .tuple [.tuple [.int 0, .int 1], .tuple [.int 1, .int 1]]])]] [] = .ok (.d (.str "fine")) [] := by kernel_rfl
theorem f_8 : (m_1.map fun x => (C 28).call i__law_word [.cv l__law_right_21 [.d x, .fn i_last_classes]] []) = m_1.map fun x => .ok (.d (.str "table")) [] := by kernel_rfl
theorem f_9 (x1 : D) : (m_0.map fun x => (C 28).call i__law_word [.cv l__law_right_20 [.d (x1), .fn i_last_classes, .d x]] []) = m_0.map fun x => .ok (.d (cnt x)) [] := by kernel_rfl
theorem law_right_s7_f2 {x0 x1 x2 x3 x4 x5 : D} {o6 : Ob} (h1 : x1 ∈ m_1) (h0 : x0 ∈ m_0) : law_right_s7_b (C 28) [some (.r 0), some (.d (.tuple [.tuple [.tuple [.int 1, .int 1], .tuple [.int 1, .int 1]], .tuple [.tuple [.int 0, .int 1], .tuple [.int 1, .int 1]]])), some (.d (.tuple [.int 1, .int 1])), some (.d (.tuple [.int 0, .int 1])), some (.d (x0)), some (.d (x1)), some (.d (x2)), some (.d (x3)), some (.d (x4)), some (.d (x5)), some (.d (cnt x0)), some (.d (cnt x2)), some (.d (cnt x3)), some (.fn i_last_classes), some (.lv [.co l__law_right_20, .co l__law_right_21, .co l__law_right_22]), none, none] [o6] = .nx [some (.r 0), some (.d (.tuple [.tuple [.tuple [.int 1, .int 1], .tuple [.int 1, .int 1]], .tuple [.tuple [.int 0, .int 1], .tuple [.int 1, .int 1]]])), some (.d (.tuple [.int 1, .int 1])), some (.d (.tuple [.int 0, .int 1])), some (.d (x0)), some (.d (x1)), some (.d (x2)), some (.d (x3)), some (.d (x4)), some (.d (x5)), some (.d (cnt x0)), some (.d (cnt x2)), some (.d (cnt x3)), some (.fn i_last_classes), some (.lv [.co l__law_right_20, .co l__law_right_21, .co l__law_right_22]), none, none] [o6] :=
  ((seq_nx (set_nx (by kernel_rfl))).trans (if_ne (ws_lc rfl cl_3 (Ws.cons (fun S => run_any (hfr 28) (fun _ => rfl) (fun _ => rfl) (map_all (f_9 x1) x0 h0) S) (Ws.cons (fun S => run_any (hfr 28) (fun _ => rfl) (fun _ => rfl) (map_all (f_8) x1 h1) S) (Ws.cons (fun S => run_any (hfr 28) (fun _ => rfl) (fun _ => rfl) (f_7) S) Ws.nil))) (show (16 : Nat) < 17 from by decide) (show (3 : Nat) < LINE from by decide)) (show ((xLst false (aCons (xV 10) (aCons (xC (.d (.str "table"))) (aCons (xC (.d (.str "fine"))) aNil))))) (C 28) [some (.r 0), some (.d (.tuple [.tuple [.tuple [.int 1, .int 1], .tuple [.int 1, .int 1]], .tuple [.tuple [.int 0, .int 1], .tuple [.int 1, .int 1]]])), some (.d (.tuple [.int 1, .int 1])), some (.d (.tuple [.int 0, .int 1])), some (.d (x0)), some (.d (x1)), some (.d (x2)), some (.d (x3)), some (.d (x4)), some (.d (x5)), some (.d (cnt x0)), some (.d (cnt x2)), some (.d (cnt x3)), some (.fn i_last_classes), some (.lv [.co l__law_right_20, .co l__law_right_21, .co l__law_right_22]), none, none] [o6] = .ok (.d (.list [cnt x0, .str "table", .str "fine"])) [o6] from by kernel_rfl) rfl))
theorem cl_4 {x0 x1 x2 x3 x4 x5 : D} : clsVs (cpOf n__law_right [some (.r 0), some (.d (.tuple [.tuple [.tuple [.int 1, .int 1], .tuple [.int 1, .int 1]], .tuple [.tuple [.int 0, .int 1], .tuple [.int 1, .int 1]]])), some (.d (.tuple [.int 1, .int 1])), some (.d (.tuple [.int 0, .int 1])), some (.d (x0)), some (.d (x1)), some (.d (x2)), some (.d (x3)), some (.d (x4)), some (.d (x5)), some (.d (cnt x0)), some (.d (cnt x2)), some (.d (cnt x3)), some (.fn i_is_one), some (.lv [.co l__law_right_20, .co l__law_right_21, .co l__law_right_22]), none, none]) [.co l__law_right_20, .co l__law_right_21, .co l__law_right_22] = some [.cv l__law_right_20 [.d (x1), .fn i_is_one, .d (x0)], .cv l__law_right_21 [.d (x1), .fn i_is_one], .cv l__law_right_22 [.fn i_is_one, .d (.tuple [.tuple [.tuple [.int 1, .int 1], .tuple [.int 1, .int 1]], .tuple [.tuple [.int 0, .int 1], .tuple [.int 1, .int 1]]])]] := by kernel_rfl
theorem f_10 : (C 28).call i__law_word [.cv l__law_right_22 [.fn i_is_one, .d (.tuple [.tuple [.tuple [.int 1, .int 1], .tuple [.int 1, .int 1]], .tuple [.tuple [.int 0, .int 1], .tuple [.int 1, .int 1]]])]] [] = .ok (.d (.str "fine")) [] := by kernel_rfl
theorem f_11 : (m_1.map fun x => (C 28).call i__law_word [.cv l__law_right_21 [.d x, .fn i_is_one]] []) = m_1.map fun x => .ok (.d (.str "table")) [] := by kernel_rfl
theorem f_12 (x1 : D) : (m_0.map fun x => (C 28).call i__law_word [.cv l__law_right_20 [.d (x1), .fn i_is_one, .d x]] []) = m_0.map fun x => .ok (.d (cnt x)) [] := by kernel_rfl
theorem law_right_s7_f3 {x0 x1 x2 x3 x4 x5 : D} {o6 : Ob} (h1 : x1 ∈ m_1) (h0 : x0 ∈ m_0) : law_right_s7_b (C 28) [some (.r 0), some (.d (.tuple [.tuple [.tuple [.int 1, .int 1], .tuple [.int 1, .int 1]], .tuple [.tuple [.int 0, .int 1], .tuple [.int 1, .int 1]]])), some (.d (.tuple [.int 1, .int 1])), some (.d (.tuple [.int 0, .int 1])), some (.d (x0)), some (.d (x1)), some (.d (x2)), some (.d (x3)), some (.d (x4)), some (.d (x5)), some (.d (cnt x0)), some (.d (cnt x2)), some (.d (cnt x3)), some (.fn i_is_one), some (.lv [.co l__law_right_20, .co l__law_right_21, .co l__law_right_22]), none, none] [o6] = .nx [some (.r 0), some (.d (.tuple [.tuple [.tuple [.int 1, .int 1], .tuple [.int 1, .int 1]], .tuple [.tuple [.int 0, .int 1], .tuple [.int 1, .int 1]]])), some (.d (.tuple [.int 1, .int 1])), some (.d (.tuple [.int 0, .int 1])), some (.d (x0)), some (.d (x1)), some (.d (x2)), some (.d (x3)), some (.d (x4)), some (.d (x5)), some (.d (cnt x0)), some (.d (cnt x2)), some (.d (cnt x3)), some (.fn i_is_one), some (.lv [.co l__law_right_20, .co l__law_right_21, .co l__law_right_22]), none, none] [o6] :=
  ((seq_nx (set_nx (by kernel_rfl))).trans (if_ne (ws_lc rfl cl_4 (Ws.cons (fun S => run_any (hfr 28) (fun _ => rfl) (fun _ => rfl) (map_all (f_12 x1) x0 h0) S) (Ws.cons (fun S => run_any (hfr 28) (fun _ => rfl) (fun _ => rfl) (map_all (f_11) x1 h1) S) (Ws.cons (fun S => run_any (hfr 28) (fun _ => rfl) (fun _ => rfl) (f_10) S) Ws.nil))) (show (16 : Nat) < 17 from by decide) (show (3 : Nat) < LINE from by decide)) (show ((xLst false (aCons (xV 10) (aCons (xC (.d (.str "table"))) (aCons (xC (.d (.str "fine"))) aNil))))) (C 28) [some (.r 0), some (.d (.tuple [.tuple [.tuple [.int 1, .int 1], .tuple [.int 1, .int 1]], .tuple [.tuple [.int 0, .int 1], .tuple [.int 1, .int 1]]])), some (.d (.tuple [.int 1, .int 1])), some (.d (.tuple [.int 0, .int 1])), some (.d (x0)), some (.d (x1)), some (.d (x2)), some (.d (x3)), some (.d (x4)), some (.d (x5)), some (.d (cnt x0)), some (.d (cnt x2)), some (.d (cnt x3)), some (.fn i_is_one), some (.lv [.co l__law_right_20, .co l__law_right_21, .co l__law_right_22]), none, none] [o6] = .ok (.d (.list [cnt x0, .str "table", .str "fine"])) [o6] from by kernel_rfl) rfl))
theorem cl_5 {x0 x1 x2 x3 x4 x5 : D} : clsVs (cpOf n__law_right [some (.r 0), some (.d (.tuple [.tuple [.tuple [.int 1, .int 1], .tuple [.int 1, .int 1]], .tuple [.tuple [.int 0, .int 1], .tuple [.int 1, .int 1]]])), some (.d (.tuple [.int 1, .int 1])), some (.d (.tuple [.int 0, .int 1])), some (.d (x0)), some (.d (x1)), some (.d (x2)), some (.d (x3)), some (.d (x4)), some (.d (x5)), some (.d (cnt x0)), some (.d (cnt x2)), some (.d (cnt x3)), some (.fn i_all_from), some (.lv [.co l__law_right_20, .co l__law_right_21, .co l__law_right_22]), none, none]) [.co l__law_right_20, .co l__law_right_21, .co l__law_right_22] = some [.cv l__law_right_20 [.d (x1), .fn i_all_from, .d (x0)], .cv l__law_right_21 [.d (x1), .fn i_all_from], .cv l__law_right_22 [.fn i_all_from, .d (.tuple [.tuple [.tuple [.int 1, .int 1], .tuple [.int 1, .int 1]], .tuple [.tuple [.int 0, .int 1], .tuple [.int 1, .int 1]]])]] := by kernel_rfl
theorem f_13 : (C 28).call i__law_word [.cv l__law_right_22 [.fn i_all_from, .d (.tuple [.tuple [.tuple [.int 1, .int 1], .tuple [.int 1, .int 1]], .tuple [.tuple [.int 0, .int 1], .tuple [.int 1, .int 1]]])]] [] = .ok (.d (.str "fine")) [] := by kernel_rfl
theorem f_14 : (m_1.map fun x => (C 28).call i__law_word [.cv l__law_right_21 [.d x, .fn i_all_from]] []) = m_1.map fun x => .ok (.d (.str "table")) [] := by kernel_rfl
theorem f_15 (x1 : D) : (m_0.map fun x => (C 28).call i__law_word [.cv l__law_right_20 [.d (x1), .fn i_all_from, .d x]] []) = m_0.map fun x => .ok (.d (cnt x)) [] := by kernel_rfl
theorem law_right_s7_f4 {x0 x1 x2 x3 x4 x5 : D} {o6 : Ob} (h1 : x1 ∈ m_1) (h0 : x0 ∈ m_0) : law_right_s7_b (C 28) [some (.r 0), some (.d (.tuple [.tuple [.tuple [.int 1, .int 1], .tuple [.int 1, .int 1]], .tuple [.tuple [.int 0, .int 1], .tuple [.int 1, .int 1]]])), some (.d (.tuple [.int 1, .int 1])), some (.d (.tuple [.int 0, .int 1])), some (.d (x0)), some (.d (x1)), some (.d (x2)), some (.d (x3)), some (.d (x4)), some (.d (x5)), some (.d (cnt x0)), some (.d (cnt x2)), some (.d (cnt x3)), some (.fn i_all_from), some (.lv [.co l__law_right_20, .co l__law_right_21, .co l__law_right_22]), none, none] [o6] = .nx [some (.r 0), some (.d (.tuple [.tuple [.tuple [.int 1, .int 1], .tuple [.int 1, .int 1]], .tuple [.tuple [.int 0, .int 1], .tuple [.int 1, .int 1]]])), some (.d (.tuple [.int 1, .int 1])), some (.d (.tuple [.int 0, .int 1])), some (.d (x0)), some (.d (x1)), some (.d (x2)), some (.d (x3)), some (.d (x4)), some (.d (x5)), some (.d (cnt x0)), some (.d (cnt x2)), some (.d (cnt x3)), some (.fn i_all_from), some (.lv [.co l__law_right_20, .co l__law_right_21, .co l__law_right_22]), none, none] [o6] :=
  ((seq_nx (set_nx (by kernel_rfl))).trans (if_ne (ws_lc rfl cl_5 (Ws.cons (fun S => run_any (hfr 28) (fun _ => rfl) (fun _ => rfl) (map_all (f_15 x1) x0 h0) S) (Ws.cons (fun S => run_any (hfr 28) (fun _ => rfl) (fun _ => rfl) (map_all (f_14) x1 h1) S) (Ws.cons (fun S => run_any (hfr 28) (fun _ => rfl) (fun _ => rfl) (f_13) S) Ws.nil))) (show (16 : Nat) < 17 from by decide) (show (3 : Nat) < LINE from by decide)) (show ((xLst false (aCons (xV 10) (aCons (xC (.d (.str "table"))) (aCons (xC (.d (.str "fine"))) aNil))))) (C 28) [some (.r 0), some (.d (.tuple [.tuple [.tuple [.int 1, .int 1], .tuple [.int 1, .int 1]], .tuple [.tuple [.int 0, .int 1], .tuple [.int 1, .int 1]]])), some (.d (.tuple [.int 1, .int 1])), some (.d (.tuple [.int 0, .int 1])), some (.d (x0)), some (.d (x1)), some (.d (x2)), some (.d (x3)), some (.d (x4)), some (.d (x5)), some (.d (cnt x0)), some (.d (cnt x2)), some (.d (cnt x3)), some (.fn i_all_from), some (.lv [.co l__law_right_20, .co l__law_right_21, .co l__law_right_22]), none, none] [o6] = .ok (.d (.list [cnt x0, .str "table", .str "fine"])) [o6] from by kernel_rfl) rfl))
def law_right_s7_t : TSt := (sFor (iV (xTup (aCons (xC (.fn i_classes)) (aCons (xC (.fn i_first_classes)) (aCons (xC (.fn i_last_classes)) (aCons (xC (.fn i_is_one)) (aCons (xC (.fn i_all_from)) aNil))))))) (gV 13)
 (sSeq (sSet 14 (xLst false (aCons (xLam l__law_right_20) (aCons (xLam l__law_right_21) (aCons (xLam l__law_right_22) aNil)))))
 (sIf (tCmp .ne (xLcL n__law_right false [16] (iV (xV 14)) (gV 16) tYes (xCall i__law_word (aCons (xV 16) aNil) [])) (xLst false (aCons (xV 10) (aCons (xC (.d (.str "table"))) (aCons (xC (.d (.str "fine"))) aNil)))))
 (sRet (xC (.d (.bool false))))
 sPass)))
theorem law_right_s7 {x0 x1 x2 x3 x4 x5 : D} {o6 : Ob} (h1 : x1 ∈ m_1) (h0 : x0 ∈ m_0) : law_right_s7_t (C 28) [some (.r 0), some (.d (.tuple [.tuple [.tuple [.int 1, .int 1], .tuple [.int 1, .int 1]], .tuple [.tuple [.int 0, .int 1], .tuple [.int 1, .int 1]]])), some (.d (.tuple [.int 1, .int 1])), some (.d (.tuple [.int 0, .int 1])), some (.d (x0)), some (.d (x1)), some (.d (x2)), some (.d (x3)), some (.d (x4)), some (.d (x5)), some (.d (cnt x0)), some (.d (cnt x2)), some (.d (cnt x3)), none, none, none, none] [o6] = .nx [some (.r 0), some (.d (.tuple [.tuple [.tuple [.int 1, .int 1], .tuple [.int 1, .int 1]], .tuple [.tuple [.int 0, .int 1], .tuple [.int 1, .int 1]]])), some (.d (.tuple [.int 1, .int 1])), some (.d (.tuple [.int 0, .int 1])), some (.d (x0)), some (.d (x1)), some (.d (x2)), some (.d (x3)), some (.d (x4)), some (.d (x5)), some (.d (cnt x0)), some (.d (cnt x2)), some (.d (cnt x3)), some (.fn i_all_from), some (.lv [.co l__law_right_20, .co l__law_right_21, .co l__law_right_22]), none, none] [o6] :=
  for_its (by kernel_rfl) (loop_cons (law_right_s7_f0 h1 h0) (loop_cons (law_right_s7_f1 h1 h0) (loop_cons (law_right_s7_f2 h1 h0) (loop_cons (law_right_s7_f3 h1 h0) (loop_cons (law_right_s7_f4 h1 h0) loop_nil)))))
def law_right_s8_b : TSt := (sSeq (sSet 14 (xLst false (aCons (xLam l__law_right_16) (aCons (xLam l__law_right_17) (aCons (xLam l__law_right_18) (aCons (xLam l__law_right_19) aNil))))))
 (sIf (tCmp .ne (xLcL n__law_right false [16] (iV (xV 14)) (gV 16) tYes (xCall i__law_word (aCons (xV 16) aNil) [])) (xLst false (aCons (xV 10) (aCons (xC (.d (.str "table"))) (aCons (xV 11) (aCons (xC (.d (.str "fine"))) aNil))))))
 (sRet (xC (.d (.bool false))))
 sPass))
theorem cl_6 {x0 x1 x2 x3 x4 x5 : D} : clsVs (cpOf n__law_right [some (.r 0), some (.d (.tuple [.tuple [.tuple [.int 1, .int 1], .tuple [.int 1, .int 1]], .tuple [.tuple [.int 0, .int 1], .tuple [.int 1, .int 1]]])), some (.d (.tuple [.int 1, .int 1])), some (.d (.tuple [.int 0, .int 1])), some (.d (x0)), some (.d (x1)), some (.d (x2)), some (.d (x3)), some (.d (x4)), some (.d (x5)), some (.d (cnt x0)), some (.d (cnt x2)), some (.d (cnt x3)), some (.fn i_needs), some (.lv [.co l__law_right_16, .co l__law_right_17, .co l__law_right_18, .co l__law_right_19]), none, none]) [.co l__law_right_16, .co l__law_right_17, .co l__law_right_18, .co l__law_right_19] = some [.cv l__law_right_16 [.d (x1), .fn i_needs, .d (x0), .d (x2)], .cv l__law_right_17 [.d (x1), .fn i_needs, .d (x2)], .cv l__law_right_18 [.fn i_needs, .d (.tuple [.tuple [.tuple [.int 1, .int 1], .tuple [.int 1, .int 1]], .tuple [.tuple [.int 0, .int 1], .tuple [.int 1, .int 1]]]), .d (x2)], .cv l__law_right_19 [.fn i_needs, .d (.tuple [.tuple [.tuple [.int 1, .int 1], .tuple [.int 1, .int 1]], .tuple [.tuple [.int 0, .int 1], .tuple [.int 1, .int 1]]])]] := by kernel_rfl
theorem f_16 : (C 28).call i__law_word [.cv l__law_right_19 [.fn i_needs, .d (.tuple [.tuple [.tuple [.int 1, .int 1], .tuple [.int 1, .int 1]], .tuple [.tuple [.int 0, .int 1], .tuple [.int 1, .int 1]]])]] [] = .ok (.d (.str "fine")) [] := by kernel_rfl
theorem f_17 : (m_2.map fun x => (C 28).call i__law_word [.cv l__law_right_18 [.fn i_needs, .d (.tuple [.tuple [.tuple [.int 1, .int 1], .tuple [.int 1, .int 1]], .tuple [.tuple [.int 0, .int 1], .tuple [.int 1, .int 1]]]), .d x]] []) = m_2.map fun x => .ok (.d (cnt x)) [] := by kernel_rfl
theorem f_18 (x2 : D) : (m_1.map fun x => (C 28).call i__law_word [.cv l__law_right_17 [.d x, .fn i_needs, .d (x2)]] []) = m_1.map fun x => .ok (.d (.str "table")) [] := by kernel_rfl
theorem f_19 (x1 x2 : D) : (m_0.map fun x => (C 28).call i__law_word [.cv l__law_right_16 [.d (x1), .fn i_needs, .d x, .d (x2)]] []) = m_0.map fun x => .ok (.d (cnt x)) [] := by kernel_rfl
theorem law_right_s8_f0 {x0 x1 x2 x3 x4 x5 : D} {o6 : Ob} (h2 : x2 ∈ m_2) (h1 : x1 ∈ m_1) (h0 : x0 ∈ m_0) : law_right_s8_b (C 28) [some (.r 0), some (.d (.tuple [.tuple [.tuple [.int 1, .int 1], .tuple [.int 1, .int 1]], .tuple [.tuple [.int 0, .int 1], .tuple [.int 1, .int 1]]])), some (.d (.tuple [.int 1, .int 1])), some (.d (.tuple [.int 0, .int 1])), some (.d (x0)), some (.d (x1)), some (.d (x2)), some (.d (x3)), some (.d (x4)), some (.d (x5)), some (.d (cnt x0)), some (.d (cnt x2)), some (.d (cnt x3)), some (.fn i_needs), some (.lv [.co l__law_right_20, .co l__law_right_21, .co l__law_right_22]), none, none] [o6] = .nx [some (.r 0), some (.d (.tuple [.tuple [.tuple [.int 1, .int 1], .tuple [.int 1, .int 1]], .tuple [.tuple [.int 0, .int 1], .tuple [.int 1, .int 1]]])), some (.d (.tuple [.int 1, .int 1])), some (.d (.tuple [.int 0, .int 1])), some (.d (x0)), some (.d (x1)), some (.d (x2)), some (.d (x3)), some (.d (x4)), some (.d (x5)), some (.d (cnt x0)), some (.d (cnt x2)), some (.d (cnt x3)), some (.fn i_needs), some (.lv [.co l__law_right_16, .co l__law_right_17, .co l__law_right_18, .co l__law_right_19]), none, none] [o6] :=
  ((seq_nx (set_nx (by kernel_rfl))).trans (if_ne (ws_lc rfl cl_6 (Ws.cons (fun S => run_any (hfr 28) (fun _ => rfl) (fun _ => rfl) (map_all (f_19 x1 x2) x0 h0) S) (Ws.cons (fun S => run_any (hfr 28) (fun _ => rfl) (fun _ => rfl) (map_all (f_18 x2) x1 h1) S) (Ws.cons (fun S => run_any (hfr 28) (fun _ => rfl) (fun _ => rfl) (map_all (f_17) x2 h2) S) (Ws.cons (fun S => run_any (hfr 28) (fun _ => rfl) (fun _ => rfl) (f_16) S) Ws.nil)))) (show (16 : Nat) < 17 from by decide) (show (4 : Nat) < LINE from by decide)) (show ((xLst false (aCons (xV 10) (aCons (xC (.d (.str "table"))) (aCons (xV 11) (aCons (xC (.d (.str "fine"))) aNil)))))) (C 28) [some (.r 0), some (.d (.tuple [.tuple [.tuple [.int 1, .int 1], .tuple [.int 1, .int 1]], .tuple [.tuple [.int 0, .int 1], .tuple [.int 1, .int 1]]])), some (.d (.tuple [.int 1, .int 1])), some (.d (.tuple [.int 0, .int 1])), some (.d (x0)), some (.d (x1)), some (.d (x2)), some (.d (x3)), some (.d (x4)), some (.d (x5)), some (.d (cnt x0)), some (.d (cnt x2)), some (.d (cnt x3)), some (.fn i_needs), some (.lv [.co l__law_right_16, .co l__law_right_17, .co l__law_right_18, .co l__law_right_19]), none, none] [o6] = .ok (.d (.list [cnt x0, .str "table", cnt x2, .str "fine"])) [o6] from by kernel_rfl) rfl))
theorem cl_7 {x0 x1 x2 x3 x4 x5 : D} : clsVs (cpOf n__law_right [some (.r 0), some (.d (.tuple [.tuple [.tuple [.int 1, .int 1], .tuple [.int 1, .int 1]], .tuple [.tuple [.int 0, .int 1], .tuple [.int 1, .int 1]]])), some (.d (.tuple [.int 1, .int 1])), some (.d (.tuple [.int 0, .int 1])), some (.d (x0)), some (.d (x1)), some (.d (x2)), some (.d (x3)), some (.d (x4)), some (.d (x5)), some (.d (cnt x0)), some (.d (cnt x2)), some (.d (cnt x3)), some (.fn i_class_of), some (.lv [.co l__law_right_16, .co l__law_right_17, .co l__law_right_18, .co l__law_right_19]), none, none]) [.co l__law_right_16, .co l__law_right_17, .co l__law_right_18, .co l__law_right_19] = some [.cv l__law_right_16 [.d (x1), .fn i_class_of, .d (x0), .d (x2)], .cv l__law_right_17 [.d (x1), .fn i_class_of, .d (x2)], .cv l__law_right_18 [.fn i_class_of, .d (.tuple [.tuple [.tuple [.int 1, .int 1], .tuple [.int 1, .int 1]], .tuple [.tuple [.int 0, .int 1], .tuple [.int 1, .int 1]]]), .d (x2)], .cv l__law_right_19 [.fn i_class_of, .d (.tuple [.tuple [.tuple [.int 1, .int 1], .tuple [.int 1, .int 1]], .tuple [.tuple [.int 0, .int 1], .tuple [.int 1, .int 1]]])]] := by kernel_rfl
theorem f_20 : (C 28).call i__law_word [.cv l__law_right_19 [.fn i_class_of, .d (.tuple [.tuple [.tuple [.int 1, .int 1], .tuple [.int 1, .int 1]], .tuple [.tuple [.int 0, .int 1], .tuple [.int 1, .int 1]]])]] [] = .ok (.d (.str "fine")) [] := by kernel_rfl
theorem f_21 : (m_2.map fun x => (C 28).call i__law_word [.cv l__law_right_18 [.fn i_class_of, .d (.tuple [.tuple [.tuple [.int 1, .int 1], .tuple [.int 1, .int 1]], .tuple [.tuple [.int 0, .int 1], .tuple [.int 1, .int 1]]]), .d x]] []) = m_2.map fun x => .ok (.d (cnt x)) [] := by kernel_rfl
theorem f_22 (x2 : D) : (m_1.map fun x => (C 28).call i__law_word [.cv l__law_right_17 [.d x, .fn i_class_of, .d (x2)]] []) = m_1.map fun x => .ok (.d (.str "table")) [] := by kernel_rfl
theorem f_23 (x1 x2 : D) : (m_0.map fun x => (C 28).call i__law_word [.cv l__law_right_16 [.d (x1), .fn i_class_of, .d x, .d (x2)]] []) = m_0.map fun x => .ok (.d (cnt x)) [] := by kernel_rfl
theorem law_right_s8_f1 {x0 x1 x2 x3 x4 x5 : D} {o6 : Ob} (h2 : x2 ∈ m_2) (h1 : x1 ∈ m_1) (h0 : x0 ∈ m_0) : law_right_s8_b (C 28) [some (.r 0), some (.d (.tuple [.tuple [.tuple [.int 1, .int 1], .tuple [.int 1, .int 1]], .tuple [.tuple [.int 0, .int 1], .tuple [.int 1, .int 1]]])), some (.d (.tuple [.int 1, .int 1])), some (.d (.tuple [.int 0, .int 1])), some (.d (x0)), some (.d (x1)), some (.d (x2)), some (.d (x3)), some (.d (x4)), some (.d (x5)), some (.d (cnt x0)), some (.d (cnt x2)), some (.d (cnt x3)), some (.fn i_class_of), some (.lv [.co l__law_right_16, .co l__law_right_17, .co l__law_right_18, .co l__law_right_19]), none, none] [o6] = .nx [some (.r 0), some (.d (.tuple [.tuple [.tuple [.int 1, .int 1], .tuple [.int 1, .int 1]], .tuple [.tuple [.int 0, .int 1], .tuple [.int 1, .int 1]]])), some (.d (.tuple [.int 1, .int 1])), some (.d (.tuple [.int 0, .int 1])), some (.d (x0)), some (.d (x1)), some (.d (x2)), some (.d (x3)), some (.d (x4)), some (.d (x5)), some (.d (cnt x0)), some (.d (cnt x2)), some (.d (cnt x3)), some (.fn i_class_of), some (.lv [.co l__law_right_16, .co l__law_right_17, .co l__law_right_18, .co l__law_right_19]), none, none] [o6] :=
  ((seq_nx (set_nx (by kernel_rfl))).trans (if_ne (ws_lc rfl cl_7 (Ws.cons (fun S => run_any (hfr 28) (fun _ => rfl) (fun _ => rfl) (map_all (f_23 x1 x2) x0 h0) S) (Ws.cons (fun S => run_any (hfr 28) (fun _ => rfl) (fun _ => rfl) (map_all (f_22 x2) x1 h1) S) (Ws.cons (fun S => run_any (hfr 28) (fun _ => rfl) (fun _ => rfl) (map_all (f_21) x2 h2) S) (Ws.cons (fun S => run_any (hfr 28) (fun _ => rfl) (fun _ => rfl) (f_20) S) Ws.nil)))) (show (16 : Nat) < 17 from by decide) (show (4 : Nat) < LINE from by decide)) (show ((xLst false (aCons (xV 10) (aCons (xC (.d (.str "table"))) (aCons (xV 11) (aCons (xC (.d (.str "fine"))) aNil)))))) (C 28) [some (.r 0), some (.d (.tuple [.tuple [.tuple [.int 1, .int 1], .tuple [.int 1, .int 1]], .tuple [.tuple [.int 0, .int 1], .tuple [.int 1, .int 1]]])), some (.d (.tuple [.int 1, .int 1])), some (.d (.tuple [.int 0, .int 1])), some (.d (x0)), some (.d (x1)), some (.d (x2)), some (.d (x3)), some (.d (x4)), some (.d (x5)), some (.d (cnt x0)), some (.d (cnt x2)), some (.d (cnt x3)), some (.fn i_class_of), some (.lv [.co l__law_right_16, .co l__law_right_17, .co l__law_right_18, .co l__law_right_19]), none, none] [o6] = .ok (.d (.list [cnt x0, .str "table", cnt x2, .str "fine"])) [o6] from by kernel_rfl) rfl))
theorem cl_8 {x0 x1 x2 x3 x4 x5 : D} : clsVs (cpOf n__law_right [some (.r 0), some (.d (.tuple [.tuple [.tuple [.int 1, .int 1], .tuple [.int 1, .int 1]], .tuple [.tuple [.int 0, .int 1], .tuple [.int 1, .int 1]]])), some (.d (.tuple [.int 1, .int 1])), some (.d (.tuple [.int 0, .int 1])), some (.d (x0)), some (.d (x1)), some (.d (x2)), some (.d (x3)), some (.d (x4)), some (.d (x5)), some (.d (cnt x0)), some (.d (cnt x2)), some (.d (cnt x3)), some (.fn i_period), some (.lv [.co l__law_right_16, .co l__law_right_17, .co l__law_right_18, .co l__law_right_19]), none, none]) [.co l__law_right_16, .co l__law_right_17, .co l__law_right_18, .co l__law_right_19] = some [.cv l__law_right_16 [.d (x1), .fn i_period, .d (x0), .d (x2)], .cv l__law_right_17 [.d (x1), .fn i_period, .d (x2)], .cv l__law_right_18 [.fn i_period, .d (.tuple [.tuple [.tuple [.int 1, .int 1], .tuple [.int 1, .int 1]], .tuple [.tuple [.int 0, .int 1], .tuple [.int 1, .int 1]]]), .d (x2)], .cv l__law_right_19 [.fn i_period, .d (.tuple [.tuple [.tuple [.int 1, .int 1], .tuple [.int 1, .int 1]], .tuple [.tuple [.int 0, .int 1], .tuple [.int 1, .int 1]]])]] := by kernel_rfl
theorem f_24 : (C 28).call i__law_word [.cv l__law_right_19 [.fn i_period, .d (.tuple [.tuple [.tuple [.int 1, .int 1], .tuple [.int 1, .int 1]], .tuple [.tuple [.int 0, .int 1], .tuple [.int 1, .int 1]]])]] [] = .ok (.d (.str "fine")) [] := by kernel_rfl
theorem f_25 : (m_2.map fun x => (C 28).call i__law_word [.cv l__law_right_18 [.fn i_period, .d (.tuple [.tuple [.tuple [.int 1, .int 1], .tuple [.int 1, .int 1]], .tuple [.tuple [.int 0, .int 1], .tuple [.int 1, .int 1]]]), .d x]] []) = m_2.map fun x => .ok (.d (cnt x)) [] := by kernel_rfl
theorem f_26 (x2 : D) : (m_1.map fun x => (C 28).call i__law_word [.cv l__law_right_17 [.d x, .fn i_period, .d (x2)]] []) = m_1.map fun x => .ok (.d (.str "table")) [] := by kernel_rfl
theorem f_27 (x1 x2 : D) : (m_0.map fun x => (C 28).call i__law_word [.cv l__law_right_16 [.d (x1), .fn i_period, .d x, .d (x2)]] []) = m_0.map fun x => .ok (.d (cnt x)) [] := by kernel_rfl
theorem law_right_s8_f2 {x0 x1 x2 x3 x4 x5 : D} {o6 : Ob} (h2 : x2 ∈ m_2) (h1 : x1 ∈ m_1) (h0 : x0 ∈ m_0) : law_right_s8_b (C 28) [some (.r 0), some (.d (.tuple [.tuple [.tuple [.int 1, .int 1], .tuple [.int 1, .int 1]], .tuple [.tuple [.int 0, .int 1], .tuple [.int 1, .int 1]]])), some (.d (.tuple [.int 1, .int 1])), some (.d (.tuple [.int 0, .int 1])), some (.d (x0)), some (.d (x1)), some (.d (x2)), some (.d (x3)), some (.d (x4)), some (.d (x5)), some (.d (cnt x0)), some (.d (cnt x2)), some (.d (cnt x3)), some (.fn i_period), some (.lv [.co l__law_right_16, .co l__law_right_17, .co l__law_right_18, .co l__law_right_19]), none, none] [o6] = .nx [some (.r 0), some (.d (.tuple [.tuple [.tuple [.int 1, .int 1], .tuple [.int 1, .int 1]], .tuple [.tuple [.int 0, .int 1], .tuple [.int 1, .int 1]]])), some (.d (.tuple [.int 1, .int 1])), some (.d (.tuple [.int 0, .int 1])), some (.d (x0)), some (.d (x1)), some (.d (x2)), some (.d (x3)), some (.d (x4)), some (.d (x5)), some (.d (cnt x0)), some (.d (cnt x2)), some (.d (cnt x3)), some (.fn i_period), some (.lv [.co l__law_right_16, .co l__law_right_17, .co l__law_right_18, .co l__law_right_19]), none, none] [o6] :=
  ((seq_nx (set_nx (by kernel_rfl))).trans (if_ne (ws_lc rfl cl_8 (Ws.cons (fun S => run_any (hfr 28) (fun _ => rfl) (fun _ => rfl) (map_all (f_27 x1 x2) x0 h0) S) (Ws.cons (fun S => run_any (hfr 28) (fun _ => rfl) (fun _ => rfl) (map_all (f_26 x2) x1 h1) S) (Ws.cons (fun S => run_any (hfr 28) (fun _ => rfl) (fun _ => rfl) (map_all (f_25) x2 h2) S) (Ws.cons (fun S => run_any (hfr 28) (fun _ => rfl) (fun _ => rfl) (f_24) S) Ws.nil)))) (show (16 : Nat) < 17 from by decide) (show (4 : Nat) < LINE from by decide)) (show ((xLst false (aCons (xV 10) (aCons (xC (.d (.str "table"))) (aCons (xV 11) (aCons (xC (.d (.str "fine"))) aNil)))))) (C 28) [some (.r 0), some (.d (.tuple [.tuple [.tuple [.int 1, .int 1], .tuple [.int 1, .int 1]], .tuple [.tuple [.int 0, .int 1], .tuple [.int 1, .int 1]]])), some (.d (.tuple [.int 1, .int 1])), some (.d (.tuple [.int 0, .int 1])), some (.d (x0)), some (.d (x1)), some (.d (x2)), some (.d (x3)), some (.d (x4)), some (.d (x5)), some (.d (cnt x0)), some (.d (cnt x2)), some (.d (cnt x3)), some (.fn i_period), some (.lv [.co l__law_right_16, .co l__law_right_17, .co l__law_right_18, .co l__law_right_19]), none, none] [o6] = .ok (.d (.list [cnt x0, .str "table", cnt x2, .str "fine"])) [o6] from by kernel_rfl) rfl))
def law_right_s8_t : TSt := (sFor (iV (xTup (aCons (xC (.fn i_needs)) (aCons (xC (.fn i_class_of)) (aCons (xC (.fn i_period)) aNil))))) (gV 13)
 (sSeq (sSet 14 (xLst false (aCons (xLam l__law_right_16) (aCons (xLam l__law_right_17) (aCons (xLam l__law_right_18) (aCons (xLam l__law_right_19) aNil))))))
 (sIf (tCmp .ne (xLcL n__law_right false [16] (iV (xV 14)) (gV 16) tYes (xCall i__law_word (aCons (xV 16) aNil) [])) (xLst false (aCons (xV 10) (aCons (xC (.d (.str "table"))) (aCons (xV 11) (aCons (xC (.d (.str "fine"))) aNil))))))
 (sRet (xC (.d (.bool false))))
 sPass)))
theorem law_right_s8 {x0 x1 x2 x3 x4 x5 : D} {o6 : Ob} (h2 : x2 ∈ m_2) (h1 : x1 ∈ m_1) (h0 : x0 ∈ m_0) : law_right_s8_t (C 28) [some (.r 0), some (.d (.tuple [.tuple [.tuple [.int 1, .int 1], .tuple [.int 1, .int 1]], .tuple [.tuple [.int 0, .int 1], .tuple [.int 1, .int 1]]])), some (.d (.tuple [.int 1, .int 1])), some (.d (.tuple [.int 0, .int 1])), some (.d (x0)), some (.d (x1)), some (.d (x2)), some (.d (x3)), some (.d (x4)), some (.d (x5)), some (.d (cnt x0)), some (.d (cnt x2)), some (.d (cnt x3)), some (.fn i_all_from), some (.lv [.co l__law_right_20, .co l__law_right_21, .co l__law_right_22]), none, none] [o6] = .nx [some (.r 0), some (.d (.tuple [.tuple [.tuple [.int 1, .int 1], .tuple [.int 1, .int 1]], .tuple [.tuple [.int 0, .int 1], .tuple [.int 1, .int 1]]])), some (.d (.tuple [.int 1, .int 1])), some (.d (.tuple [.int 0, .int 1])), some (.d (x0)), some (.d (x1)), some (.d (x2)), some (.d (x3)), some (.d (x4)), some (.d (x5)), some (.d (cnt x0)), some (.d (cnt x2)), some (.d (cnt x3)), some (.fn i_period), some (.lv [.co l__law_right_16, .co l__law_right_17, .co l__law_right_18, .co l__law_right_19]), none, none] [o6] :=
  for_its (by kernel_rfl) (loop_cons (law_right_s8_f0 h2 h1 h0) (loop_cons (law_right_s8_f1 h2 h1 h0) (loop_cons (law_right_s8_f2 h2 h1 h0) loop_nil)))
def law_right_s9_b : TSt := (sSeq (sSet 14 (xLst false (aCons (xLam l__law_right_11) (aCons (xLam l__law_right_12) (aCons (xLam l__law_right_13) (aCons (xLam l__law_right_14) (aCons (xLam l__law_right_15) aNil)))))))
 (sIf (tCmp .ne (xLcL n__law_right false [16] (iV (xV 14)) (gV 16) tYes (xCall i__law_word (aCons (xV 16) aNil) [])) (xLst false (aCons (xV 10) (aCons (xC (.d (.str "table"))) (aCons (xV 11) (aCons (xV 12) (aCons (xC (.d (.str "fine"))) aNil)))))))
 (sRet (xC (.d (.bool false))))
 sPass))
theorem cl_9 {x0 x1 x2 x3 x4 x5 : D} : clsVs (cpOf n__law_right [some (.r 0), some (.d (.tuple [.tuple [.tuple [.int 1, .int 1], .tuple [.int 1, .int 1]], .tuple [.tuple [.int 0, .int 1], .tuple [.int 1, .int 1]]])), some (.d (.tuple [.int 1, .int 1])), some (.d (.tuple [.int 0, .int 1])), some (.d (x0)), some (.d (x1)), some (.d (x2)), some (.d (x3)), some (.d (x4)), some (.d (x5)), some (.d (cnt x0)), some (.d (cnt x2)), some (.d (cnt x3)), some (.fn i_does_need), some (.lv [.co l__law_right_11, .co l__law_right_12, .co l__law_right_13, .co l__law_right_14, .co l__law_right_15]), none, none]) [.co l__law_right_11, .co l__law_right_12, .co l__law_right_13, .co l__law_right_14, .co l__law_right_15] = some [.cv l__law_right_11 [.d (x1), .fn i_does_need, .d (x3), .d (x0), .d (x2)], .cv l__law_right_12 [.d (x1), .fn i_does_need, .d (x3), .d (x2)], .cv l__law_right_13 [.fn i_does_need, .d (x3), .d (.tuple [.tuple [.tuple [.int 1, .int 1], .tuple [.int 1, .int 1]], .tuple [.tuple [.int 0, .int 1], .tuple [.int 1, .int 1]]]), .d (x2)], .cv l__law_right_14 [.fn i_does_need, .d (x3), .d (.tuple [.tuple [.tuple [.int 1, .int 1], .tuple [.int 1, .int 1]], .tuple [.tuple [.int 0, .int 1], .tuple [.int 1, .int 1]]])], .cv l__law_right_15 [.fn i_does_need, .d (.tuple [.tuple [.tuple [.int 1, .int 1], .tuple [.int 1, .int 1]], .tuple [.tuple [.int 0, .int 1], .tuple [.int 1, .int 1]]])]] := by kernel_rfl
theorem f_28 : (C 28).call i__law_word [.cv l__law_right_15 [.fn i_does_need, .d (.tuple [.tuple [.tuple [.int 1, .int 1], .tuple [.int 1, .int 1]], .tuple [.tuple [.int 0, .int 1], .tuple [.int 1, .int 1]]])]] [] = .ok (.d (.str "fine")) [] := by kernel_rfl
theorem f_29 : (m_3.map fun x => (C 28).call i__law_word [.cv l__law_right_14 [.fn i_does_need, .d x, .d (.tuple [.tuple [.tuple [.int 1, .int 1], .tuple [.int 1, .int 1]], .tuple [.tuple [.int 0, .int 1], .tuple [.int 1, .int 1]]])]] []) = m_3.map fun x => .ok (.d (cnt x)) [] := by kernel_rfl
theorem f_30 (x3 : D) : (m_2.map fun x => (C 28).call i__law_word [.cv l__law_right_13 [.fn i_does_need, .d (x3), .d (.tuple [.tuple [.tuple [.int 1, .int 1], .tuple [.int 1, .int 1]], .tuple [.tuple [.int 0, .int 1], .tuple [.int 1, .int 1]]]), .d x]] []) = m_2.map fun x => .ok (.d (cnt x)) [] := by kernel_rfl
theorem f_31 (x3 x2 : D) : (m_1.map fun x => (C 28).call i__law_word [.cv l__law_right_12 [.d x, .fn i_does_need, .d (x3), .d (x2)]] []) = m_1.map fun x => .ok (.d (.str "table")) [] := by kernel_rfl
theorem f_32 (x1 x3 x2 : D) : (m_0.map fun x => (C 28).call i__law_word [.cv l__law_right_11 [.d (x1), .fn i_does_need, .d (x3), .d x, .d (x2)]] []) = m_0.map fun x => .ok (.d (cnt x)) [] := by kernel_rfl
theorem law_right_s9_f0 {x0 x1 x2 x3 x4 x5 : D} {o6 : Ob} (h3 : x3 ∈ m_3) (h2 : x2 ∈ m_2) (h1 : x1 ∈ m_1) (h0 : x0 ∈ m_0) : law_right_s9_b (C 28) [some (.r 0), some (.d (.tuple [.tuple [.tuple [.int 1, .int 1], .tuple [.int 1, .int 1]], .tuple [.tuple [.int 0, .int 1], .tuple [.int 1, .int 1]]])), some (.d (.tuple [.int 1, .int 1])), some (.d (.tuple [.int 0, .int 1])), some (.d (x0)), some (.d (x1)), some (.d (x2)), some (.d (x3)), some (.d (x4)), some (.d (x5)), some (.d (cnt x0)), some (.d (cnt x2)), some (.d (cnt x3)), some (.fn i_does_need), some (.lv [.co l__law_right_16, .co l__law_right_17, .co l__law_right_18, .co l__law_right_19]), none, none] [o6] = .nx [some (.r 0), some (.d (.tuple [.tuple [.tuple [.int 1, .int 1], .tuple [.int 1, .int 1]], .tuple [.tuple [.int 0, .int 1], .tuple [.int 1, .int 1]]])), some (.d (.tuple [.int 1, .int 1])), some (.d (.tuple [.int 0, .int 1])), some (.d (x0)), some (.d (x1)), some (.d (x2)), some (.d (x3)), some (.d (x4)), some (.d (x5)), some (.d (cnt x0)), some (.d (cnt x2)), some (.d (cnt x3)), some (.fn i_does_need), some (.lv [.co l__law_right_11, .co l__law_right_12, .co l__law_right_13, .co l__law_right_14, .co l__law_right_15]), none, none] [o6] :=
  ((seq_nx (set_nx (by kernel_rfl))).trans (if_ne (ws_lc rfl cl_9 (Ws.cons (fun S => run_any (hfr 28) (fun _ => rfl) (fun _ => rfl) (map_all (f_32 x1 x3 x2) x0 h0) S) (Ws.cons (fun S => run_any (hfr 28) (fun _ => rfl) (fun _ => rfl) (map_all (f_31 x3 x2) x1 h1) S) (Ws.cons (fun S => run_any (hfr 28) (fun _ => rfl) (fun _ => rfl) (map_all (f_30 x3) x2 h2) S) (Ws.cons (fun S => run_any (hfr 28) (fun _ => rfl) (fun _ => rfl) (map_all (f_29) x3 h3) S) (Ws.cons (fun S => run_any (hfr 28) (fun _ => rfl) (fun _ => rfl) (f_28) S) Ws.nil))))) (show (16 : Nat) < 17 from by decide) (show (5 : Nat) < LINE from by decide)) (show ((xLst false (aCons (xV 10) (aCons (xC (.d (.str "table"))) (aCons (xV 11) (aCons (xV 12) (aCons (xC (.d (.str "fine"))) aNil))))))) (C 28) [some (.r 0), some (.d (.tuple [.tuple [.tuple [.int 1, .int 1], .tuple [.int 1, .int 1]], .tuple [.tuple [.int 0, .int 1], .tuple [.int 1, .int 1]]])), some (.d (.tuple [.int 1, .int 1])), some (.d (.tuple [.int 0, .int 1])), some (.d (x0)), some (.d (x1)), some (.d (x2)), some (.d (x3)), some (.d (x4)), some (.d (x5)), some (.d (cnt x0)), some (.d (cnt x2)), some (.d (cnt x3)), some (.fn i_does_need), some (.lv [.co l__law_right_11, .co l__law_right_12, .co l__law_right_13, .co l__law_right_14, .co l__law_right_15]), none, none] [o6] = .ok (.d (.list [cnt x0, .str "table", cnt x2, cnt x3, .str "fine"])) [o6] from by kernel_rfl) rfl))
theorem cl_10 {x0 x1 x2 x3 x4 x5 : D} : clsVs (cpOf n__law_right [some (.r 0), some (.d (.tuple [.tuple [.tuple [.int 1, .int 1], .tuple [.int 1, .int 1]], .tuple [.tuple [.int 0, .int 1], .tuple [.int 1, .int 1]]])), some (.d (.tuple [.int 1, .int 1])), some (.d (.tuple [.int 0, .int 1])), some (.d (x0)), some (.d (x1)), some (.d (x2)), some (.d (x3)), some (.d (x4)), some (.d (x5)), some (.d (cnt x0)), some (.d (cnt x2)), some (.d (cnt x3)), some (.fn i_chain), some (.lv [.co l__law_right_11, .co l__law_right_12, .co l__law_right_13, .co l__law_right_14, .co l__law_right_15]), none, none]) [.co l__law_right_11, .co l__law_right_12, .co l__law_right_13, .co l__law_right_14, .co l__law_right_15] = some [.cv l__law_right_11 [.d (x1), .fn i_chain, .d (x3), .d (x0), .d (x2)], .cv l__law_right_12 [.d (x1), .fn i_chain, .d (x3), .d (x2)], .cv l__law_right_13 [.fn i_chain, .d (x3), .d (.tuple [.tuple [.tuple [.int 1, .int 1], .tuple [.int 1, .int 1]], .tuple [.tuple [.int 0, .int 1], .tuple [.int 1, .int 1]]]), .d (x2)], .cv l__law_right_14 [.fn i_chain, .d (x3), .d (.tuple [.tuple [.tuple [.int 1, .int 1], .tuple [.int 1, .int 1]], .tuple [.tuple [.int 0, .int 1], .tuple [.int 1, .int 1]]])], .cv l__law_right_15 [.fn i_chain, .d (.tuple [.tuple [.tuple [.int 1, .int 1], .tuple [.int 1, .int 1]], .tuple [.tuple [.int 0, .int 1], .tuple [.int 1, .int 1]]])]] := by kernel_rfl
theorem f_33 : (C 28).call i__law_word [.cv l__law_right_15 [.fn i_chain, .d (.tuple [.tuple [.tuple [.int 1, .int 1], .tuple [.int 1, .int 1]], .tuple [.tuple [.int 0, .int 1], .tuple [.int 1, .int 1]]])]] [] = .ok (.d (.str "fine")) [] := by kernel_rfl
theorem f_34 : (m_3.map fun x => (C 28).call i__law_word [.cv l__law_right_14 [.fn i_chain, .d x, .d (.tuple [.tuple [.tuple [.int 1, .int 1], .tuple [.int 1, .int 1]], .tuple [.tuple [.int 0, .int 1], .tuple [.int 1, .int 1]]])]] []) = m_3.map fun x => .ok (.d (cnt x)) [] := by kernel_rfl
theorem f_35 (x3 : D) : (m_2.map fun x => (C 28).call i__law_word [.cv l__law_right_13 [.fn i_chain, .d (x3), .d (.tuple [.tuple [.tuple [.int 1, .int 1], .tuple [.int 1, .int 1]], .tuple [.tuple [.int 0, .int 1], .tuple [.int 1, .int 1]]]), .d x]] []) = m_2.map fun x => .ok (.d (cnt x)) [] := by kernel_rfl
theorem f_36 (x3 x2 : D) : (m_1.map fun x => (C 28).call i__law_word [.cv l__law_right_12 [.d x, .fn i_chain, .d (x3), .d (x2)]] []) = m_1.map fun x => .ok (.d (.str "table")) [] := by kernel_rfl
theorem f_37 (x1 x3 x2 : D) : (m_0.map fun x => (C 28).call i__law_word [.cv l__law_right_11 [.d (x1), .fn i_chain, .d (x3), .d x, .d (x2)]] []) = m_0.map fun x => .ok (.d (cnt x)) [] := by kernel_rfl
theorem law_right_s9_f1 {x0 x1 x2 x3 x4 x5 : D} {o6 : Ob} (h3 : x3 ∈ m_3) (h2 : x2 ∈ m_2) (h1 : x1 ∈ m_1) (h0 : x0 ∈ m_0) : law_right_s9_b (C 28) [some (.r 0), some (.d (.tuple [.tuple [.tuple [.int 1, .int 1], .tuple [.int 1, .int 1]], .tuple [.tuple [.int 0, .int 1], .tuple [.int 1, .int 1]]])), some (.d (.tuple [.int 1, .int 1])), some (.d (.tuple [.int 0, .int 1])), some (.d (x0)), some (.d (x1)), some (.d (x2)), some (.d (x3)), some (.d (x4)), some (.d (x5)), some (.d (cnt x0)), some (.d (cnt x2)), some (.d (cnt x3)), some (.fn i_chain), some (.lv [.co l__law_right_11, .co l__law_right_12, .co l__law_right_13, .co l__law_right_14, .co l__law_right_15]), none, none] [o6] = .nx [some (.r 0), some (.d (.tuple [.tuple [.tuple [.int 1, .int 1], .tuple [.int 1, .int 1]], .tuple [.tuple [.int 0, .int 1], .tuple [.int 1, .int 1]]])), some (.d (.tuple [.int 1, .int 1])), some (.d (.tuple [.int 0, .int 1])), some (.d (x0)), some (.d (x1)), some (.d (x2)), some (.d (x3)), some (.d (x4)), some (.d (x5)), some (.d (cnt x0)), some (.d (cnt x2)), some (.d (cnt x3)), some (.fn i_chain), some (.lv [.co l__law_right_11, .co l__law_right_12, .co l__law_right_13, .co l__law_right_14, .co l__law_right_15]), none, none] [o6] :=
  ((seq_nx (set_nx (by kernel_rfl))).trans (if_ne (ws_lc rfl cl_10 (Ws.cons (fun S => run_any (hfr 28) (fun _ => rfl) (fun _ => rfl) (map_all (f_37 x1 x3 x2) x0 h0) S) (Ws.cons (fun S => run_any (hfr 28) (fun _ => rfl) (fun _ => rfl) (map_all (f_36 x3 x2) x1 h1) S) (Ws.cons (fun S => run_any (hfr 28) (fun _ => rfl) (fun _ => rfl) (map_all (f_35 x3) x2 h2) S) (Ws.cons (fun S => run_any (hfr 28) (fun _ => rfl) (fun _ => rfl) (map_all (f_34) x3 h3) S) (Ws.cons (fun S => run_any (hfr 28) (fun _ => rfl) (fun _ => rfl) (f_33) S) Ws.nil))))) (show (16 : Nat) < 17 from by decide) (show (5 : Nat) < LINE from by decide)) (show ((xLst false (aCons (xV 10) (aCons (xC (.d (.str "table"))) (aCons (xV 11) (aCons (xV 12) (aCons (xC (.d (.str "fine"))) aNil))))))) (C 28) [some (.r 0), some (.d (.tuple [.tuple [.tuple [.int 1, .int 1], .tuple [.int 1, .int 1]], .tuple [.tuple [.int 0, .int 1], .tuple [.int 1, .int 1]]])), some (.d (.tuple [.int 1, .int 1])), some (.d (.tuple [.int 0, .int 1])), some (.d (x0)), some (.d (x1)), some (.d (x2)), some (.d (x3)), some (.d (x4)), some (.d (x5)), some (.d (cnt x0)), some (.d (cnt x2)), some (.d (cnt x3)), some (.fn i_chain), some (.lv [.co l__law_right_11, .co l__law_right_12, .co l__law_right_13, .co l__law_right_14, .co l__law_right_15]), none, none] [o6] = .ok (.d (.list [cnt x0, .str "table", cnt x2, cnt x3, .str "fine"])) [o6] from by kernel_rfl) rfl))
def law_right_s9_t : TSt := (sFor (iV (xTup (aCons (xC (.fn i_does_need)) (aCons (xC (.fn i_chain)) aNil)))) (gV 13)
 (sSeq (sSet 14 (xLst false (aCons (xLam l__law_right_11) (aCons (xLam l__law_right_12) (aCons (xLam l__law_right_13) (aCons (xLam l__law_right_14) (aCons (xLam l__law_right_15) aNil)))))))
 (sIf (tCmp .ne (xLcL n__law_right false [16] (iV (xV 14)) (gV 16) tYes (xCall i__law_word (aCons (xV 16) aNil) [])) (xLst false (aCons (xV 10) (aCons (xC (.d (.str "table"))) (aCons (xV 11) (aCons (xV 12) (aCons (xC (.d (.str "fine"))) aNil)))))))
 (sRet (xC (.d (.bool false))))
 sPass)))
theorem law_right_s9 {x0 x1 x2 x3 x4 x5 : D} {o6 : Ob} (h3 : x3 ∈ m_3) (h2 : x2 ∈ m_2) (h1 : x1 ∈ m_1) (h0 : x0 ∈ m_0) : law_right_s9_t (C 28) [some (.r 0), some (.d (.tuple [.tuple [.tuple [.int 1, .int 1], .tuple [.int 1, .int 1]], .tuple [.tuple [.int 0, .int 1], .tuple [.int 1, .int 1]]])), some (.d (.tuple [.int 1, .int 1])), some (.d (.tuple [.int 0, .int 1])), some (.d (x0)), some (.d (x1)), some (.d (x2)), some (.d (x3)), some (.d (x4)), some (.d (x5)), some (.d (cnt x0)), some (.d (cnt x2)), some (.d (cnt x3)), some (.fn i_period), some (.lv [.co l__law_right_16, .co l__law_right_17, .co l__law_right_18, .co l__law_right_19]), none, none] [o6] = .nx [some (.r 0), some (.d (.tuple [.tuple [.tuple [.int 1, .int 1], .tuple [.int 1, .int 1]], .tuple [.tuple [.int 0, .int 1], .tuple [.int 1, .int 1]]])), some (.d (.tuple [.int 1, .int 1])), some (.d (.tuple [.int 0, .int 1])), some (.d (x0)), some (.d (x1)), some (.d (x2)), some (.d (x3)), some (.d (x4)), some (.d (x5)), some (.d (cnt x0)), some (.d (cnt x2)), some (.d (cnt x3)), some (.fn i_chain), some (.lv [.co l__law_right_11, .co l__law_right_12, .co l__law_right_13, .co l__law_right_14, .co l__law_right_15]), none, none] [o6] :=
  for_its (by kernel_rfl) (loop_cons (law_right_s9_f0 h3 h2 h1 h0) (loop_cons (law_right_s9_f1 h3 h2 h1 h0) loop_nil))
def law_right_s10_b : TSt := (sSeq (sSet 14 (xLst false (aCons (xLam l__law_right_7) (aCons (xLam l__law_right_8) (aCons (xLam l__law_right_9) (aCons (xLam l__law_right_10) aNil))))))
 (sIf (tCmp .ne (xLcL n__law_right false [16] (iV (xV 14)) (gV 16) tYes (xCall i__law_word (aCons (xV 16) aNil) [])) (xLst false (aCons (xV 10) (aCons (xC (.d (.str "table"))) (aCons (xC (.d (.str "operation"))) (aCons (xC (.d (.str "fine"))) aNil))))))
 (sRet (xC (.d (.bool false))))
 sPass))
theorem cl_11 {x0 x1 x2 x3 x4 x5 : D} : clsVs (cpOf n__law_right [some (.r 0), some (.d (.tuple [.tuple [.tuple [.int 1, .int 1], .tuple [.int 1, .int 1]], .tuple [.tuple [.int 0, .int 1], .tuple [.int 1, .int 1]]])), some (.d (.tuple [.int 1, .int 1])), some (.d (.tuple [.int 0, .int 1])), some (.d (x0)), some (.d (x1)), some (.d (x2)), some (.d (x3)), some (.d (x4)), some (.d (x5)), some (.d (cnt x0)), some (.d (cnt x2)), some (.d (cnt x3)), some (.fn i_part), some (.lv [.co l__law_right_7, .co l__law_right_8, .co l__law_right_9, .co l__law_right_10]), none, none]) [.co l__law_right_7, .co l__law_right_8, .co l__law_right_9, .co l__law_right_10] = some [.cv l__law_right_7 [.d (x1), .fn i_part, .d (x5), .d (x0)], .cv l__law_right_8 [.d (x1), .fn i_part, .d (x5)], .cv l__law_right_9 [.fn i_part, .d (x5), .d (.tuple [.tuple [.tuple [.int 1, .int 1], .tuple [.int 1, .int 1]], .tuple [.tuple [.int 0, .int 1], .tuple [.int 1, .int 1]]])], .cv l__law_right_10 [.fn i_part, .d (.tuple [.tuple [.tuple [.int 1, .int 1], .tuple [.int 1, .int 1]], .tuple [.tuple [.int 0, .int 1], .tuple [.int 1, .int 1]]])]] := by kernel_rfl
theorem f_38 : (C 28).call i__law_word [.cv l__law_right_10 [.fn i_part, .d (.tuple [.tuple [.tuple [.int 1, .int 1], .tuple [.int 1, .int 1]], .tuple [.tuple [.int 0, .int 1], .tuple [.int 1, .int 1]]])]] [] = .ok (.d (.str "fine")) [] := by kernel_rfl
theorem f_39 : (m_5.map fun x => (C 28).call i__law_word [.cv l__law_right_9 [.fn i_part, .d x, .d (.tuple [.tuple [.tuple [.int 1, .int 1], .tuple [.int 1, .int 1]], .tuple [.tuple [.int 0, .int 1], .tuple [.int 1, .int 1]]])]] []) = m_5.map fun x => .ok (.d (.str "operation")) [] := by kernel_rfl
theorem f_40 (x5 : D) : (m_1.map fun x => (C 28).call i__law_word [.cv l__law_right_8 [.d x, .fn i_part, .d (x5)]] []) = m_1.map fun x => .ok (.d (.str "table")) [] := by kernel_rfl
theorem f_41 (x1 x5 : D) : (m_0.map fun x => (C 28).call i__law_word [.cv l__law_right_7 [.d (x1), .fn i_part, .d (x5), .d x]] []) = m_0.map fun x => .ok (.d (cnt x)) [] := by kernel_rfl
theorem law_right_s10_f0 {x0 x1 x2 x3 x4 x5 : D} {o6 : Ob} (h5 : x5 ∈ m_5) (h1 : x1 ∈ m_1) (h0 : x0 ∈ m_0) : law_right_s10_b (C 28) [some (.r 0), some (.d (.tuple [.tuple [.tuple [.int 1, .int 1], .tuple [.int 1, .int 1]], .tuple [.tuple [.int 0, .int 1], .tuple [.int 1, .int 1]]])), some (.d (.tuple [.int 1, .int 1])), some (.d (.tuple [.int 0, .int 1])), some (.d (x0)), some (.d (x1)), some (.d (x2)), some (.d (x3)), some (.d (x4)), some (.d (x5)), some (.d (cnt x0)), some (.d (cnt x2)), some (.d (cnt x3)), some (.fn i_part), some (.lv [.co l__law_right_11, .co l__law_right_12, .co l__law_right_13, .co l__law_right_14, .co l__law_right_15]), none, none] [o6] = .nx [some (.r 0), some (.d (.tuple [.tuple [.tuple [.int 1, .int 1], .tuple [.int 1, .int 1]], .tuple [.tuple [.int 0, .int 1], .tuple [.int 1, .int 1]]])), some (.d (.tuple [.int 1, .int 1])), some (.d (.tuple [.int 0, .int 1])), some (.d (x0)), some (.d (x1)), some (.d (x2)), some (.d (x3)), some (.d (x4)), some (.d (x5)), some (.d (cnt x0)), some (.d (cnt x2)), some (.d (cnt x3)), some (.fn i_part), some (.lv [.co l__law_right_7, .co l__law_right_8, .co l__law_right_9, .co l__law_right_10]), none, none] [o6] :=
  ((seq_nx (set_nx (by kernel_rfl))).trans (if_ne (ws_lc rfl cl_11 (Ws.cons (fun S => run_any (hfr 28) (fun _ => rfl) (fun _ => rfl) (map_all (f_41 x1 x5) x0 h0) S) (Ws.cons (fun S => run_any (hfr 28) (fun _ => rfl) (fun _ => rfl) (map_all (f_40 x5) x1 h1) S) (Ws.cons (fun S => run_any (hfr 28) (fun _ => rfl) (fun _ => rfl) (map_all (f_39) x5 h5) S) (Ws.cons (fun S => run_any (hfr 28) (fun _ => rfl) (fun _ => rfl) (f_38) S) Ws.nil)))) (show (16 : Nat) < 17 from by decide) (show (4 : Nat) < LINE from by decide)) (show ((xLst false (aCons (xV 10) (aCons (xC (.d (.str "table"))) (aCons (xC (.d (.str "operation"))) (aCons (xC (.d (.str "fine"))) aNil)))))) (C 28) [some (.r 0), some (.d (.tuple [.tuple [.tuple [.int 1, .int 1], .tuple [.int 1, .int 1]], .tuple [.tuple [.int 0, .int 1], .tuple [.int 1, .int 1]]])), some (.d (.tuple [.int 1, .int 1])), some (.d (.tuple [.int 0, .int 1])), some (.d (x0)), some (.d (x1)), some (.d (x2)), some (.d (x3)), some (.d (x4)), some (.d (x5)), some (.d (cnt x0)), some (.d (cnt x2)), some (.d (cnt x3)), some (.fn i_part), some (.lv [.co l__law_right_7, .co l__law_right_8, .co l__law_right_9, .co l__law_right_10]), none, none] [o6] = .ok (.d (.list [cnt x0, .str "table", .str "operation", .str "fine"])) [o6] from by kernel_rfl) rfl))
theorem cl_12 {x0 x1 x2 x3 x4 x5 : D} : clsVs (cpOf n__law_right [some (.r 0), some (.d (.tuple [.tuple [.tuple [.int 1, .int 1], .tuple [.int 1, .int 1]], .tuple [.tuple [.int 0, .int 1], .tuple [.int 1, .int 1]]])), some (.d (.tuple [.int 1, .int 1])), some (.d (.tuple [.int 0, .int 1])), some (.d (x0)), some (.d (x1)), some (.d (x2)), some (.d (x3)), some (.d (x4)), some (.d (x5)), some (.d (cnt x0)), some (.d (cnt x2)), some (.d (cnt x3)), some (.fn i_is_closed), some (.lv [.co l__law_right_7, .co l__law_right_8, .co l__law_right_9, .co l__law_right_10]), none, none]) [.co l__law_right_7, .co l__law_right_8, .co l__law_right_9, .co l__law_right_10] = some [.cv l__law_right_7 [.d (x1), .fn i_is_closed, .d (x5), .d (x0)], .cv l__law_right_8 [.d (x1), .fn i_is_closed, .d (x5)], .cv l__law_right_9 [.fn i_is_closed, .d (x5), .d (.tuple [.tuple [.tuple [.int 1, .int 1], .tuple [.int 1, .int 1]], .tuple [.tuple [.int 0, .int 1], .tuple [.int 1, .int 1]]])], .cv l__law_right_10 [.fn i_is_closed, .d (.tuple [.tuple [.tuple [.int 1, .int 1], .tuple [.int 1, .int 1]], .tuple [.tuple [.int 0, .int 1], .tuple [.int 1, .int 1]]])]] := by kernel_rfl
theorem f_42 : (C 28).call i__law_word [.cv l__law_right_10 [.fn i_is_closed, .d (.tuple [.tuple [.tuple [.int 1, .int 1], .tuple [.int 1, .int 1]], .tuple [.tuple [.int 0, .int 1], .tuple [.int 1, .int 1]]])]] [] = .ok (.d (.str "fine")) [] := by kernel_rfl
theorem f_43 : (m_5.map fun x => (C 28).call i__law_word [.cv l__law_right_9 [.fn i_is_closed, .d x, .d (.tuple [.tuple [.tuple [.int 1, .int 1], .tuple [.int 1, .int 1]], .tuple [.tuple [.int 0, .int 1], .tuple [.int 1, .int 1]]])]] []) = m_5.map fun x => .ok (.d (.str "operation")) [] := by kernel_rfl
theorem f_44 (x5 : D) : (m_1.map fun x => (C 28).call i__law_word [.cv l__law_right_8 [.d x, .fn i_is_closed, .d (x5)]] []) = m_1.map fun x => .ok (.d (.str "table")) [] := by kernel_rfl
theorem f_45 (x1 x5 : D) : (m_0.map fun x => (C 28).call i__law_word [.cv l__law_right_7 [.d (x1), .fn i_is_closed, .d (x5), .d x]] []) = m_0.map fun x => .ok (.d (cnt x)) [] := by kernel_rfl
theorem law_right_s10_f1 {x0 x1 x2 x3 x4 x5 : D} {o6 : Ob} (h5 : x5 ∈ m_5) (h1 : x1 ∈ m_1) (h0 : x0 ∈ m_0) : law_right_s10_b (C 28) [some (.r 0), some (.d (.tuple [.tuple [.tuple [.int 1, .int 1], .tuple [.int 1, .int 1]], .tuple [.tuple [.int 0, .int 1], .tuple [.int 1, .int 1]]])), some (.d (.tuple [.int 1, .int 1])), some (.d (.tuple [.int 0, .int 1])), some (.d (x0)), some (.d (x1)), some (.d (x2)), some (.d (x3)), some (.d (x4)), some (.d (x5)), some (.d (cnt x0)), some (.d (cnt x2)), some (.d (cnt x3)), some (.fn i_is_closed), some (.lv [.co l__law_right_7, .co l__law_right_8, .co l__law_right_9, .co l__law_right_10]), none, none] [o6] = .nx [some (.r 0), some (.d (.tuple [.tuple [.tuple [.int 1, .int 1], .tuple [.int 1, .int 1]], .tuple [.tuple [.int 0, .int 1], .tuple [.int 1, .int 1]]])), some (.d (.tuple [.int 1, .int 1])), some (.d (.tuple [.int 0, .int 1])), some (.d (x0)), some (.d (x1)), some (.d (x2)), some (.d (x3)), some (.d (x4)), some (.d (x5)), some (.d (cnt x0)), some (.d (cnt x2)), some (.d (cnt x3)), some (.fn i_is_closed), some (.lv [.co l__law_right_7, .co l__law_right_8, .co l__law_right_9, .co l__law_right_10]), none, none] [o6] :=
  ((seq_nx (set_nx (by kernel_rfl))).trans (if_ne (ws_lc rfl cl_12 (Ws.cons (fun S => run_any (hfr 28) (fun _ => rfl) (fun _ => rfl) (map_all (f_45 x1 x5) x0 h0) S) (Ws.cons (fun S => run_any (hfr 28) (fun _ => rfl) (fun _ => rfl) (map_all (f_44 x5) x1 h1) S) (Ws.cons (fun S => run_any (hfr 28) (fun _ => rfl) (fun _ => rfl) (map_all (f_43) x5 h5) S) (Ws.cons (fun S => run_any (hfr 28) (fun _ => rfl) (fun _ => rfl) (f_42) S) Ws.nil)))) (show (16 : Nat) < 17 from by decide) (show (4 : Nat) < LINE from by decide)) (show ((xLst false (aCons (xV 10) (aCons (xC (.d (.str "table"))) (aCons (xC (.d (.str "operation"))) (aCons (xC (.d (.str "fine"))) aNil)))))) (C 28) [some (.r 0), some (.d (.tuple [.tuple [.tuple [.int 1, .int 1], .tuple [.int 1, .int 1]], .tuple [.tuple [.int 0, .int 1], .tuple [.int 1, .int 1]]])), some (.d (.tuple [.int 1, .int 1])), some (.d (.tuple [.int 0, .int 1])), some (.d (x0)), some (.d (x1)), some (.d (x2)), some (.d (x3)), some (.d (x4)), some (.d (x5)), some (.d (cnt x0)), some (.d (cnt x2)), some (.d (cnt x3)), some (.fn i_is_closed), some (.lv [.co l__law_right_7, .co l__law_right_8, .co l__law_right_9, .co l__law_right_10]), none, none] [o6] = .ok (.d (.list [cnt x0, .str "table", .str "operation", .str "fine"])) [o6] from by kernel_rfl) rfl))
def law_right_s10_t : TSt := (sFor (iV (xTup (aCons (xC (.fn i_part)) (aCons (xC (.fn i_is_closed)) aNil)))) (gV 13)
 (sSeq (sSet 14 (xLst false (aCons (xLam l__law_right_7) (aCons (xLam l__law_right_8) (aCons (xLam l__law_right_9) (aCons (xLam l__law_right_10) aNil))))))
 (sIf (tCmp .ne (xLcL n__law_right false [16] (iV (xV 14)) (gV 16) tYes (xCall i__law_word (aCons (xV 16) aNil) [])) (xLst false (aCons (xV 10) (aCons (xC (.d (.str "table"))) (aCons (xC (.d (.str "operation"))) (aCons (xC (.d (.str "fine"))) aNil))))))
 (sRet (xC (.d (.bool false))))
 sPass)))
theorem law_right_s10 {x0 x1 x2 x3 x4 x5 : D} {o6 : Ob} (h5 : x5 ∈ m_5) (h1 : x1 ∈ m_1) (h0 : x0 ∈ m_0) : law_right_s10_t (C 28) [some (.r 0), some (.d (.tuple [.tuple [.tuple [.int 1, .int 1], .tuple [.int 1, .int 1]], .tuple [.tuple [.int 0, .int 1], .tuple [.int 1, .int 1]]])), some (.d (.tuple [.int 1, .int 1])), some (.d (.tuple [.int 0, .int 1])), some (.d (x0)), some (.d (x1)), some (.d (x2)), some (.d (x3)), some (.d (x4)), some (.d (x5)), some (.d (cnt x0)), some (.d (cnt x2)), some (.d (cnt x3)), some (.fn i_chain), some (.lv [.co l__law_right_11, .co l__law_right_12, .co l__law_right_13, .co l__law_right_14, .co l__law_right_15]), none, none] [o6] = .nx [some (.r 0), some (.d (.tuple [.tuple [.tuple [.int 1, .int 1], .tuple [.int 1, .int 1]], .tuple [.tuple [.int 0, .int 1], .tuple [.int 1, .int 1]]])), some (.d (.tuple [.int 1, .int 1])), some (.d (.tuple [.int 0, .int 1])), some (.d (x0)), some (.d (x1)), some (.d (x2)), some (.d (x3)), some (.d (x4)), some (.d (x5)), some (.d (cnt x0)), some (.d (cnt x2)), some (.d (cnt x3)), some (.fn i_is_closed), some (.lv [.co l__law_right_7, .co l__law_right_8, .co l__law_right_9, .co l__law_right_10]), none, none] [o6] :=
  for_its (by kernel_rfl) (loop_cons (law_right_s10_f0 h5 h1 h0) (loop_cons (law_right_s10_f1 h5 h1 h0) loop_nil))
def law_right_s11_t : TSt := (sSet 14 (xLst false (aCons (xLam l__law_right_0) (aCons (xLam l__law_right_1) (aCons (xLam l__law_right_2) (aCons (xLam l__law_right_3) (aCons (xLam l__law_right_4) (aCons (xLam l__law_right_5) (aCons (xLam l__law_right_6) aNil)))))))))
theorem law_right_s11 {x0 x1 x2 x3 x4 x5 : D} {o6 : Ob} : law_right_s11_t (C 28) [some (.r 0), some (.d (.tuple [.tuple [.tuple [.int 1, .int 1], .tuple [.int 1, .int 1]], .tuple [.tuple [.int 0, .int 1], .tuple [.int 1, .int 1]]])), some (.d (.tuple [.int 1, .int 1])), some (.d (.tuple [.int 0, .int 1])), some (.d (x0)), some (.d (x1)), some (.d (x2)), some (.d (x3)), some (.d (x4)), some (.d (x5)), some (.d (cnt x0)), some (.d (cnt x2)), some (.d (cnt x3)), some (.fn i_is_closed), some (.lv [.co l__law_right_7, .co l__law_right_8, .co l__law_right_9, .co l__law_right_10]), none, none] [o6] = .nx [some (.r 0), some (.d (.tuple [.tuple [.tuple [.int 1, .int 1], .tuple [.int 1, .int 1]], .tuple [.tuple [.int 0, .int 1], .tuple [.int 1, .int 1]]])), some (.d (.tuple [.int 1, .int 1])), some (.d (.tuple [.int 0, .int 1])), some (.d (x0)), some (.d (x1)), some (.d (x2)), some (.d (x3)), some (.d (x4)), some (.d (x5)), some (.d (cnt x0)), some (.d (cnt x2)), some (.d (cnt x3)), some (.fn i_is_closed), some (.lv [.co l__law_right_0, .co l__law_right_1, .co l__law_right_2, .co l__law_right_3, .co l__law_right_4, .co l__law_right_5, .co l__law_right_6]), none, none] [o6] :=
  set_nx (by kernel_rfl)
theorem cok_4 : ∀ x ∈ m_4, cntOk x = true := by
  have h : (m_4.all cntOk) = true := by decide +kernel
  exact fun x hx => List.all_eq_true.mp h x hx
def law_right_s12_t : TSt := (sSet 15 (xLst false (aCons (xV 10) (aCons (xC (.d (.str "table"))) (aCons (xV 11) (aCons (xV 12) (aCons (xBin .add false (xC (.d (.str "count "))) (xB bRepr (aCons (xV 8) aNil))) (aCons (xC (.d (.str "fine"))) (aCons (xC (.d (.str "refused ('apart',)"))) aNil)))))))))
theorem law_right_s12 {x0 x1 x2 x3 x4 x5 : D} {o6 : Ob} (h4 : x4 ∈ m_4) : law_right_s12_t (C 28) [some (.r 0), some (.d (.tuple [.tuple [.tuple [.int 1, .int 1], .tuple [.int 1, .int 1]], .tuple [.tuple [.int 0, .int 1], .tuple [.int 1, .int 1]]])), some (.d (.tuple [.int 1, .int 1])), some (.d (.tuple [.int 0, .int 1])), some (.d (x0)), some (.d (x1)), some (.d (x2)), some (.d (x3)), some (.d (x4)), some (.d (x5)), some (.d (cnt x0)), some (.d (cnt x2)), some (.d (cnt x3)), some (.fn i_is_closed), some (.lv [.co l__law_right_0, .co l__law_right_1, .co l__law_right_2, .co l__law_right_3, .co l__law_right_4, .co l__law_right_5, .co l__law_right_6]), none, none] [o6] = .nx [some (.r 0), some (.d (.tuple [.tuple [.tuple [.int 1, .int 1], .tuple [.int 1, .int 1]], .tuple [.tuple [.int 0, .int 1], .tuple [.int 1, .int 1]]])), some (.d (.tuple [.int 1, .int 1])), some (.d (.tuple [.int 0, .int 1])), some (.d (x0)), some (.d (x1)), some (.d (x2)), some (.d (x3)), some (.d (x4)), some (.d (x5)), some (.d (cnt x0)), some (.d (cnt x2)), some (.d (cnt x3)), some (.fn i_is_closed), some (.lv [.co l__law_right_0, .co l__law_right_1, .co l__law_right_2, .co l__law_right_3, .co l__law_right_4, .co l__law_right_5, .co l__law_right_6]), some (.d (.list [cnt x0, .str "table", cnt x2, cnt x3, cnt x4, .str "fine", .str "refused ('apart',)"])), none] [o6] :=
  set_nx (lst_e (args_cons (show ((xV 10)) (C 28) [some (.r 0), some (.d (.tuple [.tuple [.tuple [.int 1, .int 1], .tuple [.int 1, .int 1]], .tuple [.tuple [.int 0, .int 1], .tuple [.int 1, .int 1]]])), some (.d (.tuple [.int 1, .int 1])), some (.d (.tuple [.int 0, .int 1])), some (.d (x0)), some (.d (x1)), some (.d (x2)), some (.d (x3)), some (.d (x4)), some (.d (x5)), some (.d (cnt x0)), some (.d (cnt x2)), some (.d (cnt x3)), some (.fn i_is_closed), some (.lv [.co l__law_right_0, .co l__law_right_1, .co l__law_right_2, .co l__law_right_3, .co l__law_right_4, .co l__law_right_5, .co l__law_right_6]), none, none] [o6] = .ok (.d (cnt x0)) [o6] from by kernel_rfl) (args_cons (show ((xC (.d (.str "table")))) (C 28) [some (.r 0), some (.d (.tuple [.tuple [.tuple [.int 1, .int 1], .tuple [.int 1, .int 1]], .tuple [.tuple [.int 0, .int 1], .tuple [.int 1, .int 1]]])), some (.d (.tuple [.int 1, .int 1])), some (.d (.tuple [.int 0, .int 1])), some (.d (x0)), some (.d (x1)), some (.d (x2)), some (.d (x3)), some (.d (x4)), some (.d (x5)), some (.d (cnt x0)), some (.d (cnt x2)), some (.d (cnt x3)), some (.fn i_is_closed), some (.lv [.co l__law_right_0, .co l__law_right_1, .co l__law_right_2, .co l__law_right_3, .co l__law_right_4, .co l__law_right_5, .co l__law_right_6]), none, none] [o6] = .ok (.d (.str "table")) [o6] from by kernel_rfl) (args_cons (show ((xV 11)) (C 28) [some (.r 0), some (.d (.tuple [.tuple [.tuple [.int 1, .int 1], .tuple [.int 1, .int 1]], .tuple [.tuple [.int 0, .int 1], .tuple [.int 1, .int 1]]])), some (.d (.tuple [.int 1, .int 1])), some (.d (.tuple [.int 0, .int 1])), some (.d (x0)), some (.d (x1)), some (.d (x2)), some (.d (x3)), some (.d (x4)), some (.d (x5)), some (.d (cnt x0)), some (.d (cnt x2)), some (.d (cnt x3)), some (.fn i_is_closed), some (.lv [.co l__law_right_0, .co l__law_right_1, .co l__law_right_2, .co l__law_right_3, .co l__law_right_4, .co l__law_right_5, .co l__law_right_6]), none, none] [o6] = .ok (.d (cnt x2)) [o6] from by kernel_rfl) (args_cons (show ((xV 12)) (C 28) [some (.r 0), some (.d (.tuple [.tuple [.tuple [.int 1, .int 1], .tuple [.int 1, .int 1]], .tuple [.tuple [.int 0, .int 1], .tuple [.int 1, .int 1]]])), some (.d (.tuple [.int 1, .int 1])), some (.d (.tuple [.int 0, .int 1])), some (.d (x0)), some (.d (x1)), some (.d (x2)), some (.d (x3)), some (.d (x4)), some (.d (x5)), some (.d (cnt x0)), some (.d (cnt x2)), some (.d (cnt x3)), some (.fn i_is_closed), some (.lv [.co l__law_right_0, .co l__law_right_1, .co l__law_right_2, .co l__law_right_3, .co l__law_right_4, .co l__law_right_5, .co l__law_right_6]), none, none] [o6] = .ok (.d (cnt x3)) [o6] from by kernel_rfl) (args_cons (cnt_e (cok_4 x4 h4) rfl) (args_cons (show ((xC (.d (.str "fine")))) (C 28) [some (.r 0), some (.d (.tuple [.tuple [.tuple [.int 1, .int 1], .tuple [.int 1, .int 1]], .tuple [.tuple [.int 0, .int 1], .tuple [.int 1, .int 1]]])), some (.d (.tuple [.int 1, .int 1])), some (.d (.tuple [.int 0, .int 1])), some (.d (x0)), some (.d (x1)), some (.d (x2)), some (.d (x3)), some (.d (x4)), some (.d (x5)), some (.d (cnt x0)), some (.d (cnt x2)), some (.d (cnt x3)), some (.fn i_is_closed), some (.lv [.co l__law_right_0, .co l__law_right_1, .co l__law_right_2, .co l__law_right_3, .co l__law_right_4, .co l__law_right_5, .co l__law_right_6]), none, none] [o6] = .ok (.d (.str "fine")) [o6] from by kernel_rfl) (args_cons (show ((xC (.d (.str "refused ('apart',)")))) (C 28) [some (.r 0), some (.d (.tuple [.tuple [.tuple [.int 1, .int 1], .tuple [.int 1, .int 1]], .tuple [.tuple [.int 0, .int 1], .tuple [.int 1, .int 1]]])), some (.d (.tuple [.int 1, .int 1])), some (.d (.tuple [.int 0, .int 1])), some (.d (x0)), some (.d (x1)), some (.d (x2)), some (.d (x3)), some (.d (x4)), some (.d (x5)), some (.d (cnt x0)), some (.d (cnt x2)), some (.d (cnt x3)), some (.fn i_is_closed), some (.lv [.co l__law_right_0, .co l__law_right_1, .co l__law_right_2, .co l__law_right_3, .co l__law_right_4, .co l__law_right_5, .co l__law_right_6]), none, none] [o6] = .ok (.d (.str "refused ('apart',)")) [o6] from by kernel_rfl) args_nil))))))) rfl)
theorem cl_13 {x0 x1 x2 x3 x4 x5 : D} : clsVs (cpOf n__law_right [some (.r 0), some (.d (.tuple [.tuple [.tuple [.int 1, .int 1], .tuple [.int 1, .int 1]], .tuple [.tuple [.int 0, .int 1], .tuple [.int 1, .int 1]]])), some (.d (.tuple [.int 1, .int 1])), some (.d (.tuple [.int 0, .int 1])), some (.d (x0)), some (.d (x1)), some (.d (x2)), some (.d (x3)), some (.d (x4)), some (.d (x5)), some (.d (cnt x0)), some (.d (cnt x2)), some (.d (cnt x3)), some (.fn i_is_closed), some (.lv [.co l__law_right_0, .co l__law_right_1, .co l__law_right_2, .co l__law_right_3, .co l__law_right_4, .co l__law_right_5, .co l__law_right_6]), some (.d (.list [cnt x0, .str "table", cnt x2, cnt x3, cnt x4, .str "fine", .str "refused ('apart',)"])), none]) [.co l__law_right_0, .co l__law_right_1, .co l__law_right_2, .co l__law_right_3, .co l__law_right_4, .co l__law_right_5, .co l__law_right_6] = some [.cv l__law_right_0 [.d (x1), .d (x3), .d (x0), .d (x4), .d (x2)], .cv l__law_right_1 [.d (x1), .d (x3), .d (x4), .d (x2)], .cv l__law_right_2 [.d (x3), .d (.tuple [.tuple [.tuple [.int 1, .int 1], .tuple [.int 1, .int 1]], .tuple [.tuple [.int 0, .int 1], .tuple [.int 1, .int 1]]]), .d (x4), .d (x2)], .cv l__law_right_3 [.d (x3), .d (.tuple [.tuple [.tuple [.int 1, .int 1], .tuple [.int 1, .int 1]], .tuple [.tuple [.int 0, .int 1], .tuple [.int 1, .int 1]]]), .d (x4)], .cv l__law_right_4 [.d (.tuple [.tuple [.tuple [.int 1, .int 1], .tuple [.int 1, .int 1]], .tuple [.tuple [.int 0, .int 1], .tuple [.int 1, .int 1]]]), .d (x4)], .cv l__law_right_5 [.d (.tuple [.tuple [.tuple [.int 1, .int 1], .tuple [.int 1, .int 1]], .tuple [.tuple [.int 0, .int 1], .tuple [.int 1, .int 1]]])], .cv l__law_right_6 [.d (.tuple [.tuple [.tuple [.int 1, .int 1], .tuple [.int 1, .int 1]], .tuple [.tuple [.int 0, .int 1], .tuple [.int 1, .int 1]]])]] := by kernel_rfl
theorem f_46 : (C 28).call i__law_word [.cv l__law_right_6 [.d (.tuple [.tuple [.tuple [.int 1, .int 1], .tuple [.int 1, .int 1]], .tuple [.tuple [.int 0, .int 1], .tuple [.int 1, .int 1]]])]] [] = .ok (.d (.str "refused ('apart',)")) [] := by kernel_rfl
theorem f_47 : (C 28).call i__law_word [.cv l__law_right_5 [.d (.tuple [.tuple [.tuple [.int 1, .int 1], .tuple [.int 1, .int 1]], .tuple [.tuple [.int 0, .int 1], .tuple [.int 1, .int 1]]])]] [] = .ok (.d (.str "fine")) [] := by kernel_rfl
theorem f_48 : (m_4.map fun x => (C 28).call i__law_word [.cv l__law_right_4 [.d (.tuple [.tuple [.tuple [.int 1, .int 1], .tuple [.int 1, .int 1]], .tuple [.tuple [.int 0, .int 1], .tuple [.int 1, .int 1]]]), .d x]] []) = m_4.map fun x => .ok (.d (cnt x)) [] := by kernel_rfl
theorem f_49 (x4 : D) : (m_3.map fun x => (C 28).call i__law_word [.cv l__law_right_3 [.d x, .d (.tuple [.tuple [.tuple [.int 1, .int 1], .tuple [.int 1, .int 1]], .tuple [.tuple [.int 0, .int 1], .tuple [.int 1, .int 1]]]), .d (x4)]] []) = m_3.map fun x => .ok (.d (cnt x)) [] := by kernel_rfl
theorem f_50 (x3 x4 : D) : (m_2.map fun x => (C 28).call i__law_word [.cv l__law_right_2 [.d (x3), .d (.tuple [.tuple [.tuple [.int 1, .int 1], .tuple [.int 1, .int 1]], .tuple [.tuple [.int 0, .int 1], .tuple [.int 1, .int 1]]]), .d (x4), .d x]] []) = m_2.map fun x => .ok (.d (cnt x)) [] := by kernel_rfl
theorem f_51 (x3 x4 x2 : D) : (m_1.map fun x => (C 28).call i__law_word [.cv l__law_right_1 [.d x, .d (x3), .d (x4), .d (x2)]] []) = m_1.map fun x => .ok (.d (.str "table")) [] := by kernel_rfl
theorem f_52 (x1 x3 x4 x2 : D) : (m_0.map fun x => (C 28).call i__law_word [.cv l__law_right_0 [.d (x1), .d (x3), .d x, .d (x4), .d (x2)]] []) = m_0.map fun x => .ok (.d (cnt x)) [] := by kernel_rfl
def law_right_s13_t : TSt := (sRet (xCmp .eq (xLcL n__law_right false [13] (iV (xV 14)) (gV 13) tYes (xCall i__law_word (aCons (xV 13) aNil) [])) (xV 15)))
theorem law_right_s13 {x0 x1 x2 x3 x4 x5 : D} {o6 : Ob} (h4 : x4 ∈ m_4) (h3 : x3 ∈ m_3) (h2 : x2 ∈ m_2) (h1 : x1 ∈ m_1) (h0 : x0 ∈ m_0) : law_right_s13_t (C 28) [some (.r 0), some (.d (.tuple [.tuple [.tuple [.int 1, .int 1], .tuple [.int 1, .int 1]], .tuple [.tuple [.int 0, .int 1], .tuple [.int 1, .int 1]]])), some (.d (.tuple [.int 1, .int 1])), some (.d (.tuple [.int 0, .int 1])), some (.d (x0)), some (.d (x1)), some (.d (x2)), some (.d (x3)), some (.d (x4)), some (.d (x5)), some (.d (cnt x0)), some (.d (cnt x2)), some (.d (cnt x3)), some (.fn i_is_closed), some (.lv [.co l__law_right_0, .co l__law_right_1, .co l__law_right_2, .co l__law_right_3, .co l__law_right_4, .co l__law_right_5, .co l__law_right_6]), some (.d (.list [cnt x0, .str "table", cnt x2, cnt x3, cnt x4, .str "fine", .str "refused ('apart',)"])), none] [o6] = .rt (B true) [o6] :=
  (ret_eq (ws_lc rfl cl_13 (Ws.cons (fun S => run_any (hfr 28) (fun _ => rfl) (fun _ => rfl) (map_all (f_52 x1 x3 x4 x2) x0 h0) S) (Ws.cons (fun S => run_any (hfr 28) (fun _ => rfl) (fun _ => rfl) (map_all (f_51 x3 x4 x2) x1 h1) S) (Ws.cons (fun S => run_any (hfr 28) (fun _ => rfl) (fun _ => rfl) (map_all (f_50 x3 x4) x2 h2) S) (Ws.cons (fun S => run_any (hfr 28) (fun _ => rfl) (fun _ => rfl) (map_all (f_49 x4) x3 h3) S) (Ws.cons (fun S => run_any (hfr 28) (fun _ => rfl) (fun _ => rfl) (map_all (f_48) x4 h4) S) (Ws.cons (fun S => run_any (hfr 28) (fun _ => rfl) (fun _ => rfl) (f_47) S) (Ws.cons (fun S => run_any (hfr 28) (fun _ => rfl) (fun _ => rfl) (f_46) S) Ws.nil))))))) (show (13 : Nat) < 17 from by decide) (show (7 : Nat) < LINE from by decide)) (show ((xV 15)) (C 28) [some (.r 0), some (.d (.tuple [.tuple [.tuple [.int 1, .int 1], .tuple [.int 1, .int 1]], .tuple [.tuple [.int 0, .int 1], .tuple [.int 1, .int 1]]])), some (.d (.tuple [.int 1, .int 1])), some (.d (.tuple [.int 0, .int 1])), some (.d (x0)), some (.d (x1)), some (.d (x2)), some (.d (x3)), some (.d (x4)), some (.d (x5)), some (.d (cnt x0)), some (.d (cnt x2)), some (.d (cnt x3)), some (.fn i_is_closed), some (.lv [.co l__law_right_0, .co l__law_right_1, .co l__law_right_2, .co l__law_right_3, .co l__law_right_4, .co l__law_right_5, .co l__law_right_6]), some (.d (.list [cnt x0, .str "table", cnt x2, cnt x3, cnt x4, .str "fine", .str "refused ('apart',)"])), none] [o6] = .ok (.d (.list [cnt x0, .str "table", cnt x2, cnt x3, cnt x4, .str "fine", .str "refused ('apart',)"])) [o6] from by kernel_rfl) rfl)
theorem r_right_seq : b__law_right = (sSeq law_right_s0_t (sSeq law_right_s1_t (sSeq law_right_s2_t (sSeq law_right_s3_t (sSeq law_right_s4_t (sSeq law_right_s5_t (sSeq law_right_s6_t (sSeq law_right_s7_t (sSeq law_right_s8_t (sSeq law_right_s9_t (sSeq law_right_s10_t (sSeq law_right_s11_t (sSeq law_right_s12_t law_right_s13_t))))))))))))) := by kernel_rfl
theorem r_right (a b c : Int) : ∃ a' b' c' : Int, (C 29).call i__law_right [.r 0, .d (.tuple [.tuple [.tuple [.int 1, .int 1], .tuple [.int 1, .int 1]], .tuple [.tuple [.int 0, .int 1], .tuple [.int 1, .int 1]]])] [.lst [.int a, .int b, .int c]] = .ok (B true) [.lst [.int a', .int b', .int c']] := by
  obtain ⟨x0, a0, b0, c0, h0, e0⟩ := r_pick 26 a b c m_0 (by decide) (by decide)
  obtain ⟨x1, a1, b1, c1, h1, e1⟩ := r_pick 26 a0 b0 c0 m_1 (by decide) (by decide)
  obtain ⟨x2, a2, b2, c2, h2, e2⟩ := r_pick 26 a1 b1 c1 m_2 (by decide) (by decide)
  obtain ⟨x3, a3, b3, c3, h3, e3⟩ := r_pick 26 a2 b2 c2 m_3 (by decide) (by decide)
  obtain ⟨x4, a4, b4, c4, h4, e4⟩ := r_pick 26 a3 b3 c3 m_4 (by decide) (by decide)
  obtain ⟨x5, a5, b5, c5, h5, e5⟩ := r_pick 26 a4 b4 c4 m_5 (by decide) (by decide)
  refine ⟨a5, b5, c5, ?_⟩
  have hr : b__law_right (C 28) [some (.r 0), some (.d (.tuple [.tuple [.tuple [.int 1, .int 1], .tuple [.int 1, .int 1]], .tuple [.tuple [.int 0, .int 1], .tuple [.int 1, .int 1]]])), none, none, none, none, none, none, none, none, none, none, none, none, none, none, none] [.lst [.int a, .int b, .int c]] = .rt (B true) [.lst [.int a5, .int b5, .int c5]] := by
    rw [r_right_seq]
    exact ((seq_nx (law_right_s0 )).trans ((seq_nx (law_right_s1 e0)).trans ((seq_nx (law_right_s2 e1)).trans ((seq_nx (law_right_s3 e2 e3)).trans ((seq_nx (law_right_s4 e4)).trans ((seq_nx (law_right_s5 e5)).trans ((seq_nx (law_right_s6 h0 h2 h3)).trans ((seq_nx (law_right_s7 h1 h0)).trans ((seq_nx (law_right_s8 h2 h1 h0)).trans ((seq_nx (law_right_s9 h3 h2 h1 h0)).trans ((seq_nx (law_right_s10 h5 h1 h0)).trans ((seq_nx (law_right_s11 )).trans ((seq_nx (law_right_s12 h4)).trans (law_right_s13 h4 h3 h2 h1 h0))))))))))))))
  unfold C at hr ⊢
  rw [call_at t__law_right]
  show (match b__law_right (cls (tabOf ds) (lamFn g0 30) 28) [some (.r 0), some (.d (.tuple [.tuple [.tuple [.int 1, .int 1], .tuple [.int 1, .int 1]], .tuple [.tuple [.int 0, .int 1], .tuple [.int 1, .int 1]]])), none, none, none, none, none, none, none, none, none, none, none, none, none, none, none] [.lst [.int a, .int b, .int c]] with
    | .rt v S' => fin false 1 v S'
    | .nx _ S' => fin false 1 (.d .none) S'
    | .er k x _ S' => .er k x (S'.take 1)
    | _ => .stuck) = _
  rw [hr]
  rfl

def tabV : D := .tuple [.tuple [.tuple [.int 1, .int 1], .tuple [.int 1, .int 1]], .tuple [.tuple [.int 0, .int 1], .tuple [.int 1, .int 1]]]
theorem r_rightS (S : Store) (a b c : Int) : ∃ a' b' c' : Int, (C 29).call i__law_right [.r S.length, .d tabV] (S ++ [.lst [.int a, .int b, .int c]]) = .ok (B true) (S ++ [.lst [.int a', .int b', .int c']]) := by
  obtain ⟨a', b', c', e⟩ := r_right a b c
  refine ⟨a', b', c', ?_⟩
  have h := (hfr 29).call S [.lst [.int a, .int b, .int c]] i__law_right [.r 0, .d tabV]
  unfold tabV at h ⊢
  rw [e] at h
  have e0 : ∀ x : D, [Vl.r 0, .d x].map (sh S.length) = [.r S.length, .d x] := fun x => by
    show [Vl.r (0 + S.length), .d x] = _
    rw [Nat.zero_add]
  rw [e0] at h
  exact h
def turnB : TSt := sIf (tNot (tV (xCallL n_law i__law_right (aCons (xV 5) (aCons (xV 3) aNil)) []))) (sRet (xC (.d (.bool false)))) sPass
theorem inner_loop (S : Store) : ∀ (ts : List Vl) (x0 x1 x2 x4 x6 x7 : Option Vl) (a b c : Int),
    ∃ (y : Option Vl) (S' : Store), fLoop (gV 6) turnB (C 29) ts [x0, x1, x2, some (.d tabV), x4, some (.r S.length), x6, x7] (S ++ [.lst [.int a, .int b, .int c]]) = .nx [x0, x1, x2, some (.d tabV), x4, some (.r S.length), y, x7] S'
  | [], x0, x1, x2, x4, x6, x7, a, b, c => ⟨x6, _, rfl⟩
  | t :: ts, x0, x1, x2, x4, x6, x7, a, b, c => by
    obtain ⟨a', b', c', e⟩ := r_rightS S a b c
    obtain ⟨y, S', e2⟩ := inner_loop S ts x0 x1 x2 x4 (some t) x7 a' b' c'
    refine ⟨y, S', ?_⟩
    unfold fLoop
    unfold turnB at e2 ⊢
    simp [runFn, sRet, sSeq, sSet, sAsg, sPar, sPar3, sIf, sExpr, sPass, xV, xC, xBin, xCmp, xCmp2, xNeg, xNot, xAnd, xOr, xIf, xTup, xLst, xIx, xB, xIs, xCall, tV, tNot, tAnd, tOr, tCmp, tCmp2, tYes, aNil, aCons, bin, cmp, dat, dko, tru, ix, at?, I, B, mkTup, allD, mkLst, fin_d, gV, gNil, gCons, gTup, bLen, bAbs, bMax, bMin, bInt, bTuple, isA, xCallL, clsVs, clsV, e, e2]
def spotB : TSt := sSeq (sSet 5 (xCallL n_law i__law_dice (aCons (xV 0) (aCons (xV 4) aNil)) [])) (sFor (iRng1 (xC (.d (.int 4)))) (gV 6) turnB)
theorem outer_loop (ns : List Int) : ∀ (ts : List Vl) (x1 x2 x4 x5 x6 x7 : Option Vl) (S : Store), (∀ t ∈ ts, ∃ v : Int, t = I v ∧ 0 ≤ v) →
    ∃ (y1 y2 y3 : Option Vl) (S' : Store), fLoop (gV 4) spotB (C 29) ts [some (.sc (ns.map .int)), x1, x2, some (.d tabV), x4, x5, x6, x7] S = .nx [some (.sc (ns.map .int)), x1, x2, some (.d tabV), y1, y2, y3, x7] S'
  | [], x1, x2, x4, x5, x6, x7, S, _ => ⟨x4, x5, x6, S, rfl⟩
  | t :: ts, x1, x2, x4, x5, x6, x7, S, h => by
    obtain ⟨v, rfl, hv⟩ := h t List.mem_cons_self
    obtain ⟨a, b, c, e⟩ := r_dice 28 ns v hv S
    obtain ⟨y, S', e2⟩ := inner_loop S (rng 0 4) (some (.sc (ns.map .int))) x1 x2 (some (I v)) x6 x7 a b c
    obtain ⟨y1, y2, y3, S2, e3⟩ := outer_loop ns ts x1 x2 (some (I v)) (some (.r S.length)) y x7 S' fun t ht => h t (List.mem_cons_of_mem _ ht)
    refine ⟨y1, y2, y3, S2, ?_⟩
    have hr : rngOk 4 = true := by decide
    have e' : (C 29).call i__law_dice [.sc (ns.map .int), I v] S = .ok (.r S.length) (S ++ [.lst [.int a, .int b, .int c]]) := e
    unfold fLoop
    unfold spotB at e3 ⊢
    simp [I] at e' e2 e3
    simp [runFn, sRet, sSeq, sSet, sAsg, sPar, sPar3, sIf, sExpr, sPass, xV, xC, xBin, xCmp, xCmp2, xNeg, xNot, xAnd, xOr, xIf, xTup, xLst, xIx, xB, xIs, xCall, tV, tNot, tAnd, tOr, tCmp, tCmp2, tYes, aNil, aCons, bin, cmp, dat, dko, tru, ix, at?, I, B, mkTup, allD, mkLst, fin_d, gV, gNil, gCons, gTup, bLen, bAbs, bMax, bMin, bInt, bTuple, isA, xCallL, clsVs, clsV, sFor, iRng1, hr, e', e2, e3]
def wideV : D := .tuple (List.replicate 12 (.tuple (List.replicate 12 (.tuple [.int 0, .int 1]))))
theorem w0 : (C 29).call i__law_word [.cv l_law_0 [.d wideV]] [] = .ok (.d (.str "fine")) [] := by kernel_rfl
theorem c0 (x0 x1 x2 x3 x4 x5 x6 : Option Vl) : cpOf n_law [x0, x1, x2, x3, x4, x5, x6, some (.d wideV)] l_law_0 = some [.d wideV] := by kernel_rfl
def tailB : TSt := (sSeq (sSet 7 (xBin .mul false (xTup (aCons (xBin .mul false (xTup (aCons (xV 2) aNil)) (xC (.d (.int 12)))) aNil)) (xC (.d (.int 12)))))
 (sRet (xAnd (xCmp .eq (xCallL n_law i__law_word (aCons (xLam l_law_0) aNil) []) (xC (.d (.str "fine")))) (xCmp .eq (xV 3) (xTup (aCons (xTup (aCons (xV 1) (aCons (xV 1) aNil))) (aCons (xTup (aCons (xV 2) (aCons (xV 1) aNil))) aNil)))))))
theorem tail_ok (x0 x4 x5 x6 x7 : Option Vl) (S : Store) : tailB (C 29) [x0, some (.d (.tuple [.int 1, .int 1])), some (.d (.tuple [.int 0, .int 1])), some (.d tabV), x4, x5, x6, x7] S = .rt (B true) S := by
  have a0 := run_any (hfr 29) (fun _ => rfl) (fun _ => rfl) w0 S
  unfold tailB
  have h1 : (xBin .mul false (xTup (aCons (xBin .mul false (xTup (aCons (xV 2) aNil)) (xC (.d (.int 12)))) aNil)) (xC (.d (.int 12)))) (C 29) [x0, some (.d (.tuple [.int 1, .int 1])), some (.d (.tuple [.int 0, .int 1])), some (.d tabV), x4, x5, x6, x7] S = .ok (.d wideV) S := by kernel_rfl
  rw [seq_nx (set_nx h1)]
  have h2 : (xCallL n_law i__law_word (aCons (xLam l_law_0) aNil) []) (C 29) [x0, some (.d (.tuple [.int 1, .int 1])), some (.d (.tuple [.int 0, .int 1])), some (.d tabV), x4, x5, x6, some (.d wideV)] S = .ok (.d (.str "fine")) S := by
    simp [xCallL, aCons, aNil, xLam, clsVs, clsV, c0, a0]
  show sRet _ (C 29) [x0, some (.d (.tuple [.int 1, .int 1])), some (.d (.tuple [.int 0, .int 1])), some (.d tabV), x4, x5, x6, some (.d wideV)] S = _
  unfold sRet xAnd xCmp
  rw [h2]
  have q1 : okD (.str "fine") = true := by decide +kernel
  have q2 : PyData.eqv (.str "fine") (.str "fine") = true := by decide +kernel
  have q3 : okD tabV = true := by decide +kernel
  have q4 : PyData.eqv tabV tabV = true := by decide +kernel
  unfold tabV at q3 q4 ⊢
  simp [runFn, sRet, sSeq, sSet, sAsg, sPar, sPar3, sIf, sExpr, sPass, xV, xC, xBin, xCmp, xCmp2, xNeg, xNot, xAnd, xOr, xIf, xTup, xLst, xIx, xB, xIs, xCall, tV, tNot, tAnd, tOr, tCmp, tCmp2, tYes, aNil, aCons, bin, cmp, dat, dko, tru, ix, at?, I, B, mkTup, allD, mkLst, fin_d, gV, gNil, gCons, gTup, bLen, bAbs, bMax, bMin, bInt, bTuple, isA, q1, q2, q3, q4]
def loopB : TSt := sFor (iRng1 (xB bMax (aCons (xC (.d (.int 1))) (aCons (xB bMin (aCons (xC (.d (.int 5))) (aCons (xB bLen (aCons (xV 0) aNil)) aNil))) aNil)))) (gV 4) spotB
def headB1 : TSt := sAsg (gTup (gCons (gV 1) (gCons (gV 2) gNil))) (xTup (aCons (xTup (aCons (xC (.d (.int 1))) (aCons (xC (.d (.int 1))) aNil))) (aCons (xTup (aCons (xC (.d (.int 0))) (aCons (xC (.d (.int 1))) aNil))) aNil)))
def headB2 : TSt := sSet 3 (xTup (aCons (xTup (aCons (xV 1) (aCons (xV 1) aNil))) (aCons (xTup (aCons (xV 2) (aCons (xV 1) aNil))) aNil)))
theorem b_law_eq : b_law = sSeq headB1 (sSeq headB2 (sSeq loopB tailB)) := rfl
theorem loop_ok (ns : List Int) : ∃ (y1 y2 y3 : Option Vl) (S' : Store), loopB (C 29) [some (.sc (ns.map .int)), some (.d (.tuple [.int 1, .int 1])), some (.d (.tuple [.int 0, .int 1])), some (.d tabV), none, none, none, none] [] = .nx [some (.sc (ns.map .int)), some (.d (.tuple [.int 1, .int 1])), some (.d (.tuple [.int 0, .int 1])), some (.d tabV), y1, y2, y3, none] S' := by
  have hm : ∃ m : Nat, m ≤ 5 ∧ (if (if (ns.length : Int) < 5 then (ns.length : Int) else 5) > 1 then (if (ns.length : Int) < 5 then (ns.length : Int) else 5) else 1) = (m : Int) := by
    by_cases h : (ns.length : Int) < 5
    · rw [if_pos h]
      by_cases h1 : (ns.length : Int) > 1
      · exact ⟨ns.length, by omega, by rw [if_pos h1]⟩
      · exact ⟨1, by omega, by rw [if_neg h1]; rfl⟩
    · rw [if_neg h]
      exact ⟨5, by omega, rfl⟩
  obtain ⟨m, hm6, hm⟩ := hm
  obtain ⟨y1, y2, y3, S, e⟩ := outer_loop ns (rng 0 m) (some (.d (.tuple [.int 1, .int 1]))) (some (.d (.tuple [.int 0, .int 1]))) none none none none [] fun t ht => by
    unfold rng at ht
    obtain ⟨x, _, rfl⟩ := List.mem_map.mp ht
    exact ⟨_, rfl, by omega⟩
  have hr : rngOk (m : Int) = true := rngOk_nat (by omega)
  refine ⟨y1, y2, y3, S, ?_⟩
  unfold loopB
  simp [runFn, sRet, sSeq, sSet, sAsg, sPar, sPar3, sIf, sExpr, sPass, xV, xC, xBin, xCmp, xCmp2, xNeg, xNot, xAnd, xOr, xIf, xTup, xLst, xIx, xB, xIs, xCall, tV, tNot, tAnd, tOr, tCmp, tCmp2, tYes, aNil, aCons, bin, cmp, dat, dko, tru, ix, at?, I, B, mkTup, allD, mkLst, fin_d, gV, gNil, gCons, gTup, bLen, bAbs, bMax, bMin, bInt, bTuple, isA, sFor, iRng1, hm, hr, e]
theorem hrun (ns : List Int) (_ : ns.length ≤ 63) (_ : ∀ z ∈ ns, Builtin.Int.intBits z ≤ 1048576) : ∃ S, Mk.run (tabOf ds) (lamFn g0 30) lvl i_law [.sc (ns.map .int)] [] = .ok (B true) S := by
  obtain ⟨y1, y2, y3, S, e⟩ := loop_ok ns
  refine ⟨[], ?_⟩
  show (cls (tabOf ds) (lamFn g0 30) (29 + 1)).call i_law [.sc (ns.map .int)] [] = .ok (B true) []
  rw [call_at t_law]
  have hb : b_law (C 29) [some (.sc (ns.map .int)), none, none, none, none, none, none, none] [] = .rt (B true) S := by
    rw [b_law_eq, seq_nx (γ' := [some (.sc (ns.map .int)), some (.d (.tuple [.int 1, .int 1])), some (.d (.tuple [.int 0, .int 1])), none, none, none, none, none]) (S1 := []) rfl, seq_nx (γ' := [some (.sc (ns.map .int)), some (.d (.tuple [.int 1, .int 1])), some (.d (.tuple [.int 0, .int 1])), some (.d tabV), none, none, none, none]) (S1 := []) rfl, seq_nx e]
    exact tail_ok _ _ _ _ _ _
  unfold C at hb
  show (match b_law (cls (tabOf ds) (lamFn g0 30) 29) [some (.sc (ns.map .int)), none, none, none, none, none, none, none] [] with
    | .rt v S' => fin false 0 v S'
    | .nx _ S' => fin false 0 (.d .none) S'
    | .er k x _ S' => .er k x (S'.take 0)
    | _ => .stuck) = _
  rw [hb]
  rfl

end K38
open PySem PySem.W PySem.Calls PyProof.Rows
theorem PySem.Challenge.cw_makesmore_k38_errors_of_who_needs_whom_holds : PySem.Challenge.rw_makesmore_k38_errors_of_who_needs_whom.Holds := by
  w_on; o_law
  refine HandSHeadRun.head_any (r := OpenLaw.row PySem.Challenge.rw_makesmore_k38_errors_of_who_needs_whom) (q := view (OpenLaw.row PySem.Challenge.rw_makesmore_k38_errors_of_who_needs_whom).prog [59]) (H := K38.hk) (ob := K38.ob) (M := 4000) (loose := K38.loose) (d := HandSHeadRun.topDef (OpenLaw.row PySem.Challenge.rw_makesmore_k38_errors_of_who_needs_whom).prog 59) (kwd := []) K38.ob_eq
    (by kernel_rfl) (fun s => by kernel_rfl) K38.headrun (by kernel_rfl) (by kernel_rfl) (by kernel_rfl) (by rfl) (by first | assumption | decide +kernel) (by decide +kernel) ⟨rfl, rfl, rfl, rfl, rfl, by decide +kernel⟩ ?hw ?hc
  case hw => w_witness2
  case hc =>
    exact Mk.law_of (l := PySem.Challenge.rw_makesmore_k38_errors_of_who_needs_whom) (j := K38.lvl) (iL := K38.i_law) (ds := K38.ds) (k := K38.kk) (fr := K38.fr) (dL := K38.d_law) (G0 := K38.g0) (m := 30) (n := 20) (fun w h y => y) rfl (by kernel_rfl) ⟨rfl, by decide, by decide⟩ rfl (by kernel_rfl) rfl rfl rfl
      (fun _ _ _ _ _ _ us hl => match us, hl with | [_], _ => rfl) rfl K38.h1 K38.h2 K38.h3 K38.h4 K38.h5 K38.h6 K38.h7 K38.h9 K38.hok K38.hcs K38.hbd K38.hb K38.hG0 rfl K38.hrun
