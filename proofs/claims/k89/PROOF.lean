import PyProof.Rows.All
import Wide.All
import OpenK.AllK
import Wide.FinOn
import KE.KStateDown
import HandS.ForMost
import HandS.ForExc
import HandS.Wide
import HandS.Lambda
import HandS.TupAny
import HandS.TupMul
import HandS.Style
import HandS.IsInst
import PyProof.EqAt
import PyProof.EqKinds
import PyProof.NeKinds
import HandS.TupLen
import HandS.Small
import HandS.RaiseMore
import HandS.Iter
import HandS.Strs
import HandS.Zip
import HandS.Rev
import HandS.EndBits
import HandS.Defaults
import PyProof.ReprRoads
import PyProof.CallFns
import KE.KExcInit
import KE.KExcIs
import PyProof.ExcBaseAll.Exception
import PyProof.InstStoreFacts
import HandS.ExcInit
import HandS.ExcField
import HandS.ExcIs
import HandS.TryMany
import HandS.TryOnly
import HandS.EndTab
import HandS.Exc
import HandS.Head2
import HandS.HeadEnd
import HandS.HeadHook2
import HandS.Codes
import PySem.Challenge.RW_samequick_k89_standings_after_many_steps
section
set_option Elab.async false
set_option linter.all false
set_option maxRecDepth 100000
namespace Ev
open PySem L2

inductive Val where
  | d (x : PyData)
  | r (n : Nat)
  | t (xs : List Val)
  | k (x : PyData)
  deriving Inhabited

inductive Cell where
  | lst (xs : List Val)
  | lk (xs : List Val)
  | dk (kvs : List (Key × Val))
  | dt (kvs : List (List Key × Val))
  | ins (c : Str) (fs : List (Str × Val))
  | dead

structure Exn where
  cls : Str
  fld : Str
  arg : PyData

inductive Res (α : Type) where
  | ok (a : α) (S : List Cell)
  | ex (e : Exn) (S : List Cell)
  | no

abbrev M (α : Type) := List Cell → Res α
@[reducible] def ret {α : Type} (a : α) : M α := fun S => .ok a S
def bnd {α β : Type} (m : M α) (f : α → M β) : M β := fun S => match m S with
  | .ok a S' => f a S'
  | .ex e S' => .ex e S'
  | .no => .no
def fail {α : Type} : M α := fun _ => .no
def lift {α : Type} (o : Option α) : M α := fun S => match o with
  | some a => .ok a S
  | none => .no
/-- an exception is not followed any further -/
def noex {α : Type} (m : M α) : M α := fun S => match m S with
  | .ok a S' => .ok a S'
  | _ => .no
def guardM {α : Type} (b : Bool) (m : M α) : M α := if b = true then m else fail

def allD : List Val → Option (List PyData)
  | [] => some []
  | .d x :: r => (allD r).map (x :: ·)
  | _ :: _ => none
def keyD : Key → PyData
  | .inl i => .int i
  | .inr s => .str s
def keysD (ks : List Key) : PyData := .tuple (ks.map keyD)
def dkD : List (Key × Val) → Option (List (PyData × PyData))
  | [] => some []
  | (k, .d x) :: r => (dkD r).map ((keyD k, x) :: ·)
  | _ :: _ => none
def dtD : List (List Key × Val) → Option (List (PyData × PyData))
  | [] => some []
  | (k, .d x) :: r => (dtD r).map ((keysD k, x) :: ·)
  | _ :: _ => none
/-- a value's data, for reading -/
def vw (S : List Cell) : Val → Option PyData
  | .d x => some x
  | .k x => some x
  | .r n => (match S[n]? with
    | some (.lst xs) => (allD xs).map .list
    | some (.lk xs) => (allD xs).map .list
    | some (.dk kvs) => (dkD kvs).map .dict
    | some (.dt kvs) => (dtD kvs).map .dict
    | _ => none)
  | .t _ => none
/-- .. of an object that is tracked by itself (no constant of the module, not the script) -/
def vwd (S : List Cell) : Val → Option PyData
  | .k _ => none
  | v => vw S v
def view (v : Val) : M PyData := fun S => match vw S v with
  | some x => .ok x S
  | none => .no
def viewd (v : Val) : M PyData := fun S => match vwd S v with
  | some x => .ok x S
  | none => .no
/-- .. but for a tuple of the module -/
def viewc : Val → M PyData
  | .k (.tuple _) => fail
  | v => view v
def alloc (c : Cell) : M Val := fun S => .ok (.r S.length) (S ++ [c])
/-- a new list of values, a mutable one or data -/
def mkList (mu : Bool) (xs : List Val) : M Val := if xs.length ≤ sizeLine then (if mu = true then alloc (.lst xs) else lift ((allD xs).map fun ds => .d (.list ds))) else fail
def mkTup (xs : List Val) : M Val := if xs.length ≤ sizeLine then ret (match allD xs with
  | some ds => .d (.tuple ds)
  | none => .t xs) else fail
/-- the result of an operation on data, a list perhaps mutable -/
def mkRes (mu : Bool) (x : PyData) : M Val := match mu, x with
  | true, .list xs => alloc (.lst (xs.map .d))
  | _, _ => ret (.d x)

/-- == item by item, all pairs being asked -/
def eqL (f : PyData → PyData → Option Bool) : List PyData → List PyData → Option Bool
  | [], [] => some true
  | [], _ :: _ => some false
  | _ :: _, [] => some false
  | x :: xs, y :: ys => (match f x y, eqL f xs ys with
    | some a, some b => some (a && b)
    | _, _ => none)
def eqG : Nat → PyData → PyData → Option Bool
  | 0, _, _ => none
  | n + 1, a, b => match a, b with
    | .none, .none => some true
    | .bool a, .bool b => some (a == b)
    | .bool a, .int j => some ((if a = true then 1 else 0) == j)
    | .int i, .bool b => some (i == (if b = true then 1 else 0))
    | .int i, .int j => some (i == j)
    | .str x, .str y => some (x == y)
    | .list xs, .list ys => if xs.length = ys.length then eqL (eqG n) xs ys else some false
    | .tuple xs, .tuple ys => eqL (eqG n) xs ys
    | .int _, .dict _ => some false
    | .str _, .dict _ => some false
    | .dict _, _ => none
    | _, .dict _ => none
    | _, _ => some false
def keyOf : PyData → Option Key
  | .int i => some (.inl i)
  | .str s => some (.inr s)
  | _ => none
def keysL : List PyData → Option (List Key)
  | [] => some []
  | x :: r => (match keyOf x, keysL r with
    | some k, some ks => some (k :: ks)
    | _, _ => none)
def keysOf : PyData → Option (List Key)
  | .tuple xs => keysL xs
  | _ => none
/-- a place in a list of pairs -/
def lookK {κ α : Type} [DecidableEq κ] (kvs : List (κ × α)) (k : κ) : Option α := (kvs.find? fun kv => decide (kv.1 = k)).map (·.2)
def storeK {κ α : Type} [DecidableEq κ] (kvs : List (κ × α)) (k : κ) (v : α) : List (κ × α) :=
  if (kvs.any fun kv => decide (kv.1 = k)) = true then kvs.map (fun kv => if kv.1 = k then (kv.1, v) else kv) else kvs ++ [(k, v)]
/-- what a frozen dict holds (its first key tells of which kind its keys are) -/
def lookD (kvs : List (PyData × PyData)) (x : PyData) : Option (Option PyData) := match kvs with
  | [] => none
  | kv :: _ => (match keyOf kv.1 with
    | some _ => (match keyOf x with
      | some k => some ((kvs.find? fun kv => decide (keyOf kv.1 = some k)).map (·.2))
      | none => none)
    | none => (match keysOf x with
      | some ks => some ((kvs.find? fun kv => decide (keysOf kv.1 = some ks)).map (·.2))
      | none => none))
/-- data without an object -/
def flatD : PyData → Bool
  | .none => true
  | .bool _ => true
  | .int _ => true
  | .str _ => true
  | _ => false
def sign (c : Nat) : Str := ⟨#[c]⟩
def cutL {α : Type} (xs : List α) (lo hi : Option Int) : List α := (xs.drop (HT.sIx xs.length 0 lo)).take (HT.sIx xs.length xs.length hi - HT.sIx xs.length 0 lo)

/-- the classes that isinstance is asked about -/
inductive Ty where
  | bool | int | str | list | tuple | dict
  deriving DecidableEq
inductive BOp where
  | add | sub | mul | fdiv | mod | pow | band
inductive COp where
  | eq | ne | lt | le | gt | ge | is | isn | in_ | nin
inductive BI where
  | len | all_ | any_ | int_ | max2 | min2 | list_ | tuple_ | str_ | sum_ | ord_ | chr_ | abs_ | sorted_ | bool_
inductive ME where
  | join | append | pop0 | pop1 | get1 | get2 | extend | items | values | keys | index

def addD (a b : PyData) : Option PyData := match a, b with
  | .int i, .int j => some (.int (i + j))
  | .str x, .str y => if x.length + y.length ≤ sizeLine then some (.str (x ++ y)) else none
  | .tuple xs, .tuple ys => if xs.length + ys.length ≤ sizeLine then some (.tuple (xs ++ ys)) else none
  | .list xs, .list ys => if xs.length + ys.length ≤ sizeLine then some (.list (xs ++ ys)) else none
  | _, _ => none
def repL (xs : List PyData) (k : Int) : List PyData := (List.replicate k.toNat xs).flatten
def repS (z : Str) (k : Int) : Str := ⟨(List.replicate k.toNat z.cps).foldl (· ++ ·) #[]⟩
def binD (o : BOp) (a b : PyData) : Option PyData := match o with
  | .add => addD a b
  | .sub => (match a, b with
    | .int i, .int j => some (.int (i - j))
    | _, _ => none)
  | .mul => (match a, b with
    | .int i, .int j => if i.natAbs.log2 + j.natAbs.log2 < 1000000 then some (.int (i * j)) else none
    | .list xs, .int k => if -(2 ^ 63) ≤ k ∧ k < 2 ^ 63 ∧ xs.length * k.toNat ≤ sizeLine then some (.list (repL xs k)) else none
    | .tuple xs, .int k => if xs ≠ [] ∧ 2 ≤ k ∧ k ≤ 1000 ∧ xs.length ≤ 1000 then some (.tuple (repL xs k)) else none
    | .str z, .int k => if 2 ≤ k ∧ k < 2 ^ 63 ∧ z.length ≠ 0 ∧ z.length * k.toNat ≤ sizeLine then some (.str (repS z k)) else none
    | _, _ => none)
  | .fdiv => (match a, b with
    | .int i, .int j => if 0 < j ∧ j.natAbs.log2 < 9000 then some (.int (i / j)) else none
    | _, _ => none)
  | .mod => (match a, b with
    | .int i, .int j => if 0 < j then some (.int (i % j)) else none
    | _, _ => none)
  | .pow => (match a, b with
    | .int i, .int j => if 0 ≤ j ∧ j ≤ 1000000 ∧ i.natAbs < 2 ^ 64 then some (.int (i ^ j.toNat)) else none
    | _, _ => none)
  | .band => (match a, b with
    | .int i, .int j => some (.int (Builtin.bitAnd i j))
    | _, _ => none)
def binM (mu : Bool) (o : BOp) (a b : Val) : M Val := bnd (viewd a) fun x => bnd (viewd b) fun y => bnd (lift (binD o x y)) (mkRes mu)

def eqN : Nat := 64
def ordW (pi : Int → Int → Bool) (ps : Str → Str → Bool) : PyData → PyData → Option Bool
  | .int i, .int j => some (pi i j)
  | .str x, .str y => some (ps x y)
  | _, _ => none
def isNoneD : PyData → Bool
  | .none => true
  | _ => false
def anyEq (x : PyData) : List PyData → Option Bool
  | [] => some false
  | y :: r => (match eqG eqN y x, anyEq x r with
    | some a, some b => some (a || b)
    | _, _ => none)
def inD (x y : PyData) : Option Bool := match y with
  | .list ys => anyEq x ys
  | .tuple ys => anyEq x ys
  | .str z => (match x with
    | .str s => (match s.cps.toList with
      | [c] => some (decide (c ∈ z.cps.toList))
      | _ => none)
    | _ => none)
  | .dict kvs => (lookD kvs x).map (·.isSome)
  | _ => none
def cmpD (o : COp) (a b : PyData) : Option Bool := match o with
  | .eq => eqG eqN a b
  | .ne => (eqG eqN a b).map (!·)
  | .lt => ordW (fun i j => decide (i < j)) (fun i j => decide (i.cps.toList < j.cps.toList)) a b
  | .gt => ordW (fun i j => decide (j < i)) (fun i j => decide (j.cps.toList < i.cps.toList)) a b
  | .le => ordW (fun i j => decide (i ≤ j)) (fun i j => !decide (j.cps.toList < i.cps.toList)) a b
  | .ge => ordW (fun i j => decide (j ≤ i)) (fun i j => !decide (i.cps.toList < j.cps.toList)) a b
  | .is => if isNoneD b = true then some (isNoneD a) else none
  | .isn => if isNoneD b = true then some (!isNoneD a) else none
  | _ => none
def inM (a b : Val) : M Bool := bnd (viewd a) fun x => match b with
  | .r n => fun S => (match S[n]? with
    | some (.dk kvs) => (match keyOf x with
      | some k => .ok (lookK kvs k).isSome S
      | none => .no)
    | some (.dt kvs) => (match keysOf x with
      | some k => .ok (lookK kvs k).isSome S
      | none => .no)
    | _ => bnd (view b) (fun y => lift (inD x y)) S)
  | _ => bnd (view b) fun y => lift (inD x y)
def cmpM (o : COp) (a b : Val) : M Bool := match o with
  | .in_ => inM a b
  | .nin => bnd (inM a b) fun r => ret (!r)
  | o => bnd (view a) fun x => bnd (view b) fun y => lift (cmpD o x y)

/-- truth, of what a test may be -/
def truD : PyData → Bool
  | .none => false
  | .bool b => b
  | .int i => i != 0
  | .str s => s.length != 0
  | .list xs => !xs.isEmpty
  | .tuple xs => !xs.isEmpty
  | .dict xs => !xs.isEmpty
def truB : Val → M Bool
  | .d (.bool b) => ret b
  | _ => fail

def atD (x : PyData) (i : Int) : Option PyData := match x with
  | .tuple xs => atI xs i
  | .list xs => atI xs i
  | .str z => if z.length ≤ sizeLine then (atI z.cps.toList i).map fun c => .str (sign c) else none
  | _ => none
def idxM (a i : Val) : M Val := fun S => match i with
  | .d y => (match a with
    | .r n => (match S[n]?, y with
      | some (.lst xs), .int z => lift (atI xs z) S
      | some (.lk xs), .int z => lift (atI xs z) S
      | some (.dk kvs), y => (match keyOf y with
        | some k => lift (lookK kvs k) S
        | none => .no)
      | some (.dt kvs), y => (match keysOf y with
        | some k => lift (lookK kvs k) S
        | none => .no)
      | _, _ => .no)
    | .t xs => (match y with
      | .int z => lift (atI xs z) S
      | _ => .no)
    | .d (.dict kvs) => lift ((lookD kvs y).join.map .d) S
    | .k (.dict kvs) => lift ((lookD kvs y).join.map .d) S
    | .d x => (match y with
      | .int z => lift ((atD x z).map .d) S
      | _ => .no)
    | .k x => (match y with
      | .int z => lift ((atD x z).map .d) S
      | _ => .no))
  | _ => .no
def cutD (x : PyData) (lo hi : Option Int) : Option PyData := match x with
  | .tuple xs => some (.tuple (cutL xs lo hi))
  | .list xs => some (.list (cutL xs lo hi))
  | .str z => if z.length ≤ sizeLine then some (.str (cutS z lo hi)) else none
  | _ => none
def revD (x : PyData) : Option PyData := match x with
  | .list xs => some (.list xs.reverse)
  | _ => none

def tyName : PyData → String
  | .none => "NoneType"
  | .bool _ => "bool"
  | .int _ => "int"
  | .str _ => "str"
  | .list _ => "list"
  | .tuple _ => "tuple"
  | .dict _ => "dict"
def Ty.name : Ty → String
  | .bool => "bool" | .int => "int" | .str => "str" | .list => "list" | .tuple => "tuple" | .dict => "dict"
def isT : PyData → Ty → Bool
  | .bool _, .bool => true
  | .bool _, .int => true
  | .int _, .int => true
  | .str _, .str => true
  | .list _, .list => true
  | .tuple _, .tuple => true
  | .dict _, .dict => true
  | _, _ => false
def boolsL : List PyData → Option (List Bool)
  | [] => some []
  | .bool b :: r => (boolsL r).map (b :: ·)
  | _ :: _ => none
def intsL : List PyData → Option (List Int)
  | [] => some []
  | .int b :: r => (intsL r).map (b :: ·)
  | _ :: _ => none
def strsL : List PyData → Option (List Str)
  | [] => some []
  | .str b :: r => (strsL r).map (b :: ·)
  | _ :: _ => none
def biD (b : BI) (xs : List PyData) : Option PyData := match b, xs with
  | .len, [.list xs] => some (.int xs.length)
  | .len, [.tuple xs] => some (.int xs.length)
  | .len, [.dict xs] => some (.int xs.length)
  | .len, [.str z] => if z.length ≤ sizeLine then some (.int z.length) else none
  | .all_, [.list xs] => (boolsL xs).map fun bs => .bool (bs.all id)
  | .any_, [.list xs] => (boolsL xs).map fun bs => .bool (bs.any id)
  | .int_, [.int i] => some (.int i)
  | .int_, [.bool b] => some (.int (if b then 1 else 0))
  | .max2, [.int i, .int j] => some (.int (if j > i then j else i))
  | .min2, [.int i, .int j] => some (.int (if j < i then j else i))
  | .list_, [.list xs] => some (.list xs)
  | .list_, [.tuple xs] => some (.list xs)
  | .tuple_, [.list xs] => some (.tuple xs)
  | .tuple_, [.tuple xs] => some (.tuple xs)
  | .sum_, [.list xs] => (intsL xs).map fun ns => .int ns.sum
  | .abs_, [.int i] => some (.int (if i < 0 then -i else i))
  | .int_, [.str z] => if z.length ≤ 640 then (PySem.intText? z).map .int else none
  | .str_, [.int i] => if i.natAbs.log2 < 1920 then some (.str (toString i)) else none
  | .str_, [.str z] => some (.str z)
  | .ord_, [.str z] => if z.length = 1 then some (.int (z.cps.getD 0 0 : Nat)) else none
  | .chr_, [.int i] => if 0 ≤ i ∧ i ≤ 1114111 then some (.str (sign i.toNat)) else none
  | .bool_, [.int i] => some (.bool (i != 0))
  | .bool_, [.bool b] => some (.bool b)
  | .bool_, [.list xs] => some (.bool (!xs.isEmpty))
  | _, _ => none
def allV : List Val → M (List PyData)
  | [] => ret []
  | v :: r => bnd (view v) fun x => bnd (allV r) fun xs => ret (x :: xs)
def notK : List Val → Bool
  | [.k (.tuple _)] => false
  | _ => true
def biM (mu : Bool) (b : BI) (vs : List Val) : M Val := guardM (notK vs || (match b with | .tuple_ => false | _ => true)) (bnd (allV vs) fun xs => bnd (lift (biD b xs)) (mkRes mu))
def augM (o : BOp) (a b : Val) : M Val := match o, a, b with
  | .add, .d (.int i), .d (.int j) => ret (.d (.int (i + j)))
  | .sub, .d (.int i), .d (.int j) => ret (.d (.int (i - j)))
  | .add, .d (.str x), .d (.str y) => if x.length + y.length ≤ sizeLine then ret (.d (.str (x ++ y))) else fail
  | _, _, _ => fail
def negM : Val → M Val
  | .d (.int i) => ret (.d (.int (-i)))
  | _ => fail
def viewI : Val → M PyData
  | .r _ => fail
  | v => view v
def viewJ : Val → M PyData
  | .r _ => fail
  | v => viewd v
def isiM (ts : List Ty) (v : Val) : M Val := bnd (view v) fun d => ret (.d (.bool (ts.any (isT d))))
def reprD (x : PyData) : Option PyData := if x.showable = true ∧ x.depth ≤ 100 ∧ x.shown.length ≤ sizeLine then some (.str x.shown) else none
def reprM (v : Val) : M Val := bnd (viewd v) fun x => bnd (lift (reprD x)) fun y => ret (.d y)
/-- the kind of object that a method is of -/
inductive MTy where
  | list | str | dict | tuple
  deriving DecidableEq
def ME.ty : ME → MTy
  | .join => .str
  | .append => .list
  | .pop0 => .list
  | .pop1 => .list
  | .extend => .list
  | .index => .tuple
  | _ => .dict
def tyOk (m : MTy) (v : Val) (S : List Cell) : Bool := match m, v with
  | .list, .r n => (match S[n]? with
    | some (.lst _) => true
    | _ => false)
  | .str, .d (.str _) => true
  | .tuple, .k (.tuple _) => true
  | .dict, .r n => (match S[n]? with
    | some (.dk _) => true
    | some (.dt _) => true
    | _ => false)
  | _, _ => false
def tyM (m : MTy) (v : Val) : M Unit := fun S => if tyOk m v S = true then .ok () S else .no

def setCell (n : Nat) (c : Cell) : M Unit := fun S => .ok () (S.set n c)
def joinD (z : Str) (ys : List Str) : Option PyData := if (ys.map (·.length)).sum + ys.length * z.length ≤ 16777216 then some (.str (Txt.join z ys)) else none
/-- the first place of a text -/
def strPos (z : Str) : List Str → Option Nat
  | [] => none
  | y :: ys => if y = z then some 0 else (strPos z ys).map (· + 1)
def meM (m : ME) (o : Val) (vs : List Val) : M Val := fun S => match m, o, vs with
  | .append, .r n, [v] => (match S[n]? with
    | some (.lst xs) => if xs.length < sizeLine then .ok (.d .none) (S.set n (.lst (xs ++ [v]))) else .no
    | _ => .no)
  | .pop0, .r n, [] => (match S[n]? with
    | some (.lst xs) => (match xs[xs.length - 1]? with
      | some v => .ok v (S.set n (.lst xs.dropLast))
      | none => .no)
    | _ => .no)
  | .pop1, .r n, [.d (.int i)] => (match S[n]? with
    | some (.lst xs) => (match ixN xs.length i with
      | some j => (match xs[j]? with
        | some v => if -(2 ^ 63) ≤ i ∧ i < 2 ^ 63 then .ok v (S.set n (.lst (xs.eraseIdx j))) else .no
        | none => .no)
      | none => .no)
    | _ => .no)
  | .join, .d (.str z), [v] => (match vw S v with
    | some (.list xs) => lift (((strsL xs).bind (joinD z)).map .d) S
    | some (.tuple xs) => lift (((strsL xs).bind (joinD z)).map .d) S
    | _ => .no)
  | .extend, .r n, [v] => (match S[n]?, vwd S v with
    | some (.lst xs), some (.list ys) => if xs.length + ys.length ≤ sizeLine then .ok (.d .none) (S.set n (.lst (xs ++ ys.map .d))) else .no
    | _, _ => .no)
  | .index, o, [.d (.str z)] => (match vw S o with
    | some (.tuple xs) => lift (((strsL xs).bind (strPos z)).map fun j => .d (.int (j : Nat))) S
    | _ => .no)
  | _, _, _ => .no

/-- o[i] = v -/
def putM (x y v : Val) : M Unit := fun S => match x, y with
  | .r m, .d y => (match S[m]?, y with
    | some (.lst xs), .int z => (match ixN xs.length z with
      | some j => .ok () (S.set m (.lst (xs.set j v)))
      | none => .no)
    | some (.dk kvs), y => (match keyOf y with
      | some k => if kvs.length < sizeLine then .ok () (S.set m (.dk (storeK kvs k v))) else .no
      | none => .no)
    | some (.dt kvs), y => (match keysOf y with
      | some k => if kvs.length < sizeLine then .ok () (S.set m (.dt (storeK kvs k v))) else .no
      | none => .no)
    | _, _ => .no)
  | _, _ => .no

/-- what an except suite reckons -/
inductive HX where
  | c (x : Const)
  | var (i : Nat)
  | fld (f : Str)
  | isx (c : Str)
  | rep (h : HX)
  | tup (hs : List HX)
  | ite (t a b : HX)
  | isin (a b : HX)
inductive HT where
  | ret (h : HX)
  | asg (i : Nat) (h : HX) (k : HT)
  | iff (t : HX) (a k : HT)
mutual
inductive X where
  | var (i : Nat)
  | c (x : Const)
  | g (j : Nat)
  | tup (es : List X)
  | lst (mu : Bool) (es : List X)
  | dnew (tk : Bool)
  | dnil
  | dct (mu : Bool) (es : List (X × X))
  | bin (mu : Bool) (o : BOp) (a b : X)
  | neg (a : X)
  | cmp (o : COp) (a b : X)
  | chn (o p : COp) (a b c : X)
  | and_ (es : List X)
  | or_ (es : List X)
  | not_ (a : X)
  | ite (t a b : X)
  | idx (a i : X)
  | sl (mu : Bool) (a : X) (lo hi : Option X)
  | rev (mu : Bool) (a : X)
  | call (f : Str) (es : List X)
  | callk (f : Str) (es : List X) (ks : List (Str × X))
  | bi (mu : Bool) (b : BI) (es : List X)
  | rep (a : X)
  | isi (ts : List Ty) (a : X)
  | me (m : ME) (o : X) (es : List X)
  | comp (mu : Bool) (el : X) (tg : Tg) (it : It) (tests : List X) (own : List Nat)
  | tried (f : Str) (ns i : Nat) (w : HX) (hs : List (Str × Str)) (h : HT) (cf : Str) (as : List Nat) (ks : List (Str × Nat))
inductive Tg where
  | var (i : Nat)
  | tup (ts : List Tg)
inductive It where
  | ex (a : X)
  | rng (es : List X)
  | enu (a : X)
  | zip (a b : X)
  | rev (a : X)
end
inductive Fl where
  | nx (ρ : List (Option Val))
  | rt (v : Val)
  | bk (ρ : List (Option Val))
  | ct (ρ : List (Option Val))
inductive T where
  | asg (tg : Tg) (e : X)
  | par (is : List Nat) (es : List X)
  | sub (o i e : X)
  | aug (i : Nat) (o : BOp) (e : X)
  | ex (e : X)
  | rtn (e : Option X)
  | if_ (t : X) (a b : List T)
  | for_ (tg : Tg) (it : It) (b : List T)
  | while_ (t : X) (b : List T)
  | brk | cnt | pass
  | raise_ (c f : Str) (e : X)

abbrev Env := List (Option Val)
structure Cfg where
  call : Str → List Val → M Val
  kw : Str → List Str → Nat → Option (List Nat)
  glob : List (Str × Val)
  low : Option (Str → List Val → M Val)

def wipeE (ρ : Env) : List Nat → Env
  | [] => ρ
  | v :: vs => (wipeE ρ vs).set v none
mutual
/-- a target is given a value -/
def asgT : Tg → Val → Env → M Env
  | .var i, v, ρ => ret (ρ.set i (some v))
  | .tup ts, v, ρ => (match v with
    | .d (.tuple xs) => asgTs ts (xs.map .d) ρ
    | .t xs => asgTs ts xs ρ
    | _ => fail)
def asgTs : List Tg → List Val → Env → M Env
  | [], [], ρ => ret ρ
  | t :: ts, v :: vs, ρ => bnd (asgT t v ρ) fun ρ' => asgTs ts vs ρ'
  | _, _, _ => fail
end
/-- what a for walks: all of it ahead (a mutable list is locked meanwhile) -/
def itemsD : PyData → Option (List PyData)
  | .list xs => some xs
  | .tuple xs => some xs
  | .str z => some (z.cps.toList.map fun c => .str (sign c))
  | _ => none
def rangeL (lo : Int) : Nat → List Val
  | 0 => []
  | n + 1 => .d (.int lo) :: rangeL (lo + 1) n
def okR (i : Int) : Bool := decide (-(2 ^ 62) ≤ i) && decide (i < 2 ^ 62)
def enumL (i : Int) : List PyData → List Val
  | [] => []
  | x :: r => .d (.tuple [.int i, x]) :: enumL (i + 1) r
def zipL : List PyData → List PyData → List Val
  | x :: r, y :: s => .d (.tuple [x, y]) :: zipL r s
  | _, _ => []
def constD : Const → Option PyData
  | .none => some .none
  | .bool b => some (.bool b)
  | .int i => some (.int i)
  | .str s => some (.str s)
  | _ => none
def partI : Val → M Int
  | .d (.int i) => ret i
  | _ => fail
def parM (is : List Nat) (ρ : Env) (vs : List Val) : M Fl := match is, vs with
  | [i, j], [v, w] => ret (.nx ((ρ.set i (some v)).set j (some w)))
  | [i, j, l], [u, v, w] => ret (.nx (((ρ.set i (some u)).set j (some v)).set l (some w)))
  | _, _ => fail
def forL (body : Val → Env → M Fl) : List Val → Env → M Fl
  | [], ρ => ret (.nx ρ)
  | v :: vs, ρ => bnd (body v ρ) fun f => match f with
    | .nx ρ' => forL body vs ρ'
    | .ct ρ' => forL body vs ρ'
    | .bk ρ' => ret (.nx ρ')
    | .rt w => ret (.rt w)
def whileL (test : Env → M Bool) (body : Env → M Fl) : Nat → Env → M Fl
  | 0, _ => fail
  | n + 1, ρ => bnd (test ρ) fun b => if b = true then bnd (body ρ) fun f => (match f with
      | .nx ρ' => whileL test body n ρ'
      | .ct ρ' => whileL test body n ρ'
      | .bk ρ' => ret (.nx ρ')
      | .rt w => ret (.rt w)) else ret (.nx ρ)
def compL (body : Val → M (Option Val)) : List Val → M (List Val)
  | [] => ret []
  | v :: vs => bnd (body v) fun o => bnd (compL body vs) fun r => ret (o.toList ++ r)

def keyM : Val → M Key
  | .d x => lift (keyOf x)
  | _ => fail
def mergeD (kvs : List (Key × Val)) : List (Key × Val) := kvs.foldl (fun acc kv => storeK acc kv.1 kv.2) []
/-- a dict display -/
def mkDict (mu : Bool) (kvs : List (Key × Val)) : M Val := if kvs.length ≤ 15 then (if mu = true then alloc (.dk (mergeD kvs)) else lift ((dkD (mergeD kvs)).map fun ps => .d (.dict ps))) else fail
def rngM : List Val → M (List Val)
  | [.d (.int n)] => guardM (okR n) (ret (rangeL 0 n.toNat))
  | [.d (.int lo), .d (.int hi)] => guardM (okR lo && okR hi) (ret (rangeL lo (hi - lo).toNat))
  | _ => fail
def enuM : List Val → M (List Val)
  | [v] => bnd (viewI v) fun x => (match x with
    | .list xs => ret (enumL 0 xs)
    | _ => fail)
  | _ => fail
def zipM : List Val → M (List Val)
  | [v, w] => bnd (viewI v) fun x => bnd (viewI w) fun y => (match x, y with
    | .list xs, .list ys => ret (zipL xs ys)
    | .tuple xs, .tuple ys => ret (zipL xs ys)
    | _, _ => fail)
  | _ => fail
def revM (v : Val) : M (List Val) := bnd (viewI v) fun x => (match x with
  | .list xs => ret (xs.reverse.map .d)
  | .tuple xs => ret (xs.reverse.map .d)
  | _ => fail)
mutual
def hev (y : Exn) (ρ : Env) : HX → Option PyData
  | .c x => constD x
  | .var i => (match ρ[i]?.join with
    | some (.d d) => some d
    | _ => none)
  | .fld f => if f = y.fld then some y.arg else none
  | .isx c => some (.bool (decide (y.cls = c)))
  | .rep h => (hev y ρ h).bind reprD
  | .tup hs => if hs.length ≤ 100 then (hevs y ρ hs).map .tuple else none
  | .ite t a b => (match hev y ρ t with
    | some (.bool true) => hev y ρ a
    | some (.bool false) => hev y ρ b
    | _ => none)
  | .isin a b => (match hev y ρ a, hev y ρ b with
    | some p, some q => (inD p q).map .bool
    | _, _ => none)
def hevs (y : Exn) (ρ : Env) : List HX → Option (List PyData)
  | [] => some []
  | h :: hs => (match hev y ρ h, hevs y ρ hs with
    | some d, some ds => some (d :: ds)
    | _, _ => none)
end
def hexec (y : Exn) : HT → Env → M Val
  | .ret h, ρ => lift ((hev y ρ h).map .d)
  | .asg i h k, ρ => (match hev y ρ h with
    | some d => hexec y k (ρ.set i (some (.d d)))
    | none => fail)
  | .iff t a k, ρ => (match hev y ρ t with
    | some (.bool true) => hexec y a ρ
    | some (.bool false) => hexec y k ρ
    | _ => fail)
/-- what a def that tries makes of the outcome -/
def noExn : Exn := ⟨"", "", .none⟩
def triedM (ns i : Nat) (w : HX) (hs : List (Str × Str)) (h : HT) (r : Res Val) : Res Val := match r with
  | .ok (.d d) S => lift ((hev noExn ((List.replicate (if i < ns then ns else i + 1) none).set i (some (.d d))) w).map .d) S
  | .ex y S => if (y.cls, y.fld) ∈ hs then hexec y h (List.replicate ns none) S else .no
  | _ => .no
def slotsV (ρ : Env) (is : List Nat) : Option (List Val) := is.mapM fun i => ρ[i]?.join
def dataV : Val → Option PyData
  | .d x => some x
  | _ => none
section
def mapE (f : X → M Val) : List X → M (List Val)
  | [] => ret []
  | e :: es => bnd (f e) fun v => bnd (mapE f es) fun vs => ret (v :: vs)
def prsE (f : X → M Val) : List (X × X) → M (List (Key × Val))
  | [] => ret []
  | p :: r => bnd (f p.1) fun x => bnd (f p.2) fun v => bnd (keyM x) fun k => bnd (prsE f r) fun kvs => ret ((k, v) :: kvs)
def andE (f : X → M Val) : List X → M Val
  | [] => fail
  | [e] => f e
  | e :: es => bnd (f e) fun v => bnd (truB v) fun b => if b = true then andE f es else ret (.d (.bool false))
def orE (f : X → M Val) : List X → M Val
  | [] => fail
  | [e] => f e
  | e :: es => bnd (f e) fun v => bnd (truB v) fun b => if b = true then ret (.d (.bool true)) else orE f es
def optE (f : X → M Val) : Option X → M (Option Int)
  | none => ret none
  | some e => bnd (f e) fun v => bnd (partI v) fun i => ret (some i)
/-- all tests of a clause, by truth of bools -/
def testsE (f : X → M Val) : List X → M Bool
  | [] => ret true
  | e :: es => bnd (f e) fun v => bnd (truB v) fun b => if b = true then testsE f es else ret false
/-- the items -/
def itE (f : X → M Val) : It → M (List Val)
  | .ex a => bnd (f a) fun v => bnd (viewI v) fun x => bnd (lift (itemsD x)) fun xs => ret (xs.map .d)
  | .rng es => bnd (mapE f es) rngM
  | .enu a => bnd (mapE f [a]) enuM
  | .zip a b => bnd (mapE f [a, b]) zipM
  | .rev a => bnd (f a) revM
def kwOrder (np nk : Nat) (is : List Nat) (vs ws : List Val) : Option (List Val) := if vs.length = np ∧ ws.length = nk then is.mapM fun i => (vs ++ ws)[i]? else none
/-- the values of a call, in the order of the parameters -/
def argsOf (kw : Str → List Str → Nat → Option (List Nat)) (f : Str) (n : Nat) (ks : List Str) (vs ws : List Val) : Option (List Val) := match ks with
  | [] => some vs
  | _ => (kw f ks n).bind fun is => kwOrder n ks.length is vs ws

def ev : Cfg → Nat → X → Env → M Val
  | _, 0, _, _ => fail
  | C, n + 1, e, ρ => match e with
    | .var i => lift (ρ[i]?.join)
    | .c x => lift ((constD x).map .d)
    | .g j => lift (C.glob[j]?.map (·.2))
    | .tup es => bnd (mapE (fun e => ev C n e ρ) es) mkTup
    | .lst mu es => bnd (mapE (fun e => ev C n e ρ) es) (mkList mu)
    | .dnew tk => alloc (if tk = true then .dt [] else .dk [])
    | .dnil => ret (.d (.dict []))
    | .dct mu es => bnd (prsE (fun e => ev C n e ρ) es) (mkDict mu)
    | .bin mu o a b => bnd (ev C n a ρ) fun x => bnd (ev C n b ρ) fun y => binM mu o x y
    | .neg a => bnd (ev C n a ρ) negM
    | .cmp o a b => bnd (ev C n a ρ) fun x => bnd (ev C n b ρ) fun y => bnd (cmpM o x y) fun r => ret (.d (.bool r))
    | .chn o p a b c => bnd (ev C n a ρ) fun x => bnd (ev C n b ρ) fun y => bnd (cmpM o x y) fun r => if r = true then bnd (ev C n c ρ) fun z => bnd (cmpM p y z) fun r => ret (.d (.bool r)) else ret (.d (.bool false))
    | .and_ es => andE (fun e => ev C n e ρ) es
    | .or_ es => orE (fun e => ev C n e ρ) es
    | .not_ a => bnd (ev C n a ρ) fun x => bnd (truB x) fun b => ret (.d (.bool (!b)))
    | .ite t a b => bnd (ev C n t ρ) fun x => bnd (truB x) fun c => if c = true then ev C n a ρ else ev C n b ρ
    | .idx a i => bnd (ev C n a ρ) fun x => bnd (ev C n i ρ) fun y => idxM x y
    | .sl mu a lo hi => bnd (ev C n a ρ) fun x => bnd (optE (fun e => ev C n e ρ) lo) fun l => bnd (optE (fun e => ev C n e ρ) hi) fun h => bnd (viewc x) fun x => bnd (lift (cutD x l h)) (mkRes mu)
    | .rev mu a => bnd (ev C n a ρ) fun x => bnd (viewc x) fun x => bnd (lift (revD x)) (mkRes mu)
    | .call f es => bnd (mapE (fun e => ev C n e ρ) es) (C.call f)
    | .callk f es ks => bnd (mapE (fun e => ev C n e ρ) es) fun vs => bnd (mapE (fun e => ev C n e ρ) (ks.map (·.2))) fun ws => (match C.kw f (ks.map (·.1)) es.length with
      | some is => (match kwOrder es.length ks.length is vs ws with
        | some us => C.call f us
        | none => fail)
      | none => fail)
    | .rep a => bnd (ev C n a ρ) reprM
    | .isi ts a => bnd (ev C n a ρ) (isiM ts)
    | .bi mu b es => bnd (mapE (fun e => ev C n e ρ) es) (biM mu b)
    | .me m o es => bnd (ev C n o ρ) fun x => bnd (tyM m.ty x) fun _ => bnd (mapE (fun e => ev C n e ρ) es) (meM m x)
    | .tried _ ns i w hs h cf as ks => bnd (lift (slotsV ρ as)) fun vs => bnd (lift (slotsV ρ (ks.map (·.2)))) fun ws => bnd (lift (argsOf C.kw cf as.length (ks.map (·.1)) vs ws)) fun us => (match C.low with
      | some cl => fun S => triedM ns i w hs h (cl cf us S)
      | none => fail)
    | .comp mu el tg it tests own => bnd (itE (fun e => ev C n e ρ) it) fun vs =>
        bnd (compL (fun v => noex (bnd (asgT tg v (wipeE ρ own)) fun ρ' => bnd (testsE (fun e => ev C n e ρ') tests) fun b => if b = true then bnd (ev C n el ρ') fun x => ret (some x) else ret none)) vs) (mkList mu)

def seqL (f : T → Env → M Fl) : List T → Env → M Fl
  | [], ρ => ret (.nx ρ)
  | s :: r, ρ => bnd (f s ρ) fun g => (match g with
    | .nx ρ' => seqL f r ρ'
    | g => ret g)
def whileFuel : Nat := 1000000
variable (C : Cfg)
def ex : Nat → T → Env → M Fl
  | 0, _, _ => fail
  | n + 1, s, ρ => match s with
    | .asg tg e => bnd (ev C n e ρ) fun v => bnd (asgT tg v ρ) fun ρ' => ret (.nx ρ')
    | .par is es => bnd (mapE (fun e => ev C n e ρ) es) (parM is ρ)
    | .sub o i e => bnd (ev C n e ρ) fun v => bnd (ev C n o ρ) fun x => bnd (ev C n i ρ) fun y => bnd (putM x y v) fun _ => ret (.nx ρ)
    | .aug i o e => bnd (lift (ρ[i]?.join)) fun v => bnd (ev C n e ρ) fun w => bnd (augM o v w) fun x => ret (.nx (ρ.set i (some x)))
    | .ex e => bnd (ev C n e ρ) fun _ => ret (.nx ρ)
    | .rtn none => ret (.rt (.d .none))
    | .rtn (some e) => bnd (ev C n e ρ) fun v => ret (.rt v)
    | .if_ t a b => bnd (ev C n t ρ) fun v => bnd (truB v) fun c => if c = true then seqL (fun s ρ => ex n s ρ) a ρ else seqL (fun s ρ => ex n s ρ) b ρ
    | .for_ tg it b => bnd (itE (fun e => ev C n e ρ) it) fun vs => forL (fun v ρ => bnd (asgT tg v ρ) fun ρ' => seqL (fun s ρ => ex n s ρ) b ρ') vs ρ
    | .while_ t b => whileL (fun ρ => bnd (ev C n t ρ) truB) (fun ρ => seqL (fun s ρ => ex n s ρ) b ρ) whileFuel ρ
    | .raise_ c f e => bnd (ev C n e ρ) fun v => bnd (lift (dataV v)) fun d => fun S => .ex ⟨c, f, d⟩ S
    | .brk => ret (.bk ρ)
    | .cnt => ret (.ct ρ)
    | .pass => ret (.nx ρ)
end

structure Fn where
  np : Nat
  nslots : Nat
  body : List T
  shared : Bool
  params : List Str
def startE (n : Nat) (vs : List Val) : Env := vs.map some ++ List.replicate (n - vs.length) none
mutual
def below (k : Nat) : Val → Bool
  | .d _ => true
  | .k _ => true
  | .r n => decide (n < k)
  | .t xs => belowL k xs
def belowL (k : Nat) : List Val → Bool
  | [] => true
  | v :: r => below k v && belowL k r
end
def belowC (k : Nat) : Cell → Bool
  | .lst xs => belowL k xs
  | .lk xs => belowL k xs
  | .dk kvs => belowL k (kvs.map (·.2))
  | .dt kvs => belowL k (kvs.map (·.2))
  | .ins _ fs => belowL k (fs.map (·.2))
  | .dead => true
/-- the objects that were made in a call are let go, if nothing names them -/
def trim (k : Nat) (v : Val) (S : List Cell) : List Cell := if (below k v && (S.take k).all (belowC k)) = true then S.take k else S
def freeze (S : List Cell) : Val → Option PyData
  | .d x => some x
  | .r n => (match S[n]? with
    | some (.lst xs) => (allD xs).map .list
    | some (.dk kvs) => (dkD kvs).map .dict
    | some (.dt kvs) => (dtD kvs).map .dict
    | _ => none)
  | _ => none
abbrev Tab := List (Str × Fn)
def lookF (Γ : Tab) (f : Str) : Option Fn := (Γ.find? fun p => decide (p.1 = f)).map (·.2)
def kwF (Γ : Tab) (f : Str) (ks : List Str) (n : Nat) : Option (List Nat) := match lookF Γ f with
  | some fd => (fd.params.zipIdx).mapM fun (x, i) => if i < n then some i else (ks.idxOf? x).map (n + ·)
  | none => none
def bodyFuel : Nat := 60
def runB (C : Cfg) (fd : Fn) (vs : List Val) : M Val := bnd (seqL (fun s ρ => ex C bodyFuel s ρ) fd.body (startE fd.nslots vs)) fun f => match f with
  | .rt v => ret v
  | .nx _ => ret (.d .none)
  | _ => fail
def callB (C : Cfg) (fd : Fn) (vs : List Val) : M Val := if vs.length = fd.np then (if fd.shared = true then fun S => (match runB C fd vs S with
      | .ok v S' => .ok v (trim S.length v S')
      | .ex e S' => .ex e S'
      | .no => .no)
    else match allD vs with
      | some _ => fun S => (match runB C fd vs [] with
        | .ok v S' => (match freeze S' v with
          | some x => .ok (.d x) S
          | none => .no)
        | .ex e _ => .ex e S
        | .no => .no)
      | none => fail) else fail
def callD (Γ : Tab) (C : Cfg) (f : Str) (vs : List Val) : M Val := match lookF Γ f with
  | some fd => callB C fd vs
  | none => fail
def callF (Γ : Tab) (G : List (Str × Val)) : Nat → Str → List Val → M Val
  | 0, _, _ => fail
  | 1, f, vs => callD Γ ⟨callF Γ G 0, kwF Γ, G, none⟩ f vs
  | 2, f, vs => callD Γ ⟨callF Γ G 1, kwF Γ, G, none⟩ f vs
  | n + 3, f, vs => callD Γ ⟨callF Γ G (n + 2), kwF Γ, G, some (callF Γ G n)⟩ f vs
def lowF (Γ : Tab) (G : List (Str × Val)) : Nat → Option (Str → List Val → M Val)
  | n + 2 => some (callF Γ G n)
  | _ => none
theorem callF_D {Γ : Tab} {G : List (Str × Val)} (n : Nat) (f : Str) (vs : List Val) : callF Γ G (n + 1) f vs = callD Γ ⟨callF Γ G n, kwF Γ, G, lowF Γ G n⟩ f vs := by
  match n with
  | 0 => rfl
  | 1 => rfl
  | n + 2 => rfl
end Ev
end
section
set_option Elab.async false
set_option linter.all false
set_option maxRecDepth 100000
namespace Ev
open PySem PySem.Spec L2

mutual
/-- data that stands in the part I of the heap, which is never written -/
inductive RD (I : Hp) : PyData → V → Prop where
  | none : RD I .none .non
  | bool (b : Bool) : RD I (.bool b) (.bl b)
  | int (i : Int) : RD I (.int i) (.int i)
  | str (s : Str) : RD I (.str s) (.str s)
  | list {a : Addr} {xs : List V} {ds : List PyData} : I a = some (.lst xs) → RDs I ds xs → RD I (.list ds) (.ref a)
  | tuple {a : Addr} {xs : List V} {ds : List PyData} : I a = some (.tup xs) → RDs I ds xs → RD I (.tuple ds) (.ref a)
  | dk {a : Addr} {kvs : List (Key × V)} {ps : List (PyData × PyData)} : Rd I a (.dK kvs) → RDk I ps kvs → RD I (.dict ps) (.ref a)
  | dt {a : Addr} {kvs : List (List Key × V)} {ps : List (PyData × PyData)} : Rd I a (.dT kvs) → RDt I ps kvs → RD I (.dict ps) (.ref a)
inductive RDs (I : Hp) : List PyData → List V → Prop where
  | nil : RDs I [] []
  | cons {x : PyData} {v : V} {xs : List PyData} {vs : List V} : RD I x v → RDs I xs vs → RDs I (x :: xs) (v :: vs)
inductive RDk (I : Hp) : List (PyData × PyData) → List (Key × V) → Prop where
  | nil : RDk I [] []
  | cons {k : Key} {x : PyData} {v : V} {ps : List (PyData × PyData)} {kvs : List (Key × V)} : RD I x v → RDk I ps kvs → RDk I ((keyD k, x) :: ps) ((k, v) :: kvs)
inductive RDt (I : Hp) : List (PyData × PyData) → List (List Key × V) → Prop where
  | nil : RDt I [] []
  | cons {k : List Key} {x : PyData} {v : V} {ps : List (PyData × PyData)} {kvs : List (List Key × V)} : RD I x v → RDt I ps kvs → RDt I ((keysD k, x) :: ps) ((k, v) :: kvs)
end

def dictO : HO → Bool
  | .dK _ => true
  | .dT _ => true
  | .frz _ u => dictO u
  | _ => false
/-- one part lies in another (a dict may be locked) -/
structure Hle (I J : Hp) : Prop where
  o : ∀ b u, I b = some u → dictO u = false → J b = some u
  d : ∀ b u, dictO u = true → Rd I b u → Rd J b u
theorem Hle.refl (I : Hp) : Hle I I := ⟨fun _ _ h _ => h, fun _ _ _ h => h⟩
theorem Hle.trans {I J L : Hp} (a : Hle I J) (b : Hle J L) : Hle I L := ⟨fun c u h n => b.o c u (a.o c u h n) n, fun c u n h => b.d c u n (a.d c u n h)⟩
theorem Hle.of {I J : Hp} (h : ∀ b u, I b = some u → J b = some u) : Hle I J := ⟨fun b u e _ => h b u e, fun b u _ e => e.elim (fun e => .inl (h _ _ e)) fun ⟨o, e⟩ => .inr ⟨o, h _ _ e⟩⟩

mutual
theorem RD.mono {I J : Hp} (h : Hle I J) : ∀ {x : PyData} {v : V}, RD I x v → RD J x v
  | _, _, .none => .none
  | _, _, .bool b => .bool b
  | _, _, .int b => .int b
  | _, _, .str b => .str b
  | _, _, .list e r => .list (h.o _ _ e rfl) (RDs.mono h r)
  | _, _, .tuple e r => .tuple (h.o _ _ e rfl) (RDs.mono h r)
  | _, _, .dk e r => .dk (h.d _ _ rfl e) (RDk.mono h r)
  | _, _, .dt e r => .dt (h.d _ _ rfl e) (RDt.mono h r)
theorem RDs.mono {I J : Hp} (h : Hle I J) : ∀ {x : List PyData} {v : List V}, RDs I x v → RDs J x v
  | _, _, .nil => .nil
  | _, _, .cons a b => .cons (RD.mono h a) (RDs.mono h b)
theorem RDk.mono {I J : Hp} (h : Hle I J) : ∀ {x : List (PyData × PyData)} {v : List (Key × V)}, RDk I x v → RDk J x v
  | _, _, .nil => .nil
  | _, _, .cons a b => .cons (RD.mono h a) (RDk.mono h b)
theorem RDt.mono {I J : Hp} (h : Hle I J) : ∀ {x : List (PyData × PyData)} {v : List (List Key × V)}, RDt I x v → RDt J x v
  | _, _, .nil => .nil
  | _, _, .cons a b => .cons (RD.mono h a) (RDt.mono h b)
end

/-- scalars -/
def flatOf : PyData → Option V
  | .none => some .non
  | .bool b => some (.bl b)
  | .int i => some (.int i)
  | .str s => some (.str s)
  | _ => none
/-- constants of the module, the script: read only, their items flat -/
inductive RK (K : PySem.W.Frag) (I : Hp) : PyData → V → Prop where
  | list {a : Addr} {xs : List V} {ds : List PyData} : SqL K I a xs → ds.map flatOf = xs.map some → RK K I (.list ds) (.ref a)
  | tuple {a : Addr} {xs : List V} {ds : List PyData} : SqT K I a xs → ds.map flatOf = xs.map some → (∃ o : Obj, K.lookup a = some o ∧ o.cls = .type "tuple" ∧ o.dict = none) → RK K I (.tuple ds) (.ref a)
theorem SqL.mono {K : PySem.W.Frag} {I J : Hp} (h : Hle I J) {a : Addr} {xs : List V} (s : SqL K I a xs) : SqL K J a xs := by
  rcases s with (s | ⟨o, s⟩) | s
  · exact .inl (.inl (h.o _ _ s rfl))
  · exact .inl (.inr ⟨o, h.o _ _ s rfl⟩)
  · exact .inr s
theorem SqT.mono {K : PySem.W.Frag} {I J : Hp} (h : Hle I J) {a : Addr} {xs : List V} (s : SqT K I a xs) : SqT K J a xs := by
  rcases s with (s | ⟨o, s⟩) | s
  · exact .inl (.inl (h.o _ _ s rfl))
  · exact .inl (.inr ⟨o, h.o _ _ s rfl⟩)
  · exact .inr s
theorem RK.mono {K : PySem.W.Frag} {I J : Hp} (h : Hle I J) {x : PyData} {v : V} (r : RK K I x v) : RK K J x v := by
  cases r with
  | list s e => exact .list (SqL.mono h s) e
  | tuple s e q => exact .tuple (SqT.mono h s) e q

/-- a world: the part of the heap that is never written, where the store's objects stand, their number -/
structure Wd where
  I : Hp
  α : Nat → Addr
  k : Nat
mutual
inductive RV (K : PySem.W.Frag) (w : Wd) : Val → V → Prop where
  | d {x : PyData} {v : V} : RD w.I x v → RV K w (.d x) v
  | r {n : Nat} : n < w.k → RV K w (.r n) (.ref (w.α n))
  | t {a : Addr} {vs : List Val} {xs : List V} : w.I a = some (.tup xs) → RVs K w vs xs → RV K w (.t vs) (.ref a)
  | k {x : PyData} {v : V} : RK K w.I x v → RV K w (.k x) v
inductive RVs (K : PySem.W.Frag) (w : Wd) : List Val → List V → Prop where
  | nil : RVs K w [] []
  | cons {x : Val} {v : V} {xs : List Val} {vs : List V} : RV K w x v → RVs K w xs vs → RVs K w (x :: xs) (v :: vs)
end
abbrev RKV {κ : Type} (K : PySem.W.Frag) (w : Wd) : List (κ × Val) → List (κ × V) → Prop := Paired fun (p : κ × Val) (q : κ × V) => p.1 = q.1 ∧ RV K w p.2 q.2
structure Ext (w w' : Wd) : Prop where
  I : Hle w.I w'.I
  k : w.k ≤ w'.k
  α : ∀ n, n < w.k → w'.α n = w.α n
theorem Ext.refl (w : Wd) : Ext w w := ⟨.refl _, Nat.le_refl _, fun _ _ => rfl⟩
theorem Ext.trans {a b c : Wd} (x : Ext a b) (y : Ext b c) : Ext a c := ⟨x.I.trans y.I, Nat.le_trans x.k y.k, fun n h => (y.α n (Nat.lt_of_lt_of_le h x.k)).trans (x.α n h)⟩
section
variable {K : PySem.W.Frag} {w w' : Wd}
mutual
theorem RV.mono (e : Ext w w') : ∀ {x : Val} {v : V}, RV K w x v → RV K w' x v
  | _, _, .d r => .d (r.mono e.I)
  | _, _, .r h => by rw [← e.α _ h]; exact .r (Nat.lt_of_lt_of_le h e.k)
  | _, _, .t h r => .t (e.I.o _ _ h rfl) (RVs.mono e r)
  | _, _, .k r => .k (r.mono e.I)
theorem RVs.mono (e : Ext w w') : ∀ {x : List Val} {v : List V}, RVs K w x v → RVs K w' x v
  | _, _, .nil => .nil
  | _, _, .cons a b => .cons (RV.mono e a) (RVs.mono e b)
end
theorem RKV.mono {κ : Type} (e : Ext w w') {x : List (κ × Val)} {v : List (κ × V)} (r : RKV K w x v) : RKV K w' x v := Paired.mapP r fun _ _ h => ⟨h.1, h.2.mono e⟩
end
/-- an object that is no table of code, no code -/
def pl : HO → Bool
  | .tbl _ => false
  | .ext _ => false
  | _ => true
inductive RC (K : PySem.W.Frag) (w : Wd) : Cell → HO → Prop where
  | lst {vs : List Val} {xs : List V} : RVs K w vs xs → RC K w (.lst vs) (.lst xs)
  | lk {vs : List Val} {xs : List V} : RVs K w vs xs → RC K w (.lk vs) (.lst xs)
  | dk {kvs : List (Key × Val)} {ps : List (Key × V)} : RKV K w kvs ps → RC K w (.dk kvs) (.dK ps)
  | dt {kvs : List (List Key × Val)} {ps : List (List Key × V)} : RKV K w kvs ps → RC K w (.dt kvs) (.dT ps)
theorem RC.mono {K : PySem.W.Frag} {w w' : Wd} (e : Ext w w') {c : Cell} {o : HO} (r : RC K w c o) : RC K w' c o := by
  cases r with
  | lst r => exact .lst (r.mono e)
  | lk r => exact .lk (r.mono e)
  | dk r => exact .dk (r.mono e)
  | dt r => exact .dt (r.mono e)
theorem RC.pl {K : PySem.W.Frag} {w : Wd} {c : Cell} {o : HO} (r : RC K w c o) : Ev.pl o = true := by cases r <;> rfl
theorem RC.mut {K : PySem.W.Frag} {w : Wd} {c : Cell} {o : HO} (r : RC K w c o) : Mut (some o) := by cases r <;> trivial
def Cell.live : Cell → Bool
  | .dead => false
  | _ => true
/-- what a code leaves as it is: out; what was data ahead of it: I0 -/
structure Gh where
  out : Hp
  I0 : Hp
/-- the code objects that the written part knows, the tables in them, what the lambdas in them are named -/
def tabsC (K : PySem.W.Frag) : List (Addr × Addr × Str) :=
  (match K.lookup mainGlobals with
    | some ⟨_, _, .dict es _, _⟩ => es.toList
    | _ => []).filterMap fun (e : DictEntry) => match e.val with
      | Value.ref a => (match K.lookup a with
        | some ⟨_, _, .func fd, _⟩ => (match fd.code with
          | Value.ref c => (match K.lookup c with
            | some ⟨_, _, .fields vs, _⟩ => (match vs[11]? with
              | some (Value.ref P) => some (c, P, fd.qualname ++ ".<locals>." ++ "<lambda>")
              | _ => none)
            | _ => none)
          | _ => none)
        | _ => none)
      | _ => none
def tabsOf (K : PySem.W.Frag) : List (Addr × Str) := (tabsC K).map (·.2)
def TabOk (K : PySem.W.Frag) (H : Hp) : Prop := LamX.Tabs (tabsOf K) H
theorem TabOk.keep {K : PySem.W.Frag} {H J : Hp} (t : TabOk K H) (k : ∀ b o, H b = some o → pl o = false → J b = some o) : TabOk K J := fun p hp => by
  obtain ⟨ps, h1, h2, h3⟩ := t p hp
  refine ⟨ps, k _ _ h1 rfl, h2, fun pos cv hc => ?_⟩
  obtain ⟨c, e1, e2⟩ := h3 pos cv hc
  exact ⟨c, e1, k _ _ e2 rfl⟩
theorem TabOk.new {K : PySem.W.Frag} {H : Hp} {p : Addr} {o : HO} (t : TabOk K H) (h : H p = none) : TabOk K (upd H p o) := t.keep fun b u e _ => by rw [upd_ne (ne_of_none e h)]; exact e
theorem TabOk.set {K : PySem.W.Frag} {H : Hp} {p : Addr} {o u : HO} (t : TabOk K H) (h : H p = some u) (hu : pl u = true) : TabOk K (upd H p o) := t.keep fun b v e n => by
  rw [upd_ne (fun z => by rw [z, h] at e; cases e; rw [hu] at n; cases n)]; exact e
structure RS (K : PySem.W.Frag) (g : Gh) (w : Wd) (S : List Cell) (H : Hp) : Prop where
  len : S.length = w.k
  le : ∀ b o, w.I b = some o → H b = some o
  out : ∀ b o, g.out b = some o → H b = some o
  cell : ∀ n c, S[n]? = some c → c.live = true → ∃ o, H (w.α n) = some o ∧ RC K w c o ∧ w.I (w.α n) = none ∧ g.out (w.α n) = none
  inj : ∀ n m c e, S[n]? = some c → c.live = true → S[m]? = some e → e.live = true → w.α n = w.α m → n = m
  fr : ∀ b o, w.I b = some o → (∃ u, g.I0 b = some u) ∨ g.out b = none
  pI : ∀ b o, w.I b = some o → pl o = true
  pO : ∀ b o, g.out b = some o → pl o = true
  tab : TabOk K H
structure RE (K : PySem.W.Frag) (w : Wd) (ρ : Env) (σ : St) : Prop where
  len : ρ.length = σ.length
  at_ : ∀ (i : Nat) (v : Val), ρ[i]? = some (some v) → ∃ x : V, σ[i]? = some (some x) ∧ RV K w v x
theorem RE.mono {K : PySem.W.Frag} {w w' : Wd} (e : Ext w w') {ρ : Env} {σ : St} (r : RE K w ρ σ) : RE K w' ρ σ := ⟨r.len, fun i v h => let ⟨x, a, b⟩ := r.at_ i v h; ⟨x, a, b.mono e⟩⟩
theorem RE.set {K : PySem.W.Frag} {w : Wd} {ρ : Env} {σ : St} (r : RE K w ρ σ) (i : Nat) {v : Val} {x : V} (h : RV K w v x) : RE K w (ρ.set i (some v)) (σ.set i (some x)) := by
  refine ⟨by simp [r.len], fun j u e => ?_⟩
  by_cases hj : i = j
  · subst hj
    by_cases hl : i < ρ.length
    · rw [List.getElem?_set_self hl] at e
      cases e
      exact ⟨x, by rw [List.getElem?_set_self (by rw [← r.len]; exact hl)], h⟩
    · rw [List.getElem?_eq_none (by simp; omega)] at e
      cases e
  · rw [List.getElem?_set_ne hj] at e
    obtain ⟨y, a, b⟩ := r.at_ j u e
    exact ⟨y, by rw [List.getElem?_set_ne hj]; exact a, b⟩
theorem RE.clear {K : PySem.W.Frag} {w : Wd} {ρ : Env} {σ : St} (r : RE K w ρ σ) (i : Nat) : RE K w (ρ.set i none) (σ.set i none) := by
  refine ⟨by simp [r.len], fun j u e => ?_⟩
  by_cases hj : i = j
  · subst hj
    by_cases hl : i < ρ.length
    · rw [List.getElem?_set_self hl] at e
      cases e
    · rw [List.getElem?_eq_none (by simp; omega)] at e
      cases e
  · rw [List.getElem?_set_ne hj] at e
    obtain ⟨y, a, b⟩ := r.at_ j u e
    exact ⟨y, by rw [List.getElem?_set_ne hj]; exact a, b⟩
theorem RE.wipe {K : PySem.W.Frag} {w : Wd} {ρ : Env} {σ : St} (r : RE K w ρ σ) : ∀ vs : List Nat, RE K w (wipeE ρ vs) (wipe σ vs)
  | [] => r
  | v :: vs => (RE.wipe r vs).clear v

section
variable {K : PySem.W.Frag} {g : Gh} {w : Wd} {S : List Cell} {H : Hp} {p : Addr} {o : HO}
theorem RS.Ifree (R : RS K g w S H) (h : H p = none) : w.I p = none := by
  cases e : w.I p with
  | none => rfl
  | some u => rw [R.le _ _ e] at h; cases h
theorem RS.outfree (R : RS K g w S H) (h : H p = none) : g.out p = none := by
  cases e : g.out p with
  | none => rfl
  | some u => rw [R.out _ _ e] at h; cases h
/-- a new object that is never written -/
def Wd.put (w : Wd) (p : Addr) (o : HO) : Wd := ⟨upd w.I p o, w.α, w.k⟩
theorem Ext.put (h : w.I p = none) : Ext w (w.put p o) := ⟨.of fun b u e => by show upd w.I p o b = _; rw [upd_ne (ne_of_none e h)]; exact e, Nat.le_refl _, fun _ _ => rfl⟩
theorem RS.put (R : RS K g w S H) (h : H p = none) (ho : pl o = true := by rfl) : RS K g (w.put p o) S (upd H p o) where
  len := R.len
  le := fun b u e => by
    by_cases hb : b = p
    · subst hb
      have e' : upd w.I b o b = some u := e
      rw [upd_same] at e'
      rw [upd_same]; exact e'
    · have e' : upd w.I p o b = some u := e
      rw [upd_ne hb] at e'
      rw [upd_ne hb]; exact R.le _ _ e'
  out := fun b u e => by rw [upd_ne (ne_of_none e (R.outfree h))]; exact R.out _ _ e
  cell := fun n c e l => by
    obtain ⟨u, a, b, i, d⟩ := R.cell n c e l
    have ne : w.α n ≠ p := ne_of_none a h
    exact ⟨u, by show upd H p o (w.α n) = _; rw [upd_ne ne]; exact a, b.mono (Ext.put (R.Ifree h)), by show upd w.I p o (w.α n) = _; rw [upd_ne ne]; exact i, d⟩
  inj := R.inj
  fr := fun b u e => by
    by_cases hb : b = p
    · subst hb; exact .inr (R.outfree h)
    · have e' : upd w.I p o b = some u := e
      rw [upd_ne hb] at e'
      exact R.fr _ _ e'
  pI := fun b u e => by
    by_cases hb : b = p
    · subst hb
      have e' : upd w.I b o b = some u := e
      rw [upd_same] at e'
      cases e'; exact ho
    · have e' : upd w.I p o b = some u := e
      rw [upd_ne hb] at e'
      exact R.pI _ _ e'
  pO := R.pO
  tab := R.tab.new h
/-- a new object of the store -/
def Wd.new (w : Wd) (p : Addr) : Wd := ⟨w.I, fun n => if n = w.k then p else w.α n, w.k + 1⟩
theorem Wd.new_at : (w.new p).α w.k = p := by show (if w.k = w.k then p else _) = p; rw [if_pos rfl]
theorem Ext.new : Ext w (w.new p) := ⟨.refl _, Nat.le_succ _, fun n h => by show (if n = w.k then p else _) = _; rw [if_neg (by omega)]⟩
theorem RS.new (R : RS K g w S H) (h : H p = none) {c : Cell} (r : RC K w c o) : RS K g (w.new p) (S ++ [c]) (upd H p o) where
  len := by rw [List.length_append, R.len]; rfl
  le := fun b u e => by rw [upd_ne (ne_of_none e (R.Ifree h))]; exact R.le _ _ e
  out := fun b u e => by rw [upd_ne (ne_of_none e (R.outfree h))]; exact R.out _ _ e
  cell := fun n c' e l => by
    by_cases hn : n < S.length
    · rw [List.getElem?_append_left hn] at e
      obtain ⟨u, a, b, i, d⟩ := R.cell n c' e l
      have hα : (w.new p).α n = w.α n := by show (if n = w.k then p else _) = _; rw [if_neg (by rw [← R.len]; omega)]
      rw [hα]
      exact ⟨u, by rw [upd_ne (ne_of_none a h)]; exact a, b.mono Ext.new, i, d⟩
    · have hn' : n = S.length := by
        have := (List.getElem?_eq_some_iff.mp e).1
        simp at this; omega
      subst hn'
      simp at e
      subst e
      have hα : (w.new p).α S.length = p := by rw [R.len]; exact Wd.new_at
      rw [hα]
      exact ⟨o, upd_same, r.mono Ext.new, R.Ifree h, R.outfree h⟩
  inj := fun n m c' e' a la b lb h' => by
    have cl : ∀ n c', (S ++ [c])[n]? = some c' → c'.live = true → (n < S.length ∧ S[n]? = some c' ∧ (w.new p).α n = w.α n ∧ w.α n ≠ p) ∨ (n = S.length ∧ (w.new p).α n = p) := fun n c' a la => by
      by_cases hn : n < S.length
      · rw [List.getElem?_append_left hn] at a
        obtain ⟨u, x, _⟩ := R.cell n c' a la
        exact .inl ⟨hn, a, by show (if n = w.k then p else _) = _; rw [if_neg (by rw [← R.len]; omega)], ne_of_none x h⟩
      · have hn' : n = S.length := by
          have := (List.getElem?_eq_some_iff.mp a).1
          simp at this; omega
        exact .inr ⟨hn', by rw [hn', R.len]; exact Wd.new_at⟩
    rcases cl n c' a la with ⟨_, a1, a2, a3⟩ | ⟨a1, a2⟩
    · rcases cl m e' b lb with ⟨_, b1, b2, b3⟩ | ⟨b1, b2⟩
      · rw [a2, b2] at h'; exact R.inj n m _ _ a1 la b1 lb h'
      · rw [a2, b2] at h'; exact (a3 h').elim
    · rcases cl m e' b lb with ⟨_, b1, b2, b3⟩ | ⟨b1, b2⟩
      · rw [a2, b2] at h'; exact (b3 h'.symm).elim
      · rw [a1, b1]
  fr := R.fr
  pI := R.pI
  pO := R.pO
  tab := R.tab.new h
/-- an object of the store is written -/
theorem RS.set (R : RS K g w S H) {n : Nat} {c c' : Cell} (e : S[n]? = some c) (l : c.live = true) (r : RC K w c' o) (l' : c'.live = true) : RS K g w (S.set n c') (upd H (w.α n) o) := by
  obtain ⟨u, a, b, i, d⟩ := R.cell n c e l
  have hn : n < S.length := (List.getElem?_eq_some_iff.mp e).1
  have at_ : ∀ m c'', (S.set n c')[m]? = some c'' → (m = n ∧ c'' = c') ∨ (m ≠ n ∧ S[m]? = some c'') := fun m c'' h => by
    by_cases hm : n = m
    · subst hm
      rw [List.getElem?_set_self hn] at h
      exact .inl ⟨rfl, (Option.some.inj h).symm⟩
    · rw [List.getElem?_set_ne hm] at h
      exact .inr ⟨Ne.symm hm, h⟩
  refine ⟨by rw [List.length_set]; exact R.len, fun b' u' e' => ?_, fun b' u' e' => ?_, fun m c'' h lv => ?_, fun m m' c1 c2 h1 l1 h2 l2 hh => ?_, R.fr, R.pI, R.pO, R.tab.set a b.pl⟩
  · rw [upd_ne (fun z => by rw [z, i] at e'; cases e')]; exact R.le _ _ e'
  · rw [upd_ne (fun z => by rw [z, d] at e'; cases e')]; exact R.out _ _ e'
  · rcases at_ m c'' h with ⟨rfl, rfl⟩ | ⟨hm, h⟩
    · exact ⟨o, upd_same, r, i, d⟩
    · obtain ⟨u2, a2, b2, i2, d2⟩ := R.cell m c'' h lv
      have ne : w.α m ≠ w.α n := fun z => hm (R.inj m n _ _ h lv e l z)
      exact ⟨u2, by rw [upd_ne ne]; exact a2, b2, i2, d2⟩
  · have q : ∀ (m : Nat) (c'' : Cell), (S.set n c')[m]? = some c'' → c''.live = true → ∃ c3 : Cell, S[m]? = some c3 ∧ c3.live = true := fun m c'' h lv => by
      rcases at_ m c'' h with ⟨z, _⟩ | ⟨_, z⟩
      · exact ⟨c, by rw [z]; exact e, l⟩
      · exact ⟨c'', z, lv⟩
    obtain ⟨_, q1, q2⟩ := q m c1 h1 l1
    obtain ⟨_, q3, q4⟩ := q m' c2 h2 l2
    exact R.inj m m' _ _ q1 q2 q3 q4 hh
end

theorem RDs.length {I : Hp} : ∀ {x : List PyData} {v : List V}, RDs I x v → x.length = v.length
  | _, _, .nil => rfl
  | _, _, .cons _ r => congrArg (· + 1) (RDs.length r)
theorem RVs.length {K : PySem.W.Frag} {w : Wd} : ∀ {x : List Val} {v : List V}, RVs K w x v → x.length = v.length
  | _, _, .nil => rfl
  | _, _, .cons _ r => congrArg (· + 1) (RVs.length r)
theorem RVs.data {K : PySem.W.Frag} {w : Wd} : ∀ {x : List Val} {v : List V} {ds : List PyData}, RVs K w x v → allD x = some ds → RDs w.I ds v
  | [], _, _, .nil, h => by cases h; exact .nil
  | .d x :: r, _, _, .cons (.d a) b, h => by
    obtain ⟨ds, e, rfl⟩ := Option.map_eq_some_iff.mp (show (allD r).map (x :: ·) = some _ from h)
    exact .cons a (RVs.data b e)
  | .r _ :: _, _, _, _, h => by cases h
  | .t _ :: _, _, _, _, h => by cases h
  | .k _ :: _, _, _, _, h => by cases h
theorem RKV.dk {K : PySem.W.Frag} {w : Wd} : ∀ {x : List (Key × Val)} {v : List (Key × V)} {ds : List (PyData × PyData)}, RKV K w x v → dkD x = some ds → RDk w.I ds v
  | [], _, _, .nil, h => by cases h; exact .nil
  | (k, .d x) :: r, (k', v) :: vs, _, .cons ⟨e, a⟩ b, h => by
    obtain ⟨ds, e', rfl⟩ := Option.map_eq_some_iff.mp (show (dkD r).map ((keyD k, x) :: ·) = some _ from h)
    obtain rfl : k = k' := e
    cases a with
    | d a => exact .cons a (RKV.dk b e')
  | (_, .r _) :: _, _, _, _, h => by cases h
  | (_, .t _) :: _, _, _, _, h => by cases h
  | (_, .k _) :: _, _, _, _, h => by cases h
theorem RKV.dt {K : PySem.W.Frag} {w : Wd} : ∀ {x : List (List Key × Val)} {v : List (List Key × V)} {ds : List (PyData × PyData)}, RKV K w x v → dtD x = some ds → RDt w.I ds v
  | [], _, _, .nil, h => by cases h; exact .nil
  | (k, .d x) :: r, (k', v) :: vs, _, .cons ⟨e, a⟩ b, h => by
    obtain ⟨ds, e', rfl⟩ := Option.map_eq_some_iff.mp (show (dtD r).map ((keysD k, x) :: ·) = some _ from h)
    obtain rfl : k = k' := e
    cases a with
    | d a => exact .cons a (RKV.dt b e')
  | (_, .r _) :: _, _, _, _, h => by cases h
  | (_, .t _) :: _, _, _, _, h => by cases h
  | (_, .k _) :: _, _, _, _, h => by cases h
theorem flat_RD {I : Hp} {x : PyData} {v : V} (h : flatOf x = some v) : RD I x v := by
  cases x <;> first | (cases h; constructor) | cases h
theorem flats_RD {I : Hp} : ∀ {ds : List PyData} {xs : List V}, ds.map flatOf = xs.map some → RDs I ds xs
  | [], [], _ => .nil
  | d :: ds, x :: xs, h => by
    have h' : flatOf d = some x ∧ ds.map flatOf = xs.map some := by simpa using h
    exact .cons (flat_RD h'.1) (flats_RD h'.2)
  | [], _ :: _, h => by simp at h
  | _ :: _, [], h => by simp at h
/-- data that may be read in H, its parts in I -/
inductive RT (K : PySem.W.Frag) (H I : Hp) : PyData → V → Prop where
  | flat {x : PyData} {v : V} : flatOf x = some v → RT K H I x v
  | list {a : Addr} {xs : List V} {ds : List PyData} : SqL K H a xs → RDs I ds xs → RT K H I (.list ds) (.ref a)
  | tuple {a : Addr} {xs : List V} {ds : List PyData} : SqT K H a xs → RDs I ds xs → RT K H I (.tuple ds) (.ref a)
  | dk {a : Addr} {kvs : List (Key × V)} {ps : List (PyData × PyData)} : Rd H a (.dK kvs) → RDk I ps kvs → RT K H I (.dict ps) (.ref a)
  | dt {a : Addr} {kvs : List (List Key × V)} {ps : List (PyData × PyData)} : Rd H a (.dT kvs) → RDt I ps kvs → RT K H I (.dict ps) (.ref a)
/-- .. of an object that is tracked by itself -/
inductive RU (H I : Hp) : PyData → V → Prop where
  | flat {x : PyData} {v : V} : flatOf x = some v → RU H I x v
  | list {a : Addr} {xs : List V} {ds : List PyData} : H a = some (.lst xs) → RDs I ds xs → RU H I (.list ds) (.ref a)
  | tuple {a : Addr} {xs : List V} {ds : List PyData} : H a = some (.tup xs) → RDs I ds xs → RU H I (.tuple ds) (.ref a)
  | dk {a : Addr} {kvs : List (Key × V)} {ps : List (PyData × PyData)} : Rd H a (.dK kvs) → RDk I ps kvs → RU H I (.dict ps) (.ref a)
  | dt {a : Addr} {kvs : List (List Key × V)} {ps : List (PyData × PyData)} : Rd H a (.dT kvs) → RDt I ps kvs → RU H I (.dict ps) (.ref a)
theorem RU.rt {K : PySem.W.Frag} {H I : Hp} {x : PyData} {v : V} (r : RU H I x v) : RT K H I x v := by
  cases r with
  | flat h => exact .flat h
  | list h r => exact .list (.of h) r
  | tuple h r => exact .tuple (.of h) r
  | dk h r => exact .dk h r
  | dt h r => exact .dt h r
section
variable {K : PySem.W.Frag} {g : Gh} {w : Wd} {S : List Cell} {H : Hp}
theorem RS.rd (R : RS K g w S H) {a : Addr} {u : HO} (r : Rd w.I a u) : Rd H a u := r.elim (fun e => .inl (R.le _ _ e)) fun ⟨o, e⟩ => .inr ⟨o, R.le _ _ e⟩
theorem RS.hle (R : RS K g w S H) : Hle w.I H := .of R.le
theorem RS.vwd (R : RS K g w S H) {v : Val} {x : V} (r : RV K w v x) {d : PyData} (h : vwd S v = some d) : RU H w.I d x := by
  cases r with
  | d r =>
    obtain rfl : _ = d := Option.some.inj h
    cases r with
    | list e r => exact .list (R.le _ _ e) r
    | tuple e r => exact .tuple (R.le _ _ e) r
    | dk e r => exact .dk (R.rd e) r
    | dt e r => exact .dt (R.rd e) r
    | _ => exact .flat rfl
  | @r n hn =>
    have h : (match S[n]? with
      | some (.lst xs) => (allD xs).map PyData.list
      | some (.lk xs) => (allD xs).map PyData.list
      | some (.dk kvs) => (dkD kvs).map PyData.dict
      | some (.dt kvs) => (dtD kvs).map PyData.dict
      | _ => none) = some d := h
    cases e : S[n]? with
    | none => rw [e] at h; cases h
    | some c =>
      rw [e] at h
      cases c with
      | lst xs =>
        obtain ⟨ds, e', rfl⟩ := Option.map_eq_some_iff.mp h
        obtain ⟨o, a, b, _⟩ := R.cell n _ e rfl
        cases b with
        | lst b => exact .list a (b.data e')
      | lk xs =>
        obtain ⟨ds, e', rfl⟩ := Option.map_eq_some_iff.mp h
        obtain ⟨o, a, b, _⟩ := R.cell n _ e rfl
        cases b with
        | lk b => exact .list a (b.data e')
      | dk xs =>
        obtain ⟨ds, e', rfl⟩ := Option.map_eq_some_iff.mp h
        obtain ⟨o, a, b, _⟩ := R.cell n _ e rfl
        cases b with
        | dk b => exact .dk (.inl a) (b.dk e')
      | dt xs =>
        obtain ⟨ds, e', rfl⟩ := Option.map_eq_some_iff.mp h
        obtain ⟨o, a, b, _⟩ := R.cell n _ e rfl
        cases b with
        | dt b => exact .dt (.inl a) (b.dt e')
      | _ => cases h
  | t _ _ => cases h
  | k _ => cases h
theorem RS.vw (R : RS K g w S H) {v : Val} {x : V} (r : RV K w v x) {d : PyData} (h : vw S v = some d) : RT K H w.I d x := by
  cases v with
  | k y =>
    obtain rfl : y = d := Option.some.inj h
    cases r with
    | k r =>
      cases r with
      | list s e => exact .list (SqL.mono R.hle s) (flats_RD e)
      | tuple s e => exact .tuple (SqT.mono R.hle s) (flats_RD e)
  | d y => exact (R.vwd r (show Ev.vwd S (.d y) = _ from h)).rt
  | r n => exact (R.vwd r (show Ev.vwd S (.r n) = _ from h)).rt
  | t xs => cases h
theorem RT.flat_inv {I : Hp} {x : PyData} {v : V} (r : RT K H I x v) (h : flatD x = true) : flatOf x = some v := by
  cases r with
  | flat e => exact e
  | _ => cases h
end

/-- an exception as it lies -/
def RX (cA : Str → Addr) (w : Wd) (e : Exn) (c : Value) (d : Option Addr) (H : Hp) : Prop :=
  c = .ref (cA e.cls) ∧ ∃ a v, d = some a ∧ H a = some (.xd [(e.fld, v)]) ∧ RD w.I e.arg v
/-- what is fixed in a proof of a def: the written part, where the classes of exceptions stand, the wish of exceptions -/
structure Fx where
  K : PySem.W.Frag
  cA : Str → Addr
  W : WX
section
variable (F : Fx)
def PO {α : Type} (rel : Wd → α → V → Prop) (g : Gh) (w : Wd) (σ : St) (Q : VK) (r : Res α) : Prop := match r with
  | .ok v S' => ∀ w' H' x, Ext w w' → RS F.K g w' S' H' → rel w' v x → Q x H'
  | .ex e S' => ∀ w' H' c d, Ext w w' → RS F.K g w' S' H' → RX F.cA w' e c d H' → F.W c d σ H'
  | .no => False
/-- an expression's reading does what is reckoned -/
def SE (t : TE) (m : Env → M Val) : Prop := ∀ g w ρ S σ H Q, RS F.K g w S H → RE F.K w ρ σ → PO F (RV F.K) g w σ Q (m ρ S) → t σ H Q
def PB {α : Type} (g : Gh) (w : Wd) (σ : St) (Q : α → Hp → Prop) (r : Res α) : Prop := match r with
  | .ok v S' => ∀ w' H', Ext w w' → RS F.K g w' S' H' → Q v H'
  | .ex e S' => ∀ w' H' c d, Ext w w' → RS F.K g w' S' H' → RX F.cA w' e c d H' → F.W c d σ H'
  | .no => False
def ST (t : TT) (m : Env → M Bool) : Prop := ∀ g w ρ S σ H Q, RS F.K g w S H → RE F.K w ρ σ → PB F g w σ Q (m ρ S) → t σ H Q
def PA' (g : Gh) (w : Wd) (σ : St) (Q : List V → Hp → Prop) (r : Res (List Val)) : Prop := match r with
  | .ok v S' => ∀ w' H' x, Ext w w' → RS F.K g w' S' H' → RVs F.K w' v x → Q x H'
  | .ex e S' => ∀ w' H' c d, Ext w w' → RS F.K g w' S' H' → RX F.cA w' e c d H' → F.W c d σ H'
  | .no => False
def SA (t : TA) (m : Env → M (List Val)) : Prop := ∀ g w ρ S σ H Q, RS F.K g w S H → RE F.K w ρ σ → PA' F g w σ Q (m ρ S) → t σ H Q
/-- a statement's ends -/
def PF (g : Gh) (w : Wd) (D : Ends) (r : Res Fl) : Prop := match r with
  | .ok (.nx ρ') S' => ∀ w' σ' H', Ext w w' → RS F.K g w' S' H' → RE F.K w' ρ' σ' → D.nx σ' H'
  | .ok (.bk ρ') S' => ∀ w' σ' H', Ext w w' → RS F.K g w' S' H' → RE F.K w' ρ' σ' → D.bk σ' H'
  | .ok (.ct ρ') S' => ∀ w' σ' H', Ext w w' → RS F.K g w' S' H' → RE F.K w' ρ' σ' → D.ct σ' H'
  | .ok (.rt v) S' => ∀ w' H' x, Ext w w' → RS F.K g w' S' H' → RV F.K w' v x → D.rt x H'
  | .ex e S' => ∀ w' σ' H' c d, Ext w w' → RS F.K g w' S' H' → RX F.cA w' e c d H' → F.W c d σ' H'
  | .no => False
def SS (t : TS) (m : Env → M Fl) : Prop := ∀ g w ρ S σ H D, RS F.K g w S H → RE F.K w ρ σ → PF F g w D (m ρ S) → t D σ H

variable {F} {g : Gh} {w : Wd} {σ : St}
theorem PO.ext {Q : VK} {r : Res Val} {w' : Wd} (e : Ext w w') (h : PO F (RV F.K) g w σ Q r) : PO F (RV F.K) g w' σ Q r := by
  match r, h with
  | .ok v S', h => exact fun w2 H2 x e2 => h w2 H2 x (e.trans e2)
  | .ex _ S', h => exact fun w2 H2 c d e2 => h w2 H2 c d (e.trans e2)
  | .no, h => exact h
theorem PB.ext {α : Type} {Q : α → Hp → Prop} {r : Res α} {w' : Wd} (e : Ext w w') (h : PB F g w σ Q r) : PB F g w' σ Q r := by
  match r, h with
  | .ok v S', h => exact fun w2 H2 e2 => h w2 H2 (e.trans e2)
  | .ex _ S', h => exact fun w2 H2 c d e2 => h w2 H2 c d (e.trans e2)
  | .no, h => exact h
theorem PA'.ext {Q : List V → Hp → Prop} {r : Res (List Val)} {w' : Wd} (e : Ext w w') (h : PA' F g w σ Q r) : PA' F g w' σ Q r := by
  match r, h with
  | .ok v S', h => exact fun w2 H2 x e2 => h w2 H2 x (e.trans e2)
  | .ex _ S', h => exact fun w2 H2 c d e2 => h w2 H2 c d (e.trans e2)
  | .no, h => exact h
theorem PF.ext {D : Ends} {r : Res Fl} {w' : Wd} (e : Ext w w') (h : PF F g w D r) : PF F g w' D r := by
  match r, h with
  | .ok (.nx _) S', h => exact fun w2 s2 H2 e2 => h w2 s2 H2 (e.trans e2)
  | .ok (.bk _) S', h => exact fun w2 s2 H2 e2 => h w2 s2 H2 (e.trans e2)
  | .ok (.ct _) S', h => exact fun w2 s2 H2 e2 => h w2 s2 H2 (e.trans e2)
  | .ok (.rt _) S', h => exact fun w2 H2 x e2 => h w2 H2 x (e.trans e2)
  | .ex _ S', h => exact fun w2 s2 H2 c d e2 => h w2 s2 H2 c d (e.trans e2)
  | .no, h => exact h
/-- an expression behind which something goes on: what is wanted of the whole (in any of the forms) -/
theorem po_bind {β : Type} {P : Wd → Res β → Prop} {Q1 : VK} {m : M Val} {f : Val → M β} {S : List Cell}
    (h : P w (bnd m f S)) (hx : ∀ e S' w' H' c d, P w (.ex e S') → Ext w w' → RS F.K g w' S' H' → RX F.cA w' e c d H' → F.W c d σ H') (hn : ¬ P w .no)
    (k : ∀ v S' w' H' x, Ext w w' → RS F.K g w' S' H' → RV F.K w' v x → P w (f v S') → Q1 x H') : PO F (RV F.K) g w σ Q1 (m S) := by
  unfold bnd at h
  cases e : m S with
  | ok v S' => rw [e] at h; exact fun w' H' x e R r => k v S' w' H' x e R r h
  | ex _ S' => rw [e] at h; exact fun w' H' c d e2 R r => hx _ S' w' H' c d h e2 R r
  | no => rw [e] at h; exact hn h
/-- .. an expression in an expression -/
theorem SE.then_ {ta : TE} {ma : Env → M Val} (ha : SE F ta ma) {tb : V → TE} {f : Val → Env → M Val}
    (hb : ∀ g w ρ S σ H Q v x, RS F.K g w S H → RE F.K w ρ σ → RV F.K w v x → PO F (RV F.K) g w σ Q (f v ρ S) → tb x σ H Q) :
    SE F (fun σ H Q => ta σ H fun x H1 => tb x σ H1 Q) (fun ρ => bnd (ma ρ) fun v => f v ρ) := fun g w ρ S σ H Q R E h =>
  ha g w ρ S σ H _ R E (po_bind (P := fun w r => PO F (RV F.K) g w σ Q r) (f := fun v => f v ρ) h (fun e S' w' H' c d p => p w' H' c d) (fun p => p) fun v S' w' H' x e R' r p => hb g w' ρ S' σ H' Q v x R' (E.mono e) r (p.ext e))
end
end Ev
end
section
set_option Elab.async false
set_option linter.all false
set_option maxRecDepth 100000
namespace Ev
open PySem PySem.Spec L2
section
variable {F : Fx} {g : Gh} {w : Wd} {S : List Cell} {H : Hp} {σ : St} {Q : VK}
theorem RDs.map_some {I : Hp} : ∀ {x : List PyData} {v : List V}, RDs I x v → RVs F.K ⟨I, w.α, w.k⟩ (x.map .d) v
  | _, _, .nil => .nil
  | _, _, .cons a b => .cons (.d a) (RDs.map_some b)
/-- an end: a flat value; a new tuple; a new list; data that stands already -/
theorem fin_val {v : Val} {x : V} (h : PO F (RV F.K) g w σ Q (.ok v S)) (R : RS F.K g w S H) (r : RV F.K w v x) : Q x H := h w H x (.refl _) R r
theorem fin_tup {ds : List PyData} {zs : List V} {mu : Bool} (h : PO F (RV F.K) g w σ Q (mkRes mu (.tuple ds) S)) (R : RS F.K g w S H) (r : RDs w.I ds zs) : ∀ p, H p = none → Q (.ref p) (upd H p (.tup zs)) := fun p hp => by
  have h' : PO F (RV F.K) g w σ Q (.ok (.d (.tuple ds)) S) := by cases mu <;> exact h
  have e : Ext w (w.put p (.tup zs)) := .put (R.Ifree hp)
  exact h' _ _ _ e (R.put hp) (.d (.tuple upd_same (r.mono e.I)))
theorem fin_lst {ds : List PyData} {zs : List V} {mu : Bool} (h : PO F (RV F.K) g w σ Q (mkRes mu (.list ds) S)) (R : RS F.K g w S H) (r : RDs w.I ds zs) : ∀ p, H p = none → Q (.ref p) (upd H p (.lst zs)) := fun p hp => by
  cases mu with
  | false =>
    have e : Ext w (w.put p (.lst zs)) := .put (R.Ifree hp)
    exact h _ _ _ e (R.put hp) (.d (.list upd_same (r.mono e.I)))
  | true =>
    have h' : PO F (RV F.K) g w σ Q (.ok (.r S.length) (S ++ [.lst (ds.map .d)])) := h
    have q := h' _ _ (.ref p) (Ext.new (p := p)) (R.new hp (.lst (r.map_some (F := F) (w := w)))) (by
      have q := RV.r (K := F.K) (w := w.new p) (n := S.length) (by rw [R.len]; exact Nat.lt_succ_self _)
      rw [R.len, Wd.new_at] at q
      rw [R.len]; exact q)
    exact q
theorem fin_flat {x : PyData} {v : V} {mu : Bool} (h : PO F (RV F.K) g w σ Q (mkRes mu x S)) (R : RS F.K g w S H) (e : flatOf x = some v) : Q v H := by
  have h' : PO F (RV F.K) g w σ Q (.ok (.d x) S) := by
    cases mu with
    | false => exact h
    | true => cases x <;> first | exact h | cases e
  exact h' w H v (.refl _) R (.d (flat_RD e))
theorem fin_tupd {ds : List PyData} {v : V} {mu : Bool} (h : PO F (RV F.K) g w σ Q (mkRes mu (.tuple ds) S)) (R : RS F.K g w S H) (r : RD w.I (.tuple ds) v) : Q v H := by
  have h' : PO F (RV F.K) g w σ Q (.ok (.d (.tuple ds)) S) := by cases mu <;> exact h
  exact h' w H v (.refl _) R (.d r)

/-- what has come to an end has gone well up to there -/
theorem po_lift {α : Type} {o : Option α} {f : α → M Val} (h : PO F (RV F.K) g w σ Q (bnd (lift o) f S)) : ∃ a, o = some a ∧ PO F (RV F.K) g w σ Q (f a S) := by
  cases o with
  | none => exact h.elim
  | some a => exact ⟨a, rfl, h⟩
theorem po_view {v : Val} {f : PyData → M Val} (h : PO F (RV F.K) g w σ Q (bnd (view v) f S)) : ∃ a, vw S v = some a ∧ PO F (RV F.K) g w σ Q (f a S) := by
  unfold bnd view at h
  cases e : vw S v with
  | none => rw [e] at h; exact h.elim
  | some a => rw [e] at h; exact ⟨a, rfl, h⟩
theorem po_viewd {v : Val} {f : PyData → M Val} (h : PO F (RV F.K) g w σ Q (bnd (viewd v) f S)) : ∃ a, vwd S v = some a ∧ PO F (RV F.K) g w σ Q (f a S) := by
  unfold bnd viewd at h
  cases e : vwd S v with
  | none => rw [e] at h; exact h.elim
  | some a => rw [e] at h; exact ⟨a, rfl, h⟩
theorem po_guard {b : Bool} {m : M Val} (h : PO F (RV F.K) g w σ Q (guardM b m S)) : b = true ∧ PO F (RV F.K) g w σ Q (m S) := by
  unfold guardM at h
  cases b with
  | true => exact ⟨rfl, h⟩
  | false => exact h.elim
theorem po_ite {c : Prop} [Decidable c] {r : Res Val} (h : PO F (RV F.K) g w σ Q (if c then r else .no)) : c ∧ PO F (RV F.K) g w σ Q r := by
  by_cases hc : c
  · rw [if_pos hc] at h; exact ⟨hc, h⟩
  · rw [if_neg hc] at h; exact h.elim
theorem RDs.append {I : Hp} : ∀ {x y : List PyData} {v u : List V}, RDs I x v → RDs I y u → RDs I (x ++ y) (v ++ u)
  | _, _, _, _, .nil, s => s
  | _, _, _, _, .cons a b, s => .cons a (RDs.append b s)
theorem RDs.take {I : Hp} : ∀ {x : List PyData} {v : List V} (n : Nat), RDs I x v → RDs I (x.take n) (v.take n)
  | _, _, 0, _ => .nil
  | _, _, _ + 1, .nil => .nil
  | _, _, n + 1, .cons a b => .cons a (RDs.take n b)
theorem RDs.drop {I : Hp} : ∀ {x : List PyData} {v : List V} (n : Nat), RDs I x v → RDs I (x.drop n) (v.drop n)
  | _, _, 0, r => r
  | _, _, _ + 1, .nil => .nil
  | _, _, n + 1, .cons _ b => RDs.drop n b
theorem RDs.reverse {I : Hp} : ∀ {x : List PyData} {v : List V}, RDs I x v → RDs I x.reverse v.reverse
  | _, _, .nil => .nil
  | _, _, .cons a b => by rw [List.reverse_cons, List.reverse_cons]; exact (RDs.reverse b).append (.cons a .nil)
theorem RDs.rep {I : Hp} {x : List PyData} {v : List V} (r : RDs I x v) : ∀ n : Nat, RDs I (List.replicate n x).flatten (List.replicate n v).flatten
  | 0 => .nil
  | n + 1 => by rw [List.replicate_succ, List.replicate_succ, List.flatten_cons, List.flatten_cons]; exact r.append (RDs.rep r n)
theorem RDs.get {I : Hp} : ∀ {x : List PyData} {v : List V} {i : Nat} {d : PyData}, RDs I x v → x[i]? = some d → ∃ u, v[i]? = some u ∧ RD I d u
  | _, _, _, _, .nil, h => by simp at h
  | _, _, 0, _, .cons a _, h => by simp at h; subst h; exact ⟨_, rfl, a⟩
  | _, _, i + 1, _, .cons _ b, h => by
    obtain ⟨u, e, r⟩ := RDs.get (i := i) b (by simpa using h)
    exact ⟨u, by simpa using e, r⟩
theorem RVs.get {K : PySem.W.Frag} : ∀ {x : List Val} {v : List V} {i : Nat} {d : Val}, RVs K w x v → x[i]? = some d → ∃ u, v[i]? = some u ∧ RV K w d u
  | _, _, _, _, .nil, h => by simp at h
  | _, _, 0, _, .cons a _, h => by simp at h; subst h; exact ⟨_, rfl, a⟩
  | _, _, i + 1, _, .cons _ b, h => by
    obtain ⟨u, e, r⟩ := RVs.get (i := i) b (by simpa using h)
    exact ⟨u, by simpa using e, r⟩
theorem RDs.at_ {I : Hp} {x : List PyData} {v : List V} {i : Int} {d : PyData} (r : RDs I x v) (h : atI x i = some d) : ∃ u, atI v i = some u ∧ RD I d u := by
  unfold atI at h ⊢
  rw [← r.length]
  cases e : ixN x.length i with
  | none => rw [e] at h; cases h
  | some j => rw [e] at h; exact r.get h
theorem RVs.at_ {K : PySem.W.Frag} {x : List Val} {v : List V} {i : Int} {d : Val} (r : RVs K w x v) (h : atI x i = some d) : ∃ u, atI v i = some u ∧ RV K w d u := by
  unfold atI at h ⊢
  rw [← r.length]
  cases e : ixN x.length i with
  | none => rw [e] at h; cases h
  | some j => rw [e] at h; exact r.get h
theorem RDs.cut {I : Hp} {x : List PyData} {v : List V} (r : RDs I x v) (lo hi : Option Int) : RDs I (cutL x lo hi) (cutV v lo hi) := by
  unfold cutL cutV
  rw [← r.length]
  exact (r.drop _).take _
theorem flat_inj {x : PyData} {v u : V} (h : flatOf x = some v) (h' : flatOf x = some u) : v = u := Option.some.inj (h.symm.trans h')
end

section
variable {F : Fx} {g : Gh} {w : Wd} {S : List Cell} {H : Hp} {σ : St} {Q : VK} {X : Cx}
def rAddX (K : PySem.W.Frag) : R2 := fun x y H Q => (∃ i j, x = .int i ∧ y = .int j ∧ Q (.int (i + j)) H) ∨ (∃ i j, x = .str i ∧ y = .str j ∧ i.length + j.length ≤ sizeLine ∧ Q (.str (i ++ j)) H) ∨ rCatA K x y H Q ∨ rCat x y H Q
theorem op_addX : OpR X (binaryOp .Add) (rAddX X.K) := op_add.or (op_add_str.or (op_catA.or op_cat))
theorem RU.str_inv {H I : Hp} {s : Str} {v : V} (r : RU H I (.str s) v) : v = .str s := by cases r with | flat e => exact (Option.some.inj e).symm
theorem RU.int_inv {H I : Hp} {s : Int} {v : V} (r : RU H I (.int s) v) : v = .int s := by cases r with | flat e => exact (Option.some.inj e).symm
theorem add_snd {mu : Bool} {a b z : PyData} {x y : V} (R : RS F.K g w S H) (ra : RU H w.I a x) (rb : RU H w.I b y) (ha : ∀ ds, a = .tuple ds → RD w.I a x) (hb : ∀ ds, b = .tuple ds → RD w.I b y)
    (h : addD a b = some z) (q : PO F (RV F.K) g w σ Q (mkRes mu z S)) : rAddX F.K x y H Q := by
  unfold addD at h
  split at h
  · cases h
    obtain rfl := ra.int_inv
    obtain rfl := rb.int_inv
    exact .inl ⟨_, _, rfl, rfl, fin_flat q R rfl⟩
  · split at h
    · cases h
      obtain rfl := ra.str_inv
      obtain rfl := rb.str_inv
      exact .inr (.inl ⟨_, _, rfl, rfl, by assumption, fin_flat q R rfl⟩)
    · cases h
  · rename_i xs ys
    split at h
    · rename_i hl
      cases h
      refine .inr (.inr (.inl ?_))
      have qa := ha _ rfl
      have qb := hb _ rfl
      cases ra with
      | flat e => cases e
      | @tuple p1 vs _ e1 r1 =>
        cases rb with
        | flat e => cases e
        | @tuple p2 us _ e2 r2 =>
          refine ⟨_, _, vs, us, rfl, rfl, .of e1, .of e2, by rw [← r1.length, ← r2.length]; exact hl, fun z => ?_, fun _ z => ?_, fun _ _ => fin_tup q R (r1.append r2)⟩
          · subst z
            cases r1
            exact fin_tupd q R qb
          · subst z
            cases r2
            rw [List.append_nil] at q
            exact fin_tupd q R qa
    · cases h
  · split at h
    · rename_i hl
      cases h
      refine .inr (.inr (.inr ?_))
      cases ra with
      | flat e => cases e
      | @list p1 vs _ e1 r1 =>
        cases rb with
        | flat e => cases e
        | @list p2 us _ e2 r2 => exact ⟨_, _, vs, us, rfl, rfl, e1, e2, by rw [← r1.length, ← r2.length]; exact hl, fin_lst q R (r1.append r2)⟩
    · cases h
  · cases h
end
end Ev
end
section
set_option Elab.async false
set_option linter.all false
set_option maxRecDepth 100000
set_option maxHeartbeats 4000000
namespace Ev
open PySem PySem.Spec L2 PySem.SeqAt PySem.Calls
open PyProof.Rows hiding St IsTup
abbrev dctO (dd : Option Addr) (es : Array DictEntry) (ep : Nat) (sl : Array (Option Value)) : Obj := { cls := .type "dict", dict := dd, data := .dict es ep, slots := sl }
theorem deq_int (l : Addr) (dd : Option Addr) (es : Array DictEntry) (ep : Nat) (sl : Array (Option Value)) (b : Int) (u : Tok) :
    Meets (Builtin.«dict.__eq__» ⟨[.ref l, .int b u], []⟩) (fun _ R s => s.heap.get? l = some (dctO dd es ep sl) ∧ R (.ok (.ret .notImplemented)) s) :=
  .of_wp fun prog w A R s h => by obtain ⟨hp, g, d, tk, os⟩ := s; obtain ⟨hl, h⟩ := h; have f1 := F.sub_int_dict; wp_walk using wpAny_loadPart' hl; exact ⟨_, rfl, h⟩
theorem deq_str (l : Addr) (dd : Option Addr) (es : Array DictEntry) (ep : Nat) (sl : Array (Option Value)) (b : Str) (u : Tok) :
    Meets (Builtin.«dict.__eq__» ⟨[.ref l, .str b u], []⟩) (fun _ R s => s.heap.get? l = some (dctO dd es ep sl) ∧ R (.ok (.ret .notImplemented)) s) :=
  .of_wp fun prog w A R s h => by obtain ⟨hp, g, d, tk, os⟩ := s; obtain ⟨hl, h⟩ := h; have f1 := F.sub_str_dict; wp_walk using wpAny_loadPart' hl; exact ⟨_, rfl, h⟩
theorem int_deq (b : Int) (u : Tok) (l : Addr) (dd : Option Addr) (es : Array DictEntry) (ep : Nat) (sl : Array (Option Value)) :
    Meets (Builtin.«int.__eq__» ⟨[.int b u, .ref l], []⟩) (fun _ R s => s.heap.get? l = some (dctO dd es ep sl) ∧ R (.ok (.ret .notImplemented)) s) :=
  .of_wp fun prog w A R s h => by obtain ⟨hp, g, d, tk, os⟩ := s; obtain ⟨hl, h⟩ := h; wp_walk using wpAny_loadPart' hl, wpAny_load hl; exact ⟨_, rfl, h⟩
theorem str_deq (b : Str) (u : Tok) (l : Addr) (dd : Option Addr) (es : Array DictEntry) (ep : Nat) (sl : Array (Option Value)) :
    Meets (Builtin.«str.__eq__» ⟨[.str b u, .ref l], []⟩) (fun _ R s => s.heap.get? l = some (dctO dd es ep sl) ∧ R (.ok (.ret .notImplemented)) s) :=
  .of_wp fun prog w A R s h => by obtain ⟨hp, g, d, tk, os⟩ := s; obtain ⟨hl, h⟩ := h; wp_walk using wpAny_loadPart' hl, wpAny_load hl; exact ⟨_, rfl, h⟩
theorem dne_int (l : Addr) (dd : Option Addr) (es : Array DictEntry) (ep : Nat) (sl : Array (Option Value)) (b : Int) (u : Tok) :
    Meets (Builtin.«dict.__ne__» ⟨[.ref l, .int b u], []⟩) (fun _ R s => s.heap.get? l = some (dctO dd es ep sl) ∧ R (.ok (.ret .notImplemented)) s) :=
  .of_wp fun prog w A R s h => by obtain ⟨hp, g, d, tk, os⟩ := s; obtain ⟨hl, h⟩ := h; have f1 := F.sub_int_dict; wp_walk using wpAny_loadPart' hl; exact ⟨_, rfl, h⟩
theorem dne_str (l : Addr) (dd : Option Addr) (es : Array DictEntry) (ep : Nat) (sl : Array (Option Value)) (b : Str) (u : Tok) :
    Meets (Builtin.«dict.__ne__» ⟨[.ref l, .str b u], []⟩) (fun _ R s => s.heap.get? l = some (dctO dd es ep sl) ∧ R (.ok (.ret .notImplemented)) s) :=
  .of_wp fun prog w A R s h => by obtain ⟨hp, g, d, tk, os⟩ := s; obtain ⟨hl, h⟩ := h; have f1 := F.sub_str_dict; wp_walk using wpAny_loadPart' hl; exact ⟨_, rfl, h⟩
theorem int_dne (b : Int) (u : Tok) (l : Addr) (dd : Option Addr) (es : Array DictEntry) (ep : Nat) (sl : Array (Option Value)) :
    Meets (Builtin.«int.__ne__» ⟨[.int b u, .ref l], []⟩) (fun _ R s => s.heap.get? l = some (dctO dd es ep sl) ∧ R (.ok (.ret .notImplemented)) s) :=
  .of_wp fun prog w A R s h => by obtain ⟨hp, g, d, tk, os⟩ := s; obtain ⟨hl, h⟩ := h; wp_walk using wpAny_loadPart' hl, wpAny_load hl; exact ⟨_, rfl, h⟩
theorem str_dne (b : Str) (u : Tok) (l : Addr) (dd : Option Addr) (es : Array DictEntry) (ep : Nat) (sl : Array (Option Value)) :
    Meets (Builtin.«str.__ne__» ⟨[.str b u, .ref l], []⟩) (fun _ R s => s.heap.get? l = some (dctO dd es ep sl) ∧ R (.ok (.ret .notImplemented)) s) :=
  .of_wp fun prog w A R s h => by obtain ⟨hp, g, d, tk, os⟩ := s; obtain ⟨hl, h⟩ := h; wp_walk using wpAny_loadPart' hl, wpAny_load hl; exact ⟨_, rfl, h⟩
section
variable {A : Around} {s : Shared} {l : Addr}
def IsDct (h : Heap) (a : Addr) : Prop := ∃ dd es ep sl, h.get? a = some (dctO dd es ep sl)
theorem rc_int_dict (b : Int) (u : Tok) (hl : IsDct s.heap l) (hu : A.units < cLine) : RcAt A s (.int b u) (.ref l) false := fun prog w E Q h => by
  obtain ⟨dd, es, ep, sl, ho⟩ := hl
  exact rc_eq_decline_or (k := false) rfl ⟨_, ho, rfl⟩ (by decide) F.sub_dict_int F.slot_int_eq F.slot_dict_eq_refl
    (fun _ hq => call_meets F.slot_int_eq rfl F.entry_int_eq (F.args_int_eq_2 _ _) (int_deq b u l dd es ep sl) ⟨ho, hq⟩)
    (fun _ hq => call_meets F.slot_dict_eq_refl ⟨_, ho, rfl⟩ F.entry_dict_eq (F.args_dict_eq_2 _ _) (deq_int l dd es ep sl b u) ⟨ho, hq⟩)
    (fun _ hq => wpAny_of_eq (rfl : isSame (.int b u) (.ref l) = pure false) hq) (.inr hu) h
theorem eq_int_dict (b : Int) (u : Tok) (hl : IsDct s.heap l) (hu : A.units < cLine) : EqAt A s (.int b u) (.ref l) false := fun prog w E Q h => by
  unfold eqBool
  refine wpAny_holding ?_
  refine wpAny_ite_split (fun hab => absurd (eq_of_beq hab) nofun) (fun _ => ?_)
  exact wpAny_bind (rc_int_dict b u hl hu prog w E _ (wpAny_truthy_bool h))
theorem rc_str_dict (b : Str) (u : Tok) (hl : IsDct s.heap l) (hu : A.units < cLine) : RcAt A s (.str b u) (.ref l) false := fun prog w E Q h => by
  obtain ⟨dd, es, ep, sl, ho⟩ := hl
  exact rc_eq_decline_or (k := false) (typeIs_str s b u) ⟨_, ho, rfl⟩ (by decide) F.sub_dict_str F.slot_str_eq F.slot_dict_eq_refl
    (fun _ hq => call_meets F.slot_str_eq (typeIs_str s b u) F.entry_str_eq (F.args_str_eq_2 _ _) (str_deq b u l dd es ep sl) ⟨ho, hq⟩)
    (fun _ hq => call_meets F.slot_dict_eq_refl ⟨_, ho, rfl⟩ F.entry_dict_eq (F.args_dict_eq_2 _ _) (deq_str l dd es ep sl b u) ⟨ho, hq⟩)
    (fun _ hq => wpAny_of_eq (rfl : isSame (.str b u) (.ref l) = pure false) hq) (.inr hu) h
theorem eq_str_dict (b : Str) (u : Tok) (hl : IsDct s.heap l) (hu : A.units < cLine) : EqAt A s (.str b u) (.ref l) false := fun prog w E Q h => by
  unfold eqBool
  refine wpAny_holding ?_
  refine wpAny_ite_split (fun hab => absurd (eq_of_beq hab) nofun) (fun _ => ?_)
  exact wpAny_bind (rc_str_dict b u hl hu prog w E _ (wpAny_truthy_bool h))
theorem ne_int_dict (b : Int) (u : Tok) (hl : IsDct s.heap l) (hu : A.units < cLine) : RcNeAt A s (.int b u) (.ref l) true := fun prog w E Q h => by
  obtain ⟨dd, es, ep, sl, ho⟩ := hl
  exact rc_ne_decline_or (k := false) rfl ⟨_, ho, rfl⟩ (by decide) F.sub_dict_int F.slot_int_ne F.slot_dict_ne_refl
    (fun _ hq => call_meets F.slot_int_ne rfl F.entry_int_ne (F.args_int_ne_2 _ _) (int_dne b u l dd es ep sl) ⟨ho, hq⟩)
    (fun _ hq => call_meets F.slot_dict_ne_refl ⟨_, ho, rfl⟩ F.entry_dict_ne (F.args_dict_ne_2 _ _) (dne_int l dd es ep sl b u) ⟨ho, hq⟩)
    (fun _ hq => wpAny_of_eq (rfl : isSame (.int b u) (.ref l) = pure false) hq) (.inr hu) h
theorem ne_str_dict (b : Str) (u : Tok) (hl : IsDct s.heap l) (hu : A.units < cLine) : RcNeAt A s (.str b u) (.ref l) true := fun prog w E Q h => by
  obtain ⟨dd, es, ep, sl, ho⟩ := hl
  exact rc_ne_decline_or (k := false) (typeIs_str s b u) ⟨_, ho, rfl⟩ (by decide) F.sub_dict_str F.slot_str_ne F.slot_dict_ne_refl
    (fun _ hq => call_meets F.slot_str_ne (typeIs_str s b u) F.entry_str_ne (F.args_str_ne_2 _ _) (str_dne b u l dd es ep sl) ⟨ho, hq⟩)
    (fun _ hq => call_meets F.slot_dict_ne_refl ⟨_, ho, rfl⟩ F.entry_dict_ne (F.args_dict_ne_2 _ _) (dne_str l dd es ep sl b u) ⟨ho, hq⟩)
    (fun _ hq => wpAny_of_eq (rfl : isSame (.str b u) (.ref l) = pure false) hq) (.inr hu) h
end
end Ev
end
section
set_option Elab.async false
set_option linter.all false
set_option maxRecDepth 100000
namespace Ev
open PySem PySem.Spec L2
mutual
/-- data as it lies in a heap (of a dict nothing is said) -/
inductive CD (h : Heap) : PyData → Value → Prop where
  | none : CD h .none .none
  | bool (b : Bool) : CD h (.bool b) (.bool b)
  | int (i : Int) (t : Tok) : CD h (.int i) (.int i t)
  | str (s : Str) (t : Tok) : CD h (.str s) (.str s t)
  | list {a : Addr} {ds : List PyData} {its : List Value} : h.IsList a its.toArray → CDs h ds its → CD h (.list ds) (.ref a)
  | tuple {a : Addr} {ds : List PyData} {its : List Value} : h.IsTuple a its.toArray → CDs h ds its → CD h (.tuple ds) (.ref a)
  | dict {a : Addr} {ps : List (PyData × PyData)} : IsDct h a → CD h (.dict ps) (.ref a)
inductive CDs (h : Heap) : List PyData → List Value → Prop where
  | nil : CDs h [] []
  | cons {x : PyData} {v : Value} {xs : List PyData} {vs : List Value} : CD h x v → CDs h xs vs → CDs h (x :: xs) (v :: vs)
end
theorem CDs.length {h : Heap} : ∀ {x : List PyData} {v : List Value}, CDs h x v → x.length = v.length
  | _, _, .nil => rfl
  | _, _, .cons _ r => congrArg (· + 1) (CDs.length r)
section
variable {X : Cx} {pins : List (Addr × Obj)} {σ : St} {H I : Hp} {s : Shared}
theorem flat_CR {h : Heap} {d : PyData} {v : V} {u : Value} (e : flatOf d = some v) (r : RelV v u) : CD h d u := by
  cases d with
  | none => cases e; cases r; exact .none
  | bool b => cases e; cases r; exact .bool b
  | int b => cases e; obtain ⟨t, rfl⟩ := r; exact .int b t
  | str b => cases e; obtain ⟨t, rfl⟩ := r; exact .str b t
  | _ => cases e
theorem dct_of_dk (Iv : Inv X pins σ H s) {a : Addr} {kvs : List (Key × V)} (e : Rd H a (.dK kvs)) : IsDct s.heap a := by
  obtain ⟨_, _, vs, _, ob, es, ep, h1, h2, h3, _⟩ := dk_rd Iv.hok e
  obtain ⟨c, dd, da, sl⟩ := ob
  have h4 := h2.1
  dsimp only at h3 h4
  subst h3 h4
  exact ⟨_, _, _, _, h1⟩
theorem dct_of_dt (Iv : Inv X pins σ H s) {a : Addr} {kvs : List (List Key × V)} (e : Rd H a (.dT kvs)) : IsDct s.heap a := by
  obtain ⟨_, _, xs, _, ob, es, ep, h1, h2, h3, _⟩ := dt_rd Iv.hok e
  obtain ⟨c, dd, da, sl⟩ := ob
  have h4 := h2.1
  dsimp only at h3 h4
  subst h3 h4
  exact ⟨_, _, _, _, h1⟩
theorem rd_up {H I : Hp} (le : ∀ b u, I b = some u → H b = some u) {a : Addr} {u : HO} (r : Rd I a u) : Rd H a u := r.elim (fun e => .inl (le _ _ e)) fun ⟨o, e⟩ => .inr ⟨o, le _ _ e⟩
mutual
theorem RD.cr (Iv : Inv X pins σ H s) (le : ∀ b u, I b = some u → H b = some u) : ∀ {d : PyData} {v : V} {u : Value}, RD I d v → RelV v u → CD s.heap d u
  | _, _, _, .none, r => by cases r; exact .none
  | _, _, _, .bool b, r => by cases r; exact .bool b
  | _, _, _, .int b, r => by obtain ⟨t, rfl⟩ := r; exact .int b t
  | _, _, _, .str b, r => by obtain ⟨t, rfl⟩ := r; exact .str b t
  | _, _, _, .list e q, r => by
    cases r
    obtain ⟨its, vs, pl, _⟩ := Iv.list (SqL.of (K := X.K) (le _ _ e))
    exact .list pl.isList (RDs.cr Iv le q vs)
  | _, _, _, .tuple e q, r => by
    cases r
    obtain ⟨its, vs, pl, _⟩ := Iv.tuple (SqT.of (K := X.K) (le _ _ e))
    exact .tuple pl (RDs.cr Iv le q vs)
  | _, _, _, .dk e _, r => by cases r; exact .dict (dct_of_dk Iv (rd_up le e))
  | _, _, _, .dt e _, r => by cases r; exact .dict (dct_of_dt Iv (rd_up le e))
theorem RDs.cr (Iv : Inv X pins σ H s) (le : ∀ b u, I b = some u → H b = some u) : ∀ {d : List PyData} {v : List V} {u : List Value}, RDs I d v → Vals v u → CDs s.heap d u
  | _, _, _, .nil, r => by cases r; exact .nil
  | _, _, _, .cons a b, r => by
    cases r with
    | cons r1 r2 => exact .cons (RD.cr Iv le a r1) (RDs.cr Iv le b r2)
end
theorem RT.cr (Iv : Inv X pins σ H s) (le : ∀ b u, I b = some u → H b = some u) {d : PyData} {v : V} {u : Value} (q : RT X.K H I d v) (r : RelV v u) : CD s.heap d u := by
  cases q with
  | flat e => exact flat_CR e r
  | list e q =>
    cases r
    obtain ⟨its, vs, pl, _⟩ := Iv.list e
    exact .list pl.isList (RDs.cr Iv le q vs)
  | tuple e q =>
    cases r
    obtain ⟨its, vs, pl, _⟩ := Iv.tuple e
    exact .tuple pl (RDs.cr Iv le q vs)
  | dk e _ => cases r; exact .dict (dct_of_dk Iv e)
  | dt e _ => cases r; exact .dict (dct_of_dt Iv e)
end
theorem eqL_same {f : PyData → PyData → Option Bool} {h : Heap} (hf : ∀ a b v z, CD h a v → CD h b v → f a b = some z → z = true) : ∀ {xs ys : List PyData} {vs : List Value} {z : Bool}, CDs h xs vs → CDs h ys vs → eqL f xs ys = some z → z = true
  | [], [], _, z, _, _, e => (Option.some.inj e).symm
  | [], _ :: _, _, _, r, q, _ => by cases r; cases q
  | _ :: _, [], _, _, r, q, _ => by cases q; cases r
  | x :: xs, y :: ys, _, z, r, q, e => by
    cases r with
    | cons r1 r2 =>
      cases q with
      | cons q1 q2 =>
        unfold eqL at e
        split at e
        · rename_i a b e1 e2
          cases e
          rw [hf _ _ _ _ r1 q1 e1, eqL_same hf r2 q2 e2]
          rfl
        · cases e
theorem isList_inj {h : Heap} {a : Addr} {its its' : List Value} (x : h.IsList a its.toArray) (y : h.IsList a its'.toArray) : its = its' := by
  obtain ⟨o, e, c, n, d⟩ := x
  obtain ⟨o', e', c', n', d'⟩ := y
  rw [e] at e'
  cases e'
  rw [d] at d'
  injection d' with d1 _
  simpa using congrArg Array.toList d1
theorem isTup_inj {h : Heap} {a : Addr} {its its' : List Value} (x : h.IsTuple a its.toArray) (y : h.IsTuple a its'.toArray) : its = its' := by
  obtain ⟨o, e, c, n, d⟩ := x
  obtain ⟨o', e', c', n', d'⟩ := y
  rw [e] at e'
  cases e'
  rw [d] at d'
  injection d' with d1 _
  simpa using congrArg Array.toList d1
theorem isLT {h : Heap} {a : Addr} {its its' : List Value} (x : h.IsList a its.toArray) (y : h.IsTuple a its'.toArray) : False := by
  obtain ⟨o, e, c, n, d⟩ := x
  obtain ⟨o', e', c', n', d'⟩ := y
  rw [e] at e'
  cases e'
  rw [c] at c'
  exact absurd c' (by decide)
theorem eq_same {h : Heap} : ∀ (n : Nat) (a b : PyData) (v : Value) (z : Bool), CD h a v → CD h b v → eqG n a b = some z → z = true
  | 0, _, _, _, _, _, _, e => by cases e
  | n + 1, a, b, v, z, r, q, e => by
    cases r with
    | none => cases q; exact (Option.some.inj e).symm
    | bool b => cases q; have e' : some (b == b) = some z := e; rw [← Option.some.inj e']; simp
    | int b => cases q; have e' : some (b == b) = some z := e; rw [← Option.some.inj e']; simp
    | str b => cases q; have e' : some (b == b) = some z := e; rw [← Option.some.inj e']; simp
    | @list p xs its e1 r1 =>
      cases q with
      | @list _ ys its' e2 q1 =>
        have e' : (if xs.length = ys.length then eqL (eqG n) xs ys else some false) = some z := e
        obtain rfl := isList_inj e1 e2
        rw [if_pos (r1.length.trans q1.length.symm)] at e'
        exact eqL_same (eq_same n) r1 q1 e'
      | tuple e2 q1 => exact (isLT e1 e2).elim
      | dict => cases e
    | @tuple p xs its e1 r1 =>
      cases q with
      | @tuple _ ys its' e2 q1 =>
        have e' : eqL (eqG n) xs ys = some z := e
        obtain rfl := isTup_inj e1 e2
        exact eqL_same (eq_same n) r1 q1 e'
      | list e2 q1 => exact (isLT e2 e1).elim
      | dict => cases e
    | dict => cases q <;> cases e
def pairE (f : PyData → PyData → Option Bool) (xs ys : List PyData) (j : Nat) : Bool := match xs[j]?, ys[j]? with
  | some x, some y => (f x y).getD false
  | _, _ => false
theorem pairE_succ {f : PyData → PyData → Option Bool} {x y : PyData} {xs ys : List PyData} (j : Nat) : pairE f (x :: xs) (y :: ys) (j + 1) = pairE f xs ys j := by
  unfold pairE
  simp
theorem range_all_succ (p : Nat → Bool) (n : Nat) : (List.range (n + 1)).all p = (p 0 && (List.range n).all fun j => p (j + 1)) := by
  rw [List.range_succ_eq_map, List.all_cons, List.all_map]
  rfl
theorem eqL_all {f : PyData → PyData → Option Bool} : ∀ {xs ys : List PyData} {z : Bool}, eqL f xs ys = some z → ((List.range (min xs.length ys.length)).all (pairE f xs ys) && xs.length == ys.length) = z
  | [], [], z, e => by cases e; rfl
  | [], y :: ys, z, e => by cases e; simp
  | x :: xs, [], z, e => by cases e; simp
  | x :: xs, y :: ys, z, e => by
    unfold eqL at e
    split at e
    · rename_i a b e1 e2
      cases e
      have ih := eqL_all e2
      have e3 : min (x :: xs).length (y :: ys).length = min xs.length ys.length + 1 := by simp only [List.length_cons]; omega
      rw [e3, range_all_succ]
      have e4 : pairE f (x :: xs) (y :: ys) 0 = a := by unfold pairE; simp [e1]
      have e5 : (fun j => pairE f (x :: xs) (y :: ys) (j + 1)) = pairE f xs ys := funext fun j => pairE_succ j
      rw [e4, e5]
      have e6 : ((x :: xs).length == (y :: ys).length) = (xs.length == ys.length) := by simp
      rw [e6, ← ih, Bool.and_assoc]
    · cases e
theorem eqL_each {f : PyData → PyData → Option Bool} : ∀ {xs ys : List PyData} {z : Bool}, eqL f xs ys = some z → ∀ (j : Nat) (x y : PyData), xs[j]? = some x → ys[j]? = some y → f x y = some (pairE f xs ys j)
  | [], _, _, _, j, x, y, h, _ => by simp at h
  | _ :: _, [], _, _, j, x, y, _, h => by simp at h
  | a :: xs, b :: ys, z, e, j, x, y, h1, h2 => by
    unfold eqL at e
    split at e
    · rename_i u v e1 e2
      cases j with
      | zero =>
        simp at h1 h2
        subst h1 h2
        rw [e1]
        unfold pairE
        simp [e1]
      | succ j => rw [pairE_succ]; exact eqL_each e2 j x y (by simpa using h1) (by simpa using h2)
    · cases e
theorem CDs.get {h : Heap} : ∀ {x : List PyData} {v : List Value} {i : Nat} (hi : i < v.length), CDs h x v → ∃ d, x[i]? = some d ∧ CD h d v[i]
  | _, _, i, hi, .nil => by simp at hi
  | _, _, 0, _, .cons a _ => ⟨_, rfl, a⟩
  | _, _, i + 1, hi, .cons _ b => by
    obtain ⟨d, e, r⟩ := CDs.get (i := i) (by simpa using hi) b
    exact ⟨d, by simpa using e, by simpa using r⟩
theorem units_in1 {A : Around} {n : Nat} (h : A.units + (n + 1) < cLine) : A.in1.units + n < cLine := by
  show A.units + 1 + n < cLine
  omega
open PySem.SeqAt in
/-- == as it is reckoned -/
theorem eq_at {s : Shared} : ∀ (n : Nat) (A : Around) (a b : PyData) (u v : Value) (z : Bool), CD s.heap a u → CD s.heap b v → eqG n a b = some z → A.units + n < cLine → RcAt A s u v z ∧ EqAt A s u v z
  | 0, _, _, _, _, _, _, _, _, e, _ => by cases e
  | n + 1, A, a, b, u, v, z, r, q, e, hu => by
    have hu1 : A.units < cLine := by omega
    have items : ∀ {xs ys : List PyData} {vs ws : List Value} {z : Bool}, CDs s.heap xs vs → CDs s.heap ys ws → eqL (eqG n) xs ys = some z →
        ∀ j (h1 : j < vs.toArray.size) (h2 : j < ws.toArray.size), EqAt A.in1 s vs.toArray[j] ws.toArray[j] (pairE (eqG n) xs ys j) := fun {xs ys vs ws z} r1 q1 ez j h1 h2 => by
      obtain ⟨x, ex, rx⟩ := r1.get (i := j) (by simpa using h1)
      obtain ⟨y, ey, ry⟩ := q1.get (i := j) (by simpa using h2)
      have := eqL_each ez j x y ex ey
      exact (eq_at n A.in1 x y _ _ _ rx ry this (units_in1 hu)).2
    cases r with
    | none =>
      cases q with
      | none => cases e; exact ⟨RcAt.none_none, EqAt.same _⟩
      | bool y => cases e; exact ⟨RcAt.none_bool y, EqAt.none_bool y⟩
      | int y t => cases e; exact ⟨RcAt.none_int y t, EqAt.none_int y t⟩
      | str y t => cases e; exact ⟨RcAt.none_str y t, EqAt.none_str y t⟩
      | list e2 _ => cases e; exact ⟨RcAt.none_list e2 hu1, EqAt.none_list e2 hu1⟩
      | tuple e2 _ => cases e; exact ⟨RcAt.none_tuple e2 hu1, EqAt.none_tuple e2 hu1⟩
      | dict => cases e
    | bool x =>
      cases q with
      | none => cases e; exact ⟨RcAt.bool_none x, EqAt.bool_none x⟩
      | bool y => cases e; exact ⟨RcAt.bool_bool x y, EqAt.bool_bool x y⟩
      | int y t => cases e; exact ⟨RcAt.bool_int x y t, EqAt.bool_int x y t⟩
      | str y t => cases e; exact ⟨RcAt.bool_str x y t, EqAt.bool_str x y t⟩
      | list e2 _ => cases e; exact ⟨RcAt.bool_list x e2 hu1, EqAt.bool_list x e2 hu1⟩
      | tuple e2 _ => cases e; exact ⟨RcAt.bool_tuple x e2 hu1, EqAt.bool_tuple x e2 hu1⟩
      | dict => cases e
    | int x t0 =>
      cases q with
      | none => cases e; exact ⟨RcAt.int_none x t0, EqAt.int_none x t0⟩
      | bool y => cases e; exact ⟨RcAt.int_bool x t0 y, EqAt.int_bool x t0 y⟩
      | int y t => cases e; exact ⟨RcAt.int_int x t0 y t, EqAt.int_int x t0 y t⟩
      | str y t => cases e; exact ⟨RcAt.int_str x t0 y t, EqAt.int_str x t0 y t⟩
      | list e2 _ => cases e; exact ⟨RcAt.int_list x t0 e2 hu1, EqAt.int_list x t0 e2 hu1⟩
      | tuple e2 _ => cases e; exact ⟨RcAt.int_tuple x t0 e2 hu1, EqAt.int_tuple x t0 e2 hu1⟩
      | dict e2 => cases e; exact ⟨rc_int_dict x t0 e2 hu1, eq_int_dict x t0 e2 hu1⟩
    | str x t0 =>
      cases q with
      | none => cases e; exact ⟨RcAt.str_none x t0, EqAt.str_none x t0⟩
      | bool y => cases e; exact ⟨RcAt.str_bool x t0 y, EqAt.str_bool x t0 y⟩
      | int y t => cases e; exact ⟨RcAt.str_int x t0 y t, EqAt.str_int x t0 y t⟩
      | str y t => cases e; exact ⟨RcAt.str_str x t0 y t, EqAt.str_str x t0 y t⟩
      | list e2 _ => cases e; exact ⟨RcAt.str_list x t0 e2 hu1, EqAt.str_list x t0 e2 hu1⟩
      | tuple e2 _ => cases e; exact ⟨RcAt.str_tuple x t0 e2 hu1, EqAt.str_tuple x t0 e2 hu1⟩
      | dict e2 => cases e; exact ⟨rc_str_dict x t0 e2 hu1, eq_str_dict x t0 e2 hu1⟩
    | @list p xs vs e1 r1 =>
      cases q with
      | none => cases e; exact ⟨RcAt.list_none e1 hu1, EqAt.list_none e1 hu1⟩
      | bool y => cases e; exact ⟨RcAt.list_bool y e1 hu1, EqAt.list_bool y e1 hu1⟩
      | int y t => cases e; exact ⟨RcAt.list_int y t e1 hu1, EqAt.list_int y t e1 hu1⟩
      | str y t => cases e; exact ⟨RcAt.list_str y t e1 hu1, EqAt.list_str y t e1 hu1⟩
      | tuple e2 _ => cases e; exact ⟨RcAt.list_tuple e1 e2 hu1, EqAt.list_tuple e1 e2 hu1⟩
      | dict => cases e
      | @list p2 ys ws e2 q1 =>
        have rc : RcAt A s (.ref p) (.ref p2) z := by
          have e' : (if xs.length = ys.length then eqL (eqG n) xs ys else some false) = some z := e
          have l1 := r1.length
          have l2 := q1.length
          by_cases hl : xs.length = ys.length
          · rw [if_pos hl] at e'
            have al := eqL_all e'
            rw [hl, Nat.min_self] at al
            have := RcAt.lists (e := pairE (eqG n) xs ys) e1 e2 (by simp; omega) hu1 (items r1 q1 e')
            rw [List.size_toArray, ← l1, hl] at this
            rw [← al]
            simpa using this
          · rw [if_neg hl] at e'
            cases e'
            exact RcAt.lists_lengths e1 e2 (by simp; omega) hu1
        refine ⟨rc, ?_⟩
        by_cases hp : p = p2
        · subst hp
          obtain rfl := eq_same (n + 1) _ _ _ _ (.list e1 r1) (.list e2 q1) e
          exact EqAt.same _
        · exact EqAt.of_refs hp rc
    | @tuple p xs vs e1 r1 =>
      cases q with
      | none => cases e; exact ⟨RcAt.tuple_none e1 hu1, EqAt.tuple_none e1 hu1⟩
      | bool y => cases e; exact ⟨RcAt.tuple_bool y e1 hu1, EqAt.tuple_bool y e1 hu1⟩
      | int y t => cases e; exact ⟨RcAt.tuple_int y t e1 hu1, EqAt.tuple_int y t e1 hu1⟩
      | str y t => cases e; exact ⟨RcAt.tuple_str y t e1 hu1, EqAt.tuple_str y t e1 hu1⟩
      | list e2 _ => cases e; exact ⟨RcAt.tuple_list e1 e2 hu1, EqAt.tuple_list e1 e2 hu1⟩
      | dict => cases e
      | @tuple p2 ys ws e2 q1 =>
        have rc : RcAt A s (.ref p) (.ref p2) z := by
          have e' : eqL (eqG n) xs ys = some z := e
          have l1 := r1.length
          have l2 := q1.length
          have al := eqL_all e'
          have := RcAt.tuples (e := pairE (eqG n) xs ys) e1 e2 hu1 (items r1 q1 e')
          rw [List.size_toArray, List.size_toArray, ← l1, ← l2, al] at this
          exact this
        refine ⟨rc, ?_⟩
        by_cases hp : p = p2
        · subst hp
          obtain rfl := eq_same (n + 1) _ _ _ _ (.tuple e1 r1) (.tuple e2 q1) e
          exact EqAt.same _
        · exact EqAt.of_refs hp rc
    | dict => cases q <;> cases e
open PySem.SeqAt in
/-- != -/
theorem ne_at {s : Shared} : ∀ (n : Nat) (A : Around) (a b : PyData) (u v : Value) (z : Bool), CD s.heap a u → CD s.heap b v → eqG n a b = some z → A.units + n < cLine → RcNeAt A s u v (!z)
  | 0, _, _, _, _, _, _, _, _, e, _ => by cases e
  | n + 1, A, a, b, u, v, z, r, q, e, hu => by
    have hu1 : A.units < cLine := by omega
    have items : ∀ {xs ys : List PyData} {vs ws : List Value} {z : Bool}, CDs s.heap xs vs → CDs s.heap ys ws → eqL (eqG n) xs ys = some z →
        ∀ j (h1 : j < vs.toArray.size) (h2 : j < ws.toArray.size), EqAt A.in1 s vs.toArray[j] ws.toArray[j] (pairE (eqG n) xs ys j) := fun {xs ys vs ws z} r1 q1 ez j h1 h2 => by
      obtain ⟨x, ex, rx⟩ := r1.get (i := j) (by simpa using h1)
      obtain ⟨y, ey, ry⟩ := q1.get (i := j) (by simpa using h2)
      have := eqL_each ez j x y ex ey
      exact (eq_at n A.in1 x y _ _ _ rx ry this (units_in1 hu)).2
    cases r with
    | none =>
      cases q with
      | none => cases e; exact RcNeAt.none_none
      | bool y => cases e; exact RcNeAt.none_bool y
      | int y t => cases e; exact RcNeAt.none_int y t
      | str y t => cases e; exact RcNeAt.none_str y t
      | list e2 _ => cases e; exact RcNeAt.none_list e2 hu1
      | tuple e2 _ => cases e; exact RcNeAt.none_tuple e2 hu1
      | dict => cases e
    | bool x =>
      cases q with
      | none => cases e; exact RcNeAt.bool_none x
      | bool y => cases e; exact RcNeAt.bool_bool x y
      | int y t => cases e; exact RcNeAt.bool_int x y t
      | str y t => cases e; exact RcNeAt.bool_str x y t
      | list e2 _ => cases e; exact RcNeAt.bool_list x e2 hu1
      | tuple e2 _ => cases e; exact RcNeAt.bool_tuple x e2 hu1
      | dict => cases e
    | int x t0 =>
      cases q with
      | none => cases e; exact RcNeAt.int_none x t0
      | bool y => cases e; exact RcNeAt.int_bool x t0 y
      | int y t => cases e; exact RcNeAt.int_int x t0 y t
      | str y t => cases e; exact RcNeAt.int_str x t0 y t
      | list e2 _ => cases e; exact RcNeAt.int_list x t0 e2 hu1
      | tuple e2 _ => cases e; exact RcNeAt.int_tuple x t0 e2 hu1
      | dict e2 => cases e; exact ne_int_dict x t0 e2 hu1
    | str x t0 =>
      cases q with
      | none => cases e; exact RcNeAt.str_none x t0
      | bool y => cases e; exact RcNeAt.str_bool x t0 y
      | int y t => cases e; exact RcNeAt.str_int x t0 y t
      | str y t => cases e; exact RcNeAt.str_str x t0 y t
      | list e2 _ => cases e; exact RcNeAt.str_list x t0 e2 hu1
      | tuple e2 _ => cases e; exact RcNeAt.str_tuple x t0 e2 hu1
      | dict e2 => cases e; exact ne_str_dict x t0 e2 hu1
    | @list p xs vs e1 r1 =>
      cases q with
      | none => cases e; exact RcNeAt.list_none e1 hu1
      | bool y => cases e; exact RcNeAt.list_bool y e1 hu1
      | int y t => cases e; exact RcNeAt.list_int y t e1 hu1
      | str y t => cases e; exact RcNeAt.list_str y t e1 hu1
      | tuple e2 _ => cases e; exact RcNeAt.list_tuple e1 e2 hu1
      | dict => cases e
      | @list p2 ys ws e2 q1 =>
        have rc : RcNeAt A s (.ref p) (.ref p2) (!z) := by
          have e' : (if xs.length = ys.length then eqL (eqG n) xs ys else some false) = some z := e
          have l1 := r1.length
          have l2 := q1.length
          by_cases hl : xs.length = ys.length
          · rw [if_pos hl] at e'
            have al := eqL_all e'
            rw [hl, Nat.min_self] at al
            have := RcNeAt.lists (e := pairE (eqG n) xs ys) e1 e2 (by simp; omega) hu1 (items r1 q1 e')
            rw [List.size_toArray, ← l1, hl] at this
            rw [← al]
            simpa using this
          · rw [if_neg hl] at e'
            cases e'
            exact RcNeAt.lists_lengths e1 e2 (by simp; omega) hu1
        exact rc
    | @tuple p xs vs e1 r1 =>
      cases q with
      | none => cases e; exact RcNeAt.tuple_none e1 hu1
      | bool y => cases e; exact RcNeAt.tuple_bool y e1 hu1
      | int y t => cases e; exact RcNeAt.tuple_int y t e1 hu1
      | str y t => cases e; exact RcNeAt.tuple_str y t e1 hu1
      | list e2 _ => cases e; exact RcNeAt.tuple_list e1 e2 hu1
      | dict => cases e
      | @tuple p2 ys ws e2 q1 =>
        have rc : RcNeAt A s (.ref p) (.ref p2) (!z) := by
          have e' : eqL (eqG n) xs ys = some z := e
          have l1 := r1.length
          have l2 := q1.length
          have al := eqL_all e'
          have := RcNeAt.tuples (e := pairE (eqG n) xs ys) e1 e2 hu1 (items r1 q1 e')
          rw [List.size_toArray, List.size_toArray, ← l1, ← l2, al] at this
          exact this
        exact rc
    | dict => cases q <;> cases e
end Ev
end
section
set_option Elab.async false
set_option linter.all false
set_option maxRecDepth 100000
namespace Ev
open PySem PySem.Spec L2
def LeH (I H : Hp) : Prop := ∀ b u, I b = some u → H b = some u
section
variable {X : Cx}
def rEqX (K : PySem.W.Frag) : R2 := fun x y H Q => ∃ I a b z, LeH I H ∧ RT K H I a x ∧ RT K H I b y ∧ eqG eqN a b = some z ∧ Q (.bl z) H
def rNeX (K : PySem.W.Frag) : R2 := fun x y H Q => ∃ I a b z, LeH I H ∧ RT K H I a x ∧ RT K H I b y ∧ eqG eqN a b = some z ∧ Q (.bl (!z)) H
theorem op_eqX (hu : X.A.units + 70 < cLine) : OpR X (compareOp .Eq) (rEqX X.K) := by
  intro pins s σ H x y v u Q I rx ry ⟨J, a, b, z, le, ra, rb, e, q⟩
  have r := (eq_at eqN X.A a b v u z (ra.cr I le rx) (rb.cr I le ry) e (by show X.A.units + 64 < _; omega)).1
  exact r X.prog X.w X.xe _ ⟨.bl z, H, I, rfl, q⟩
theorem op_neX (hu : X.A.units + 70 < cLine) : OpR X (compareOp .NotEq) (rNeX X.K) := by
  intro pins s σ H x y v u Q I rx ry ⟨J, a, b, z, le, ra, rb, e, q⟩
  have r := ne_at eqN X.A a b v u z (ra.cr I le rx) (rb.cr I le ry) e (by show X.A.units + 64 < _; omega)
  exact r X.prog X.w X.xe _ ⟨.bl (!z), H, I, rfl, q⟩
theorem eqG_congr {h : Heap} (n : Nat) : ∀ {d d' x : PyData} {v : Value} {z z' : Bool}, CD h d v → CD h d' v → eqG n d x = some z → eqG n d' x = some z' → z = z' := by
  induction n with
  | zero => intro _ _ _ _ _ _ _ _ e _; cases e
  | succ n ih =>
    intro d d' x v z z' r r' e e'
    have L : ∀ {xs xs' ys : List PyData} {vs : List Value} {z z' : Bool}, CDs h xs vs → CDs h xs' vs → eqL (eqG n) xs ys = some z → eqL (eqG n) xs' ys = some z' → z = z' := by
      intro xs
      induction xs with
      | nil => intro xs' ys vs z z' c c' e e'; cases c; cases c'; rw [e] at e'; exact Option.some.inj e'
      | cons a xs ihx =>
        intro xs' ys vs z z' c c' e e'
        cases c with
        | cons c1 c2 =>
          cases c' with
          | cons d1 d2 =>
            cases ys with
            | nil => cases e; cases e'; rfl
            | cons y ys =>
              unfold eqL at e e'
              split at e
              · rename_i p q e1 e2
                split at e'
                · rename_i p' q' e1' e2'
                  cases e
                  cases e'
                  rw [ih c1 d1 e1 e1', ihx c2 d2 e2 e2']
                · cases e'
              · cases e
    cases r with
    | none => cases r'; rw [e] at e'; exact Option.some.inj e'
    | bool b => cases r'; rw [e] at e'; exact Option.some.inj e'
    | int b t => cases r'; rw [e] at e'; exact Option.some.inj e'
    | str b t => cases r'; rw [e] at e'; exact Option.some.inj e'
    | @list p xs its e1 r1 =>
      cases r' with
      | @list _ xs' its' e2 r2 =>
        obtain rfl := isList_inj e1 e2
        cases x with
        | list ys =>
          have f : (if xs.length = ys.length then eqL (eqG n) xs ys else some false) = some z := e
          have f' : (if xs'.length = ys.length then eqL (eqG n) xs' ys else some false) = some z' := e'
          have l : xs.length = xs'.length := r1.length.trans r2.length.symm
          rw [← l] at f'
          by_cases hl : xs.length = ys.length
          · rw [if_pos hl] at f f'; exact L r1 r2 f f'
          · rw [if_neg hl] at f f'; cases f; cases f'; rfl
        | dict => cases e
        | _ => cases e; cases e'; rfl
      | tuple e2 _ => exact (isLT e1 e2).elim
      | dict => cases x <;> cases e'
    | @tuple p xs its e1 r1 =>
      cases r' with
      | @tuple _ xs' its' e2 r2 =>
        obtain rfl := isTup_inj e1 e2
        cases x with
        | tuple ys =>
          have f : eqL (eqG n) xs ys = some z := e
          have f' : eqL (eqG n) xs' ys = some z' := e'
          exact L r1 r2 f f'
        | dict => cases e
        | _ => cases e; cases e'; rfl
      | list e2 _ => exact (isLT e2 e1).elim
      | dict => cases x <;> cases e'
    | dict => cases x <;> cases e
/-- what is met in a list: by the values -/
theorem any_val {hp : Heap} {x : PyData} : ∀ {ys : List PyData} {vs : List Value} {z : Bool}, CDs hp ys vs → anyEq x ys = some z →
    ∃ e : Value → Bool, vs.any e = z ∧ ∀ v ∈ vs, ∃ d, CD hp d v ∧ eqG eqN d x = some (e v) := by
  intro ys vs z c h
  refine ⟨fun v => @decide (∃ d, CD hp d v ∧ eqG eqN d x = some true) (Classical.propDecidable _), ?_⟩
  induction ys generalizing vs z with
  | nil => cases c; cases h; exact ⟨rfl, fun v hv => by cases hv⟩
  | cons y ys ih =>
    cases c with
    | @cons _ v _ vs c1 c2 =>
      unfold anyEq at h
      split at h
      · rename_i a b e1 e2
        cases h
        obtain ⟨h1, h2⟩ := ih c2 e2
        have ev : @decide (∃ d, CD hp d v ∧ eqG eqN d x = some true) (Classical.propDecidable _) = a := by
          cases a with
          | true => exact @decide_eq_true _ (Classical.propDecidable _) ⟨y, c1, e1⟩
          | false => exact @decide_eq_false _ (Classical.propDecidable _) fun ⟨d, c, e⟩ => by have := eqG_congr eqN c1 c e1 e; cases this
        refine ⟨by rw [List.any_cons, h1, ev], fun v' hv => ?_⟩
        rcases List.mem_cons.mp hv with rfl | hv
        · exact ⟨y, c1, e1.trans (congrArg some ev.symm)⟩
        · exact h2 v' hv
      · cases h
def rInX (K : PySem.W.Frag) (neg : Bool) : R2 := fun x y H Q =>
  (∃ I a ys z, LeH I H ∧ RT K H I a x ∧ (RT K H I (.list ys) y ∨ RT K H I (.tuple ys) y) ∧ anyEq a ys = some z ∧ Q (.bl (if neg then !z else z)) H) ∨
  (∃ (c : Nat) (z : Str), x = .str ⟨#[c]⟩ ∧ y = .str z ∧ Q (.bl (if neg then !decide (c ∈ z.cps.toList) else decide (c ∈ z.cps.toList))) H) ∨
  ∃ a o, y = .ref a ∧ DGet H a x o ∧ Q (.bl (if neg then !o.isSome else o.isSome)) H
theorem eqs_of {s : Shared} {x : PyData} {u : Value} {vs : List Value} {e : Value → Bool} (hu : X.A.units + 70 < cLine) (cx : CD s.heap x u) (h : ∀ v ∈ vs, ∃ d, CD s.heap d v ∧ eqG eqN d x = some (e v)) :
    ∀ y, y ∈ vs.toArray → PySem.SeqAt.EqAt X.A.in1 s y u (e y) := fun y hy => by
  obtain ⟨d, c, h⟩ := h y (by simpa using hy)
  exact (eq_at eqN X.A.in1 d x y u _ c cx h (by show X.A.units + 1 + 64 < _; omega)).2
theorem op_inX (hu : X.A.units + 70 < cLine) : OpR X (compareOp .In) (rInX X.K false) := by
  intro pins s σ H x y v u Q I rx ry h
  rcases h with ⟨J, a, ys, z, le, ra, rb, e, q⟩ | ⟨c, z, rfl, rfl, q⟩ | ⟨a, o, rfl, g, q⟩
  · have cx := ra.cr I le rx
    rcases rb with rb | rb
    · cases rb with
      | flat e => cases e
      | list hl rd =>
        cases ry
        obtain ⟨its, vs, pl, _⟩ := I.list hl
        obtain ⟨f, h1, h2⟩ := any_val (rd.cr I le vs) e
        refine SeqAt.in_listAt f pl.isList (eqs_of hu cx h2) ⟨.bl z, H, I, ?_, q⟩
        show _ = Value.bool z
        rw [← h1]; simp
    · cases rb with
      | flat e => cases e
      | tuple hl rd =>
        cases ry
        obtain ⟨its, vs, pl, _⟩ := I.tuple hl
        obtain ⟨f, h1, h2⟩ := any_val (rd.cr I le vs) e
        refine SeqAt.in_tupleAt f pl (eqs_of hu cx h2) ⟨.bl z, H, I, ?_, q⟩
        show _ = Value.bool z
        rw [← h1]; simp
  · exact op_in_sign pins s σ H _ _ v u Q I rx ry ⟨c, z, rfl, rfl, q⟩
  · cases ry
    exact d_in (by omega) I g rx fun s' I' => ⟨.bl o.isSome, H, I', rfl, q⟩
theorem op_ninX (hu : X.A.units + 70 < cLine) : OpR X (compareOp .NotIn) (rInX X.K true) := by
  intro pins s σ H x y v u Q I rx ry h
  rcases h with ⟨J, a, ys, z, le, ra, rb, e, q⟩ | ⟨c, z, rfl, rfl, q⟩ | ⟨a, o, rfl, g, q⟩
  · have cx := ra.cr I le rx
    rcases rb with rb | rb
    · cases rb with
      | flat e => cases e
      | list hl rd =>
        cases ry
        obtain ⟨its, vs, pl, _⟩ := I.list hl
        obtain ⟨f, h1, h2⟩ := any_val (rd.cr I le vs) e
        refine SeqAt.notIn_listAt f pl.isList (eqs_of hu cx h2) ⟨.bl (!z), H, I, ?_, q⟩
        show _ = Value.bool (!z)
        rw [← h1]; simp
    · cases rb with
      | flat e => cases e
      | tuple hl rd =>
        cases ry
        obtain ⟨its, vs, pl, _⟩ := I.tuple hl
        obtain ⟨f, h1, h2⟩ := any_val (rd.cr I le vs) e
        refine SeqAt.notIn_tupleAt f pl (eqs_of hu cx h2) ⟨.bl (!z), H, I, ?_, q⟩
        show _ = Value.bool (!z)
        rw [← h1]; simp
  · exact op_notIn_sign pins s σ H _ _ v u Q I rx ry ⟨c, z, rfl, rfl, q⟩
  · cases ry
    exact d_notIn (by omega) I g rx fun s' I' => ⟨.bl (!o.isSome), H, I', rfl, q⟩
/-- < <= > >= of ints and texts -/
def rOrdX (pi : Int → Int → Bool) (ps : Str → Str → Bool) : R2 := fun x y H Q => (∃ i j, x = .int i ∧ y = .int j ∧ Q (.bl (pi i j)) H) ∨ ∃ i j, x = .str i ∧ y = .str j ∧ Q (.bl (ps i j)) H
theorem op_ltX : OpR X (compareOp .Lt) (rOrdX (fun i j => decide (i < j)) fun i j => decide (i.cps.toList < j.cps.toList)) := op_lt.or op_lt_str
theorem op_leX : OpR X (compareOp .LtE) (rOrdX (fun i j => decide (i ≤ j)) fun i j => !decide (j.cps.toList < i.cps.toList)) := op_le.or op_le_str
theorem op_gtX : OpR X (compareOp .Gt) (rOrdX (fun i j => decide (j < i)) fun i j => decide (j.cps.toList < i.cps.toList)) := op_gt.or op_gt_str
theorem op_geX : OpR X (compareOp .GtE) (rOrdX (fun i j => decide (j ≤ i)) fun i j => !decide (i.cps.toList < j.cps.toList)) := op_ge.or op_ge_str
def opC : COp → CmpOp
  | .eq => .Eq | .ne => .NotEq | .lt => .Lt | .le => .LtE | .gt => .Gt | .ge => .GtE | .is => .Is | .isn => .IsNot | .in_ => .In | .nin => .NotIn
def rCmp (K : PySem.W.Frag) : COp → R2
  | .eq => rEqX K
  | .ne => rNeX K
  | .lt => rOrdX (fun i j => decide (i < j)) fun i j => decide (i.cps.toList < j.cps.toList)
  | .le => rOrdX (fun i j => decide (i ≤ j)) fun i j => !decide (j.cps.toList < i.cps.toList)
  | .gt => rOrdX (fun i j => decide (j < i)) fun i j => decide (j.cps.toList < i.cps.toList)
  | .ge => rOrdX (fun i j => decide (j ≤ i)) fun i j => !decide (i.cps.toList < j.cps.toList)
  | .is => fun x y H Q => y = .non ∧ Q (.bl (decide (x = .non))) H
  | .isn => fun x y H Q => y = .non ∧ Q (.bl (!decide (x = .non))) H
  | .in_ => rInX K false
  | .nin => rInX K true
theorem op_cmp (hu : X.A.units + 70 < cLine) : ∀ o, OpR X (compareOp (opC o)) (rCmp X.K o)
  | .eq => op_eqX hu
  | .ne => op_neX hu
  | .lt => op_ltX
  | .le => op_leX
  | .gt => op_gtX
  | .ge => op_geX
  | .is => op_isN
  | .isn => op_notN
  | .in_ => op_inX hu
  | .nin => op_ninX hu
end
theorem bnd_ok {α β : Type} {m : M α} {f : α → M β} {S S' : List Cell} {a : α} (h : m S = .ok a S') : bnd m f S = f a S' := by unfold bnd; rw [h]
theorem bnd_no {α β : Type} {m : M α} {f : α → M β} {S : List Cell} (h : m S = .no) : bnd m f S = .no := by unfold bnd; rw [h]
theorem keyOf_keyD (k : Key) : keyOf (keyD k) = some k := by cases k <;> rfl
theorem keysL_map : ∀ ks : List Key, keysL (ks.map keyD) = some ks
  | [] => rfl
  | k :: ks => by
    show (match keyOf (keyD k), keysL (ks.map keyD) with
      | some k, some ks => some (k :: ks)
      | _, _ => none) = _
    rw [keyOf_keyD, keysL_map ks]
theorem keysOf_keysD (ks : List Key) : keysOf (keysD ks) = some ks := keysL_map ks
theorem keyOf_keysD (ks : List Key) : keyOf (keysD ks) = none := rfl
theorem keyOf_flat {x : PyData} {k : Key} (h : keyOf x = some k) : flatOf x = some (kV k) := by cases x <;> cases h <;> rfl
theorem keysL_flat : ∀ {xs : List PyData} {ks : List Key}, keysL xs = some ks → xs.map flatOf = ks.map fun k => some (kV k)
  | [], _, h => by cases h; rfl
  | x :: r, ks, h => by
    unfold keysL at h
    split at h
    · rename_i k ks' e1 e2
      cases h
      rw [List.map_cons, List.map_cons, keyOf_flat e1, keysL_flat e2]
    · cases h
theorem flat_RD_inj {I : Hp} {x : PyData} {v u : V} (r : RD I x v) (h : flatOf x = some u) : v = u := by
  cases r <;> first | exact Option.some.inj h | cases h
theorem flats_inj {I : Hp} : ∀ {xs : List PyData} {vs us : List V}, RDs I xs vs → xs.map flatOf = us.map some → vs = us
  | _, _, [], .nil, _ => rfl
  | _, _, _ :: _, .nil, h => by simp at h
  | _, _, [], .cons _ _, h => by simp at h
  | _, _, u :: us, .cons a b, h => by
    have h' := by simpa using h
    rw [flat_RD_inj a h'.1, flats_inj b h'.2]
section
variable {F : Fx} {g : Gh} {w : Wd} {S : List Cell} {H : Hp} {σ : St} {Q : VK}
/-- a key of a dict of tuples, as it lies -/
theorem RU.keys {I : Hp} {x : PyData} {v : V} {ks : List Key} (r : RU H I x v) (h : keysOf x = some ks) : ∃ b, v = .ref b ∧ H b = some (.tup (ks.map kV)) := by
  cases r with
  | flat e => cases x <;> first | (cases h; done) | (cases e; done)
  | @tuple a xs ds e rd =>
    have q := keysL_flat (show keysL ds = some ks from h)
    have q2 : ds.map flatOf = (ks.map kV).map some := by rw [q, List.map_map]; rfl
    rw [flats_inj rd q2] at e
    exact ⟨a, rfl, e⟩
  | list _ _ => cases h
  | dk _ _ => cases h
  | dt _ _ => cases h
theorem RKV.look {κ : Type} [DecidableEq κ] {K : PySem.W.Frag} (k : κ) : ∀ {x : List (κ × Val)} {y : List (κ × V)}, RKV K w x y → (match lookK x k with
    | some v => ∃ u, valV y k = some u ∧ RV K w v u
    | none => valV y k = none)
  | _, _, .nil => by unfold lookK; rfl
  | p :: x, q :: y, .cons ⟨e, r⟩ t => by
    have ih := RKV.look k t
    unfold lookK valV at ih ⊢
    by_cases h : p.1 = k
    · rw [List.find?_cons_of_pos (by simpa using h), List.find?_cons_of_pos (by rw [← e]; simpa using h)]
      exact ⟨q.2, rfl, r⟩
    · rw [List.find?_cons_of_neg (by simpa using h), List.find?_cons_of_neg (by rw [← e]; simpa using h)]
      exact ih
theorem RKV.isSome {κ : Type} [DecidableEq κ] {K : PySem.W.Frag} (k : κ) {x : List (κ × Val)} {y : List (κ × V)} (r : RKV K w x y) : (valV y k).isSome = (lookK x k).isSome := by
  have h := r.look k
  cases e : lookK x k with
  | none =>
    rw [e] at h
    have h2 : valV y k = none := h
    rw [h2]
    rfl
  | some v => rw [e] at h; obtain ⟨u, h, _⟩ := h; rw [h]; rfl
/-- what a look-up gives, lying in I -/
def LkR (I : Hp) : Option PyData → Option V → Prop
  | some v, o => ∃ u, o = some u ∧ RD I v u
  | none, o => o = none
theorem RDk.look {I : Hp} (k : Key) : ∀ {x : List (PyData × PyData)} {y : List (Key × V)}, RDk I x y → LkR I ((x.find? fun kv => decide (keyOf kv.1 = some k)).map (·.2)) (valV y k)
  | _, _, .nil => rfl
  | _, _, @RDk.cons _ k' x v ps kvs r t => by
    have ih := RDk.look k t
    unfold valV at ih ⊢
    by_cases h : k' = k
    · rw [List.find?_cons_of_pos (by simp [keyOf_keyD, h]), List.find?_cons_of_pos (by simpa using h)]
      exact ⟨v, rfl, r⟩
    · rw [List.find?_cons_of_neg (by simp [keyOf_keyD, h]), List.find?_cons_of_neg (by simpa using h)]
      exact ih
theorem RDt.look {I : Hp} (k : List Key) : ∀ {x : List (PyData × PyData)} {y : List (List Key × V)}, RDt I x y → LkR I ((x.find? fun kv => decide (keysOf kv.1 = some k)).map (·.2)) (valV y k)
  | _, _, .nil => rfl
  | _, _, @RDt.cons _ k' x v ps kvs r t => by
    have ih := RDt.look k t
    unfold valV at ih ⊢
    by_cases h : k' = k
    · rw [List.find?_cons_of_pos (by simp [keysOf_keysD, h]), List.find?_cons_of_pos (by simpa using h)]
      exact ⟨v, rfl, r⟩
    · rw [List.find?_cons_of_neg (by simp [keysOf_keysD, h]), List.find?_cons_of_neg (by simpa using h)]
      exact ih
/-- a look into a frozen dict -/
theorem dict_look {K : PySem.W.Frag} {I : Hp} {ps : List (PyData × PyData)} {x : PyData} {y v : V} {o : Option PyData} (r : RT K H I (.dict ps) y) (rx : RU H I x v) (h : lookD ps x = some o) :
    ∃ a r', y = .ref a ∧ DGet H a v r' ∧ LkR I o r' := by
  cases r with
  | flat e => cases e
  | @dk a kvs _ e rd =>
    cases rd with
    | nil => cases h
    | cons r1 r2 =>
      rename_i k' x' v' ps' kvs'
      have h' : (match keyOf (keyD k') with
        | some _ => (match keyOf x with
          | some k => some ((((keyD k', x') :: ps').find? fun kv => decide (keyOf kv.1 = some k)).map (·.2))
          | none => none)
        | none => _) = some o := h
      rw [keyOf_keyD] at h'
      cases ek : keyOf x with
      | none => simp only [ek] at h'; cases h'
      | some k =>
        simp only [ek] at h'
        obtain rfl := Option.some.inj h'
        have q := RDk.look (I := I) k (x := (keyD k', x') :: ps') (y := (k', v') :: kvs') (.cons r1 r2)
        have hv : v = kV k := by
          cases rx with
          | flat e2 => exact Option.some.inj (e2.symm.trans (keyOf_flat ek))
          | _ => cases ek
        subst hv
        refine ⟨a, _, rfl, .inl ⟨_, k, e, rfl, rfl⟩, ?_⟩
        exact q
  | @dt a kvs _ e rd =>
    cases rd with
    | nil => cases h
    | cons r1 r2 =>
      rename_i k' x' v' ps' kvs'
      have h' : (match keysOf x with
          | some k => some ((((keysD k', x') :: ps').find? fun kv => decide (keysOf kv.1 = some k)).map (·.2))
          | none => none) = some o := h
      cases ek : keysOf x with
      | none => simp only [ek] at h'; cases h'
      | some k =>
        simp only [ek] at h'
        obtain rfl := Option.some.inj h'
        have q := RDt.look (I := I) k (x := (keysD k', x') :: ps') (y := (k', v') :: kvs') (.cons r1 r2)
        obtain ⟨b, rfl, eb⟩ := rx.keys ek
        exact ⟨a, _, rfl, .inr ⟨_, k, b, e, rfl, eb, rfl⟩, q⟩
end
end Ev
end
section
set_option Elab.async false
set_option linter.all false
set_option maxRecDepth 100000
namespace Ev
open PySem PySem.Spec L2
theorem bnd_assoc {α β γ : Type} (m : M α) (f : α → M β) (h : β → M γ) : bnd (bnd m f) h = bnd m fun a => bnd (f a) h := by
  funext S
  unfold bnd
  cases m S <;> rfl
theorem bnd_ret {α β : Type} (a : α) (f : α → M β) : bnd (ret a) f = f a := rfl
theorem bnd_right {α : Type} (m : M α) : bnd m ret = m := by
  funext S
  unfold bnd
  cases m S <;> rfl
theorem bnd_lift {α β : Type} (a : α) (f : α → M β) : bnd (lift (some a)) f = f a := rfl
section
variable {F : Fx} {g : Gh} {w : Wd} {S : List Cell} {H : Hp} {σ : St} {Q : VK}
theorem po_bl {b : Bool} (h : PO F (RV F.K) g w σ Q (ret (.d (.bool b)) S)) (R : RS F.K g w S H) : Q (.bl b) H := h w H (.bl b) (.refl _) R (.d (.bool b))
theorem RT.int_inv {K : PySem.W.Frag} {I : Hp} {s : Int} {v : V} (r : RT K H I (.int s) v) : v = .int s := by cases r with | flat e => exact (Option.some.inj e).symm
theorem RT.str_inv {K : PySem.W.Frag} {I : Hp} {s : Str} {v : V} (r : RT K H I (.str s) v) : v = .str s := by cases r with | flat e => exact (Option.some.inj e).symm
theorem RT.bool_inv {K : PySem.W.Frag} {I : Hp} {s : Bool} {v : V} (r : RT K H I (.bool s) v) : v = .bl s := by cases r with | flat e => exact (Option.some.inj e).symm
theorem RT.none_iff {K : PySem.W.Frag} {I : Hp} {a : PyData} {v : V} (r : RT K H I a v) : decide (v = .non) = isNoneD a := by
  cases r with
  | flat e => cases a <;> cases e <;> simp [isNoneD]
  | _ => simp [isNoneD]
theorem ord_int {pi : Int → Int → Bool} {ps : Str → Str → Bool} {a b : PyData} {x y : V} {r : Bool} (ra : RT F.K H w.I a x) (rb : RT F.K H w.I b y)
    (h : ordW pi ps a b = some r) (q : Q (.bl r) H) : rOrdX pi ps x y H Q := by
  unfold ordW at h
  split at h
  · cases h
    exact .inl ⟨_, _, RT.int_inv ra, RT.int_inv rb, q⟩
  · cases h
    exact .inr ⟨_, _, RT.str_inv ra, RT.str_inv rb, q⟩
  · cases h
theorem inD_snd {neg : Bool} {a b : PyData} {x y : V} {r : Bool} (R : RS F.K g w S H) (ra : RU H w.I a x) (rb : RT F.K H w.I b y) (h : inD a b = some r) (q : Q (.bl (if neg then !r else r)) H) : rInX F.K neg x y H Q := by
  unfold inD at h
  split at h
  · exact .inl ⟨w.I, a, _, r, R.le, ra.rt, .inl rb, h, q⟩
  · exact .inl ⟨w.I, a, _, r, R.le, ra.rt, .inr rb, h, q⟩
  · split at h
    · rename_i s
      split at h
      · rename_i c hc
        cases h
        refine .inr (.inl ⟨c, _, ?_, rb.str_inv, q⟩)
        rw [ra.rt (K := F.K) |>.str_inv]
        obtain ⟨⟨l⟩⟩ := s
        have : l = [c] := hc
        rw [this]
      · cases h
    · cases h
  · obtain ⟨o, e, rfl⟩ := Option.map_eq_some_iff.mp h
    obtain ⟨p, r', rfl, d, l⟩ := dict_look rb ra e
    refine .inr (.inr ⟨p, r', rfl, d, ?_⟩)
    cases o with
    | none => rw [show r' = none from l]; exact q
    | some v => obtain ⟨u, rfl, _⟩ := l; exact q
  · cases h
theorem inM_snd {neg : Bool} {a b : Val} {x y : V} (R : RS F.K g w S H) (ra : RV F.K w a x) (rb : RV F.K w b y)
    (h : PO F (RV F.K) g w σ Q (bnd (inM a b) (fun r => ret (.d (.bool (if neg then !r else r)))) S)) : rInX F.K neg x y H Q := by
  unfold inM at h
  rw [bnd_assoc] at h
  obtain ⟨d, ed, h⟩ := po_viewd h
  have rd := R.vwd ra ed
  have other : PO F (RV F.K) g w σ Q (bnd (bnd (view b) fun y => lift (inD d y)) (fun r => ret (.d (.bool (if neg then !r else r)))) S) → rInX F.K neg x y H Q := fun h => by
    rw [bnd_assoc] at h
    obtain ⟨e, ee, h⟩ := po_view h
    obtain ⟨r, er, h⟩ := po_lift h
    exact inD_snd R rd (R.vw rb ee) er (po_bl h R)
  cases b with
  | r n =>
    cases rb with
    | r hn =>
    cases ec : S[n]? with
    | none =>
      have h2 : PO F (RV F.K) g w σ Q (bnd (bnd (view (.r n)) fun y => lift (inD d y)) (fun r => ret (.d (.bool (if neg then !r else r)))) S) := by
        unfold bnd at h ⊢
        simp only [ec] at h
        exact h
      exact other h2
    | some c =>
      cases c with
      | dk kvs =>
        obtain ⟨o, a1, b1, _⟩ := R.cell n _ ec rfl
        cases b1 with
        | dk b1 =>
          unfold bnd at h
          simp only [ec] at h
          cases ek : keyOf d with
          | none => simp only [ek] at h; exact h.elim
          | some k =>
            simp only [ek] at h
            refine .inr (.inr ⟨_, _, rfl, .inl ⟨_, k, .inl a1, ?_, rfl⟩, ?_⟩)
            · cases rd with
              | flat e2 => exact Option.some.inj (e2.symm.trans (keyOf_flat ek))
              | _ => cases ek
            · rw [b1.isSome]; exact po_bl h R
      | dt kvs =>
        obtain ⟨o, a1, b1, _⟩ := R.cell n _ ec rfl
        cases b1 with
        | dt b1 =>
          unfold bnd at h
          simp only [ec] at h
          cases ek : keysOf d with
          | none => simp only [ek] at h; exact h.elim
          | some k =>
            simp only [ek] at h
            obtain ⟨b, rfl, eb⟩ := rd.keys ek
            refine .inr (.inr ⟨_, _, rfl, .inr ⟨_, k, b, .inl a1, rfl, eb, rfl⟩, ?_⟩)
            rw [b1.isSome]; exact po_bl h R
      | _ =>
        refine other ?_
        unfold bnd at h ⊢
        simp only [ec] at h
        exact h
  | _ => exact other h
theorem cmp_snd (o : COp) {a b : Val} {x y : V} (R : RS F.K g w S H) (ra : RV F.K w a x) (rb : RV F.K w b y)
    (h : PO F (RV F.K) g w σ Q (bnd (cmpM o a b) (fun r => ret (.d (.bool r))) S)) : rCmp F.K o x y H Q := by
  have two : ∀ o, (cmpM o a b = bnd (view a) fun x => bnd (view b) fun y => lift (cmpD o x y)) → PO F (RV F.K) g w σ Q (bnd (cmpM o a b) (fun r => ret (.d (.bool r))) S) →
      ∃ d e r, RT F.K H w.I d x ∧ RT F.K H w.I e y ∧ cmpD o d e = some r ∧ Q (.bl r) H := fun o eo h => by
    rw [eo, bnd_assoc] at h
    obtain ⟨d, ed, h⟩ := po_view h
    rw [bnd_assoc] at h
    obtain ⟨e, ee, h⟩ := po_view h
    obtain ⟨r, er, h⟩ := po_lift h
    exact ⟨d, e, r, R.vw ra ed, R.vw rb ee, er, po_bl h R⟩
  cases o with
  | eq =>
    obtain ⟨d, e, r, r1, r2, er, q⟩ := two _ rfl h
    exact ⟨w.I, d, e, r, R.le, r1, r2, er, q⟩
  | ne =>
    obtain ⟨d, e, r, r1, r2, er, q⟩ := two _ rfl h
    obtain ⟨z, ez, rfl⟩ := Option.map_eq_some_iff.mp (show (eqG eqN d e).map (!·) = some r from er)
    exact ⟨w.I, d, e, z, R.le, r1, r2, ez, q⟩
  | lt =>
    obtain ⟨d, e, r, r1, r2, er, q⟩ := two _ rfl h
    exact ord_int r1 r2 er q
  | gt =>
    obtain ⟨d, e, r, r1, r2, er, q⟩ := two _ rfl h
    exact ord_int r1 r2 er q
  | le =>
    obtain ⟨d, e, r, r1, r2, er, q⟩ := two _ rfl h
    exact ord_int r1 r2 er q
  | ge =>
    obtain ⟨d, e, r, r1, r2, er, q⟩ := two _ rfl h
    exact ord_int r1 r2 er q
  | is =>
    obtain ⟨d, e, r, r1, r2, er, q⟩ := two _ rfl h
    have er : (if isNoneD e = true then some (isNoneD d) else none) = some r := er
    cases e with
    | none =>
      obtain rfl := Option.some.inj er
      cases r2 with
      | flat e => cases e; exact ⟨rfl, by rw [r1.none_iff]; exact q⟩
    | _ => cases er
  | isn =>
    obtain ⟨d, e, r, r1, r2, er, q⟩ := two _ rfl h
    have er : (if isNoneD e = true then some (!isNoneD d) else none) = some r := er
    cases e with
    | none =>
      obtain rfl := Option.some.inj er
      cases r2 with
      | flat e => cases e; exact ⟨rfl, by rw [r1.none_iff]; exact q⟩
    | _ => cases er
  | in_ => exact inM_snd (neg := false) R ra rb h
  | nin =>
    have h : PO F (RV F.K) g w σ Q (bnd (bnd (inM a b) fun r => ret (!r)) (fun r => ret (.d (.bool r))) S) := h
    rw [bnd_assoc] at h
    exact inM_snd (neg := true) R ra rb h
end
section
variable {F : Fx}
theorem SE.two {ta tb : TE} {ma mb : Env → M Val} {f : Val → Val → M Val} {r : R2} (ha : SE F ta ma) (hb : SE F tb mb)
    (hr : ∀ g w S σ H Q u v x y, RS F.K g w S H → RV F.K w u x → RV F.K w v y → PO F (RV F.K) g w σ Q (f u v S) → r x y H Q) :
    SE F (tOp r ta tb) (fun ρ => bnd (ma ρ) fun u => bnd (mb ρ) fun v => f u v) := fun g w ρ S σ H Q R E h =>
  ha g w ρ S σ H _ R E (po_bind (P := fun w r => PO F (RV F.K) g w σ Q r) h (fun e S' w' H' c d p => p w' H' c d) (fun p => p) fun u S1 w1 H1 x e1 R1 r1 p =>
    hb g w1 ρ S1 σ H1 _ R1 (E.mono e1) (po_bind (P := fun w r => PO F (RV F.K) g w σ Q r) (p.ext e1) (fun e S' w' H' c d p => p w' H' c d) (fun p => p) fun v S2 w2 H2 y e2 R2 r2 p2 =>
      hr g w2 S2 σ H2 Q u v x y R2 (r1.mono e2) r2 (p2.ext e2)))
theorem SE.one {ta : TE} {ma : Env → M Val} {f : Val → M Val} {r : V → Hp → VK → Prop} (ha : SE F ta ma)
    (hr : ∀ g w S σ H Q u x, RS F.K g w S H → RV F.K w u x → PO F (RV F.K) g w σ Q (f u S) → r x H Q) :
    SE F (tUn r ta) (fun ρ => bnd (ma ρ) f) := fun g w ρ S σ H Q R E h =>
  ha g w ρ S σ H _ R E (po_bind (P := fun w r => PO F (RV F.K) g w σ Q r) h (fun e S' w' H' c d p => p w' H' c d) (fun p => p) fun u S1 w1 H1 x e1 R1 r1 p => hr g w1 S1 σ H1 Q u x R1 r1 (p.ext e1))
theorem SA.nil : SA F tNil (fun _ => ret []) := fun g w ρ S σ H Q R E h => h w H [] (.refl _) R .nil
theorem pa_bind {β : Type} {P : Wd → Res β → Prop} {Q1 : List V → Hp → Prop} {m : M (List Val)} {f : List Val → M β} {S : List Cell} {g : Gh} {w : Wd} {σ : St}
    (h : P w (bnd m f S)) (hx : ∀ e S' w' H' c d, P w (.ex e S') → Ext w w' → RS F.K g w' S' H' → RX F.cA w' e c d H' → F.W c d σ H') (hn : ¬ P w .no)
    (k : ∀ v S' w' H' x, Ext w w' → RS F.K g w' S' H' → RVs F.K w' v x → P w (f v S') → Q1 x H') : PA' F g w σ Q1 (m S) := by
  unfold bnd at h
  cases e : m S with
  | ok v S' => rw [e] at h; exact fun w' H' x e R r => k v S' w' H' x e R r h
  | ex _ S' => rw [e] at h; exact fun w' H' c d e2 R r => hx _ S' w' H' c d h e2 R r
  | no => rw [e] at h; exact hn h
theorem SA.cons {ta : TE} {ma : Env → M Val} {t : TA} {m : Env → M (List Val)} (ha : SE F ta ma) (hr : SA F t m) : SA F (tCons ta t) (fun ρ => bnd (ma ρ) fun v => bnd (m ρ) fun vs => ret (v :: vs)) := fun g w ρ S σ H Q R E h =>
  ha g w ρ S σ H _ R E (po_bind (P := fun w r => PA' F g w σ Q r) h (fun e S' w' H' c d p => p w' H' c d) (fun p => p) fun u S1 w1 H1 x e1 R1 r1 p =>
    hr g w1 ρ S1 σ H1 _ R1 (E.mono e1) (pa_bind (P := fun w r => PA' F g w σ Q r) (p.ext e1) (fun e S' w' H' c d p => p w' H' c d) (fun p => p) fun v S2 w2 H2 y e2 R2 r2 p2 =>
      (p2.ext e2) w2 H2 (x :: y) (.refl _) R2 (.cons (r1.mono e2) r2)))
theorem SA.then_ {t : TA} {m : Env → M (List Val)} {f : List Val → M Val} {r : List V → Hp → VK → Prop} (ha : SA F t m)
    (hr : ∀ g w S σ H Q us xs, RS F.K g w S H → RVs F.K w us xs → PO F (RV F.K) g w σ Q (f us S) → r xs H Q) : SE F (tCB r t) (fun ρ => bnd (m ρ) f) := fun g w ρ S σ H Q R E h =>
  ha g w ρ S σ H _ R E (pa_bind (P := fun w r => PO F (RV F.K) g w σ Q r) h (fun e S' w' H' c d p => p w' H' c d) (fun p => p) fun u S1 w1 H1 x e1 R1 r1 p => hr g w1 S1 σ H1 Q u x R1 r1 (p.ext e1))
theorem SE.var (i : Nat) : SE F (tVar i) (fun ρ => lift (ρ[i]?.join)) := fun g w ρ S σ H Q R E h => by
  have h : PO F (RV F.K) g w σ Q (bnd (lift (ρ[i]?.join)) ret S) := by
    rw [bnd_right]; exact h
  obtain ⟨v, ev, h⟩ := po_lift h
  have e : ρ[i]? = some (some v) := by
    cases e : ρ[i]? with
    | none => rw [e] at ev; cases ev
    | some o => rw [e] at ev; rw [show o = some v from ev]
  obtain ⟨x, ex, r⟩ := E.at_ i v e
  exact ⟨x, ex, h w H x (.refl _) R r⟩
theorem SE.const {x : PyData} {v : V} (e : flatOf x = some v) : SE F (tC v) (fun _ => ret (.d x)) := fun g w ρ S σ H Q R E h => h w H v (.refl _) R (.d (flat_RD e))
end
end Ev
end
section
set_option Elab.async false
set_option linter.all false
set_option maxRecDepth 100000
namespace Ev
open PySem PySem.Spec L2
section
variable {X : Cx}
def rDIx : R2 := fun x y H Q => ∃ a v, x = .ref a ∧ DGet H a y (some v) ∧ Q v H
theorem ix_dict (hu : X.A.units + 1 < cLine) : IxR X rDIx := by
  intro value slice pins s σ H x y v u Q I rx ry ⟨a, z, ex, g, q⟩ hs
  subst ex
  cases rx
  exact PyProof.Rows.tail_any (dict_typeIs I g) PySem.F.slot_dict_getitem.lookup (d_getItem hu I g ry fun w' s' I' rw' => ⟨z, H, I', rw', q⟩) hs
def rIxX (K : PySem.W.Frag) : R2 := fun x y H Q => rIx K x y H Q ∨ rDIx x y H Q
theorem ix_X (hu : X.A.units + 1 < cLine) : IxR X (rIxX X.K) := ix_seq.or (ix_dict hu)
def rSlX (K : PySem.W.Frag) : V → Option Int → Option Int → Hp → VK → Prop := fun x lo hi H Q => rSlL K x lo hi H Q ∨ rSlA K x lo hi H Q ∨ rSlS x lo hi H Q
theorem sl_X : SlR X (rSlX X.K) := sl_list.or (sl_tupA.or sl_str)
end
section
variable {F : Fx} {g : Gh} {w : Wd} {S : List Cell} {H : Hp} {σ : St} {Q : VK}
theorem po_liftS {α : Type} {o : Option α} {f : α → Val} (h : PO F (RV F.K) g w σ Q (lift (o.map f) S)) : ∃ a, o = some a ∧ PO F (RV F.K) g w σ Q (.ok (f a) S) := by
  cases o with
  | none => exact h.elim
  | some a => exact ⟨a, rfl, h⟩
theorem po_liftV {o : Option Val} (h : PO F (RV F.K) g w σ Q (lift o S)) : ∃ a, o = some a ∧ PO F (RV F.K) g w σ Q (.ok a S) := by
  cases o with
  | none => exact h.elim
  | some a => exact ⟨a, rfl, h⟩
theorem atD_snd {d e : PyData} {x : V} {i : Int} (R : RS F.K g w S H) (r : RT F.K H w.I d x) (h : atD d i = some e) (q : PO F (RV F.K) g w σ Q (.ok (.d e) S)) : rIxX F.K x (.int i) H Q := by
  cases r with
  | flat fe =>
    cases d with
    | str z =>
      cases fe
      have h : (if z.length ≤ sizeLine then (atI z.cps.toList i).map fun c => PyData.str (sign c) else none) = some e := h
      split at h
      · rename_i hl
        obtain ⟨c, ec, rfl⟩ := Option.map_eq_some_iff.mp h
        exact .inl (.inr (.inr ⟨z, i, c, rfl, rfl, hl, ec, q w H _ (.refl _) R (.d (.str _))⟩))
      · cases h
    | _ => first | (cases fe; done) | cases h
  | list s rd =>
    obtain ⟨u, eu, ru⟩ := rd.at_ (show atI _ i = some e from h)
    exact .inl (.inl ⟨_, _, i, u, rfl, rfl, s, eu, q w H _ (.refl _) R (.d ru)⟩)
  | tuple s rd =>
    obtain ⟨u, eu, ru⟩ := rd.at_ (show atI _ i = some e from h)
    exact .inl (.inr (.inl ⟨_, _, i, u, rfl, rfl, s, eu, q w H _ (.refl _) R (.d ru)⟩))
  | dk _ _ => cases h
  | dt _ _ => cases h
theorem join_some {α : Type} {o : Option (Option α)} {a : α} (h : o.join = some a) : o = some (some a) := by
  cases o with
  | none => cases h
  | some b => rw [show b = some a from h]
theorem RD.ru {d : PyData} {x : V} (R : RS F.K g w S H) (r : RD w.I d x) : RU H w.I d x := R.vwd (v := .d d) (RV.d r : RV F.K w (.d d) x) rfl
theorem idx_snd {a i : Val} {x y : V} (R : RS F.K g w S H) (ra : RV F.K w a x) (ri : RV F.K w i y) (h : PO F (RV F.K) g w σ Q (idxM a i S)) : rIxX F.K x y H Q := by
  unfold idxM at h
  cases ri with
  | @d i y ri =>
    have ru := ri.ru R
    cases ra with
    | r hn =>
      rename_i n
      cases ec : S[n]? with
      | none => simp only [ec] at h; exact h.elim
      | some c =>
        cases c with
        | lst xs =>
          obtain ⟨o, a1, b1, _⟩ := R.cell n _ ec rfl
          cases b1 with
          | lst b1 =>
            cases i with
            | int z =>
              simp only [ec] at h
              obtain ⟨v, ev, q⟩ := po_liftV h
              obtain ⟨u, eu, rv⟩ := b1.at_ ev
              cases ri
              exact .inl (.inl ⟨_, _, z, u, rfl, rfl, .of a1, eu, q w H _ (.refl _) R rv⟩)
            | _ => simp only [ec] at h; exact h.elim
        | lk xs =>
          obtain ⟨o, a1, b1, _⟩ := R.cell n _ ec rfl
          cases b1 with
          | lk b1 =>
            cases i with
            | int z =>
              simp only [ec] at h
              obtain ⟨v, ev, q⟩ := po_liftV h
              obtain ⟨u, eu, rv⟩ := b1.at_ ev
              cases ri
              exact .inl (.inl ⟨_, _, z, u, rfl, rfl, .of a1, eu, q w H _ (.refl _) R rv⟩)
            | _ => simp only [ec] at h; exact h.elim
        | dk kvs =>
          obtain ⟨o, a1, b1, _⟩ := R.cell n _ ec rfl
          cases b1 with
          | dk b1 =>
            simp only [ec] at h
            cases ek : keyOf i with
            | none => simp only [ek] at h; exact h.elim
            | some k =>
              simp only [ek] at h
              obtain ⟨v, ev, q⟩ := po_liftV h
              have lk := b1.look k
              rw [ev] at lk
              obtain ⟨u, eu, rv⟩ := lk
              have hv : y = kV k := by
                cases ru with
                | flat e2 => exact Option.some.inj (e2.symm.trans (keyOf_flat ek))
                | _ => cases ek
              exact .inr ⟨_, u, rfl, .inl ⟨_, k, .inl a1, hv, eu.symm⟩, q w H _ (.refl _) R rv⟩
        | dt kvs =>
          obtain ⟨o, a1, b1, _⟩ := R.cell n _ ec rfl
          cases b1 with
          | dt b1 =>
            simp only [ec] at h
            cases ek : keysOf i with
            | none => simp only [ek] at h; exact h.elim
            | some k =>
              simp only [ek] at h
              obtain ⟨v, ev, q⟩ := po_liftV h
              have lk := b1.look k
              rw [ev] at lk
              obtain ⟨u, eu, rv⟩ := lk
              obtain ⟨b, rfl, eb⟩ := ru.keys ek
              exact .inr ⟨_, u, rfl, .inr ⟨_, k, b, .inl a1, rfl, eb, eu.symm⟩, q w H _ (.refl _) R rv⟩
        | ins _ _ => simp only [ec] at h; exact h.elim
        | dead => simp only [ec] at h; exact h.elim
    | t e1 rs =>
      cases i with
      | int z =>
        obtain ⟨v, ev, q⟩ := po_liftV h
        obtain ⟨u, eu, rv⟩ := rs.at_ ev
        cases ri
        exact .inl (.inr (.inl ⟨_, _, z, u, rfl, rfl, .of (R.le _ _ e1), eu, q w H _ (.refl _) R rv⟩))
      | _ => exact h.elim
    | k rk =>
      cases rk with
      | list s e =>
        cases i with
        | int z =>
          obtain ⟨v, ev, q⟩ := po_liftS h
          cases ri
          exact atD_snd R (R.vw (v := .k _) (.k (.list s e)) rfl) ev q
        | _ => exact h.elim
      | tuple s e qt =>
        cases i with
        | int z =>
          obtain ⟨v, ev, q⟩ := po_liftS h
          cases ri
          exact atD_snd R (R.vw (v := .k _) (.k (.tuple s e qt)) rfl) ev q
        | _ => exact h.elim
    | @d a x rd =>
      have rt := R.vw (v := .d a) (.d rd) rfl
      have seq : ∀ z, i = .int z → PO F (RV F.K) g w σ Q (lift ((atD a z).map .d) S) → rIxX F.K x y H Q := fun z ez h2 => by
        subst ez
        obtain ⟨v, ev, q⟩ := po_liftS h2
        cases ri
        exact atD_snd R rt ev q
      cases a
      case dict kvs =>
        obtain ⟨v, ev, q⟩ := po_liftS h
        obtain ⟨p, r', rfl, dg, l⟩ := dict_look rt ru (join_some ev)
        obtain ⟨u, rfl, rv⟩ := l
        exact .inr ⟨p, u, rfl, dg, q w H _ (.refl _) R (.d rv)⟩
      all_goals (cases i <;> first | exact h.elim | exact seq _ rfl h)
  | _ => exact h.elim
theorem cut_whole {α : Type} (xs : List α) {lo hi : Option Int} (h : HT.sIx xs.length 0 lo = 0 ∧ HT.sIx xs.length xs.length hi = xs.length) : cutL xs lo hi = xs := by
  unfold cutL
  rw [h.1, h.2]
  simp
theorem po_viewc {v : Val} {f : PyData → M Val} (h : PO F (RV F.K) g w σ Q (bnd (viewc v) f S)) : ∃ a, vw S v = some a ∧ (∀ ds, v ≠ .k (.tuple ds)) ∧ PO F (RV F.K) g w σ Q (f a S) := by
  have e : PO F (RV F.K) g w σ Q (bnd (view v) f S) ∧ ∀ ds, v ≠ .k (.tuple ds) := by
    cases v with
    | k x => cases x <;> first | exact h.elim | exact ⟨h, fun _ z => by cases z⟩
    | _ => exact ⟨h, fun _ z => by cases z⟩
  obtain ⟨a, b, c⟩ := po_view e.1
  exact ⟨a, b, e.2, c⟩
/-- a tuple that is no constant of the module is data -/
theorem RS.tup (R : RS F.K g w S H) {v : Val} {x : V} {ds : List PyData} (r : RV F.K w v x) (h : Ev.vw S v = some (.tuple ds)) (hk : ∀ ds, v ≠ .k (.tuple ds)) : RD w.I (.tuple ds) x := by
  cases r with
  | @d x _ r => obtain rfl : x = PyData.tuple ds := Option.some.inj h; exact r
  | @k x _ r => obtain rfl : x = PyData.tuple ds := Option.some.inj h; exact absurd rfl (hk ds)
  | t _ _ => cases h
  | @r n hn =>
    have h : (match S[n]? with
      | some (.lst xs) => (allD xs).map PyData.list
      | some (.lk xs) => (allD xs).map PyData.list
      | some (.dk kvs) => (dkD kvs).map PyData.dict
      | some (.dt kvs) => (dtD kvs).map PyData.dict
      | _ => none) = some (.tuple ds) := h
    split at h <;> first | (obtain ⟨_, _, z⟩ := Option.map_eq_some_iff.mp h; cases z; done) | cases h
theorem cut_snd {mu : Bool} {a : Val} {x : V} {lo hi : Option Int} (R : RS F.K g w S H) (ra : RV F.K w a x) (h : PO F (RV F.K) g w σ Q (bnd (viewc a) (fun d => bnd (lift (cutD d lo hi)) (mkRes mu)) S)) : rSlX F.K x lo hi H Q := by
  obtain ⟨d, ed, hk, h⟩ := po_viewc h
  obtain ⟨e, ee, q⟩ := po_lift h
  have rt := R.vw ra ed
  cases d with
  | tuple ds =>
    obtain rfl : PyData.tuple (cutL ds lo hi) = e := Option.some.inj ee
    have rd := R.tup ra ed hk
    cases id rd with
    | @tuple p xs _ e1 r1 =>
      refine .inr (.inl ⟨p, xs, rfl, .of (R.le _ _ e1), fun z => ?_, fun _ => fin_tup q R (r1.cut lo hi)⟩)
      rw [← r1.length] at z
      rw [cut_whole ds z] at q
      exact fin_tupd q R rd
  | list ds =>
    obtain rfl : PyData.list (cutL ds lo hi) = e := Option.some.inj ee
    cases rt with
    | flat e => cases e
    | list s r1 => exact .inl ⟨_, _, rfl, s, fin_lst q R (r1.cut lo hi)⟩
  | str z =>
    have ee : (if z.length ≤ sizeLine then some (PyData.str (cutS z lo hi)) else none) = some e := ee
    split at ee
    · rename_i hl
      obtain rfl := Option.some.inj ee
      cases rt with
      | flat fe => cases fe; exact .inr (.inr ⟨z, rfl, hl, fin_flat q R rfl⟩)
    · cases ee
  | _ => cases ee
theorem rev_snd {mu : Bool} {a : Val} {x : V} {d : PyData} (R : RS F.K g w S H) (rt : RT F.K H w.I (.list ds) x) (q : PO F (RV F.K) g w σ Q (mkRes mu (.list ds.reverse) S)) :
    ∃ a xs, x = .ref a ∧ SqL F.K H a xs ∧ ∀ p, H p = none → Q (.ref p) (upd H p (.lst xs.reverse)) := by
  cases rt with
  | flat e => cases e
  | list s r1 => exact ⟨_, _, rfl, s, fin_lst q R r1.reverse⟩
theorem RVs.ofD {ds : List PyData} : ∀ {vs : List Val} {xs : List V}, RVs F.K w vs xs → allD vs = some ds → RDs w.I ds xs := fun r h => r.data h
theorem tup_snd {vs : List Val} {xs : List V} (R : RS F.K g w S H) (r : RVs F.K w vs xs) (h : PO F (RV F.K) g w σ Q (mkTup vs S)) : xs.length ≤ sizeLine ∧ ∀ p, H p = none → Q (.ref p) (upd H p (.tup xs)) := by
  unfold mkTup at h
  by_cases hl : vs.length ≤ sizeLine
  · rw [if_pos hl] at h
    refine ⟨by rw [← r.length]; exact hl, fun p hp => ?_⟩
    have e : Ext w (w.put p (.tup xs)) := .put (R.Ifree hp)
    cases ea : allD vs with
    | some ds =>
      rw [ea] at h
      exact h _ _ _ e (R.put hp) (.d (.tuple upd_same ((r.data ea).mono e.I)))
    | none =>
      rw [ea] at h
      exact h _ _ _ e (R.put hp) (.t upd_same (r.mono e))
  · rw [if_neg hl] at h; exact h.elim
theorem lst_snd {mu : Bool} {vs : List Val} {xs : List V} (R : RS F.K g w S H) (r : RVs F.K w vs xs) (h : PO F (RV F.K) g w σ Q (mkList mu vs S)) : xs.length ≤ sizeLine ∧ ∀ p, H p = none → Q (.ref p) (upd H p (.lst xs)) := by
  unfold mkList at h
  by_cases hl : vs.length ≤ sizeLine
  · rw [if_pos hl] at h
    refine ⟨by rw [← r.length]; exact hl, fun p hp => ?_⟩
    cases mu with
    | true =>
      have q := h _ _ (.ref p) (Ext.new (p := p)) (R.new hp (.lst r)) (by
        have q := RV.r (K := F.K) (w := w.new p) (n := S.length) (by rw [R.len]; exact Nat.lt_succ_self _)
        rw [R.len, Wd.new_at] at q
        rw [R.len]; exact q)
      exact q
    | false =>
      have h : PO F (RV F.K) g w σ Q (lift ((allD vs).map fun ds => Val.d (.list ds)) S) := h
      obtain ⟨ds, ea, q⟩ := po_liftS h
      have e : Ext w (w.put p (.lst xs)) := .put (R.Ifree hp)
      exact q _ _ _ e (R.put hp) (.d (.list upd_same ((r.data ea).mono e.I)))
  · rw [if_neg hl] at h; exact h.elim
/-- a new object of the store -/
theorem new_snd {c : Cell} {o : HO} (R : RS F.K g w S H) (r : RC F.K w c o) (h : PO F (RV F.K) g w σ Q (alloc c S)) : ∀ p, H p = none → Q (.ref p) (upd H p o) := fun p hp => by
  have q := h _ _ (.ref p) (Ext.new (p := p)) (R.new hp r) (by
    have q := RV.r (K := F.K) (w := w.new p) (n := S.length) (by rw [R.len]; exact Nat.lt_succ_self _)
    rw [R.len, Wd.new_at] at q
    rw [R.len]; exact q)
  exact q
end
end Ev
end
section
set_option Elab.async false
set_option linter.all false
set_option maxRecDepth 100000
namespace Ev
open PySem PySem.Spec L2
def opB : BOp → Operator
  | .add => .Add | .sub => .Sub | .mul => .Mult | .fdiv => .FloorDiv | .mod => .Mod | .pow => .Pow | .band => .BitAnd
/-- a text, several times -/
def rRepS : R2 := fun x y H Q => ∃ z k, x = .str z ∧ y = .int k ∧ 2 ≤ k ∧ k < 2 ^ 63 ∧ z.length ≠ 0 ∧ z.length * k.toNat ≤ sizeLine ∧ Q (.str (repS z k)) H
theorem size_fold (a : Array Nat) : ∀ (n : Nat) (b : Array Nat), ((List.replicate n a).foldl (· ++ ·) b).size = b.size + a.size * n
  | 0, b => by simp
  | n + 1, b => by
    rw [List.replicate_succ, List.foldl_cons, size_fold a n]
    rw [Array.size_append, Nat.mul_succ]; omega
theorem op_repS {X : Cx} : OpR X (binaryOp .Mult) rRepS := by
  intro pins s σ H x y v u Q I rx ry h
  obtain ⟨z, k, rfl, rfl, h1, h2, h3, h4, q⟩ := h
  obtain ⟨t, rfl⟩ := rx
  obtain ⟨t', rfl⟩ := ry
  have hk : ((k.toNat : Nat) : Int) = k := by omega
  have hz := L2.line63
  have hm : (z.length : Int) * k ≤ 2 ^ 63 - 1 := by
    have : ((z.length * k.toNat : Nat) : Int) ≤ 2 ^ 63 - 1 := by omega
    rw [Int.natCast_mul, hk] at this
    exact this
  refine PySem.P.mul_str ?_ (fun _ _ h => ?_) (fun _ _ => ?_) ?_
  · rw [decide_eq_false (by omega), decide_eq_false (by omega)]; rfl
  · have : (z.length : Int) ≤ (2 ^ 63 - 1) / k := (Int.le_ediv_iff_mul_le (by omega)).mpr hm
    omega
  · unfold PySem.Builtin.Str.tooLong
    exact decide_eq_false (by omega)
  · rw [if_neg (by omega), if_neg (by
      have a1 : (k == 1) = false := by
        have : k ≠ 1 := by omega
        simpa using this
      have a2 : (z.length == 0) = false := by simpa using h3
      rw [a1, a2]; decide)]
    have hl : (repS z k).length ≤ sizeLine := by
      show (repS z k).cps.size ≤ _
      unfold repS
      rw [size_fold]
      show 0 + z.length * k.toNat ≤ _
      omega
    exact ⟨hl, .str (repS z k), H, I.tok _, ⟨_, rfl⟩, q⟩
def rBin (K : PySem.W.Frag) : BOp → R2
  | .add => rAddX K
  | .sub => rI0 fun i j => .int (i - j)
  | .mul => fun x y H Q => rI CMulW (fun i j => .int (i * j)) x y H Q ∨ rRep x y H Q ∨ rRepT K x y H Q ∨ rRepS x y H Q
  | .fdiv => rI CDivW fun i j => .int (i / j)
  | .mod => rI (fun _ j => 0 < j) fun i j => .int (i % j)
  | .pow => rI CPow fun i j => .int (i ^ j.toNat)
  | .band => rI0 fun i j => .int (Builtin.bitAnd i j)
theorem op_bin {X : Cx} : ∀ o, OpR X (binaryOp (opB o)) (rBin X.K o)
  | .add => op_addX
  | .sub => op_sub
  | .mul => op_mulW.or (op_rep.or (op_repT.or op_repS))
  | .fdiv => op_fdivW
  | .mod => op_mod
  | .pow => op_pow
  | .band => op_and
section
variable {F : Fx} {g : Gh} {w : Wd} {S : List Cell} {H : Hp} {σ : St} {Q : VK}
/-- a tuple that is tracked by itself is data -/
theorem RS.tupd (R : RS F.K g w S H) {v : Val} {x : V} {d : PyData} (r : RV F.K w v x) (h : Ev.vwd S v = some d) : ∀ ds, d = .tuple ds → RD w.I d x := fun ds e => by
  subst e
  cases v with
  | k _ => cases h
  | d _ => exact R.tup r (show Ev.vw S _ = _ from h) fun _ z => by cases z
  | r _ => exact R.tup r (show Ev.vw S _ = _ from h) fun _ z => by cases z
  | t _ => cases h
theorem bin_snd (o : BOp) {mu : Bool} {a b : Val} {x y : V} (R : RS F.K g w S H) (ra : RV F.K w a x) (rb : RV F.K w b y) (h : PO F (RV F.K) g w σ Q (binM mu o a b S)) : rBin F.K o x y H Q := by
  unfold binM at h
  obtain ⟨d, ed, h1⟩ := po_viewd h
  obtain ⟨e, ee, h2⟩ := po_viewd h1
  obtain ⟨z, ez, q⟩ := po_lift h2
  clear h h1 h2
  have r1 := R.vwd ra ed
  have r2 := R.vwd rb ee
  have intz : ∀ {C : Int → Int → Prop} {f : Int → Int → Int} {i j : Int}, d = .int i → e = .int j → C i j → z = .int (f i j) → rI C (fun i j => .int (f i j)) x y H Q := fun {C f i j} e1 e2 c e3 => by
    subst e1 e2 e3
    exact ⟨i, j, r1.int_inv, r2.int_inv, c, fin_flat q R rfl⟩
  cases o with
  | add => exact add_snd R r1 r2 (R.tupd ra ed) (R.tupd rb ee) ez q
  | sub =>
    cases d <;> cases e <;> first | (cases ez; done) | skip
    obtain rfl := Option.some.inj ez
    exact ⟨_, _, r1.int_inv, r2.int_inv, fin_flat q R rfl⟩
  | band =>
    cases d <;> cases e <;> first | (cases ez; done) | skip
    obtain rfl := Option.some.inj ez
    exact ⟨_, _, r1.int_inv, r2.int_inv, fin_flat q R rfl⟩
  | fdiv =>
    cases d <;> cases e <;> first | (cases ez; done) | skip
    rename_i i j
    have ez : (if 0 < j ∧ j.natAbs.log2 < 9000 then some (PyData.int (i / j)) else none) = some z := ez
    split at ez
    · rename_i c
      exact intz rfl rfl c (Option.some.inj ez).symm
    · cases ez
  | mod =>
    cases d <;> cases e <;> first | (cases ez; done) | skip
    rename_i i j
    have ez : (if 0 < j then some (PyData.int (i % j)) else none) = some z := ez
    split at ez
    · rename_i c
      exact intz (C := fun _ j => 0 < j) rfl rfl c (Option.some.inj ez).symm
    · cases ez
  | pow =>
    cases d <;> cases e <;> first | (cases ez; done) | skip
    rename_i i j
    have ez : (if 0 ≤ j ∧ j ≤ 1000000 ∧ i.natAbs < 2 ^ 64 then some (PyData.int (i ^ j.toNat)) else none) = some z := ez
    split at ez
    · rename_i c
      exact ⟨i, j, r1.int_inv, r2.int_inv, c, by obtain rfl := Option.some.inj ez; exact fin_flat q R rfl⟩
    · cases ez
  | mul =>
    cases d <;> cases e <;> first | (cases ez; done) | skip
    · rename_i i j
      have ez : (if i.natAbs.log2 + j.natAbs.log2 < 1000000 then some (PyData.int (i * j)) else none) = some z := ez
      split at ez
      · rename_i c
        exact .inl ⟨i, j, r1.int_inv, r2.int_inv, c, by obtain rfl := Option.some.inj ez; exact fin_flat q R rfl⟩
      · cases ez
    · rename_i zs k
      have ez : (if 2 ≤ k ∧ k < 2 ^ 63 ∧ zs.length ≠ 0 ∧ zs.length * k.toNat ≤ sizeLine then some (PyData.str (repS zs k)) else none) = some z := ez
      split at ez
      · rename_i c
        obtain rfl := Option.some.inj ez
        exact .inr (.inr (.inr ⟨zs, k, r1.str_inv, r2.int_inv, c.1, c.2.1, c.2.2.1, c.2.2.2, fin_flat q R rfl⟩))
      · cases ez
    · rename_i xs k
      have ez : (if -(2 ^ 63) ≤ k ∧ k < 2 ^ 63 ∧ xs.length * k.toNat ≤ sizeLine then some (PyData.list (repL xs k)) else none) = some z := ez
      split at ez
      · rename_i c
        obtain rfl := Option.some.inj ez
        cases r1 with
        | flat e => cases e
        | list e1 rd => exact .inr (.inl ⟨_, k, _, rfl, r2.int_inv, e1, c.1, c.2.1, by rw [← rd.length]; exact c.2.2, fin_lst q R (rd.rep _)⟩)
      · cases ez
    · rename_i xs k
      have ez : (if xs ≠ [] ∧ 2 ≤ k ∧ k ≤ 1000 ∧ xs.length ≤ 1000 then some (PyData.tuple (repL xs k)) else none) = some z := ez
      split at ez
      · rename_i c
        obtain rfl := Option.some.inj ez
        cases r1 with
        | flat e => cases e
        | tuple e1 rd => exact .inr (.inr (.inl ⟨_, k, _, rfl, r2.int_inv, .of e1, fun z => c.1 (by subst z; cases rd; rfl), c.2.1, c.2.2.1, by rw [← rd.length]; exact c.2.2.2, fin_tup q R (rd.rep _)⟩))
      · cases ez
inductive RTs (K : PySem.W.Frag) (H I : Hp) : List PyData → List V → Prop where
  | nil : RTs K H I [] []
  | cons {d : PyData} {v : V} {ds : List PyData} {vs : List V} : RT K H I d v → RTs K H I ds vs → RTs K H I (d :: ds) (v :: vs)
theorem po_allV : ∀ {vs : List Val} {xs : List V} {f : List PyData → M Val}, RS F.K g w S H → RVs F.K w vs xs → PO F (RV F.K) g w σ Q (bnd (allV vs) f S) → ∃ ds, RTs F.K H w.I ds xs ∧ (∀ v, vs = [v] → ∃ d, ds = [d] ∧ Ev.vw S v = some d) ∧ PO F (RV F.K) g w σ Q (f ds S)
  | [], _, f, R, .nil, h => ⟨[], .nil, (fun _ z => (by cases z)), h⟩
  | v :: vs, _, f, R, .cons a b, h => by
    unfold allV at h
    rw [bnd_assoc] at h
    obtain ⟨d, ed, h⟩ := po_view h
    rw [bnd_assoc] at h
    obtain ⟨ds, rs, _, h⟩ := po_allV (f := fun xs => f (d :: xs)) R b h
    refine ⟨d :: ds, .cons (R.vw a ed) rs, fun v' z => ?_, h⟩
    obtain ⟨rfl, rfl⟩ : v = v' ∧ vs = [] := by simpa using z
    cases b
    cases rs
    exact ⟨d, rfl, ed⟩
theorem bools_of {I : Hp} : ∀ {ds : List PyData} {vs : List V} {bs : List Bool}, RDs I ds vs → boolsL ds = some bs → vs = bs.map V.bl
  | _, _, _, .nil, h => by cases h; rfl
  | _, _, _, @RDs.cons _ d v ds vs a b, h => by
    cases d <;> first | (cases h; done) | skip
    obtain ⟨bs, e, rfl⟩ := Option.map_eq_some_iff.mp (show (boolsL ds).map _ = some _ from h)
    cases a
    rw [bools_of b e]
    rfl
theorem ints_of {I : Hp} : ∀ {ds : List PyData} {vs : List V} {bs : List Int}, RDs I ds vs → intsL ds = some bs → vs = bs.map V.int
  | _, _, _, .nil, h => by cases h; rfl
  | _, _, _, @RDs.cons _ d v ds vs a b, h => by
    cases d <;> first | (cases h; done) | skip
    obtain ⟨bs, e, rfl⟩ := Option.map_eq_some_iff.mp (show (intsL ds).map _ = some _ from h)
    cases a
    rw [ints_of b e]
    rfl
theorem strs_of {I : Hp} : ∀ {ds : List PyData} {vs : List V} {bs : List Str}, RDs I ds vs → strsL ds = some bs → vs = bs.map V.str
  | _, _, _, .nil, h => by cases h; rfl
  | _, _, _, @RDs.cons _ d v ds vs a b, h => by
    cases d <;> first | (cases h; done) | skip
    obtain ⟨bs, e, rfl⟩ := Option.map_eq_some_iff.mp (show (strsL ds).map _ = some _ from h)
    cases a
    rw [strs_of b e]
    rfl
end
def rLenD : List V → Hp → VK → Prop := fun xs H Q => ∃ (p : Addr) (kvs : List (List Key × V)), xs = [.ref p] ∧ Rd H p (.dT kvs) ∧ Q (.int ((kvs.length : Nat) : Int)) H
theorem call_lenDT {X : Cx} : CallR X (.builtin "len") rLenD := by
  intro pins s σ H xs us Q I r h
  obtain ⟨p, kvs, rfl, hp, q⟩ := h
  obtain ⟨u, rfl, rx⟩ := vals1 r
  obtain rfl : u = .ref p := rx
  obtain ⟨z, hd, ys, rel, dd⟩ := dt_rd I.hok hp
  have hl : kvs.length = ys.length := Paired.length rel
  refine call_len_dictH hd dd (by rw [← hl]; rw [sizeLine_eq] at z; omega) ?_
  rw [← hl]
  exact ⟨.int ((kvs.length : Nat) : Int), H, I.tok _, ⟨_, rfl⟩, q⟩
theorem call_lenDK {X : Cx} : CallR X (.builtin "len") (fun xs H Q => ∃ a kvs, xs = [V.ref a] ∧ Rd H a (.dK kvs) ∧ Q (.int kvs.length) H) := by
  intro pins s σ H xs us Q I r h
  obtain ⟨a, kvs, rfl, ha, q⟩ := h
  obtain ⟨u, rfl, ru⟩ := vals1 r
  cases ru
  exact d_len I ha fun t s' I' => ⟨.int kvs.length, H, I', ⟨t, rfl⟩, q⟩
/-- the name and the value of a built-in -/
def fnB : BI → Option (String × Value)
  | .len => some ("len", .builtin "len")
  | .all_ => some ("all", .builtin "all")
  | .any_ => some ("any", .builtin "any")
  | .int_ => some ("int", .type "int")
  | .max2 => some ("max", .builtin "max")
  | .min2 => some ("min", .builtin "min")
  | .list_ => some ("list", .type "list")
  | .tuple_ => some ("tuple", .type "tuple")
  | .sum_ => some ("sum", .builtin "sum")
  | .abs_ => some ("abs", .builtin "abs")
  | .str_ => some ("str", .type "str")
  | .ord_ => some ("ord", .builtin "ord")
  | .chr_ => some ("chr", .builtin "chr")
  | .bool_ => some ("bool", .type "bool")
  | _ => none
def rBi (K : PySem.W.Frag) : BI → List V → Hp → VK → Prop
  | .len => fun xs H Q => (∃ p ys, xs = [.ref p] ∧ (SqL K H p ys ∨ SqT K H p ys) ∧ Q (.int ys.length) H) ∨ (∃ z, xs = [.str z] ∧ z.length ≤ sizeLine ∧ Q (.int z.length) H) ∨ (∃ a kvs, xs = [.ref a] ∧ Rd H a (.dK kvs) ∧ Q (.int kvs.length) H) ∨ rLenD xs H Q
  | .all_ => rAll K
  | .any_ => rAny K
  | .int_ => fun xs H Q => ((∃ i, xs = [.int i] ∧ Q (.int i) H) ∨ ∃ k, xs = [.bl k] ∧ Q (.int (if k then 1 else 0)) H) ∨ (∃ a n, xs = [.str a] ∧ PySem.intText? a = some n ∧ a.length ≤ 640 ∧ Q (.int n) H)
  | .max2 => fun xs H Q => ∃ i j, xs = [.int i, .int j] ∧ Q (.int (if j > i then j else i)) H
  | .min2 => fun xs H Q => ∃ i j, xs = [.int i, .int j] ∧ Q (.int (if j < i then j else i)) H
  | .list_ => fun xs H Q => ∃ p ys, xs = [.ref p] ∧ (SqL K H p ys ∨ SqT K H p ys) ∧ ∀ l, H l = none → Q (.ref l) (upd H l (.lst ys))
  | .tuple_ => fun xs H Q => ∃ p ys, xs = [.ref p] ∧ ((SqL K H p ys ∧ ∀ l, H l = none → Q (.ref l) (upd H l (.tup ys))) ∨ (SqT K H p ys ∧ Q (.ref p) H))
  | .sum_ => rSum K
  | .abs_ => fun xs H Q => ∃ i, xs = [.int i] ∧ Q (.int (if i < 0 then -i else i)) H
  | .str_ => fun xs H Q => (∃ i, xs = [.int i] ∧ i.natAbs.log2 < 1920 ∧ Q (.str (toString i)) H) ∨ (∃ a, xs = [.str a] ∧ Q (.str a) H)
  | .ord_ => fun xs H Q => ∃ x, xs = [.str x] ∧ x.length = 1 ∧ Q (.int (x.cps.getD 0 0 : Nat)) H
  | .chr_ => fun xs H Q => ∃ i, xs = [.int i] ∧ 0 ≤ i ∧ i ≤ 1114111 ∧ Q (.str ⟨#[i.toNat]⟩) H
  | .bool_ => fun xs H Q => ((∃ i, xs = [.int i] ∧ Q (.bl (i != 0)) H) ∨ ∃ k, xs = [.bl k] ∧ Q (.bl k) H) ∨ (∃ (a : Addr) (zs : List V), xs = [.ref a] ∧ SqL K H a zs ∧ Q (.bl (!zs.isEmpty)) H)
  | _ => fun _ _ _ => False
theorem call_bi {X : Cx} (hc : X.calm = true) : ∀ b n f, fnB b = some (n, f) → CallR X f (rBi X.K b) := fun b n f h => by
  cases b <;> first | (cases h; done) | skip
  all_goals obtain ⟨rfl, rfl⟩ : _ = n ∧ _ = f := by simpa [fnB] using h
  · exact call_len_seq.or (call_len_str.or (call_lenDK.or call_lenDT))
  · exact cr_all hc
  · exact cr_any hc
  · exact call_int1.or call_int_str
  · exact call_max2 hc
  · exact call_min2 hc
  · exact call_list_of
  · exact call_tuple_of
  · exact call_str_int.or SkE.call_str_str
  · exact cr_sum hc
  · exact call_ord
  · exact call_chr
  · exact call_abs
  · exact call_bool1.or call_boolL
section
variable {F : Fx} {g : Gh} {w : Wd} {S : List Cell} {H : Hp} {σ : St} {Q : VK}
theorem RDk.length {I : Hp} : ∀ {x : List (PyData × PyData)} {v : List (Key × V)}, RDk I x v → x.length = v.length
  | _, _, .nil => rfl
  | _, _, .cons _ r => congrArg (· + 1) (RDk.length r)
theorem RDt.length {I : Hp} : ∀ {x : List (PyData × PyData)} {v : List (List Key × V)}, RDt I x v → x.length = v.length
  | _, _, .nil => rfl
  | _, _, .cons _ r => congrArg (· + 1) (RDt.length r)
theorem RTs.one {I : Hp} {d : PyData} {xs : List V} (r : RTs F.K H I [d] xs) : ∃ x, xs = [x] ∧ RT F.K H I d x := by
  cases r with
  | cons a b => cases b; exact ⟨_, rfl, a⟩
theorem RTs.two {I : Hp} {d e : PyData} {xs : List V} (r : RTs F.K H I [d, e] xs) : ∃ x y, xs = [x, y] ∧ RT F.K H I d x ∧ RT F.K H I e y := by
  cases r with
  | cons a b =>
    obtain ⟨y, rfl, c⟩ := RTs.one b
    exact ⟨_, y, rfl, a, c⟩
theorem bi_snd {mu : Bool} (b : BI) {n : String} {f : Value} (hb : fnB b = some (n, f)) {vs : List Val} {xs : List V} (R : RS F.K g w S H) (r : RVs F.K w vs xs) (h : PO F (RV F.K) g w σ Q (biM mu b vs S)) : rBi F.K b xs H Q := by
  unfold biM at h
  obtain ⟨hk, h⟩ := po_guard h
  obtain ⟨ds, rs, hv, h⟩ := po_allV R r h
  obtain ⟨z, ez, q⟩ := po_lift h
  unfold biD at ez
  split at ez
  all_goals first | (cases hb; done) | skip
  · obtain rfl := Option.some.inj ez
    obtain ⟨x, rfl, rt⟩ := rs.one
    cases rt with
    | flat e => cases e
    | list s rd => exact .inl ⟨_, _, rfl, .inl s, by rw [← rd.length]; exact fin_flat q R rfl⟩
  · obtain rfl := Option.some.inj ez
    obtain ⟨x, rfl, rt⟩ := rs.one
    cases rt with
    | flat e => cases e
    | tuple s rd => exact .inl ⟨_, _, rfl, .inr s, by rw [← rd.length]; exact fin_flat q R rfl⟩
  · obtain rfl := Option.some.inj ez
    obtain ⟨x, rfl, rt⟩ := rs.one
    cases rt with
    | flat e => cases e
    | dk s rd => exact .inr (.inr (.inl ⟨_, _, rfl, s, by rw [← rd.length]; exact fin_flat q R rfl⟩))
    | dt s rd => exact .inr (.inr (.inr ⟨_, _, rfl, s, by rw [← rd.length]; exact fin_flat q R rfl⟩))
  · split at ez
    · rename_i hl
      obtain rfl := Option.some.inj ez
      obtain ⟨x, rfl, rt⟩ := rs.one
      exact .inr (.inl ⟨_, by rw [RT.str_inv rt], hl, fin_flat q R rfl⟩)
    · cases ez
  · obtain ⟨bs, eb, rfl⟩ := Option.map_eq_some_iff.mp ez
    obtain ⟨x, rfl, rt⟩ := rs.one
    cases rt with
    | flat e => cases e
    | list s rd =>
      rw [bools_of rd eb] at s
      exact ⟨_, bs, rfl, s, fin_flat q R rfl⟩
  · obtain ⟨bs, eb, rfl⟩ := Option.map_eq_some_iff.mp ez
    obtain ⟨x, rfl, rt⟩ := rs.one
    cases rt with
    | flat e => cases e
    | list s rd =>
      rw [bools_of rd eb] at s
      exact ⟨_, bs, rfl, s, fin_flat q R rfl⟩
  · obtain rfl := Option.some.inj ez
    obtain ⟨x, rfl, rt⟩ := rs.one
    exact .inl (.inl ⟨_, by rw [RT.int_inv rt], fin_flat q R rfl⟩)
  · obtain rfl := Option.some.inj ez
    obtain ⟨x, rfl, rt⟩ := rs.one
    exact .inl (.inr ⟨_, by rw [RT.bool_inv rt], fin_flat q R rfl⟩)
  · obtain rfl := Option.some.inj ez
    obtain ⟨x, y, rfl, r1, r2⟩ := rs.two
    exact ⟨_, _, by rw [RT.int_inv r1, RT.int_inv r2], fin_flat q R rfl⟩
  · obtain rfl := Option.some.inj ez
    obtain ⟨x, y, rfl, r1, r2⟩ := rs.two
    exact ⟨_, _, by rw [RT.int_inv r1, RT.int_inv r2], fin_flat q R rfl⟩
  · obtain rfl := Option.some.inj ez
    obtain ⟨x, rfl, rt⟩ := rs.one
    cases rt with
    | flat e => cases e
    | list s rd => exact ⟨_, _, rfl, .inl s, fin_lst q R rd⟩
  · obtain rfl := Option.some.inj ez
    obtain ⟨x, rfl, rt⟩ := rs.one
    cases rt with
    | flat e => cases e
    | tuple s rd => exact ⟨_, _, rfl, .inr s, fin_lst q R rd⟩
  · obtain rfl := Option.some.inj ez
    obtain ⟨x, rfl, rt⟩ := rs.one
    cases rt with
    | flat e => cases e
    | list s rd => exact ⟨_, _, rfl, .inl ⟨s, fin_tup q R rd⟩⟩
  · obtain rfl := Option.some.inj ez
    obtain ⟨x, rfl, rt⟩ := rs.one
    cases r with
    | @cons v _ vs' _ ra rb =>
      cases rb
      obtain ⟨d, ed, ev⟩ := hv v rfl
      obtain rfl : _ = d := by simpa using ed
      have rd := R.tup ra ev (fun ds z => by subst z; exact Bool.noConfusion (show false = true from hk))
      cases rt with
      | flat e => cases e
      | tuple s _ => exact ⟨_, _, rfl, .inr ⟨s, fin_tupd q R rd⟩⟩
  · obtain ⟨bs, eb, rfl⟩ := Option.map_eq_some_iff.mp ez
    obtain ⟨x, rfl, rt⟩ := rs.one
    cases rt with
    | flat e => cases e
    | list s rd =>
      rw [ints_of rd eb] at s
      exact ⟨_, bs, rfl, s, fin_flat q R rfl⟩
  · obtain rfl := Option.some.inj ez
    obtain ⟨x, rfl, rt⟩ := rs.one
    exact ⟨_, by rw [RT.int_inv rt], fin_flat q R rfl⟩
  · split at ez
    · rename_i hl
      obtain ⟨n, en, rfl⟩ := Option.map_eq_some_iff.mp ez
      obtain ⟨x, rfl, rt⟩ := rs.one
      exact .inr ⟨_, n, by rw [RT.str_inv rt], en, hl, fin_flat q R rfl⟩
    · cases ez
  · split at ez
    · rename_i hl
      obtain rfl := Option.some.inj ez
      obtain ⟨x, rfl, rt⟩ := rs.one
      exact .inl ⟨_, by rw [RT.int_inv rt], hl, fin_flat q R rfl⟩
    · cases ez
  · obtain rfl := Option.some.inj ez
    obtain ⟨x, rfl, rt⟩ := rs.one
    exact .inr ⟨_, by rw [RT.str_inv rt], fin_flat q R rfl⟩
  · split at ez
    · rename_i hl
      obtain rfl := Option.some.inj ez
      obtain ⟨x, rfl, rt⟩ := rs.one
      exact ⟨_, by rw [RT.str_inv rt], hl, fin_flat q R rfl⟩
    · cases ez
  · split at ez
    · rename_i hl
      obtain rfl := Option.some.inj ez
      obtain ⟨x, rfl, rt⟩ := rs.one
      exact ⟨_, by rw [RT.int_inv rt], hl.1, hl.2, fin_flat q R rfl⟩
    · cases ez
  · obtain rfl := Option.some.inj ez
    obtain ⟨x, rfl, rt⟩ := rs.one
    exact .inl (.inl ⟨_, by rw [RT.int_inv rt], fin_flat q R rfl⟩)
  · obtain rfl := Option.some.inj ez
    obtain ⟨x, rfl, rt⟩ := rs.one
    exact .inl (.inr ⟨_, by rw [RT.bool_inv rt], fin_flat q R rfl⟩)
  · obtain rfl := Option.some.inj ez
    obtain ⟨x, rfl, rt⟩ := rs.one
    cases rt with
    | flat e => cases e
    | list s rd => exact .inr ⟨_, _, rfl, s, by
        rw [show (!(List.isEmpty _ : Bool)) = _ from rfl] at q
        exact fin_flat q R (by cases rd <;> rfl)⟩
  · cases ez
end
end Ev
end
section
set_option Elab.async false
set_option linter.all false
set_option maxRecDepth 100000
namespace Ev
open PySem PySem.Spec L2
def subN (a : String) (t : Ty) : Bool := a == t.name || (a == "bool" && t == .int)
theorem kit_tab : ∀ a ∈ ["NoneType", "bool", "int", "str", "list", "tuple", "dict"], ∀ t ∈ [Ty.bool, Ty.int, Ty.str, Ty.list, Ty.tuple, Ty.dict], kitB a t.name = some (subN a t) := by decide +kernel
theorem isT_sub (d : PyData) (t : Ty) : subN (tyName d) t = isT d t := by cases d <;> cases t <;> rfl
theorem kit_d (d : PyData) (t : Ty) : kitB (tyName d) t.name = some (isT d t) := by
  rw [kit_tab (tyName d) (by cases d <;> simp [tyName]) t (by cases t <;> simp), isT_sub]
section
variable {X : Cx}
theorem kit_RT {pins : List (Addr × Obj)} {σ : St} {H J : Hp} {s : Shared} {d : PyData} {x : V} {u : Value} (I : Inv X pins σ H s) (rx : RelV x u) (r : RT X.K H J d x) :
    ∃ P : Heap → Prop, PySem.W.KitX X.K u (.type (tyName d)) P ∧ P s.heap ∧ u ≠ .builtin "__main__.__loader__#opaque" := by
  cases r with
  | flat e =>
    cases d <;> first | (cases e; done) | skip
    · cases e; cases rx; exact ⟨_, PySem.W.kitx_none, True.intro, fun z => nomatch z⟩
    · cases e; cases rx; exact ⟨_, PySem.W.kitx_bool, True.intro, fun z => nomatch z⟩
    · cases e; obtain ⟨t, rfl⟩ := rx; exact ⟨_, PySem.W.kitx_int, True.intro, fun z => nomatch z⟩
    · cases e; obtain ⟨t, rfl⟩ := rx; exact ⟨_, PySem.W.kitx_str, True.intro, fun z => nomatch z⟩
  | list e _ =>
    cases rx
    obtain ⟨its, _, ⟨o, n, ho, hc, _⟩, _⟩ := I.list e
    exact ⟨_, PySem.W.kitx_list, ⟨o, ho, hc⟩, fun z => nomatch z⟩
  | tuple e _ =>
    cases rx
    obtain ⟨its, _, ⟨o, ho, hc, _⟩, _⟩ := I.tuple e
    exact ⟨_, PySem.W.kitx_tuple, ⟨o, ho, hc⟩, fun z => nomatch z⟩
  | dk e _ =>
    cases rx
    obtain ⟨_, _, vs, _, o, es, ep, h1, h2, _⟩ := (show ObjOk X.prog X.w H s.heap _ (.dK _) from e.ok I.hok)
    exact ⟨_, PySem.W.kitx_dict, ⟨o, h1, h2.1⟩, fun z => nomatch z⟩
  | dt e _ =>
    cases rx
    obtain ⟨_, _, xs, _, o, es, ep, h1, h2, _⟩ := (show ObjOk X.prog X.w H s.heap _ (.dT _) from e.ok I.hok)
    exact ⟨_, PySem.W.kitx_dict, ⟨o, h1, h2.1⟩, fun z => nomatch z⟩
def rIsX (K : PySem.W.Frag) : List V → Hp → VK → Prop := fun xs H Q => ∃ (x : V) (t : Ty) (d : PyData) (J : Hp), xs = [x, .ty t.name] ∧ RT K H J d x ∧ Q (.bl (isT d t)) H
def rIsXT (K : PySem.W.Frag) : List V → Hp → VK → Prop := fun xs H Q => ∃ (x : V) (tp : Addr) (ts : List Ty) (d : PyData) (J : Hp), xs = [x, .ref tp] ∧ H tp = some (.tup (ts.map fun t => .ty t.name)) ∧ RT K H J d x ∧ Q (.bl (ts.any (isT d))) H
theorem call_isX : CallR X (.builtin "isinstance") (rIsX X.K) := by
  intro pins s σ H xs us Q I r ⟨x, t, d, J, ex, rt, q⟩
  subst ex
  obtain ⟨u1, u2, rfl, r1, r2⟩ := vals2 r
  cases r2
  obtain ⟨P, Z, p, hx⟩ := kit_RT I r1 rt
  exact PySem.W.kia_one Z I.kIn p (kit_ty (kit_d d t)) hx fun tk => ⟨.bl (isT d t), H, I.tok tk, rfl, q⟩
theorem kit_any {K : PySem.W.Frag} (d : PyData) : ∀ ts : List Ty, PySem.W.kitAny K (.type (tyName d)) (ts.map fun t => .type t.name) = some (ts.any (isT d))
  | [] => kitAny_nil
  | t :: ts => by
    refine kitAny_cons (b := isT d t) (kit_ty (kit_d d t)) (fun hb => ?_) (fun hb => ?_)
    · rw [kit_any d ts, List.any_cons, hb]; rfl
    · rw [List.any_cons, hb]; rfl
theorem vals_ty : ∀ {ts : List Ty} {us : List Value}, Vals (ts.map fun t => V.ty t.name) us → us = ts.map fun t => Value.type t.name
  | [], _, .nil => rfl
  | t :: ts, _, .cons a b => by rw [vals_ty b, show _ = Value.type t.name from a]; rfl
theorem call_isXT : CallR X (.builtin "isinstance") (rIsXT X.K) := by
  intro pins s σ H xs us Q I r ⟨x, tp, ts, d, J, ex, hT, rt, q⟩
  subst ex
  obtain ⟨u1, u2, rfl, r1, r2⟩ := vals2 r
  cases (show u2 = Value.ref tp from r2)
  obtain ⟨P, Z, p, hx⟩ := kit_RT I r1 rt
  obtain ⟨_, its, rv, o, h1, h2, n, h3⟩ := (show ObjOk X.prog X.w H s.heap tp (.tup _) from I.hok tp _ hT)
  have e3 := vals_ty rv
  subst e3
  obtain ⟨cls, dd, dt, sl⟩ := o
  obtain rfl : cls = .type "tuple" := h2
  obtain rfl : dt = .seq _ n := h3
  exact PySem.W.kia_tup Z I.kIn p h1 (kit_any d ts) hx fun tk => ⟨.bl (ts.any (isT d)), H, I.tok tk, rfl, q⟩
end
section
variable {F : Fx}
/-- isinstance(e, T) -/
theorem SE.isi {ta : TE} {ma : Env → M Val} {t : Ty} (ha : SE F ta ma) :
    SE F (tCB (rIsX F.K) (tCons ta (tCons (tC (.ty t.name)) tNil))) (fun ρ => bnd (ma ρ) fun v => bnd (view v) fun d => ret (.d (.bool (isT d t)))) := fun g w ρ S σ H Q R E h =>
  ha g w ρ S σ H _ R E (po_bind (P := fun w r => PO F (RV F.K) g w σ Q r) h (fun e S' w' H' c d p => p w' H' c d) (fun p => p) fun v S1 w1 H1 x e1 R1 r1 p => by
    obtain ⟨d, ed, q⟩ := po_view p
    exact ⟨x, t, d, w1.I, rfl, R1.vw r1 ed, po_bl (q.ext e1) R1⟩)
theorem SE.isiT {ta : TE} {ma : Env → M Val} {ts : List Ty} {tt : TA} (ha : SE F ta ma) (ht : ∀ σ H Q, Q (ts.map fun t => V.ty t.name) H → tt σ H Q) (hl : ts.length ≤ sizeLine) :
    SE F (tCB (rIsXT F.K) (tCons ta (tCons (tTup tt) tNil))) (fun ρ => bnd (ma ρ) fun v => bnd (view v) fun d => ret (.d (.bool (ts.any (isT d))))) := fun g w ρ S σ H Q R E h =>
  ha g w ρ S σ H _ R E (po_bind (P := fun w r => PO F (RV F.K) g w σ Q r) h (fun e S' w' H' c d p => p w' H' c d) (fun p => p) fun v S1 w1 H1 x e1 R1 r1 p => by
    obtain ⟨d, ed, q⟩ := po_view p
    refine ht σ H1 _ ⟨by rw [List.length_map]; exact hl, fun tp htp => ?_⟩
    have e2 : Ext w1 (w1.put tp (.tup (ts.map fun t => V.ty t.name))) := .put (R1.Ifree htp)
    have R2 := R1.put (o := .tup (ts.map fun t => V.ty t.name)) htp
    have rt := R2.vw (r1.mono e2) ed
    exact ⟨x, tp, ts, d, _, rfl, upd_same, rt, po_bl (q.ext (e1.trans e2)) R2⟩)
theorem bnd_ite {α β : Type} {c : Prop} [Decidable c] (a b : M α) (f : α → M β) : bnd (if c then a else b) f = if c then bnd a f else bnd b f := by
  by_cases h : c
  · rw [if_pos h, if_pos h]
  · rw [if_neg h, if_neg h]
theorem pb_bind {β : Type} {P : Wd → Res β → Prop} {Q1 : Bool → Hp → Prop} {m : M Bool} {f : Bool → M β} {S : List Cell} {g : Gh} {w : Wd} {σ : St}
    (h : P w (bnd m f S)) (hx : ∀ e S' w' H' c d, P w (.ex e S') → Ext w w' → RS F.K g w' S' H' → RX F.cA w' e c d H' → F.W c d σ H') (hn : ¬ P w .no)
    (k : ∀ v S' w' H', Ext w w' → RS F.K g w' S' H' → P w (f v S') → Q1 v H') : PB F g w σ Q1 (m S) := by
  unfold bnd at h
  cases e : m S with
  | ok v S' => rw [e] at h; exact fun w' H' e R => k v S' w' H' e R h
  | ex _ S' => rw [e] at h; exact fun w' H' c d e2 R r => hx _ S' w' H' c d h e2 R r
  | no => rw [e] at h; exact hn h
theorem tru_inv {v : Val} {S : List Cell} {β : Type} {P : Res β → Prop} {f : Bool → M β} (h : P (bnd (truB v) f S)) (hn : ¬ P .no) : ∃ b, v = .d (.bool b) ∧ P (f b S) := by
  cases v with
  | d x => cases x <;> first | exact (hn h).elim | exact ⟨_, rfl, h⟩
  | _ => exact (hn h).elim
/-- a value as a test -/
theorem ST.val {t : TE} {m : Env → M Val} (h : SE F t m) : ST F (tTest t) (fun ρ => bnd (m ρ) truB) := fun g w ρ S σ H Q R E q =>
  h g w ρ S σ H _ R E (po_bind (P := fun w r => PB F g w σ Q r) q (fun e S' w' H' c d p => p w' H' c d) (fun p => p) fun v S1 w1 H1 x e1 R1 r1 p => by
    have p : PB F g w σ Q (bnd (truB v) ret S1) := by rw [bnd_right]; exact p
    obtain ⟨b, rfl, p⟩ := tru_inv (P := fun r => PB F g w σ Q r) p (fun z => z)
    cases r1 with
    | d r => cases r; exact ⟨b, rfl, p w1 H1 e1 R1⟩)
theorem ST.not {t : TT} {m : Env → M Bool} (h : ST F t m) : ST F (tNot t) (fun ρ => bnd (m ρ) fun b => ret (!b)) := fun g w ρ S σ H Q R E q =>
  h g w ρ S σ H _ R E (pb_bind (P := fun w r => PB F g w σ Q r) q (fun e S' w' H' c d p => p w' H' c d) (fun p => p) fun v S1 w1 H1 e1 R1 p => p w1 H1 e1 R1)
theorem ST.and {t u : TT} {m n : Env → M Bool} (h : ST F t m) (h2 : ST F u n) : ST F (tAnd t u) (fun ρ => bnd (m ρ) fun b => if b = true then n ρ else ret false) := fun g w ρ S σ H Q R E q =>
  h g w ρ S σ H _ R E (pb_bind (P := fun w r => PB F g w σ Q r) q (fun e S' w' H' c d p => p w' H' c d) (fun p => p) fun v S1 w1 H1 e1 R1 p => by
    cases v with
    | true => exact h2 g w1 ρ S1 σ H1 Q R1 (E.mono e1) (p.ext e1)
    | false => exact p w1 H1 e1 R1)
theorem ST.or {t u : TT} {m n : Env → M Bool} (h : ST F t m) (h2 : ST F u n) : ST F (tOr t u) (fun ρ => bnd (m ρ) fun b => if b = true then ret true else n ρ) := fun g w ρ S σ H Q R E q =>
  h g w ρ S σ H _ R E (pb_bind (P := fun w r => PB F g w σ Q r) q (fun e S' w' H' c d p => p w' H' c d) (fun p => p) fun v S1 w1 H1 e1 R1 p => by
    cases v with
    | true => exact p w1 H1 e1 R1
    | false => exact h2 g w1 ρ S1 σ H1 Q R1 (E.mono e1) (p.ext e1))
/-- a if t else b -/
theorem SE.ite {t : TT} {ta tb : TE} {m : Env → M Bool} {ma mb : Env → M Val} (h : ST F t m) (ha : SE F ta ma) (hb : SE F tb mb) : SE F (tIf t ta tb) (fun ρ => bnd (m ρ) fun b => if b = true then ma ρ else mb ρ) := fun g w ρ S σ H Q R E q =>
  h g w ρ S σ H _ R E (pb_bind (P := fun w r => PO F (RV F.K) g w σ Q r) q (fun e S' w' H' c d p => p w' H' c d) (fun p => p) fun v S1 w1 H1 e1 R1 p => by
    cases v with
    | true => exact ha g w1 ρ S1 σ H1 Q R1 (E.mono e1) (p.ext e1)
    | false => exact hb g w1 ρ S1 σ H1 Q R1 (E.mono e1) (p.ext e1))
/-- and, or, not as values -/
theorem SE.tru {ta : TE} {ma : Env → M Val} {f : Bool → Env → M Val} {k : TE → Bool → TE} (ha : SE F ta ma) {tb : Bool → TE}
    (hb : ∀ b, SE F (tb b) (f b)) : SE F (fun σ H Q => ta σ H fun x H1 => ∃ c, x = .bl c ∧ tb c σ H1 Q) (fun ρ => bnd (ma ρ) fun v => bnd (truB v) fun b => f b ρ) := fun g w ρ S σ H Q R E q =>
  ha g w ρ S σ H _ R E (po_bind (P := fun w r => PO F (RV F.K) g w σ Q r) q (fun e S' w' H' c d p => p w' H' c d) (fun p => p) fun v S1 w1 H1 x e1 R1 r1 p => by
    obtain ⟨b, rfl, p⟩ := tru_inv (P := fun r => PO F (RV F.K) g w σ Q r) p (fun z => z)
    cases r1 with
    | d r => cases r; exact ⟨b, rfl, hb b g w1 ρ S1 σ H1 Q R1 (E.mono e1) (p.ext e1)⟩)
def SO (t : TO) (m : Env → M (Option Int)) : Prop := ∀ g w ρ S σ H Q, RS F.K g w S H → RE F.K w ρ σ → PB F g w σ Q (m ρ S) → t σ H Q
theorem SO.none : SO (F := F) tNoPart (fun _ => ret none) := fun g w ρ S σ H Q R E h => h w H (.refl _) R
theorem SO.some {t : TE} {m : Env → M Val} (h : SE F t m) : SO (F := F) (tPart t) (fun ρ => bnd (m ρ) fun v => bnd (partI v) fun i => ret (some i)) := fun g w ρ S σ H Q R E q =>
  h g w ρ S σ H _ R E (po_bind (P := fun w r => PB F g w σ Q r) q (fun e S' w' H' c d p => p w' H' c d) (fun p => p) fun v S1 w1 H1 x e1 R1 r1 p => by
    cases v with
    | d y =>
      cases y <;> first | exact p.elim | skip
      cases r1 with
      | d r => cases r; exact ⟨_, rfl, p w1 H1 e1 R1⟩
    | _ => exact p.elim)
theorem pg_bind {α β : Type} {P : Wd → Res β → Prop} {Q1 : α → Hp → Prop} {m : M α} {f : α → M β} {S : List Cell} {g : Gh} {w : Wd} {σ : St}
    (h : P w (bnd m f S)) (hx : ∀ e S' w' H' c d, P w (.ex e S') → Ext w w' → RS F.K g w' S' H' → RX F.cA w' e c d H' → F.W c d σ H') (hn : ¬ P w .no)
    (k : ∀ v S' w' H', Ext w w' → RS F.K g w' S' H' → P w (f v S') → Q1 v H') : PB F g w σ Q1 (m S) := by
  unfold bnd at h
  cases e : m S with
  | ok v S' => rw [e] at h; exact fun w' H' e R => k v S' w' H' e R h
  | ex _ S' => rw [e] at h; exact fun w' H' c d e2 R r => hx _ S' w' H' c d h e2 R r
  | no => rw [e] at h; exact hn h
theorem SE.slice {ta : TE} {tl th : TO} {ma : Env → M Val} {ml mh : Env → M (Option Int)} {mu : Bool} (ha : SE F ta ma) (hl : SO (F := F) tl ml) (hh : SO (F := F) th mh) :
    SE F (tSl (rSlX F.K) ta tl th) (fun ρ => bnd (ma ρ) fun x => bnd (ml ρ) fun l => bnd (mh ρ) fun h => bnd (viewc x) fun x => bnd (lift (cutD x l h)) (mkRes mu)) := fun g w ρ S σ H Q R E q =>
  ha g w ρ S σ H _ R E (po_bind (P := fun w r => PO F (RV F.K) g w σ Q r) q (fun e S' w' H' c d p => p w' H' c d) (fun p => p) fun v S1 w1 H1 x e1 R1 r1 p =>
    hl g w1 ρ S1 σ H1 _ R1 (E.mono e1) (pg_bind (P := fun w r => PO F (RV F.K) g w σ Q r) (p.ext e1) (fun e S' w' H' c d p => p w' H' c d) (fun p => p) fun l S2 w2 H2 e2 R2 p2 =>
      hh g w2 ρ S2 σ H2 _ R2 (E.mono (e1.trans e2)) (pg_bind (P := fun w r => PO F (RV F.K) g w σ Q r) (p2.ext e2) (fun e S' w' H' c d p => p w' H' c d) (fun p => p) fun h S3 w3 H3 e3 R3 p3 =>
        cut_snd R3 (r1.mono (e2.trans e3)) (p3.ext e3))))
theorem SE.rev {ta : TE} {ma : Env → M Val} {mu : Bool} (ha : SE F ta ma) :
    SE F (tRevL F.K ta) (fun ρ => bnd (ma ρ) fun x => bnd (viewc x) fun x => bnd (lift (revD x)) (mkRes mu)) := fun g w ρ S σ H Q R E q =>
  ha g w ρ S σ H _ R E (po_bind (P := fun w r => PO F (RV F.K) g w σ Q r) q (fun e S' w' H' c d p => p w' H' c d) (fun p => p) fun v S1 w1 H1 x e1 R1 r1 p => by
    obtain ⟨d, ed, _, p⟩ := po_viewc p
    obtain ⟨z, ez, p⟩ := po_lift p
    cases d <;> first | (cases ez; done) | skip
    obtain rfl := Option.some.inj ez
    exact rev_snd (a := v) (d := .none) R1 (R1.vw r1 ed) (p.ext e1))
end
end Ev
end
section
set_option Elab.async false
set_option linter.all false
set_option maxRecDepth 100000
namespace Ev
open PySem PySem.Spec L2
def MTy.T : MTy → String
  | .list => "list" | .str => "str" | .dict => "dict" | .tuple => "tuple"
def rMe (K : PySem.W.Frag) : ME → V → List V → Hp → VK → Prop
  | .append => rAppend
  | .pop0 => rPop
  | .pop1 => rPopAt
  | .extend => rExtend
  | .join => fun x xs H Q => ∃ a p, ∃ ys : List Str, x = .str a ∧ xs = [.ref p] ∧ (SqL K H p (ys.map V.str) ∨ SqT K H p (ys.map V.str)) ∧ (ys.map (·.length)).sum + ys.length * a.length ≤ 16777216 ∧ Q (.str (Txt.join a ys)) H
  | .index => fun x xs H Q => ∃ p, ∃ ys : List Str, ∃ z j, x = .ref p ∧ xs = [.str z] ∧ SqT K H p (ys.map V.str) ∧ ys[j]? = some z ∧ (∀ m, m < j → ys[m]? ≠ some z) ∧ Q (.int (j : Nat)) H
  | _ => fun _ _ _ _ => False
def meId : ME → Option (Str × String)
  | .append => some ("append", "list.append")
  | .pop0 => some ("pop", "list.pop")
  | .pop1 => some ("pop", "list.pop")
  | .extend => some ("extend", "list.extend")
  | .join => some ("join", "str.join")
  | .index => some ("index", "tuple.index")
  | _ => none
section
variable {F : Fx} {g : Gh} {w : Wd} {S : List Cell} {H : Hp} {σ : St} {Q : VK}
theorem RVs.append {K : PySem.W.Frag} : ∀ {x y : List Val} {v u : List V}, RVs K w x v → RVs K w y u → RVs K w (x ++ y) (v ++ u)
  | _, _, _, _, .nil, s => s
  | _, _, _, _, .cons a b, s => .cons a (RVs.append b s)
theorem RVs.dropLast {K : PySem.W.Frag} : ∀ {x : List Val} {v : List V}, RVs K w x v → RVs K w x.dropLast v.dropLast
  | _, _, .nil => .nil
  | _, _, .cons _ .nil => .nil
  | _, _, .cons a (.cons b c) => .cons a (RVs.dropLast (.cons b c))
theorem RVs.eraseIdx {K : PySem.W.Frag} : ∀ {x : List Val} {v : List V} (i : Nat), RVs K w x v → RVs K w (x.eraseIdx i) (v.eraseIdx i)
  | _, _, _, .nil => .nil
  | _, _, 0, .cons _ b => b
  | _, _, i + 1, .cons a b => .cons a (RVs.eraseIdx i b)
theorem RVs.set {K : PySem.W.Frag} {u : Val} {y : V} (r : RV K w u y) : ∀ {x : List Val} {v : List V} (i : Nat), RVs K w x v → RVs K w (x.set i u) (v.set i y)
  | _, _, _, .nil => .nil
  | _, _, 0, .cons _ b => .cons r b
  | _, _, i + 1, .cons a b => .cons a (RVs.set r i b)
theorem none_RV {K : PySem.W.Frag} : RV K w (.d .none) .non := .d .none
/-- a written store is a store -/
theorem set_fin {n : Nat} {c c' : Cell} {o : HO} {v : Val} {x : V} (R : RS F.K g w S H) (e : S[n]? = some c) (l : c.live = true) (r : RC F.K w c' o) (l' : c'.live = true) (rv : RV F.K w v x)
    (h : PO F (RV F.K) g w σ Q (.ok v (S.set n c'))) : Q x (upd H (w.α n) o) := h w _ x (.refl _) (R.set e l r l') rv
theorem tyOk_list {v : Val} {x : V} (R : RS F.K g w S H) (r : RV F.K w v x) (h : tyOk .list v S = true) : tyV F.K "list" x H := by
  cases r with
  | @r n hn =>
    have h : (match S[n]? with
      | some (.lst _) => true
      | _ => false) = true := h
    split at h
    · rename_i xs e
      obtain ⟨o, a, b, _⟩ := R.cell n _ e rfl
      cases b with
      | lst b => exact .inl ⟨rfl, _, .of a⟩
    · cases h
  | d _ => cases h
  | t _ _ => cases h
  | k _ => cases h
theorem strPos_ok {z : Str} : ∀ {ys : List Str} {j : Nat}, strPos z ys = some j → ys[j]? = some z ∧ ∀ m, m < j → ys[m]? ≠ some z
  | y :: ys, j, h => by
    unfold strPos at h
    by_cases e : y = z
    · rw [if_pos e] at h
      obtain rfl := Option.some.inj h
      exact ⟨by rw [e]; rfl, fun m hm => absurd hm (Nat.not_lt_zero m)⟩
    · rw [if_neg e] at h
      obtain ⟨i, hi, rfl⟩ := Option.map_eq_some_iff.mp h
      obtain ⟨h1, h2⟩ := strPos_ok hi
      refine ⟨h1, fun m hm => ?_⟩
      cases m with
      | zero => exact fun q => e (Option.some.inj q)
      | succ m => exact h2 m (Nat.lt_of_succ_lt_succ hm)
theorem me_snd (m : ME) {nm : Str} {id : String} (hm : meId m = some (nm, id)) {v : Val} {vs : List Val} {x : V} {xs : List V} (R : RS F.K g w S H) (rv : RV F.K w v x) (rs : RVs F.K w vs xs) (h : PO F (RV F.K) g w σ Q (meM m v vs S)) :
    rMe F.K m x xs H Q := by
  unfold meM at h
  split at h
  all_goals first | (cases hm; done) | skip
  · split at h
    · rename_i n v' _ ys e
      obtain ⟨hl, h⟩ := po_ite h
      obtain ⟨o, a, b, _⟩ := R.cell n _ e rfl
      cases b with
      | lst b =>
        cases rv
        cases rs with
        | cons r1 r2 =>
          cases r2
          exact ⟨_, _, _, rfl, rfl, a, by rw [← b.length]; exact hl, set_fin R e rfl (.lst (b.append (.cons r1 .nil))) rfl none_RV h⟩
    · exact h.elim
  · split at h
    · rename_i n _ ys e
      split at h
      · rename_i v' ev
        obtain ⟨o, a, b, _⟩ := R.cell n _ e rfl
        cases b with
        | lst b =>
          cases rv
          cases rs
          obtain ⟨u, eu, ru⟩ := b.get ev
          exact ⟨_, _, u, rfl, rfl, a, by rw [← b.length]; exact eu, set_fin R e rfl (.lst b.dropLast) rfl ru h⟩
      · exact h.elim
    · exact h.elim
  · split at h
    · rename_i n i _ ys e
      split at h
      · rename_i j ej
        split at h
        · rename_i v' ev
          obtain ⟨o, a, b, _⟩ := R.cell n _ e rfl
          cases b with
          | lst b =>
            cases rv
            cases rs with
            | cons r1 r2 =>
              cases r2
              cases r1 with
              | d r1 =>
                cases r1
                obtain ⟨u, eu, ru⟩ := b.get ev
                obtain ⟨h1, h2, h3, h4⟩ := ixN_seq ej
                obtain ⟨hi, h⟩ := po_ite h
                exact ⟨_, _, i, j, u, rfl, rfl, a, hi.1, hi.2, by rw [← b.length]; exact h1, eu, set_fin R e rfl (.lst (b.eraseIdx j)) rfl ru h⟩
        · exact h.elim
      · exact h.elim
    · exact h.elim
  · rename_i z v'
    cases rv with
    | d rz =>
      cases rz
      cases rs with
      | cons r1 r2 =>
        cases r2
        split at h
        · rename_i xs' e
          obtain ⟨d, ed, q⟩ := po_liftS h
          cases es : strsL xs' with
          | none => rw [es] at ed; cases ed
          | some ys =>
            rw [es] at ed
            have ed : (if (ys.map (·.length)).sum + ys.length * z.length ≤ 16777216 then some (PyData.str (Txt.join z ys)) else none) = some d := ed
            split at ed
            · rename_i hl
              obtain rfl := Option.some.inj ed
              have rt := R.vw r1 e
              cases rt with
              | flat e => cases e
              | list s rd =>
                rw [strs_of rd es] at s
                exact ⟨z, _, ys, rfl, rfl, .inl s, hl, q w H _ (.refl _) R (.d (.str _))⟩
            · cases ed
        · rename_i xs' e
          obtain ⟨d, ed, q⟩ := po_liftS h
          cases es : strsL xs' with
          | none => rw [es] at ed; cases ed
          | some ys =>
            rw [es] at ed
            have ed : (if (ys.map (·.length)).sum + ys.length * z.length ≤ 16777216 then some (PyData.str (Txt.join z ys)) else none) = some d := ed
            split at ed
            · rename_i hl
              obtain rfl := Option.some.inj ed
              have rt := R.vw r1 e
              cases rt with
              | flat e => cases e
              | tuple s rd =>
                rw [strs_of rd es] at s
                exact ⟨z, _, ys, rfl, rfl, .inr s, hl, q w H _ (.refl _) R (.d (.str _))⟩
            · cases ed
        · exact h.elim
  · split at h
    · rename_i n v' _ _ ys zs e ev
      obtain ⟨hl, h⟩ := po_ite h
      obtain ⟨o, a, b, _⟩ := R.cell n _ e rfl
      cases b with
      | lst b =>
        cases rv
        cases rs with
        | cons r1 r2 =>
          cases r2
          have ru := R.vwd r1 ev
          cases ru with
          | flat e => cases e
          | list ea rd => exact ⟨_, _, _, _, rfl, rfl, a, ea, by rw [← b.length, ← rd.length]; exact hl, set_fin R e rfl (.lst (b.append (rd.map_some (F := F) (w := w)))) rfl none_RV h⟩
    · exact h.elim
  · rename_i z
    cases rs with
    | cons r1 r2 =>
      cases r2
      cases r1 with
      | d r1 =>
        cases r1
        split at h
        · rename_i xs' e
          obtain ⟨j, ej, q⟩ := po_liftS h
          obtain ⟨ys, es, ej⟩ := Option.bind_eq_some_iff.mp ej
          obtain ⟨h1, h2⟩ := strPos_ok ej
          have rt := R.vw rv e
          cases rt with
          | flat e => cases e
          | tuple s rd =>
            rw [strs_of rd es] at s
            exact ⟨_, ys, z, j, rfl, rfl, s, h1, h2, q w H _ (.refl _) R (.d (.int _))⟩
        · exact h.elim
  · exact h.elim
/-- o.m(args) -/
theorem SE.me (m : ME) {nm : Str} {id : String} (hm : meId m = some (nm, id)) {to : TE} {mo : Env → M Val} {t : TA} {ma : Env → M (List Val)} (ho : SE F to mo) (ha : SA F t ma) :
    SE F (tBM F.K m.ty.T (rMe F.K m) to t) (fun ρ => bnd (mo ρ) fun x => bnd (tyM m.ty x) fun _ => bnd (ma ρ) (meM m x)) := fun g w ρ S σ H Q R E h =>
  ho g w ρ S σ H _ R E (po_bind (P := fun w r => PO F (RV F.K) g w σ Q r) h (fun e S' w' H' c d p => p w' H' c d) (fun p => p) fun v S1 w1 H1 x e1 R1 r1 p => by
    have p' : tyOk m.ty v S1 = true ∧ PO F (RV F.K) g w σ Q (bnd (ma ρ) (meM m v) S1) := by
      unfold bnd tyM at p
      by_cases hk : tyOk m.ty v S1 = true
      · rw [if_pos hk] at p; exact ⟨hk, p⟩
      · rw [if_neg hk] at p; exact p.elim
    obtain ⟨hk, p⟩ := p'
    refine ⟨?_, ha g w1 ρ S1 σ H1 _ R1 (E.mono e1) (pa_bind (P := fun w r => PO F (RV F.K) g w σ Q r) (p.ext e1) (fun e S' w' H' c d p => p w' H' c d) (fun p => p) fun vs S2 w2 H2 xs e2 R2 r2 p2 => me_snd m hm R2 (r1.mono e2) r2 (p2.ext e2))⟩
    cases m <;> first | (cases hm; done) | skip
    · cases v with
      | d y =>
        cases y <;> first | exact Bool.noConfusion (show false = true from hk) | skip
        cases r1 with
        | d r => cases r; exact (rfl : "str" = "str")
      | _ => exact Bool.noConfusion (show false = true from hk)
    all_goals first | exact tyOk_list R1 r1 hk | skip
    cases v with
    | k y =>
      cases y <;> first | exact Bool.noConfusion (show false = true from hk) | skip
      cases r1 with
      | k r1 =>
        cases r1 with
        | tuple _ _ q => exact .inr (.inl ⟨rfl, q⟩)
    | _ => exact Bool.noConfusion (show false = true from hk))
end
end Ev
end
section
set_option Elab.async false
set_option linter.all false
set_option maxRecDepth 100000
namespace Ev
open PySem PySem.Spec L2
section
variable {F : Fx}
theorem wipe_set {σ : St} {i : Nat} {x : Option V} : ∀ {vs : List Nat}, i ∈ vs → wipe (σ.set i x) vs = wipe σ vs
  | v :: vs, h => by
    show (wipe (σ.set i x) vs).set v none = (wipe σ vs).set v none
    by_cases hi : i ∈ vs
    · rw [wipe_set hi]
    · rcases List.mem_cons.mp h with rfl | h
      · apply List.ext_getElem?
        intro j
        by_cases hj : i = j
        · subst hj
          by_cases hl : i < σ.length
          · rw [List.getElem?_set_self (by rw [wipe_length]; simpa using hl), List.getElem?_set_self (by rw [wipe_length]; exact hl)]
          · rw [List.getElem?_eq_none (by simp [wipe_length]; omega), List.getElem?_eq_none (by simp [wipe_length]; omega)]
        · rw [List.getElem?_set_ne hj, List.getElem?_set_ne hj]
          by_cases hjv : j ∈ vs
          · have w0 : ∀ (σ : St) (vs : List Nat), j ∈ vs → j < σ.length → (wipe σ vs)[j]? = some none := by
              intro σ vs
              induction vs with
              | nil => intro h; cases h
              | cons u vs ih =>
                intro h hl
                show ((wipe σ vs).set u none)[j]? = _
                by_cases e : u = j
                · subst e
                  rw [List.getElem?_set_self (by rw [wipe_length]; exact hl)]
                · rw [List.getElem?_set_ne e]
                  rcases List.mem_cons.mp h with e' | h
                  · exact (e e'.symm).elim
                  · exact ih h hl
            by_cases hl : j < σ.length
            · rw [w0 _ _ hjv (by simpa using hl), w0 _ _ hjv hl]
            · rw [List.getElem?_eq_none (by simp [wipe_length]; omega), List.getElem?_eq_none (by simp [wipe_length]; omega)]
          · rw [wipe_out hjv, wipe_out hjv, List.getElem?_set_ne hj]
      · exact (hi h).elim
/-- but for these places it is the same -/
def Same (own : List Nat) (σ σ' : St) : Prop := ∀ vs : List Nat, (∀ i, i ∈ own → i ∈ vs) → wipe σ' vs = wipe σ vs
theorem Same.refl {own : List Nat} (σ : St) : Same own σ σ := fun _ _ => rfl
theorem Same.trans {own : List Nat} {a b c : St} (x : Same own a b) (y : Same own b c) : Same own a c := fun vs h => (y vs h).trans (x vs h)
theorem Same.more {own own' : List Nat} {a b : St} (x : Same own a b) (h : ∀ i, i ∈ own → i ∈ own') : Same own' a b := fun vs k => x vs fun i hi => k i (h i hi)
def PG' (g : Gh) (w : Wd) (own : List Nat) (σ : St) (Q : St → Hp → Prop) (r : Res Env) : Prop := match r with
  | .ok ρ' S' => ∀ w' σ' H', Ext w w' → RS F.K g w' S' H' → RE F.K w' ρ' σ' → Same own σ σ' → Q σ' H'
  | .ex _ _ => False
  | .no => False
def SG (own : List Nat) (t : TG) (f : Val → Env → M Env) : Prop := ∀ g w ρ S σ H Q v x, RS F.K g w S H → RE F.K w ρ σ → RV F.K w v x → PG' (F := F) g w own σ Q (f v ρ S) → t x σ H Q
def SGs (own : List Nat) (t : TGs) (f : List Val → Env → M Env) : Prop := ∀ g w ρ S σ H Q vs xs, RS F.K g w S H → RE F.K w ρ σ → RVs F.K w vs xs → PG' (F := F) g w own σ Q (f vs ρ S) → t xs σ H Q
theorem SG.name (i : Nat) : SG (F := F) [i] (gName i) (asgT (.var i)) := fun g w ρ S σ H Q v x R E r h => h w _ H (.refl _) R (E.set i r) fun vs k => wipe_set (k i (by simp))
theorem SG.tup {own : List Nat} {n : Nat} {t : TGs} {ts : List Tg} (h : SGs (F := F) own t (asgTs ts)) (hn : ∀ vs ρ S, asgTs ts vs ρ S ≠ .no → vs.length = n) : SG (F := F) own (gTup F.K n t) (asgT (.tup ts)) := fun g w ρ S σ H Q v x R E r p => by
  cases v with
  | d y =>
    cases y with
    | tuple ys =>
      have p : PG' (F := F) g w own σ Q (asgTs ts (ys.map .d) ρ S) := p
      cases r with
      | d r =>
        cases r with
        | tuple e rd =>
          have rs := RDs.map_some (F := F) (w := w) rd
          refine ⟨_, _, rfl, .of (R.le _ _ e), ?_, h g w ρ S σ H Q _ _ R E rs p⟩
          rw [← rs.length]
          exact hn _ ρ S (fun z => by rw [z] at p; exact p)
    | _ => exact p.elim
  | t ys =>
    have p : PG' (F := F) g w own σ Q (asgTs ts ys ρ S) := p
    cases r with
    | t e rs =>
      refine ⟨_, _, rfl, .of (R.le _ _ e), ?_, h g w ρ S σ H Q _ _ R E rs p⟩
      rw [← rs.length]
      exact hn _ ρ S (fun z => by rw [z] at p; exact p)
  | _ => exact p.elim
theorem SGs.nil : SGs (F := F) [] gNil (asgTs []) := fun g w ρ S σ H Q vs xs R E r h => by
  cases vs with
  | nil => cases r; exact ⟨rfl, h w σ H (.refl _) R E (.refl _)⟩
  | cons _ _ => exact h.elim
theorem SGs.cons {own own' : List Nat} {t : TG} {u : TGs} {a : Tg} {as : List Tg} (h : SG (F := F) own t (asgT a)) (h2 : SGs (F := F) own' u (asgTs as)) : SGs (F := F) (own ++ own') (gCons t u) (asgTs (a :: as)) := fun g w ρ S σ H Q vs xs R E r p => by
  cases vs with
  | nil => exact p.elim
  | cons v vs =>
    cases r with
    | @cons _ x _ xs r1 r2 =>
      have p : PG' (F := F) g w (own ++ own') σ Q (bnd (asgT a v ρ) (fun ρ' => asgTs as vs ρ') S) := p
      refine ⟨x, xs, rfl, h g w ρ S σ H _ v x R E r1 ?_⟩
      unfold bnd at p
      cases e : asgT a v ρ S with
      | ok ρ1 S1 =>
        rw [e] at p
        have p : PG' (F := F) g w (own ++ own') σ Q (asgTs as vs ρ1 S1) := p
        intro w1 σ1 H1 e1 R1 E1 m1
        refine h2 g w1 ρ1 S1 σ1 H1 Q vs xs R1 E1 (r2.mono e1) ?_
        cases e2 : asgTs as vs ρ1 S1 with
        | ok ρ2 S2 => rw [e2] at p; exact fun w2 σ2 H2 x2 R2 E2 m2 => p w2 σ2 H2 (e1.trans x2) R2 E2 ((m1.more fun i hi => List.mem_append_left _ hi).trans (m2.more fun i hi => List.mem_append_right _ hi))
        | ex _ _ => rw [e2] at p; exact p
        | no => rw [e2] at p; exact p
      | ex _ _ => rw [e] at p; exact p
      | no => rw [e] at p; exact p
theorem asgT_noex : ∀ (n : Nat) (t : Tg), sizeOf t < n → ∀ (v : Val) (ρ : Env) (S : List Cell) (e' : Exn) (S' : List Cell), asgT t v ρ S ≠ .ex e' S' := by
  intro n
  induction n with
  | zero => intro t h; omega
  | succ n ih =>
    intro t ht v ρ S e' S' he
    cases t with
    | var i => cases he
    | tup ts =>
      have ls : ∀ (ts' : List Tg), sizeOf ts' < n + 1 → ∀ (vs : List Val) (ρ : Env) (S : List Cell), asgTs ts' vs ρ S ≠ .ex e' S' := by
        intro ts'
        induction ts' with
        | nil => intro _ vs ρ S he; cases vs <;> cases he
        | cons a as ih2 =>
          intro hs vs ρ S he
          cases vs with
          | nil => cases he
          | cons v vs =>
            have he : bnd (asgT a v ρ) (fun ρ' => asgTs as vs ρ') S = .ex e' S' := he
            unfold bnd at he
            have sa : sizeOf a < n := by simp at hs; omega
            cases ea : asgT a v ρ S with
            | ok _ _ => rw [ea] at he; exact ih2 (by simp at hs ⊢; omega) vs _ _ he
            | ex _ _ => exact ih a sa _ _ _ _ _ ea
            | no => rw [ea] at he; cases he
      have hs : sizeOf ts < n + 1 := by simp at ht; omega
      cases v with
      | d y => cases y <;> first | (cases he; done) | exact ls ts hs _ _ _ he
      | t ys => exact ls ts hs _ _ _ he
      | _ => cases he
theorem asgTs_length : ∀ (ts : List Tg) (vs : List Val) (ρ : Env) (S : List Cell), asgTs ts vs ρ S ≠ .no → vs.length = ts.length
  | [], [], _, _, _ => rfl
  | [], _ :: _, _, _, h => (h rfl).elim
  | _ :: _, [], _, _, h => (h rfl).elim
  | t :: ts, v :: vs, ρ, S, h => by
    have h : bnd (asgT t v ρ) (fun ρ' => asgTs ts vs ρ') S ≠ .no := h
    unfold bnd at h
    cases e : asgT t v ρ S with
    | ok ρ' S' => rw [e] at h; exact congrArg (· + 1) (asgTs_length ts vs ρ' S' h)
    | ex _ _ => exact (asgT_noex _ t (Nat.lt_succ_self _) _ _ _ _ _ e).elim
    | no => rw [e] at h; exact (h rfl).elim
theorem pf_bind {β : Type} {P : Wd → Res β → Prop} {Q1 : VK} {m : M Val} {f : Val → M β} {S : List Cell} {g : Gh} {w : Wd} {σ : St}
    (h : P w (bnd m f S)) (hx : ∀ e S' w' H' c d, P w (.ex e S') → Ext w w' → RS F.K g w' S' H' → RX F.cA w' e c d H' → F.W c d σ H') (hn : ¬ P w .no)
    (k : ∀ v S' w' H' x, Ext w w' → RS F.K g w' S' H' → RV F.K w' v x → P w (f v S') → Q1 x H') : PO F (RV F.K) g w σ Q1 (m S) := po_bind h hx hn k
theorem pf_ex {g : Gh} {w : Wd} {D : Ends} (σ : St) : ∀ e S' w' H' c d, PF F g w D (.ex e S') → Ext w w' → RS F.K g w' S' H' → RX F.cA w' e c d H' → F.W c d σ H' := fun e S' w' H' c d p => p w' σ H' c d
theorem SS.next : SS F tNext (fun ρ => ret (.nx ρ)) := fun g w ρ S σ H D R E h => h w σ H (.refl _) R E
theorem SS.brk : SS F tBreak (fun ρ => ret (.bk ρ)) := fun g w ρ S σ H D R E h => h w σ H (.refl _) R E
theorem SS.cnt : SS F tCont (fun ρ => ret (.ct ρ)) := fun g w ρ S σ H D R E h => h w σ H (.refl _) R E
theorem SS.retN : SS F tRetN (fun ρ => ret (.rt (.d .none))) := fun g w ρ S σ H D R E h => h w H .non (.refl _) R (.d .none)
theorem SS.ret {t : TE} {m : Env → M Val} (h : SE F t m) : SS F (tRet t) (fun ρ => bnd (m ρ) fun v => ret (.rt v)) := fun g w ρ S σ H D R E p =>
  h g w ρ S σ H _ R E (po_bind (P := fun w r => PF F g w D r) p (pf_ex σ) (fun p => p) fun v S1 w1 H1 x e1 R1 r1 p => p w1 H1 x e1 R1 r1)
theorem SS.drop {t : TE} {m : Env → M Val} (h : SE F t m) : SS F (tDrop t) (fun ρ => bnd (m ρ) fun _ => Ev.ret (.nx ρ)) := fun g w ρ S σ H D R E p =>
  h g w ρ S σ H _ R E (po_bind (P := fun w r => PF F g w D r) p (pf_ex σ) (fun p => p) fun v S1 w1 H1 x e1 R1 r1 p => p w1 σ H1 e1 R1 (E.mono e1))
theorem SS.asg {t : TE} {m : Env → M Val} {gt : TG} {a : Tg} {own : List Nat} (h : SE F t m) (ha : SG (F := F) own gt (asgT a)) : SS F (tAsg t gt) (fun ρ => bnd (m ρ) fun v => bnd (asgT a v ρ) fun ρ' => Ev.ret (.nx ρ')) := fun g w ρ S σ H D R E p =>
  h g w ρ S σ H _ R E (po_bind (P := fun w r => PF F g w D r) p (pf_ex σ) (fun p => p) fun v S1 w1 H1 x e1 R1 r1 p => by
    refine ha g w1 ρ S1 σ H1 _ v x R1 (E.mono e1) r1 ?_
    unfold bnd at p
    cases e : asgT a v ρ S1 with
    | ok ρ2 S2 => rw [e] at p; exact fun w2 σ2 H2 e2 R2 E2 _ => p w2 σ2 H2 (e1.trans e2) R2 E2
    | ex _ _ => exact (asgT_noex _ a (Nat.lt_succ_self _) _ _ _ _ _ e).elim
    | no => rw [e] at p; exact p)
theorem SS.seq {t u : TS} {m n : Env → M Fl} (h : SS F t m) (h2 : SS F u n) : SS F (tSeq t u) (fun ρ => bnd (m ρ) fun f => match f with
    | .nx ρ' => n ρ'
    | f => Ev.ret f) := fun g w ρ S σ H D R E p => by
  refine h g w ρ S σ H _ R E ?_
  dsimp only at p
  unfold bnd at p
  cases e : m ρ S with
  | ok f S1 =>
    rw [e] at p
    cases f with
    | nx ρ1 => exact fun w1 σ1 H1 e1 R1 E1 => h2 g w1 ρ1 S1 σ1 H1 D R1 E1 (PF.ext e1 p)
    | rt v => exact p
    | bk ρ1 => exact p
    | ct ρ1 => exact p
  | ex _ _ => rw [e] at p; exact p
  | no => rw [e] at p; exact p
theorem SS.if_ {c : TT} {t u : TS} {mc : Env → M Bool} {m n : Env → M Fl} (hc : ST F c mc) (h : SS F t m) (h2 : SS F u n) : SS F (tIfS c t u) (fun ρ => bnd (mc ρ) fun b => if b = true then m ρ else n ρ) := fun g w ρ S σ H D R E p =>
  hc g w ρ S σ H _ R E (pb_bind (P := fun w r => PF F g w D r) p (pf_ex σ) (fun p => p) fun b S1 w1 H1 e1 R1 p => by
    cases b with
    | true => exact h g w1 ρ S1 σ H1 D R1 (E.mono e1) (PF.ext e1 p)
    | false => exact h2 g w1 ρ S1 σ H1 D R1 (E.mono e1) (PF.ext e1 p))
theorem SS.while_ {c : TT} {t : TS} {mc : Env → M Bool} {m : Env → M Fl} (n : Nat) (hc : ST F c mc) (h : SS F t m) : SS F (tWhile c t) (fun ρ => whileL mc m n ρ) := fun g w ρ S σ H D R E p => by
  refine ⟨fun k σ H => ∃ w' ρ S, RS F.K g w' S H ∧ RE F.K w' ρ σ ∧ PF F g w' D (whileL mc m k ρ S), ⟨n, w, ρ, S, R, E, p⟩, ?_⟩
  rintro k σ1 H1 ⟨w1, ρ1, S1, R1, E1, p1⟩
  cases k with
  | zero => exact p1.elim
  | succ k =>
    refine hc g w1 ρ1 S1 σ1 H1 _ R1 E1 (pb_bind (P := fun w r => PF F g w D r) p1 (pf_ex σ1) (fun p => p) fun b S2 w2 H2 e2 R2 p2 => ?_)
    cases b with
    | false => exact p2 w2 σ1 H2 e2 R2 (E1.mono e2)
    | true =>
      refine ⟨fun σ H => ∃ w' ρ S, RS F.K g w' S H ∧ RE F.K w' ρ σ ∧ PF F g w' D (whileL mc m k ρ S), fun σ' H' q => ⟨k, Nat.lt_succ_self k, q⟩, ?_⟩
      refine h g w2 ρ1 S2 σ1 H2 _ R2 (E1.mono e2) ?_
      have p2 : PF F g w1 D (bnd (m ρ1) (fun f => (match f with
        | .nx ρ' => whileL mc m k ρ'
        | .ct ρ' => whileL mc m k ρ'
        | .bk ρ' => Ev.ret (.nx ρ')
        | .rt w => Ev.ret (.rt w))) S2) := p2
      unfold bnd at p2
      cases e : m ρ1 S2 with
      | ok f S3 =>
        rw [e] at p2
        cases f with
        | nx ρ3 => exact fun w3 σ3 H3 e3 R3 E3 => ⟨w3, ρ3, S3, R3, E3, PF.ext (e2.trans e3) p2⟩
        | ct ρ3 => exact fun w3 σ3 H3 e3 R3 E3 => ⟨w3, ρ3, S3, R3, E3, PF.ext (e2.trans e3) p2⟩
        | bk ρ3 => exact fun w3 σ3 H3 e3 => p2 w3 σ3 H3 (e2.trans e3)
        | rt v => exact fun w3 H3 x e3 => p2 w3 H3 x (e2.trans e3)
      | ex _ _ => rw [e] at p2; exact fun w3 σ3 H3 c d e3 => p2 w3 σ3 H3 c d (e2.trans e3)
      | no => rw [e] at p2; exact p2
/-- an iterator gives these values, one by one -/
def Gle (g g' : Gh) : Prop := ∀ b o, g.out b = some o → g'.out b = some o
theorem Gle.refl (g : Gh) : Gle g g := fun _ _ h => h
def ItOk (F : Fx) (g : Gh) (w : Wd) (vs : List Val) (J : L2.It) : Prop := ∀ g' w1 S H, Gle g g' → Ext w w1 → RS F.K g' w1 S H → ∀ i : Nat,
  (∀ v, vs[i]? = some v → J.go i H ∧ ∀ x H', J.yld i H x H' → ∃ w2, Ext w1 w2 ∧ RS F.K g' w2 S H' ∧ RV F.K w2 v x) ∧ (vs.length ≤ i → J.stop i H)
def PI' (g : Gh) (w : Wd) (σ : St) (Q : L2.It → Hp → Prop) (r : Res (List Val)) : Prop := match r with
  | .ok vs S' => ∀ w' H' J, Ext w w' → RS F.K g w' S' H' → ItOk F g w' vs J → Q J H'
  | .ex e S' => ∀ w' H' c d, Ext w w' → RS F.K g w' S' H' → RX F.cA w' e c d H' → F.W c d σ H'
  | .no => False
def SI (t : TI) (m : Env → M (List Val)) : Prop := ∀ g w ρ S σ H Q, RS F.K g w S H → RE F.K w ρ σ → PI' (F := F) g w σ Q (m ρ S) → t σ H Q
theorem SS.for_ {wi : TI} {gt : TG} {tb : TS} {mi : Env → M (List Val)} {fa : Val → Env → M Env} {m : Env → M Fl} {own : List Nat} (hi : SI (F := F) wi mi) (hg : SG (F := F) own gt fa) (hn : ∀ v ρ S e' S', fa v ρ S ≠ .ex e' S') (hb : SS F tb m) :
    SS F (tFor wi gt tb) (fun ρ => bnd (mi ρ) fun vs => forL (fun v ρ => bnd (fa v ρ) fun ρ' => m ρ') vs ρ) := fun g w ρ S σ H D R E p => by
  refine hi g w ρ S σ H _ R E ?_
  dsimp only at p
  unfold bnd at p
  cases ei : mi ρ S with
  | ex _ _ => rw [ei] at p; exact fun w' H' c d => p w' σ H' c d
  | no => rw [ei] at p; exact p
  | ok vs S1 =>
    rw [ei] at p
    intro w1 H1 J e1 R1 ok
    have p : PF F g w1 D (forL (fun v ρ => bnd (fa v ρ) fun ρ' => m ρ') vs ρ S1) := PF.ext e1 p
    refine ⟨fun i k σ H => ∃ w' ρ S, Ext w1 w' ∧ RS F.K g w' S H ∧ RE F.K w' ρ σ ∧ k = vs.length - i ∧ i ≤ vs.length ∧ PF F g w' D (forL (fun v ρ => bnd (fa v ρ) fun ρ' => m ρ') (vs.drop i) ρ S),
      ⟨vs.length, w1, ρ, S1, .refl _, R1, E.mono e1, rfl, Nat.zero_le _, p⟩, ?_⟩
    rintro i k σ2 H2 ⟨w2, ρ2, S2, e2, R2, E2, rfl, hl, p2⟩
    by_cases hi : i < vs.length
    · have ev : vs[i]? = some vs[i] := List.getElem?_eq_getElem hi
      obtain ⟨go, yl⟩ := (ok g w2 S2 H2 (.refl g) e2 R2 i).1 _ ev
      refine .inr ⟨go, fun σ H => ∃ w' ρ S, Ext w1 w' ∧ RS F.K g w' S H ∧ RE F.K w' ρ σ ∧ PF F g w' D (forL (fun v ρ => bnd (fa v ρ) fun ρ' => m ρ') (vs.drop (i + 1)) ρ S),
        fun σ' H' ⟨w', ρ', S', x1, x2, x3, x4⟩ => ⟨vs.length - (i + 1), by omega, w', ρ', S', x1, x2, x3, rfl, hi, x4⟩, fun x H3 y => ?_⟩
      obtain ⟨w3, e3, R3, r3⟩ := yl x H3 y
      rw [List.drop_eq_getElem_cons hi] at p2
      have p2 : PF F g w3 D (bnd (bnd (fa vs[i] ρ2) fun ρ' => m ρ') (fun f => (match f with
        | .nx ρ' => forL (fun v ρ => bnd (fa v ρ) fun ρ' => m ρ') (vs.drop (i + 1)) ρ'
        | .ct ρ' => forL (fun v ρ => bnd (fa v ρ) fun ρ' => m ρ') (vs.drop (i + 1)) ρ'
        | .bk ρ' => Ev.ret (.nx ρ')
        | .rt w => Ev.ret (.rt w))) S2) := PF.ext e3 p2
      rw [bnd_assoc] at p2
      refine hg g w3 ρ2 S2 σ2 H3 _ _ x R3 (E2.mono e3) r3 ?_
      unfold bnd at p2
      cases ea : fa vs[i] ρ2 S2 with
      | ex _ _ => exact (hn _ _ _ _ _ ea).elim
      | no => rw [ea] at p2; exact p2
      | ok ρ4 S4 =>
        rw [ea] at p2
        intro w4 σ4 H4 e4 R4 E4 _
        refine hb g w4 ρ4 S4 σ4 H4 _ R4 E4 ?_
        cases em : m ρ4 S4 with
        | ok f S5 =>
          simp only [em] at p2
          cases f with
          | nx ρ5 => exact fun w5 σ5 H5 e5 R5 E5 => ⟨w5, ρ5, S5, ((e2.trans e3).trans e4).trans e5, R5, E5, PF.ext (e4.trans e5) p2⟩
          | ct ρ5 => exact fun w5 σ5 H5 e5 R5 E5 => ⟨w5, ρ5, S5, ((e2.trans e3).trans e4).trans e5, R5, E5, PF.ext (e4.trans e5) p2⟩
          | bk ρ5 => exact fun w5 σ5 H5 e5 => p2 w5 σ5 H5 (e4.trans e5)
          | rt v => exact fun w5 H5 x e5 => p2 w5 H5 x (e4.trans e5)
        | ex _ _ => simp only [em] at p2; exact fun w5 σ5 H5 c d e5 => p2 w5 σ5 H5 c d (e4.trans e5)
        | no => simp only [em] at p2; exact p2
    · have hi' : i = vs.length := by omega
      subst hi'
      rw [List.drop_length] at p2
      exact .inl ⟨(ok g w2 S2 H2 (.refl g) e2 R2 _).2 (Nat.le_refl _), p2 w2 σ2 H2 (.refl _) R2 E2⟩
theorem RVs.at_get {K : PySem.W.Frag} {w : Wd} {vs : List Val} {xs : List V} (r : RVs K w vs xs) {i : Nat} {v : Val} {x : V} (h : vs[i]? = some v) (h2 : xs[i]? = some x) : RV K w v x := by
  obtain ⟨u, e, q⟩ := r.get h
  rw [e] at h2
  rw [← Option.some.inj h2]
  exact q
theorem RVs.get_V {K : PySem.W.Frag} {w : Wd} {vs : List Val} {xs : List V} (r : RVs K w vs xs) {i : Nat} {v : Val} (h : vs[i]? = some v) : ∃ x, xs[i]? = some x := let ⟨x, e, _⟩ := r.get h; ⟨x, e⟩
theorem Itl_ok {g : Gh} {w : Wd} {a : Addr} {xs : List V} {vs : List Val} (hl : ∀ g' w1 S H, Gle g g' → Ext w w1 → RS F.K g' w1 S H → SqL F.K H a xs) (rv : RVs F.K w vs xs) : ItOk F g w vs (Itl F.K a) := fun g' w1 S H gl e R i => by
  have q := hl g' w1 S H gl e R
  refine ⟨fun v ev => ⟨?_, fun x H' y => ?_⟩, fun hi => ⟨xs, q, by rw [← rv.length]; exact hi⟩⟩
  · obtain ⟨x, ex⟩ := rv.get_V ev
    exact ⟨xs, x, q, ex⟩
  · obtain ⟨rfl, y⟩ := y
    exact ⟨w1, .refl _, R, (rv.at_get ev (y xs q)).mono e⟩
theorem Itt_ok {g : Gh} {w : Wd} {a : Addr} {xs : List V} {vs : List Val} (hl : ∀ g' w1 S H, Gle g g' → Ext w w1 → RS F.K g' w1 S H → SqT F.K H a xs) (rv : RVs F.K w vs xs) : ItOk F g w vs (Itt F.K a) := fun g' w1 S H gl e R i => by
  have q := hl g' w1 S H gl e R
  refine ⟨fun v ev => ⟨?_, fun x H' y => ?_⟩, fun hi => ⟨xs, q, by rw [← rv.length]; exact hi⟩⟩
  · obtain ⟨x, ex⟩ := rv.get_V ev
    exact ⟨xs, x, q, ex⟩
  · obtain ⟨rfl, y⟩ := y
    exact ⟨w1, .refl _, R, (rv.at_get ev (y xs q)).mono e⟩
theorem Its_ok {g : Gh} {w : Wd} (z : Str) : ItOk F g w ((z.cps.toList.map fun c => PyData.str (sign c)).map .d) (Its z) := fun g' w1 S H gl e R i => by
  refine ⟨fun v ev => ?_, fun hi => ?_⟩
  · rw [List.map_map, List.getElem?_map] at ev
    obtain ⟨c, ec, rfl⟩ := Option.map_eq_some_iff.mp ev
    have hi : i < z.cps.size := by
      have := (List.getElem?_eq_some_iff.mp ec).1
      simpa using this
    refine ⟨hi, fun x H' y => ?_⟩
    obtain ⟨rfl, c', ec', rfl⟩ := y
    have : z.cps.toList[i]? = some c' := by rw [Array.getElem?_toList]; exact ec'
    rw [this] at ec
    obtain rfl := Option.some.inj ec
    exact ⟨w1, .refl _, R, .d (.str _)⟩
  · simp at hi
    exact hi
theorem rangeL_get : ∀ (n : Nat) (lo : Int) (i : Nat) (v : Val), (rangeL lo n)[i]? = some v → i < n ∧ v = .d (.int (lo + i))
  | 0, _, _, _, h => by simp [rangeL] at h
  | n + 1, lo, 0, v, h => by
    simp [rangeL] at h
    exact ⟨Nat.succ_pos _, by rw [← h]; simp⟩
  | n + 1, lo, i + 1, v, h => by
    obtain ⟨h1, h2⟩ := rangeL_get n (lo + 1) i v (by simpa [rangeL] using h)
    exact ⟨by omega, by rw [h2]; congr 2; omega⟩
theorem rangeL_length : ∀ (n : Nat) (lo : Int), (rangeL lo n).length = n
  | 0, _ => rfl
  | n + 1, lo => congrArg (· + 1) (rangeL_length n (lo + 1))
theorem Itr_ok {g : Gh} {w : Wd} (lo : Int) (n : Nat) : ItOk F g w (rangeL lo n) (Itr lo n) := fun g' w1 S H gl e R i => by
  refine ⟨fun v ev => ?_, fun hi => by rw [rangeL_length] at hi; exact hi⟩
  obtain ⟨hi, rfl⟩ := rangeL_get n lo i v ev
  refine ⟨hi, fun x H' y => ?_⟩
  obtain ⟨rfl, rfl⟩ := y
  exact ⟨w1, .refl _, R, .d (.int _)⟩
theorem enumL_get : ∀ (ds : List PyData) (k : Int) (i : Nat) (v : Val), (enumL k ds)[i]? = some v → ∃ d, ds[i]? = some d ∧ v = .d (.tuple [.int (k + i), d])
  | [], _, _, _, h => by simp [enumL] at h
  | d :: ds, k, 0, v, h => by
    simp [enumL] at h
    exact ⟨d, rfl, by rw [← h]; simp⟩
  | d :: ds, k, i + 1, v, h => by
    obtain ⟨e, h1, h2⟩ := enumL_get ds (k + 1) i v (by simpa [enumL] using h)
    exact ⟨e, by simpa using h1, by rw [h2]; congr 4; omega⟩
theorem enumL_length : ∀ (ds : List PyData) (k : Int), (enumL k ds).length = ds.length
  | [], _ => rfl
  | _ :: ds, k => congrArg (· + 1) (enumL_length ds (k + 1))
theorem Ite_ok {g : Gh} {w : Wd} {a : Addr} {xs : List V} {ds : List PyData} (hl : ∀ g' w1 S H, Gle g g' → Ext w w1 → RS F.K g' w1 S H → SqL F.K H a xs) (rd : RDs w.I ds xs) : ItOk F g w (enumL 0 ds) (Ite F.K a) := fun g' w1 S H gl e R i => by
  have q := hl g' w1 S H gl e R
  refine ⟨fun v ev => ?_, fun hi => ⟨xs, q, by rw [← rd.length, ← enumL_length ds 0]; exact hi⟩⟩
  obtain ⟨d, ed, rfl⟩ := enumL_get ds 0 i v ev
  obtain ⟨x, ex, rx⟩ := rd.get ed
  refine ⟨⟨xs, x, q, ex⟩, fun v H' y => ?_⟩
  obtain ⟨T, x', rfl, hT, rfl, y⟩ := y
  have e2 := y xs q
  rw [ex] at e2
  obtain rfl := Option.some.inj e2
  have e3 : Ext w1 (w1.put T (.tup [.int (i : Nat), x])) := .put (R.Ifree hT)
  refine ⟨_, e3, R.put hT, .d (.tuple upd_same (.cons ?_ (.cons (rx.mono (e.trans e3).I) .nil)))⟩
  rw [Int.zero_add]
  exact .int _
theorem zipL_get : ∀ (ds es : List PyData) (i : Nat) (v : Val), (zipL ds es)[i]? = some v → ∃ d e, ds[i]? = some d ∧ es[i]? = some e ∧ v = .d (.tuple [d, e])
  | [], _, _, _, h => by simp [zipL] at h
  | _ :: _, [], _, _, h => by simp [zipL] at h
  | d :: ds, e :: es, 0, v, h => by
    simp [zipL] at h
    exact ⟨d, e, rfl, rfl, h.symm⟩
  | d :: ds, e :: es, i + 1, v, h => by
    obtain ⟨d', e', h1, h2, h3⟩ := zipL_get ds es i v (by simpa [zipL] using h)
    exact ⟨d', e', by simpa using h1, by simpa using h2, h3⟩
theorem zipL_length : ∀ (ds es : List PyData), (zipL ds es).length = min ds.length es.length
  | [], _ => by simp [zipL]
  | _ :: _, [] => by simp [zipL]
  | _ :: ds, _ :: es => by simp only [zipL, List.length_cons, zipL_length ds es]; omega
theorem Itz_ok {g : Gh} {w : Wd} {a b : Addr} {xs ys : List V} {ds es : List PyData} (hl : ∀ g' w1 S H, Gle g g' → Ext w w1 → RS F.K g' w1 S H → SqL F.K H a xs ∧ SqL F.K H b ys) (rd : RDs w.I ds xs) (re : RDs w.I es ys) : ItOk F g w (zipL ds es) (Itz F.K a b) := fun g' w1 S H gl e R i => by
  obtain ⟨q, q'⟩ := hl g' w1 S H gl e R
  refine ⟨fun v ev => ?_, fun hi => ⟨xs, ys, q, q', by rw [zipL_length] at hi; rw [← rd.length, ← re.length]; omega⟩⟩
  obtain ⟨d, e', ed, ee, rfl⟩ := zipL_get ds es i v ev
  obtain ⟨x, ex, rx⟩ := rd.get ed
  obtain ⟨y, ey, ry⟩ := re.get ee
  refine ⟨⟨xs, ys, x, y, q, q', ex, ey⟩, fun v H' yl => ?_⟩
  obtain ⟨T, x', y', rfl, hT, rfl, z1, z2⟩ := yl
  have e2 := z1 xs q
  rw [ex] at e2
  obtain rfl := Option.some.inj e2
  have e2 := z2 ys q'
  rw [ey] at e2
  obtain rfl := Option.some.inj e2
  have e3 : Ext w1 (w1.put T (.tup [x, y])) := .put (R.Ifree hT)
  exact ⟨_, e3, R.put hT, .d (.tuple upd_same (.cons (rx.mono (e.trans e3).I) (.cons (ry.mono (e.trans e3).I) .nil)))⟩
/-- a list, a tuple, a text -/
def iAny (K : PySem.W.Frag) (tl : TE) : TI := fun σ H R => iList K tl σ H R ∨ iTup K tl σ H R ∨ iStr tl σ H R
theorem pi_or {X : Cx} {tg iter : Expr} {a b : TI} (h : PI X tg iter a) (h2 : PI X tg iter b) : PI X tg iter (fun σ H R => a σ H R ∨ b σ H R) :=
  ⟨fun pins s σ H R I q => q.elim (h.run pins s σ H R I) (h2.run pins s σ H R I)⟩
theorem pi_any {X : Cx} {tg l : Expr} {tl : TE} (hl : PE X l tl) : PI X tg l (iAny X.K tl) := pi_or (pi_list hl) (pi_or (pi_tup hl) (pi_str hl))
theorem viewI_res (v : Val) (S : List Cell) : (∃ d, viewI v S = .ok d S ∧ vw S v = some d ∧ ∀ n, v ≠ .r n) ∨ viewI v S = .no := by
  cases v with
  | r n => exact .inr rfl
  | t xs => exact .inr rfl
  | d x => exact .inl ⟨x, rfl, rfl, fun _ z => by cases z⟩
  | k x => exact .inl ⟨x, rfl, rfl, fun _ z => by cases z⟩
/-- what is read off a value that is no object of the store stays -/
theorem stays_l {g : Gh} {w : Wd} {S : List Cell} {v : Val} {x : V} {ds : List PyData} (r : RV F.K w v x) (h : vw S v = some (.list ds)) (hn : ∀ n, v ≠ .r n) :
    ∃ a xs, x = .ref a ∧ RDs w.I ds xs ∧ ∀ g' w1 S1 H1, Gle g g' → Ext w w1 → RS F.K g' w1 S1 H1 → SqL F.K H1 a xs := by
  cases r with
  | d r =>
    obtain rfl := Option.some.inj h
    cases r with
    | list e rd => exact ⟨_, _, rfl, rd, fun _ w1 S1 H1 _ x R => .of (R.le _ _ (x.I.o _ _ e rfl))⟩
  | r _ => exact absurd rfl (hn _)
  | t _ _ => cases h
  | k r =>
    obtain rfl := Option.some.inj h
    cases r with
    | list s e => exact ⟨_, _, rfl, flats_RD e, fun _ w1 S1 H1 _ x R => SqL.mono R.hle (SqL.mono x.I s)⟩
theorem stays_t {g : Gh} {w : Wd} {S : List Cell} {v : Val} {x : V} {ds : List PyData} (r : RV F.K w v x) (h : vw S v = some (.tuple ds)) (hn : ∀ n, v ≠ .r n) :
    ∃ a xs, x = .ref a ∧ RDs w.I ds xs ∧ ∀ g' w1 S1 H1, Gle g g' → Ext w w1 → RS F.K g' w1 S1 H1 → SqT F.K H1 a xs := by
  cases r with
  | d r =>
    obtain rfl := Option.some.inj h
    cases r with
    | tuple e rd => exact ⟨_, _, rfl, rd, fun _ w1 S1 H1 _ x R => .of (R.le _ _ (x.I.o _ _ e rfl))⟩
  | r _ => exact absurd rfl (hn _)
  | t _ _ => cases h
  | k r =>
    obtain rfl := Option.some.inj h
    cases r with
    | tuple s e => exact ⟨_, _, rfl, flats_RD e, fun _ w1 S1 H1 _ x R => SqT.mono R.hle (SqT.mono x.I s)⟩
theorem stays_s {w : Wd} {S : List Cell} {v : Val} {x : V} {z : Str} (r : RV F.K w v x) (h : vw S v = some (.str z)) (hn : ∀ n, v ≠ .r n) : x = .str z := by
  cases r with
  | d r =>
    obtain rfl := Option.some.inj h
    cases r; rfl
  | r _ => exact absurd rfl (hn _)
  | t _ _ => cases h
  | k r =>
    obtain rfl := Option.some.inj h
    cases r
theorem SI.any {tl : TE} {ma : Env → M Val} (ha : SE F tl ma) : SI (F := F) (iAny F.K tl) (fun ρ => bnd (ma ρ) fun v => bnd (viewI v) fun x => bnd (lift (itemsD x)) fun xs => Ev.ret (xs.map .d)) := fun g w ρ S σ H Q R E p => by
  dsimp only at p
  unfold bnd at p
  cases em : ma ρ S with
  | ex e S' => rw [em] at p; exact .inl (ha g w ρ S σ H _ R E (by rw [em]; exact fun w' H' c d => p w' H' c d))
  | no => rw [em] at p; exact p.elim
  | ok v S1 =>
    simp only [em] at p
    rcases viewI_res v S1 with ⟨d, e1, ev, hn⟩ | e1
    · simp only [e1] at p
      cases ei : itemsD d with
      | none => simp only [ei, lift] at p; exact p.elim
      | some ds =>
        simp only [ei, lift] at p
        have p : PI' (F := F) g w σ Q (.ok (ds.map .d) S1) := p
        cases d with
        | list xs =>
          obtain rfl : xs = ds := Option.some.inj ei
          refine .inl (ha g w ρ S σ H _ R E ?_)
          rw [em]
          intro w1 H1 x e1 R1 r1
          obtain ⟨a, vs, rfl, rd, st⟩ := stays_l (g := g) r1 ev hn
          exact ⟨_, rfl, ⟨_, st g w1 S1 H1 (.refl g) (.refl _) R1⟩, p w1 H1 _ e1 R1 (Itl_ok st (RDs.map_some (F := F) (w := w1) rd))⟩
        | tuple xs =>
          obtain rfl : xs = ds := Option.some.inj ei
          refine .inr (.inl (ha g w ρ S σ H _ R E ?_))
          rw [em]
          intro w1 H1 x e1 R1 r1
          obtain ⟨a, vs, rfl, rd, st⟩ := stays_t (g := g) r1 ev hn
          exact ⟨_, rfl, ⟨_, st g w1 S1 H1 (.refl g) (.refl _) R1⟩, p w1 H1 _ e1 R1 (Itt_ok st (RDs.map_some (F := F) (w := w1) rd))⟩
        | str z =>
          obtain rfl : _ = ds := Option.some.inj ei
          refine .inr (.inr (ha g w ρ S σ H _ R E ?_))
          rw [em]
          intro w1 H1 x e1 R1 r1
          obtain rfl := stays_s r1 ev hn
          exact ⟨_, rfl, p w1 H1 _ e1 R1 (Its_ok z)⟩
        | _ => cases ei
    · simp only [e1] at p; exact p.elim
end
end Ev
end
section
set_option Elab.async false
set_option linter.all false
set_option maxRecDepth 100000
namespace Ev
open PySem PySem.Spec L2
def Gh.hold (g : Gh) (w : Wd) (D : Addr) (o : HO) : Gh := ⟨upd g.out D o, w.I⟩
def Hp.del (H : Hp) (D : Addr) : Hp := fun b => if b = D then none else H b
theorem Hp.del_same {H : Hp} {D : Addr} : Hp.del H D D = none := if_pos rfl
theorem Hp.del_ne {H : Hp} {D b : Addr} (h : b ≠ D) : Hp.del H D b = H b := if_neg h
theorem Hp.upd_del {H : Hp} {D : Addr} {o : HO} (h : H D = some o) : upd (Hp.del H D) D o = H := by
  funext b
  by_cases hb : b = D
  · subst hb; rw [upd_same, h]
  · rw [upd_ne hb, Hp.del_ne hb]
section
variable {K : PySem.W.Frag} {g : Gh} {w w0 : Wd} {S : List Cell} {H : Hp} {D : Addr} {o o' : HO}
theorem RS.hold (R : RS K g w S H) (h : H D = none) (ho : pl o = true := by rfl) : RS K (g.hold w D o) w S (upd H D o) where
  len := R.len
  le := fun b u e => by rw [upd_ne (ne_of_none e (R.Ifree h))]; exact R.le _ _ e
  out := fun b u e => by
    by_cases hb : b = D
    · subst hb
      have e : upd g.out b o b = some u := e
      rw [upd_same] at e ⊢; exact e
    · have e : upd g.out D o b = some u := e
      rw [upd_ne hb] at e ⊢; exact R.out _ _ e
  cell := fun n c e l => by
    obtain ⟨u, a, b, i, d⟩ := R.cell n c e l
    have ne : w.α n ≠ D := ne_of_none a h
    exact ⟨u, by rw [upd_ne ne]; exact a, b, i, by show upd g.out D o _ = none; rw [upd_ne ne]; exact d⟩
  inj := R.inj
  fr := fun b u e => .inl ⟨u, e⟩
  pI := R.pI
  pO := fun b u e => by
    by_cases hb : b = D
    · subst hb
      have e : upd g.out b o b = some u := e
      rw [upd_same] at e
      cases e; exact ho
    · have e : upd g.out D o b = some u := e
      rw [upd_ne hb] at e
      exact R.pO _ _ e
  tab := R.tab.new h
theorem RS.held (R : RS K (g.hold w0 D o) w S H) : H D = some o := R.out D o upd_same
theorem RS.heldI (R : RS K (g.hold w0 D o) w S H) (h0 : w0.I D = none) : w.I D = none := by
  cases e : w.I D with
  | none => rfl
  | some u =>
    rcases R.fr D u e with ⟨v, q⟩ | q
    · have q : w0.I D = some v := q
      rw [h0] at q; cases q
    · have q : upd g.out D o D = none := q
      rw [upd_same] at q; cases q
theorem RS.heldα (R : RS K (g.hold w0 D o) w S H) {n : Nat} {c : Cell} (e : S[n]? = some c) (l : c.live = true) : w.α n ≠ D ∧ g.out (w.α n) = none := by
  obtain ⟨u, a, b, i, d⟩ := R.cell n c e l
  have d : upd g.out D o (w.α n) = none := d
  have ne : w.α n ≠ D := fun z => by rw [z, upd_same] at d; cases d
  rw [upd_ne ne] at d
  exact ⟨ne, d⟩
theorem RS.rehold (R : RS K (g.hold w0 D o) w S H) (h0 : w0.I D = none) (ho : pl o' = true := by rfl) : RS K (g.hold w0 D o') w S (upd H D o') where
  len := R.len
  le := fun b u e => by rw [upd_ne (ne_of_none e (R.heldI h0))]; exact R.le _ _ e
  out := fun b u e => by
    by_cases hb : b = D
    · subst hb
      have e : upd g.out b o' b = some u := e
      rw [upd_same] at e ⊢; exact e
    · have e : upd g.out D o' b = some u := e
      rw [upd_ne hb] at e ⊢; exact R.out _ _ (by show upd g.out D o b = _; rw [upd_ne hb]; exact e)
  cell := fun n c e l => by
    obtain ⟨u, a, b, i, d⟩ := R.cell n c e l
    obtain ⟨ne, d⟩ := R.heldα e l
    exact ⟨u, by rw [upd_ne ne]; exact a, b, i, by show upd g.out D o' _ = none; rw [upd_ne ne]; exact d⟩
  inj := R.inj
  fr := fun b u e => (R.fr b u e).elim .inl fun q => by
    have q : upd g.out D o b = none := q
    have ne : b ≠ D := fun z => by rw [z, upd_same] at q; cases q
    rw [upd_ne ne] at q
    exact .inr (by show upd g.out D o' b = none; rw [upd_ne ne]; exact q)
  pI := R.pI
  pO := fun b u e => by
    by_cases hb : b = D
    · subst hb
      have e : upd g.out b o' b = some u := e
      rw [upd_same] at e
      cases e; exact ho
    · have e : upd g.out D o' b = some u := e
      rw [upd_ne hb] at e
      exact R.pO b u (by show upd g.out D o b = _; rw [upd_ne hb]; exact e)
  tab := R.tab.set R.held (R.pO D o upd_same)
theorem RS.unhold {S0 : List Cell} {H0 : Hp} (R0 : RS K g w0 S0 H0) (h0 : H0 D = none) (R : RS K (g.hold w0 D o) w S H) : RS K g w S (Hp.del H D) where
  len := R.len
  le := fun b u e => by rw [Hp.del_ne (ne_of_none e (R.heldI (R0.Ifree h0)))]; exact R.le _ _ e
  out := fun b u e => by
    have ne : b ≠ D := ne_of_none e (R0.outfree h0)
    rw [Hp.del_ne ne]
    exact R.out _ _ (by show upd g.out D o b = _; rw [upd_ne ne]; exact e)
  cell := fun n c e l => by
    obtain ⟨u, a, b, i, d⟩ := R.cell n c e l
    obtain ⟨ne, d⟩ := R.heldα e l
    exact ⟨u, by rw [Hp.del_ne ne]; exact a, b, i, d⟩
  inj := R.inj
  fr := fun b u e => by
    rcases R.fr b u e with ⟨v, q⟩ | q
    · exact R0.fr b v q
    · have q : upd g.out D o b = none := q
      have ne : b ≠ D := fun z => by rw [z, upd_same] at q; cases q
      rw [upd_ne ne] at q
      exact .inr q
  pI := R.pI
  pO := R0.pO
  tab := R.tab.keep fun b u e n => by
    rw [Hp.del_ne (fun z => by rw [z, R.held] at e; cases e; rw [R.pO D _ upd_same] at n; cases n)]; exact e
/-- it is let go: as an object of the store -/
theorem RS.held_new {S0 : List Cell} {H0 : Hp} (R0 : RS K g w0 S0 H0) (h0 : H0 D = none) (R : RS K (g.hold w0 D o) w S H) {c : Cell} (r : RC K w c o) : RS K g (w.new D) (S ++ [c]) H := by
  have := (RS.unhold R0 h0 R).new (p := D) (o := o) Hp.del_same r
  rwa [Hp.upd_del R.held] at this
/-- .. as what is never written -/
theorem RS.held_put {S0 : List Cell} {H0 : Hp} (R0 : RS K g w0 S0 H0) (h0 : H0 D = none) (R : RS K (g.hold w0 D o) w S H) : RS K g (w.put D o) S H := by
  have := (RS.unhold R0 h0 R).put (p := D) (o := o) Hp.del_same (R.pO D o upd_same)
  rwa [Hp.upd_del R.held] at this
end
theorem RVs.snoc {K : PySem.W.Frag} {w : Wd} : ∀ {vs : List Val} {xs : List V} {v : Val} {x : V}, RVs K w vs xs → RV K w v x → RVs K w (vs ++ [v]) (xs ++ [x])
  | _, _, _, _, .nil, r => .cons r .nil
  | _, _, _, _, .cons a b, r => .cons a (RVs.snoc b r)
def noF (F : Fx) : Fx := { F with W := fun _ _ _ _ => False }
theorem compL_step {β : Type} {body : Val → M (Option Val)} {v : Val} {rest acc : List Val} {k : List Val → M β} {S S1 : List Cell} {o : Option Val} (h : body v S = .ok o S1) :
    bnd (bnd (compL body (v :: rest)) fun r => Ev.ret (acc ++ r)) k S = bnd (bnd (compL body rest) fun r => Ev.ret ((acc ++ o.toList) ++ r)) k S1 := by
  have e : compL body (v :: rest) S = bnd (compL body rest) (fun r => Ev.ret (o.toList ++ r)) S1 := bnd_ok h
  cases e2 : compL body rest S1 with
  | ok r S2 =>
    have e3 : compL body (v :: rest) S = .ok (o.toList ++ r) S2 := by rw [e]; exact bnd_ok e2
    have e4 := bnd_ok (f := fun r => Ev.ret (acc ++ r)) e3
    have e5 := bnd_ok (f := fun r => Ev.ret ((acc ++ o.toList) ++ r)) e2
    rw [bnd_ok e4, bnd_ok e5, List.append_assoc]
  | ex x S2 =>
    have e3 : compL body (v :: rest) S = .ex x S2 := by rw [e]; unfold bnd; rw [e2]
    have e4 : bnd (compL body (v :: rest)) (fun r => Ev.ret (acc ++ r)) S = .ex x S2 := by unfold bnd; rw [e3]
    have e5 : bnd (compL body rest) (fun r => Ev.ret ((acc ++ o.toList) ++ r)) S1 = .ex x S2 := by unfold bnd; rw [e2]
    have e6 : bnd (bnd (compL body (v :: rest)) (fun r => Ev.ret (acc ++ r))) k S = .ex x S2 := by rw [bnd, e4]
    have e7 : bnd (bnd (compL body rest) (fun r => Ev.ret ((acc ++ o.toList) ++ r))) k S1 = .ex x S2 := by rw [bnd, e5]
    rw [e6, e7]
  | no =>
    have e3 : compL body (v :: rest) S = .no := by rw [e]; unfold bnd; rw [e2]
    have e4 : bnd (compL body (v :: rest)) (fun r => Ev.ret (acc ++ r)) S = .no := by unfold bnd; rw [e3]
    have e5 : bnd (compL body rest) (fun r => Ev.ret ((acc ++ o.toList) ++ r)) S1 = .no := by unfold bnd; rw [e2]
    have e6 : bnd (bnd (compL body (v :: rest)) (fun r => Ev.ret (acc ++ r))) k S = .no := by rw [bnd, e4]
    have e7 : bnd (bnd (compL body rest) (fun r => Ev.ret ((acc ++ o.toList) ++ r))) k S1 = .no := by rw [bnd, e5]
    rw [e6, e7]
theorem compL_len {body : Val → M (Option Val)} {us acc : List Val} {mu : Bool} {S : List Cell} (h : bnd (bnd (compL body us) fun r => Ev.ret (acc ++ r)) (mkList mu) S ≠ .no) (hx : ∀ v S e S', body v S ≠ .ex e S') : acc.length ≤ sizeLine := by
  have nx : ∀ (us : List Val) (S : List Cell) e S', compL body us S ≠ .ex e S' := by
    intro us
    induction us with
    | nil => intro S e S' h; cases h
    | cons v us ih =>
      intro S e S' h
      have h : bnd (body v) (fun o => bnd (compL body us) fun r => Ev.ret (o.toList ++ r)) S = .ex e S' := h
      unfold bnd at h
      cases eb : body v S with
      | ok o S1 =>
        simp only [eb] at h
        cases ec : compL body us S1 with
        | ok r S2 => simp only [ec] at h; cases h
        | ex _ _ => exact ih _ _ _ ec
        | no => simp only [ec] at h; cases h
      | ex _ _ => exact hx _ _ _ _ eb
      | no => simp only [eb] at h; cases h
  unfold bnd at h
  cases e : compL body us S with
  | ok r S2 =>
    simp only [e] at h
    have h : mkList mu (acc ++ r) S2 ≠ .no := h
    unfold mkList at h
    by_cases hl : (acc ++ r).length ≤ sizeLine
    · rw [List.length_append] at hl; omega
    · rw [if_neg hl] at h; exact (h rfl).elim
  | ex _ _ => exact (nx _ _ _ _ e).elim
  | no => simp only [e] at h; exact (h rfl).elim
theorem noex_ok {α : Type} {m : M α} {S S' : List Cell} {a : α} (h : noex m S = .ok a S') : m S = .ok a S' := by
  unfold noex at h
  cases e : m S with
  | ok b S1 => rw [e] at h; exact h
  | ex _ _ => rw [e] at h; cases h
  | no => rw [e] at h; cases h
theorem noex_ex {α : Type} {m : M α} {S S' : List Cell} {e : Exn} : noex m S ≠ .ex e S' := by
  unfold noex
  cases e : m S <;> intro h <;> cases h
theorem wipe_idem (σ : St) (vs : List Nat) : wipe (wipe σ vs) vs = wipe σ vs := by
  have go : ∀ us : List Nat, (∀ i, i ∈ us → i ∈ vs) → wipe (wipe σ us) vs = wipe σ vs := by
    intro us
    induction us with
    | nil => intro _; rfl
    | cons u us ih =>
      intro h
      show wipe ((wipe σ us).set u none) vs = _
      rw [wipe_set (h u (by simp)), ih fun i hi => h i (by simp [hi])]
  exact go vs fun _ h => h
section
variable {F : Fx}
theorem SE.comp {wi : TI} {gt : TG} {tt : TT} {te : TE} {mi : Env → M (List Val)} {a : Tg} {own vs : List Nat} {mt : Env → M Bool} {me : Env → M Val} (mu : Bool)
    (hi : SI (F := F) wi mi) (hg : SG (F := noF F) own gt (asgT a)) (ho : ∀ i, i ∈ own → i ∈ vs) (ht : ST (noF F) tt mt) (he : SE (noF F) te me) :
    SE F (tLc wi gt tt te vs) (fun ρ => bnd (mi ρ) fun us => bnd (compL (fun v => noex (bnd (asgT a v (wipeE ρ vs)) fun ρ' => bnd (mt ρ') fun b => if b = true then bnd (me ρ') fun x => Ev.ret (some x) else Ev.ret none)) us) (mkList mu)) := fun g w ρ S σ H Q R E p => by
  refine hi g w ρ S σ H _ R E ?_
  dsimp only at p
  unfold bnd at p
  cases ei : mi ρ S with
  | ex e S' => rw [ei] at p; exact fun w' H' c d => p w' H' c d
  | no => rw [ei] at p; exact p
  | ok us S1 =>
    rw [ei] at p
    intro w1 H1 J e1 R1 ok D hD
    generalize hbody : (fun v => noex (bnd (asgT a v (wipeE ρ vs)) fun ρ' => bnd (mt ρ') fun b => if b = true then bnd (me ρ') fun x => Ev.ret (some x) else Ev.ret none)) = body at p
    have p : PO F (RV F.K) g w σ Q (bnd (compL body us) (mkList mu) S1) := by rw [← hbody]; exact p
    have hx : ∀ v S e S', body v S ≠ .ex e S' := fun v S e S' h => by rw [← hbody] at h; exact noex_ex h
    have p : PO F (RV F.K) g w1 σ Q (bnd (bnd (compL body us) fun r => Ev.ret ([] ++ r)) (mkList mu) S1) := by
      have : bnd (bnd (compL body us) fun r => Ev.ret ([] ++ r)) (mkList mu) S1 = bnd (compL body us) (mkList mu) S1 := by
        unfold bnd
        cases e : compL body us S1 <;> simp
      rw [this]
      exact PO.ext e1 p
    refine ⟨fun i k H => ∃ w' S acc xs, Ext w1 w' ∧ RS F.K (g.hold w1 D (.lst xs)) w' S H ∧ RVs F.K w' acc xs ∧ k = us.length - i ∧ i ≤ us.length ∧ PO F (RV F.K) g w' σ Q (bnd (bnd (compL body (us.drop i)) fun r => Ev.ret (acc ++ r)) (mkList mu) S),
      ⟨us.length, w1, S1, [], [], .refl _, R1.hold hD, .nil, rfl, Nat.zero_le _, p⟩, ?_⟩
    rintro i k H2 ⟨w2, S2, acc, xs, e2, R2, rv2, rfl, hl, p2⟩
    have gl : Gle g (g.hold w1 D (.lst xs)) := fun b o e => by show upd g.out D _ b = _; rw [upd_ne (ne_of_none e (R1.outfree hD))]; exact e
    have it := ok _ w2 S2 H2 gl e2 R2 i
    by_cases hi : i < us.length
    · have ev : us[i]? = some us[i] := List.getElem?_eq_getElem hi
      obtain ⟨go, yl⟩ := it.1 _ ev
      refine .inr ⟨go, fun H => ∃ w' S acc xs, Ext w1 w' ∧ RS F.K (g.hold w1 D (.lst xs)) w' S H ∧ RVs F.K w' acc xs ∧ PO F (RV F.K) g w' σ Q (bnd (bnd (compL body (us.drop (i + 1))) fun r => Ev.ret (acc ++ r)) (mkList mu) S),
        fun H' ⟨w', S, acc, xs, a1, a2, a3, a4⟩ => ⟨us.length - (i + 1), by omega, w', S, acc, xs, a1, a2, a3, rfl, hi, a4⟩, fun x H3 y => ?_⟩
      obtain ⟨w3, e3, R3, r3⟩ := yl x H3 y
      rw [List.drop_eq_getElem_cons hi] at p2
      have p3 := PO.ext e3 p2
      have E3 : RE F.K w3 (wipeE ρ vs) (wipe σ vs) := ((E.mono (e1.trans e2)).wipe vs).mono e3
      refine hg (g.hold w1 D (.lst xs)) w3 _ S2 _ H3 _ us[i] x R3 E3 r3 ?_
      cases eb : body us[i] S2 with
      | no =>
        have z : bnd (bnd (compL body (us[i] :: us.drop (i + 1))) fun r => Ev.ret (acc ++ r)) (mkList mu) S2 = .no := by
          have z1 : compL body (us[i] :: us.drop (i + 1)) S2 = .no := by show bnd (body us[i]) _ S2 = _; unfold bnd; rw [eb]
          have z2 : bnd (compL body (us[i] :: us.drop (i + 1))) (fun r => Ev.ret (acc ++ r)) S2 = .no := by unfold bnd; rw [z1]
          rw [bnd, z2]
        rw [z] at p3
        exact p3.elim
      | ex _ _ => exact (hx _ _ _ _ eb).elim
      | ok o S4 =>
        rw [compL_step eb] at p3
        rw [← hbody] at eb
        have eb := noex_ok eb
        unfold bnd at eb
        cases ea : asgT a us[i] (wipeE ρ vs) S2 with
        | ex _ _ => rw [ea] at eb; cases eb
        | no => rw [ea] at eb; cases eb
        | ok ρ' S5 =>
          rw [ea] at eb
          intro w4 σ4 H4 e4 R4 E4 m4
          refine ⟨by rw [m4 vs ho, wipe_idem], ?_⟩
          refine ht _ w4 ρ' S5 σ4 H4 _ R4 E4 ?_
          cases et : mt ρ' S5 with
          | ex _ _ => simp only [et] at eb; cases eb
          | no => simp only [et] at eb; cases eb
          | ok b S6 =>
            simp only [et] at eb
            intro w5 H5 e5 R5
            cases b with
            | false =>
              have eb : Res.ok none S6 = .ok o S4 := eb
              cases eb
              have p4 := PO.ext (e4.trans e5) p3
              rw [show acc ++ (none : Option Val).toList = acc from List.append_nil acc] at p4
              rw [if_neg (by decide)]
              exact ⟨w5, _, acc, xs, ((e2.trans e3).trans e4).trans e5, R5, rv2.mono ((e3.trans e4).trans e5), p4⟩
            | true =>
              have eb : bnd (me ρ') (fun x => Ev.ret (some x)) S6 = .ok o S4 := eb
              unfold bnd at eb
              rw [if_pos rfl]
              refine he _ w5 ρ' S6 σ4 H5 _ R5 (E4.mono e5) ?_
              cases em : me ρ' S6 with
              | ex _ _ => rw [em] at eb; cases eb
              | no => rw [em] at eb; cases eb
              | ok y S7 =>
                rw [em] at eb
                have eb : Res.ok (some y) S7 = .ok o S4 := eb
                cases eb
                intro w6 H6 yv e6 R6 r6
                have e26 := ((e3.trans e4).trans e5).trans e6
                have p4 := PO.ext ((e4.trans e5).trans e6) p3
                have rv6 := RVs.snoc (rv2.mono e26) r6
                refine ⟨xs, R6.held, ?_, w6, _, acc ++ [y], xs ++ [yv], e2.trans e26, R6.rehold (R1.Ifree hD), rv6, p4⟩
                have hlen := compL_len (fun z => by rw [z] at p4; exact p4) hx
                rw [← rv2.length]
                simp only [Option.toList, List.length_append, List.length_cons, List.length_nil] at hlen
                omega
    · have hi' : i = us.length := by omega
      subst hi'
      rw [List.drop_length] at p2
      refine .inl ⟨it.2 (Nat.le_refl _), ?_⟩
      have p2 : PO F (RV F.K) g w2 σ Q (mkList mu (acc ++ []) S2) := p2
      rw [List.append_nil] at p2
      unfold mkList at p2
      by_cases hz : acc.length ≤ sizeLine
      · rw [if_pos hz] at p2
        cases mu with
        | true =>
          have p2 : PO F (RV F.K) g w2 σ Q (.ok (.r S2.length) (S2 ++ [.lst acc])) := p2
          have e3 : Ext w2 (w2.new D) := .new
          refine p2 (w2.new D) H2 (.ref D) e3 (RS.held_new R1 hD R2 (.lst rv2)) ?_
          have r : RV F.K (w2.new D) (.r w2.k) (.ref ((w2.new D).α w2.k)) := .r (Nat.lt_succ_self _)
          rw [Wd.new_at] at r
          rw [R2.len]
          exact r
        | false =>
          cases ea : allD acc with
          | none => simp only [ea] at p2; exact p2.elim
          | some ds =>
            simp only [ea] at p2
            have p2 : PO F (RV F.K) g w2 σ Q (.ok (.d (.list ds)) S2) := p2
            have e3 : Ext w2 (w2.put D (.lst xs)) := .put (R2.heldI (R1.Ifree hD))
            exact p2 _ H2 (.ref D) e3 (RS.held_put R1 hD R2) (.d (.list upd_same ((rv2.data ea).mono e3.I)))
      · rw [if_neg hz] at p2; exact p2.elim
end
end Ev
end
section
set_option Elab.async false
set_option linter.all false
set_option maxRecDepth 100000
namespace Ev
open PySem PySem.Spec L2
section
variable {F : Fx}
theorem pi_bind {β : Type} {P : Wd → Res β → Prop} {Q1 : List V → Hp → Prop} {m : M (List Val)} {f : List Val → M β} {S : List Cell} {g : Gh} {w : Wd} {σ : St}
    (h : P w (bnd m f S)) (hx : ∀ e S' w' H' c d, P w (.ex e S') → Ext w w' → RS F.K g w' S' H' → RX F.cA w' e c d H' → F.W c d σ H') (hn : ¬ P w .no)
    (k : ∀ v S' w' H' x, Ext w w' → RS F.K g w' S' H' → RVs F.K w' v x → P w (f v S') → Q1 x H') : PA' F g w σ Q1 (m S) := pa_bind h hx hn k
theorem PI'.ext {g : Gh} {w w' : Wd} {σ : St} {Q : L2.It → Hp → Prop} {r : Res (List Val)} (e : Ext w w') (h : PI' (F := F) g w σ Q r) : PI' (F := F) g w' σ Q r := by
  match r, h with
  | .ok v S', h => exact fun w2 H2 J e2 => h w2 H2 J (e.trans e2)
  | .ex _ S', h => exact fun w2 H2 c d e2 => h w2 H2 c d (e.trans e2)
  | .no, h => exact h
theorem SI.args {t : TA} {m : Env → M (List Val)} {f : List Val → M (List Val)} {r : List V → Hp → (L2.It → Hp → Prop) → Prop} (ha : SA F t m)
    (hr : ∀ g w S σ H Q us xs, RS F.K g w S H → RVs F.K w us xs → PI' (F := F) g w σ Q (f us S) → r xs H Q) : SI (F := F) (fun σ H R => t σ H fun vs H1 => r vs H1 R) (fun ρ => bnd (m ρ) f) := fun g w ρ S σ H Q R E h =>
  ha g w ρ S σ H _ R E (pa_bind (P := fun w r => PI' (F := F) g w σ Q r) h (fun e S' w' H' c d p => p w' H' c d) (fun p => p) fun u S1 w1 H1 x e1 R1 r1 p => hr g w1 S1 σ H1 Q u x R1 r1 (p.ext e1))
theorem SI.one {t : TE} {m : Env → M Val} {f : Val → M (List Val)} {r : V → Hp → (L2.It → Hp → Prop) → Prop} (ha : SE F t m)
    (hr : ∀ g w S σ H Q us xs, RS F.K g w S H → RV F.K w us xs → PI' (F := F) g w σ Q (f us S) → r xs H Q) : SI (F := F) (fun σ H R => t σ H fun vs H1 => r vs H1 R) (fun ρ => bnd (m ρ) f) := fun g w ρ S σ H Q R E h =>
  ha g w ρ S σ H _ R E (po_bind (P := fun w r => PI' (F := F) g w σ Q r) h (fun e S' w' H' c d p => p w' H' c d) (fun p => p) fun u S1 w1 H1 x e1 R1 r1 p => hr g w1 S1 σ H1 Q u x R1 r1 (p.ext e1))
section
variable {g : Gh} {w : Wd} {S : List Cell} {σ : St} {H : Hp} {Q : L2.It → Hp → Prop}
theorem pi_guard {b : Bool} {m : M (List Val)} (h : PI' (F := F) g w σ Q (guardM b m S)) : b = true ∧ PI' (F := F) g w σ Q (m S) := by
  cases b with
  | true => exact ⟨rfl, h⟩
  | false => exact h.elim
theorem okR_iff {i : Int} (h : okR i = true) : -(2 ^ 62) ≤ i ∧ i < 2 ^ 62 := by
  unfold okR at h
  simpa using h
theorem pi_viewI {v : Val} {f : PyData → M (List Val)} (h : PI' (F := F) g w σ Q (bnd (viewI v) f S)) : ∃ d, vw S v = some d ∧ (∀ n, v ≠ .r n) ∧ PI' (F := F) g w σ Q (f d S) := by
  rcases viewI_res v S with ⟨d, e, ev, hn⟩ | e
  · unfold bnd at h
    rw [e] at h
    exact ⟨d, ev, hn, h⟩
  · unfold bnd at h
    rw [e] at h
    exact h.elim
theorem rng1_snd {us : List Val} {xs : List V} (R : RS F.K g w S H) (r : RVs F.K w us xs) (hl : us.length = 1) (h : PI' (F := F) g w σ Q (rngM us S)) : ∃ j : Int, xs = [.int j] ∧ -(2 ^ 62) ≤ j ∧ j < 2 ^ 62 ∧ Q (Itr 0 j.toNat) H := by
  unfold rngM at h
  split at h
  · rename_i n
    cases r with
    | cons a b =>
      cases b
      cases a with
      | d a =>
        cases a
        obtain ⟨b, q⟩ := pi_guard h
        exact ⟨n, rfl, (okR_iff b).1, (okR_iff b).2, q w H _ (.refl _) R (Itr_ok 0 n.toNat)⟩
  · simp at hl
  · exact h.elim
theorem rng2_snd {us : List Val} {xs : List V} (R : RS F.K g w S H) (r : RVs F.K w us xs) (hl : us.length = 2) (h : PI' (F := F) g w σ Q (rngM us S)) :
    ∃ i j : Int, xs = [.int i, .int j] ∧ (-(2 ^ 62) ≤ i ∧ i < 2 ^ 62 ∧ -(2 ^ 62) ≤ j ∧ j < 2 ^ 62) ∧ Q (Itr i (j - i).toNat) H := by
  unfold rngM at h
  split at h
  · simp at hl
  · rename_i lo hi
    cases r with
    | cons a b =>
      cases b with
      | cons b c =>
        cases c
        cases a with
        | d a =>
          cases a
          cases b with
          | d b =>
            cases b
            obtain ⟨b, q⟩ := pi_guard h
            have b' : okR lo = true ∧ okR hi = true := by simpa using b
            exact ⟨lo, hi, rfl, ⟨(okR_iff b'.1).1, (okR_iff b'.1).2, (okR_iff b'.2).1, (okR_iff b'.2).2⟩, q w H _ (.refl _) R (Itr_ok lo _)⟩
  · exact h.elim
theorem enu_snd {us : List Val} {xs : List V} (R : RS F.K g w S H) (r : RVs F.K w us xs) (h : PI' (F := F) g w σ Q (enuM us S)) : ∃ a ys, xs = [.ref a] ∧ SqL F.K H a ys ∧ Q (Ite F.K a) H := by
  unfold enuM at h
  split at h
  · rename_i v
    obtain ⟨d, ed, hn, h⟩ := pi_viewI h
    cases r with
    | cons r0 b =>
      cases b
      cases d with
      | list ds =>
        obtain ⟨a, ys, rfl, rd, st⟩ := stays_l (g := g) r0 ed hn
        exact ⟨a, ys, rfl, st g w S H (.refl g) (.refl w) R, h w H _ (.refl _) R (Ite_ok st rd)⟩
      | _ => exact h.elim
  · exact h.elim
theorem ItzT_ok {a b : Addr} {xs ys : List V} {ds es : List PyData} (hl : ∀ g' w1 S H, Gle g g' → Ext w w1 → RS F.K g' w1 S H → SqT F.K H a xs ∧ SqT F.K H b ys) (rd : RDs w.I ds xs) (re : RDs w.I es ys) : ItOk F g w (zipL ds es) (RZ.ItzT F.K a b) := fun g' w1 S H gl e R i => by
  obtain ⟨q, q'⟩ := hl g' w1 S H gl e R
  refine ⟨fun v ev => ?_, fun hi => ⟨xs, ys, q, q', by rw [zipL_length] at hi; rw [← rd.length, ← re.length]; omega⟩⟩
  obtain ⟨d, e', ed, ee, rfl⟩ := zipL_get ds es i v ev
  obtain ⟨x, ex, rx⟩ := rd.get ed
  obtain ⟨y, ey, ry⟩ := re.get ee
  refine ⟨⟨xs, ys, x, y, q, q', ex, ey⟩, fun v H' yl => ?_⟩
  obtain ⟨T, x', y', rfl, hT, rfl, z1, z2⟩ := yl
  have e2 := z1 xs q
  rw [ex] at e2
  obtain rfl := Option.some.inj e2
  have e2 := z2 ys q'
  rw [ey] at e2
  obtain rfl := Option.some.inj e2
  have e3 : Ext w1 (w1.put T (.tup [x, y])) := .put (R.Ifree hT)
  exact ⟨_, e3, R.put hT, .d (.tuple upd_same (.cons (rx.mono (e.trans e3).I) (.cons (ry.mono (e.trans e3).I) .nil)))⟩
theorem zip_snd {us : List Val} {xs : List V} (R : RS F.K g w S H) (r : RVs F.K w us xs) (h : PI' (F := F) g w σ Q (zipM us S)) :
    ∃ a b ys zs, xs = [.ref a, .ref b] ∧ ((SqL F.K H a ys ∧ SqL F.K H b zs ∧ Q (Itz F.K a b) H) ∨ (SqT F.K H a ys ∧ SqT F.K H b zs ∧ Q (RZ.ItzT F.K a b) H)) := by
  unfold zipM at h
  split at h
  · rename_i v u
    obtain ⟨d, ed, hn, h⟩ := pi_viewI h
    obtain ⟨e, ee, hn2, h⟩ := pi_viewI h
    cases r with
    | cons r0 b =>
      cases b with
      | cons r1 c =>
        cases c
        cases d with
        | list ds =>
          cases e with
          | list es =>
            obtain ⟨a, ys, rfl, rd, st⟩ := stays_l (g := g) r0 ed hn
            obtain ⟨b, zs, rfl, re, st2⟩ := stays_l (g := g) r1 ee hn2
            exact ⟨a, b, ys, zs, rfl, .inl ⟨st g w S H (.refl g) (.refl w) R, st2 g w S H (.refl g) (.refl w) R, h w H _ (.refl _) R (Itz_ok (fun g' w1 S H gl e R => ⟨st g' w1 S H gl e R, st2 g' w1 S H gl e R⟩) rd re)⟩⟩
          | _ => exact h.elim
        | tuple ds =>
          cases e with
          | tuple es =>
            obtain ⟨a, ys, rfl, rd, st⟩ := stays_t (g := g) r0 ed hn
            obtain ⟨b, zs, rfl, re, st2⟩ := stays_t (g := g) r1 ee hn2
            exact ⟨a, b, ys, zs, rfl, .inr ⟨st g w S H (.refl g) (.refl w) R, st2 g w S H (.refl g) (.refl w) R, h w H _ (.refl _) R (ItzT_ok (fun g' w1 S H gl e R => ⟨st g' w1 S H gl e R, st2 g' w1 S H gl e R⟩) rd re)⟩⟩
          | _ => exact h.elim
        | _ => exact h.elim
  · exact h.elim
theorem get_rev {α : Type} {xs : List α} {i : Nat} (h : i < xs.length) : xs.reverse[i]? = xs[xs.length - 1 - i]? := List.getElem?_reverse h
theorem Itv_ok {a : Addr} {xs : List V} {ds : List PyData} (hl : ∀ g' w1 S H, Gle g g' → Ext w w1 → RS F.K g' w1 S H → SqL F.K H a xs) (rd : RDs w.I ds xs) : ItOk F g w (ds.reverse.map .d) (Itv F.K a xs.length) := fun g' w1 S H gl e R i => by
  have q := hl g' w1 S H gl e R
  have lr : (ds.reverse.map Val.d).length = xs.length := by rw [List.length_map, List.length_reverse, rd.length]
  refine ⟨fun v ev => ?_, fun hi => by rw [lr] at hi; exact hi⟩
  have hi : i < xs.length := by rw [← lr]; exact (List.getElem?_eq_some_iff.mp ev).1
  rw [List.getElem?_map, get_rev (by rw [rd.length]; exact hi), rd.length] at ev
  obtain ⟨d, ed, rfl⟩ := Option.map_eq_some_iff.mp ev
  obtain ⟨x, ex, rx⟩ := rd.get ed
  refine ⟨⟨hi, xs, x, q, ex⟩, fun v H' y => ?_⟩
  obtain ⟨rfl, y⟩ := y
  have e2 := y xs q
  rw [ex] at e2
  obtain rfl := Option.some.inj e2
  exact ⟨w1, .refl _, R, .d (rx.mono e.I)⟩
theorem ItvT_ok {a : Addr} {xs : List V} {ds : List PyData} (hl : ∀ g' w1 S H, Gle g g' → Ext w w1 → RS F.K g' w1 S H → SqT F.K H a xs) (rd : RDs w.I ds xs) : ItOk F g w (ds.reverse.map .d) (RT.ItvT F.K a xs.length) := fun g' w1 S H gl e R i => by
  have q := hl g' w1 S H gl e R
  have lr : (ds.reverse.map Val.d).length = xs.length := by rw [List.length_map, List.length_reverse, rd.length]
  refine ⟨fun v ev => ?_, fun hi => by rw [lr] at hi; exact hi⟩
  have hi : i < xs.length := by rw [← lr]; exact (List.getElem?_eq_some_iff.mp ev).1
  rw [List.getElem?_map, get_rev (by rw [rd.length]; exact hi), rd.length] at ev
  obtain ⟨d, ed, rfl⟩ := Option.map_eq_some_iff.mp ev
  obtain ⟨x, ex, rx⟩ := rd.get ed
  refine ⟨⟨hi, xs, x, q, ex⟩, fun v H' y => ?_⟩
  obtain ⟨rfl, y⟩ := y
  have e2 := y xs q
  rw [ex] at e2
  obtain rfl := Option.some.inj e2
  exact ⟨w1, .refl _, R, .d (rx.mono e.I)⟩
theorem rev_it_snd {v : Val} {x : V} (R : RS F.K g w S H) (r : RV F.K w v x) (h : PI' (F := F) g w σ Q (revM v S)) :
    ∃ (a : Addr) (xs : List V), x = .ref a ∧ ((SqL F.K H a xs ∧ Q (Itv F.K a xs.length) H) ∨ (SqT F.K H a xs ∧ Q (RT.ItvT F.K a xs.length) H)) := by
  unfold revM at h
  obtain ⟨d, ed, hn, h⟩ := pi_viewI h
  cases d with
  | list ds =>
    obtain ⟨a, ys, rfl, rd, st⟩ := stays_l (g := g) r ed hn
    exact ⟨a, ys, rfl, .inl ⟨st g w S H (.refl g) (.refl w) R, h w H _ (.refl _) R (Itv_ok st rd)⟩⟩
  | tuple ds =>
    obtain ⟨a, ys, rfl, rd, st⟩ := stays_t (g := g) r ed hn
    exact ⟨a, ys, rfl, .inr ⟨st g w S H (.refl g) (.refl w) R, h w H _ (.refl _) R (ItvT_ok st rd)⟩⟩
  | _ => exact h.elim
end
theorem SI.rng1 {ta : TA} {m : Env → M (List Val)} (ha : SA F ta m) (hl : ∀ ρ S vs S', m ρ S = .ok vs S' → vs.length = 1) : SI (F := F) (iRng1 ta) (fun ρ => bnd (m ρ) rngM) := fun g w ρ S σ H Q R E h =>
  ha g w ρ S σ H _ R E (by
    dsimp only at h
    unfold bnd at h
    cases e : m ρ S with
    | ok vs S1 => rw [e] at h; exact fun w1 H1 xs e1 R1 r1 => rng1_snd R1 r1 (hl _ _ _ _ e) (PI'.ext e1 h)
    | ex _ _ => rw [e] at h; exact fun w' H' c d => h w' H' c d
    | no => rw [e] at h; exact h)
theorem SI.rng2 {ta : TA} {m : Env → M (List Val)} (ha : SA F ta m) (hl : ∀ ρ S vs S', m ρ S = .ok vs S' → vs.length = 2) : SI (F := F) (iRng2 ta) (fun ρ => bnd (m ρ) rngM) := fun g w ρ S σ H Q R E h =>
  ha g w ρ S σ H _ R E (by
    dsimp only at h
    unfold bnd at h
    cases e : m ρ S with
    | ok vs S1 => rw [e] at h; exact fun w1 H1 xs e1 R1 r1 => rng2_snd R1 r1 (hl _ _ _ _ e) (PI'.ext e1 h)
    | ex _ _ => rw [e] at h; exact fun w' H' c d => h w' H' c d
    | no => rw [e] at h; exact h)
theorem SI.enu {ta : TA} {m : Env → M (List Val)} (ha : SA F ta m) : SI (F := F) (iEnum F.K ta) (fun ρ => bnd (m ρ) enuM) := SI.args ha fun g w S σ H Q us xs R r h => enu_snd R r h
theorem SI.zip {ta : TA} {m : Env → M (List Val)} (ha : SA F ta m) : SI (F := F) (RZ.iZipA F.K ta) (fun ρ => bnd (m ρ) zipM) := SI.args ha fun g w S σ H Q us xs R r h => zip_snd R r h
theorem SI.rev {ta : TE} {m : Env → M Val} (ha : SE F ta m) : SI (F := F) (RT.iRevA F.K ta) (fun ρ => bnd (m ρ) revM) := SI.one ha fun g w S σ H Q us xs R r h => rev_it_snd R r h

theorem SE.andV {ta tb : TE} {ma mb : Env → M Val} (ha : SE F ta ma) (hb : SE F tb mb) : SE F (tAndV ta tb) (fun ρ => bnd (ma ρ) fun v => bnd (truB v) fun b => if b = true then mb ρ else Ev.ret (.d (.bool false))) := fun g w ρ S σ H Q R E q =>
  ha g w ρ S σ H _ R E (po_bind (P := fun w r => PO F (RV F.K) g w σ Q r) q (fun e S' w' H' c d p => p w' H' c d) (fun p => p) fun v S1 w1 H1 x e1 R1 r1 p => by
    obtain ⟨b, rfl, p⟩ := tru_inv (P := fun r => PO F (RV F.K) g w σ Q r) p (fun z => z)
    cases r1 with
    | d r1 =>
      cases r1
      refine ⟨b, rfl, ?_⟩
      cases b with
      | true => exact hb g w1 ρ S1 σ H1 Q R1 (E.mono e1) (p.ext e1)
      | false => exact p w1 H1 _ e1 R1 (.d (.bool false)))
theorem SE.orV {ta tb : TE} {ma mb : Env → M Val} (ha : SE F ta ma) (hb : SE F tb mb) : SE F (tOrV ta tb) (fun ρ => bnd (ma ρ) fun v => bnd (truB v) fun b => if b = true then Ev.ret (.d (.bool true)) else mb ρ) := fun g w ρ S σ H Q R E q =>
  ha g w ρ S σ H _ R E (po_bind (P := fun w r => PO F (RV F.K) g w σ Q r) q (fun e S' w' H' c d p => p w' H' c d) (fun p => p) fun v S1 w1 H1 x e1 R1 r1 p => by
    obtain ⟨b, rfl, p⟩ := tru_inv (P := fun r => PO F (RV F.K) g w σ Q r) p (fun z => z)
    cases r1 with
    | d r1 =>
      cases r1
      refine ⟨b, rfl, ?_⟩
      cases b with
      | false => exact hb g w1 ρ S1 σ H1 Q R1 (E.mono e1) (p.ext e1)
      | true => exact p w1 H1 _ e1 R1 (.d (.bool true)))
theorem SE.notV {ta : TE} {ma : Env → M Val} (ha : SE F ta ma) : SE F (tNotV ta) (fun ρ => bnd (ma ρ) fun v => bnd (truB v) fun b => Ev.ret (.d (.bool (!b)))) := fun g w ρ S σ H Q R E q =>
  ha g w ρ S σ H _ R E (po_bind (P := fun w r => PO F (RV F.K) g w σ Q r) q (fun e S' w' H' c d p => p w' H' c d) (fun p => p) fun v S1 w1 H1 x e1 R1 r1 p => by
    obtain ⟨b, rfl, p⟩ := tru_inv (P := fun r => PO F (RV F.K) g w σ Q r) p (fun z => z)
    cases r1 with
    | d r1 =>
      cases r1
      exact ⟨b, rfl, p w1 H1 _ e1 R1 (.d (.bool _))⟩)
theorem SE.neg {ta : TE} {ma : Env → M Val} (ha : SE F ta ma) : SE F (tUn (rU fun i => .int (-i)) ta) (fun ρ => bnd (ma ρ) negM) := SE.one ha fun g w S σ H Q u x R r h => by
  unfold negM at h
  split at h
  · cases r with
    | d r =>
      cases r
      exact ⟨_, rfl, h w H _ (.refl _) R (.d (.int _))⟩
  · exact h.elim
end
end Ev
end
section
set_option Elab.async false
set_option linter.all false
set_option maxRecDepth 100000
namespace Ev
open PySem PySem.Spec L2
section
variable {F : Fx}
theorem lift_res {α : Type} (o : Option α) (S : List Cell) : (∃ a, o = some a ∧ lift o S = .ok a S) ∨ lift o S = .no := by
  cases o with
  | none => exact .inr rfl
  | some a => exact .inl ⟨a, rfl, rfl⟩
/-- it leaves the store as it is -/
def Pure {α : Type} (m : M α) : Prop := ∀ S, (∃ a, m S = .ok a S) ∨ m S = .no
theorem Pure.lift {α : Type} (o : Option α) : Pure (Ev.lift o) := fun S => (lift_res o S).elim (fun ⟨a, _, h⟩ => .inl ⟨a, h⟩) .inr
theorem Pure.fail {α : Type} : Pure (Ev.fail (α := α)) := fun _ => .inr rfl
theorem Pure.ret {α : Type} (a : α) : Pure (Ev.ret a) := fun _ => .inl ⟨a, rfl⟩
theorem Pure.bnd {α β : Type} {m : M α} {f : α → M β} (h : Pure m) (h2 : ∀ a, Pure (f a)) : Pure (Ev.bnd m f) := fun S => by
  unfold Ev.bnd
  rcases h S with ⟨a, e⟩ | e
  · rw [e]; exact h2 a S
  · rw [e]; exact .inr rfl
theorem Pure.view (v : Val) : Pure (Ev.view v) := fun S => by
  unfold Ev.view
  cases e : vw S v with
  | none => exact .inr rfl
  | some a => exact .inl ⟨a, rfl⟩
theorem Pure.viewd (v : Val) : Pure (Ev.viewd v) := fun S => by
  unfold Ev.viewd
  cases e : vwd S v with
  | none => exact .inr rfl
  | some a => exact .inl ⟨a, rfl⟩
theorem inM_pure (a b : Val) : Pure (inM a b) := by
  unfold inM
  refine .bnd (.viewd a) fun x => ?_
  cases b with
  | r n =>
    intro S
    dsimp only
    cases S[n]? with
    | none => exact Pure.bnd (.view _) (fun y => .lift _) S
    | some c =>
      cases c with
      | dk kvs =>
        dsimp only
        cases keyOf x with
        | none => exact .inr rfl
        | some k => exact .inl ⟨_, rfl⟩
      | dt kvs =>
        dsimp only
        cases keysOf x with
        | none => exact .inr rfl
        | some k => exact .inl ⟨_, rfl⟩
      | _ => exact Pure.bnd (.view _) (fun y => .lift _) S
  | _ => exact .bnd (.view _) fun y => .lift _
theorem cmpM_pure (o : COp) (a b : Val) : Pure (cmpM o a b) := by
  cases o with
  | in_ => exact inM_pure a b
  | nin => exact .bnd (inM_pure a b) fun r => .ret _
  | _ => exact .bnd (.view _) fun x => .bnd (.view _) fun y => .lift _
theorem SE.chn {o p : COp} {ta tb tc : TE} {ma mb mc : Env → M Val} (ha : SE F ta ma) (hb : SE F tb mb) (hc : SE F tc mc) :
    SE F (tChain (rCmp F.K o) (rCmp F.K p) ta tb tc) (fun ρ => bnd (ma ρ) fun x => bnd (mb ρ) fun y => bnd (cmpM o x y) fun r => if r = true then bnd (mc ρ) fun z => bnd (cmpM p y z) fun r => Ev.ret (.d (.bool r)) else Ev.ret (.d (.bool false))) := fun g w ρ S σ H Q R E h =>
  ha g w ρ S σ H _ R E (po_bind (P := fun w r => PO F (RV F.K) g w σ Q r) h (fun e S' w' H' c d p => p w' H' c d) (fun p => p) fun u S1 w1 H1 x e1 R1 r1 p1 =>
    hb g w1 ρ S1 σ H1 _ R1 (E.mono e1) (po_bind (P := fun w r => PO F (RV F.K) g w σ Q r) (p1.ext e1) (fun e S' w' H' c d p => p w' H' c d) (fun p => p) fun v S2 w2 H2 y e2 R2 r2 p2 => by
      have p2 := p2.ext e2
      refine cmp_snd (σ := σ) o R2 (r1.mono e2) r2 ?_
      rcases cmpM_pure o u v S2 with ⟨r, er⟩ | er
      · have p2 : PO F (RV F.K) g w2 σ Q (bnd (cmpM o u v) _ S2) := p2
        rw [bnd_ok er] at p2
        rw [bnd_ok er]
        intro w3 H3 z e3 R3 r3
        cases r3 with
        | d r3 =>
          cases r3
          refine ⟨r, rfl, ?_⟩
          cases r with
          | false => exact p2 w3 H3 _ e3 R3 (.d (.bool false))
          | true =>
            rw [if_pos rfl]
            exact hc g w3 ρ S2 σ H3 _ R3 (E.mono ((e1.trans e2).trans e3)) (po_bind (P := fun w r => PO F (RV F.K) g w σ Q r) (p2.ext e3) (fun e S' w' H' c d p => p w' H' c d) (fun p => p) fun z S4 w4 H4 zv e4 R4 r4 p4 =>
              cmp_snd p R4 (r2.mono (e3.trans e4)) r4 (p4.ext e4))
      · have p2 : PO F (RV F.K) g w2 σ Q (bnd (cmpM o u v) _ S2) := p2
        unfold bnd at p2
        rw [er] at p2
        exact p2.elim))

theorem RKV.put {κ : Type} [DecidableEq κ] {K : PySem.W.Frag} {w : Wd} (k : κ) {u : Val} {y : V} (ry : RV K w u y) {x : List (κ × Val)} {v : List (κ × V)} (r : RKV K w x v) : RKV K w (storeK x k u) (putK v k y) := by
  have ha : ∀ {x : List (κ × Val)} {v : List (κ × V)}, RKV K w x v → (x.any fun kv => decide (kv.1 = k)) = (v.any fun kv => decide (kv.1 = k)) := by
    intro x v r
    induction r with
    | nil => rfl
    | cons h _ ih => rw [List.any_cons, List.any_cons, ih, h.1]
  have hm : ∀ {x : List (κ × Val)} {v : List (κ × V)}, RKV K w x v → RKV K w (x.map fun kv => if kv.1 = k then (kv.1, u) else kv) (v.map fun kv => if kv.1 = k then (kv.1, y) else kv) := by
    intro x v r
    induction r with
    | nil => exact .nil
    | cons h _ ih =>
      rename_i p q _ _ _
      rw [List.map_cons, List.map_cons]
      refine .cons ?_ ih
      by_cases e : p.1 = k
      · rw [if_pos e, if_pos (h.1 ▸ e)]; exact ⟨h.1, ry⟩
      · rw [if_neg e, if_neg (fun z => e (h.1.trans z))]; exact h
  have hs : ∀ {x : List (κ × Val)} {v : List (κ × V)}, RKV K w x v → RKV K w (x ++ [(k, u)]) (v ++ [(k, y)]) := by
    intro x v r
    induction r with
    | nil => exact .cons ⟨rfl, ry⟩ .nil
    | cons h _ ih => exact .cons h ih
  unfold storeK putK
  rw [ha r]
  split
  · exact hm r
  · exact hs r
theorem RKV.length {κ : Type} {K : PySem.W.Frag} {w : Wd} {x : List (κ × Val)} {v : List (κ × V)} (r : RKV K w x v) : x.length = v.length := Paired.length r
def rPut : TSet := fun o i v H Q => rSetL o i v H Q ∨ rSetD o i v H Q
theorem set_put {X : Cx} (hu : X.A.units + 1 < cLine) : PSet X rPut := fun pins s σ H o i v ov iv u Q I ro ri rv h =>
  h.elim (set_list pins s σ H o i v ov iv u Q I ro ri rv) (set_dict hu pins s σ H o i v ov iv u Q I ro ri rv)
theorem put_snd {g : Gh} {w : Wd} {S : List Cell} {σ : St} {H : Hp} {P : Unit → Hp → Prop} {x y v : Val} {o i z : V} (R : RS F.K g w S H) (rx : RV F.K w x o) (ry : RV F.K w y i) (rv : RV F.K w v z) (h : PB F g w σ P (putM x y v S)) :
    rPut o i z H (P ()) := by
  unfold putM at h
  cases ry with
  | @d y i ry =>
    have ru := ry.ru R
    cases rx with
    | @r n hn =>
      have fin : ∀ {c c' : Cell} {u : HO}, S[n]? = some c → c.live = true → RC F.K w c' u → c'.live = true → PB F g w σ P (.ok () (S.set n c')) → P () (upd H (w.α n) u) := fun {c c' u} ec l r l' h => h w _ (.refl _) (R.set ec l r l')
      cases ec : S[n]? with
      | none => simp only [ec] at h; exact h.elim
      | some c =>
        cases c with
        | lst xs =>
          obtain ⟨ho, a1, b1, _⟩ := R.cell n _ ec rfl
          cases b1 with
          | lst b1 =>
            cases y with
            | int k =>
              simp only [ec] at h
              cases ej : ixN xs.length k with
              | none => simp only [ej] at h; exact h.elim
              | some j =>
                simp only [ej] at h
                cases ry
                exact .inl ⟨_, _, k, j, rfl, rfl, a1, by rw [← b1.length]; exact ej, fin ec rfl (.lst (RVs.set rv j b1)) rfl h⟩
            | _ => simp only [ec] at h; exact h.elim
        | dk kvs =>
          obtain ⟨ho, a1, b1, _⟩ := R.cell n _ ec rfl
          cases b1 with
          | dk b1 =>
            simp only [ec] at h
            cases ek : keyOf y with
            | none => simp only [ek] at h; exact h.elim
            | some k =>
              simp only [ek] at h
              by_cases hl : kvs.length < sizeLine
              · rw [if_pos hl] at h
                have hv : i = kV k := by
                  cases ru with
                  | flat e2 => exact Option.some.inj (e2.symm.trans (keyOf_flat ek))
                  | _ => cases ek
                exact .inr ⟨_, _, rfl, .inl ⟨_, k, a1, hv, by rw [← b1.length]; exact hl, rfl⟩, fin ec rfl (.dk (RKV.put k rv b1)) rfl h⟩
              · rw [if_neg hl] at h; exact h.elim
        | dt kvs =>
          obtain ⟨ho, a1, b1, _⟩ := R.cell n _ ec rfl
          cases b1 with
          | dt b1 =>
            simp only [ec] at h
            cases ek : keysOf y with
            | none => simp only [ek] at h; exact h.elim
            | some k =>
              simp only [ek] at h
              by_cases hl : kvs.length < sizeLine
              · rw [if_pos hl] at h
                obtain ⟨b, rfl, eb⟩ := ru.keys ek
                exact .inr ⟨_, _, rfl, .inr ⟨_, k, b, a1, rfl, eb, by rw [← b1.length]; exact hl, rfl⟩, fin ec rfl (.dt (RKV.put k rv b1)) rfl h⟩
              · rw [if_neg hl] at h; exact h.elim
        | _ => simp only [ec] at h; exact h.elim
    | _ => exact h.elim
  | _ => cases x <;> exact h.elim
/-- o[i] = e -/
theorem SS.sub {te to ti : TE} {me mo mi : Env → M Val} (he : SE F te me) (ho : SE F to mo) (hi : SE F ti mi) :
    SS F (tAsg te (gSub to ti rPut)) (fun ρ => bnd (me ρ) fun v => bnd (mo ρ) fun x => bnd (mi ρ) fun y => bnd (putM x y v) fun _ => Ev.ret (.nx ρ)) := fun g w ρ S σ H D R E p =>
  he g w ρ S σ H _ R E (po_bind (P := fun w r => PF F g w D r) p (pf_ex σ) (fun p => p) fun v S1 w1 H1 x e1 R1 r1 p =>
    ho g w1 ρ S1 σ H1 _ R1 (E.mono e1) (po_bind (P := fun w r => PF F g w D r) (PF.ext e1 p) (pf_ex σ) (fun p => p) fun v2 S2 w2 H2 x2 e2 R2 r2 p2 =>
      hi g w2 ρ S2 σ H2 _ R2 (E.mono (e1.trans e2)) (po_bind (P := fun w r => PF F g w D r) (PF.ext e2 p2) (pf_ex σ) (fun p => p) fun v3 S3 w3 H3 x3 e3 R3 r3 p3 =>
        put_snd (σ := σ) (P := fun _ H' => D.nx σ H') R3 (r2.mono e3) r3 (r1.mono (e2.trans e3)) (by
          have p3 := PF.ext e3 p3
          unfold bnd at p3
          cases e : putM v2 v3 v S3 with
          | ok u S4 => rw [e] at p3; exact fun w4 H4 e4 R4 => p3 w4 σ H4 e4 R4 (E.mono (((e1.trans e2).trans e3).trans e4))
          | ex _ _ => rw [e] at p3; exact fun w' H' c d => p3 w' σ H' c d
          | no => rw [e] at p3; exact p3))))
/-- a, b = x, y -/
theorem SS.par {i j : Nat} {ta : TA} {m : Env → M (List Val)} (ha : SA F ta m) : SS F (tPar i j ta) (fun ρ => bnd (m ρ) (parM [i, j] ρ)) := fun g w ρ S σ H D R E p =>
  ha g w ρ S σ H _ R E (pa_bind (P := fun w r => PF F g w D r) p (pf_ex σ) (fun p => p) fun vs S1 w1 H1 xs e1 R1 r1 p => by
    cases r1 with
    | nil => exact p.elim
    | cons a b =>
      cases b with
      | nil => exact p.elim
      | cons b c =>
        cases c with
        | nil => exact ⟨_, _, rfl, p w1 _ H1 e1 R1 (((E.mono e1).set i a).set j b)⟩
        | cons _ _ => exact p.elim)
theorem SS.par3 {i j l : Nat} {ta : TA} {m : Env → M (List Val)} (ha : SA F ta m) : SS F (tPar3 i j l ta) (fun ρ => bnd (m ρ) (parM [i, j, l] ρ)) := fun g w ρ S σ H D R E p =>
  ha g w ρ S σ H _ R E (pa_bind (P := fun w r => PF F g w D r) p (pf_ex σ) (fun p => p) fun vs S1 w1 H1 xs e1 R1 r1 p => by
    cases r1 with
    | nil => exact p.elim
    | cons a b =>
      cases b with
      | nil => exact p.elim
      | cons b c =>
        cases c with
        | nil => exact p.elim
        | cons c d =>
          cases d with
          | nil => exact ⟨_, _, _, rfl, p w1 _ H1 e1 R1 ((((E.mono e1).set i a).set j b).set l c)⟩
          | cons _ _ => exact p.elim)
def opA : BOp → Option Operator
  | .add => some .Add
  | .sub => some .Sub
  | _ => none
def rAug : BOp → TIp
  | .add => fun x y H Q => rI0 (fun i j => .int (i + j)) x y H Q ∨ ∃ i j, x = .str i ∧ y = .str j ∧ i.length + j.length ≤ sizeLine ∧ Q (.str (i ++ j)) H
  | .sub => rI0 fun i j => .int (i - j)
  | _ => fun _ _ _ _ => False
theorem aug_snd (o : BOp) {g : Gh} {w : Wd} {S : List Cell} {σ : St} {H : Hp} {Q : VK} {a b : Val} {x y : V} (R : RS F.K g w S H) (ra : RV F.K w a x) (rb : RV F.K w b y) (h : PO F (RV F.K) g w σ Q (augM o a b S)) : rAug o x y H Q := by
  unfold augM at h
  split at h
  · cases ra with
    | d ra =>
      cases ra
      cases rb with
      | d rb => cases rb; exact .inl ⟨_, _, rfl, rfl, h w H _ (.refl _) R (.d (.int _))⟩
  · cases ra with
    | d ra =>
      cases ra
      cases rb with
      | d rb => cases rb; exact ⟨_, _, rfl, rfl, h w H _ (.refl _) R (.d (.int _))⟩
  · rename_i x y
    by_cases hl : x.length + y.length ≤ sizeLine
    · rw [if_pos hl] at h
      cases ra with
      | d ra =>
        cases ra
        cases rb with
        | d rb => cases rb; exact .inr ⟨_, _, rfl, rfl, hl, h w H _ (.refl _) R (.d (.str _))⟩
    · rw [if_neg hl] at h; exact h.elim
  · exact h.elim
theorem SS.aug {i : Nat} (o : BOp) {te : TE} {me : Env → M Val} (he : SE F te me) :
    SS F (tAug i te (rAug o)) (fun ρ => bnd (lift (ρ[i]?.join)) fun v => bnd (me ρ) fun w => bnd (augM o v w) fun x => Ev.ret (.nx (ρ.set i (some x)))) := fun g w ρ S σ H D R E p => by
  dsimp only at p
  cases ev : ρ[i]?.join with
  | none => rw [ev] at p; exact p.elim
  | some v =>
    rw [ev] at p
    have p : PF F g w D (bnd (me ρ) (fun w => bnd (augM o v w) fun x => Ev.ret (.nx (ρ.set i (some x)))) S) := p
    have ev' : ρ[i]? = some (some v) := by
      cases e : ρ[i]? with
      | none => rw [e] at ev; cases ev
      | some o => rw [e] at ev; have : o = some v := ev; rw [this]
    obtain ⟨x, ex, rx⟩ := E.at_ i v ev'
    refine ⟨x, ex, he g w ρ S σ H _ R E (po_bind (P := fun w r => PF F g w D r) p (pf_ex σ) (fun p => p) fun v2 S2 w2 H2 x2 e2 R2 r2 p2 => ?_)⟩
    refine aug_snd (σ := σ) o R2 (rx.mono e2) r2 (po_bind (P := fun w r => PF F g w D r) (PF.ext e2 p2) (pf_ex σ) (fun p => p) fun v3 S3 w3 H3 x3 e3 R3 r3 p3 => ?_)
    exact PF.ext e3 p3 w3 _ H3 (.refl _) R3 ((E.mono (e2.trans e3)).set i r3)

def SPs (trs : List (TE × TE)) (m : Env → M (List (Key × Val))) : Prop := ∀ g w ρ S σ H (Q : List (V × V) → Hp → Prop), RS F.K g w S H → RE F.K w ρ σ → (match m ρ S with
  | .ok kvs S' => ∀ w' H' ps, Ext w w' → RS F.K g w' S' H' → RKV F.K w' kvs ps → Q (ps.map fun kv => (kV kv.1, kv.2)) H'
  | .ex e S' => ∀ w' H' c d, Ext w w' → RS F.K g w' S' H' → RX F.cA w' e c d H' → F.W c d σ H'
  | .no => False) → tPairs trs σ H Q
theorem SPs.nil : SPs (F := F) [] (fun _ => Ev.ret []) := fun g w ρ S σ H Q R E h => h w H [] (.refl _) R .nil
def PPr (g : Gh) (w : Wd) (σ : St) (Q : List (V × V) → Hp → Prop) (r : Res (List (Key × Val))) : Prop := match r with
  | .ok kvs S' => ∀ w' H' ps, Ext w w' → RS F.K g w' S' H' → RKV F.K w' kvs ps → Q (ps.map fun kv => (kV kv.1, kv.2)) H'
  | .ex e S' => ∀ w' H' c d, Ext w w' → RS F.K g w' S' H' → RX F.cA w' e c d H' → F.W c d σ H'
  | .no => False
theorem PPr.ext {g : Gh} {w w' : Wd} {σ : St} {Q : List (V × V) → Hp → Prop} {r : Res (List (Key × Val))} (e : Ext w w') (h : PPr (F := F) g w σ Q r) : PPr (F := F) g w' σ Q r := by
  match r, h with
  | .ok v S', h => exact fun w2 H2 J e2 => h w2 H2 J (e.trans e2)
  | .ex _ S', h => exact fun w2 H2 c d e2 => h w2 H2 c d (e.trans e2)
  | .no, h => exact h
theorem SPs.cons {tk tv : TE} {trs : List (TE × TE)} {mk mv : Env → M Val} {m : Env → M (List (Key × Val))} (hk : SE F tk mk) (hv : SE F tv mv) (hr : SPs (F := F) trs m) :
    SPs (F := F) ((tk, tv) :: trs) (fun ρ => bnd (mk ρ) fun x => bnd (mv ρ) fun v => bnd (keyM x) fun k => bnd (m ρ) fun kvs => Ev.ret ((k, v) :: kvs)) := fun g w ρ S σ H Q R E p =>
  hk g w ρ S σ H _ R E (po_bind (P := fun w r => PPr (F := F) g w σ Q r) p (fun e S' w' H' c d p => p w' H' c d) (fun p => p) fun v1 S1 w1 H1 x1 e1 R1 r1 p1 =>
    hv g w1 ρ S1 σ H1 _ R1 (E.mono e1) (po_bind (P := fun w r => PPr (F := F) g w σ Q r) (p1.ext e1) (fun e S' w' H' c d p => p w' H' c d) (fun p => p) fun v2 S2 w2 H2 x2 e2 R2 r2 p2 => by
      have p2 := p2.ext e2
      cases v1 with
      | d y =>
        have p2 : PPr (F := F) g w2 σ Q (bnd (lift (keyOf y)) (fun k => bnd (m ρ) fun kvs => Ev.ret ((k, v2) :: kvs)) S2) := p2
        cases ek : keyOf y with
        | none => rw [ek] at p2; exact p2.elim
        | some k =>
          rw [ek] at p2
          have p2 : PPr (F := F) g w2 σ Q (bnd (m ρ) (fun kvs => Ev.ret ((k, v2) :: kvs)) S2) := p2
          have hx : x1 = kV k := by
            cases r1 with
            | d r1 => cases r1 <;> first | (cases ek; done) | (cases ek; rfl)
          subst hx
          refine hr g w2 ρ S2 σ H2 _ R2 (E.mono (e1.trans e2)) ?_
          unfold bnd at p2
          cases em : m ρ S2 with
          | ok kvs S3 => rw [em] at p2; exact fun w3 H3 ps e3 R3 r3 => p2 w3 H3 ((k, x2) :: ps) e3 R3 (.cons ⟨rfl, r2.mono e3⟩ r3)
          | ex _ _ => rw [em] at p2; exact p2
          | no => rw [em] at p2; exact p2
      | _ => exact p2.elim))
theorem RKV.merge {K : PySem.W.Frag} {w : Wd} {x : List (Key × Val)} {v : List (Key × V)} (r : RKV K w x v) : RKV K w (mergeD x) (mergeK [] v) := by
  have go : ∀ {x : List (Key × Val)} {v : List (Key × V)}, RKV K w x v → ∀ {a : List (Key × Val)} {b : List (Key × V)}, RKV K w a b → RKV K w (x.foldl (fun acc kv => storeK acc kv.1 kv.2) a) (mergeK b v) := by
    intro x v r
    induction r with
    | nil => intro a b h; exact h
    | cons h _ ih =>
      rename_i p q _ _ _
      intro a b hab
      refine ih ?_
      have := RKV.put (κ := Key) p.1 h.2 hab
      rw [show p.1 = q.1 from h.1] at this
      show RKV K w (storeK a p.1 p.2) (putK b q.1 q.2)
      rw [show p.1 = q.1 from h.1]; exact this
  exact go r .nil
theorem SE.dct {trs : List (TE × TE)} {m : Env → M (List (Key × Val))} (mu : Bool) (h : SPs (F := F) trs m) : SE F (tDisp trs) (fun ρ => bnd (m ρ) (mkDict mu)) := fun g w ρ S σ H Q R E p D hD => by
  refine h (g.hold w D (.dK [])) w ρ S σ _ _ (R.hold hD) E ?_
  dsimp only at p
  unfold bnd at p
  cases em : m ρ S with
  | ex e S' =>
    rw [em] at p
    exact fun w' H' c d e' R' rx => by
      have e3 : Ext w' (w'.put D (.dK [])) := .put (R'.heldI (R.Ifree hD))
      obtain ⟨a1, b1, c1, d1, e1, f1⟩ := rx
      exact p _ H' c d (e'.trans e3) (RS.held_put R hD R') ⟨a1, b1, c1, d1, e1, f1.mono e3.I⟩
  | no => rw [em] at p; exact p
  | ok kvs S1 =>
    rw [em] at p
    intro w1 H1 ps e1 R1 r1
    have p : PO F (RV F.K) g w σ Q (mkDict mu kvs S1) := p
    unfold mkDict at p
    by_cases hl : kvs.length ≤ 15
    · rw [if_pos hl] at p
      refine ⟨R1.held, ps, rfl, by rw [← r1.length]; exact hl, ?_⟩
      have rm := RKV.merge r1
      have R2 := R1.rehold (o' := .dK (mergeK [] ps)) (R.Ifree hD)
      cases mu with
      | true =>
        have p : PO F (RV F.K) g w σ Q (.ok (.r S1.length) (S1 ++ [.dk (mergeD kvs)])) := p
        have e3 : Ext w1 (w1.new D) := .new
        refine p (w1.new D) _ (.ref D) (e1.trans e3) (RS.held_new R hD R2 (.dk rm)) ?_
        have r : RV F.K (w1.new D) (.r w1.k) (.ref ((w1.new D).α w1.k)) := .r (Nat.lt_succ_self _)
        rw [Wd.new_at] at r
        rw [R1.len]
        exact r
      | false =>
        cases ea : dkD (mergeD kvs) with
        | none => simp only [ea] at p; exact p.elim
        | some ds =>
          simp only [ea] at p
          have p : PO F (RV F.K) g w σ Q (.ok (.d (.dict ds)) S1) := p
          have e3 : Ext w1 (w1.put D (.dK (mergeK [] ps))) := .put (R1.heldI (R.Ifree hD))
          exact p _ _ (.ref D) (e1.trans e3) (RS.held_put R hD R2) (.d (.dk (.inl upd_same) ((RKV.dk rm ea).mono e3.I)))
    · rw [if_neg hl] at p; exact p.elim
theorem SE.dnil : SE F tDNewK (fun _ => Ev.ret (.d (.dict []))) := fun g w ρ S σ H Q R E h p hp => h _ _ _ (.put (R.Ifree hp)) (R.put hp) (.d (.dk (.inl upd_same) .nil))
theorem SE.dnew (tk : Bool) : SE F (if tk = true then tDNewT else tDNewK) (fun _ => alloc (if tk = true then .dt [] else .dk [])) := fun g w ρ S σ H Q R E h => by
  cases tk with
  | true => exact new_snd R (.dt (kvs := []) (ps := []) .nil) h
  | false => exact new_snd R (.dk (kvs := []) (ps := []) .nil) h
def GlobOk (K : PySem.W.Frag) (v : Val) (x : V) : Prop := ∀ w, RV K w v x
theorem SE.glob {v : Val} {x : V} (h : GlobOk F.K v x) : SE F (tC x) (fun _ => Ev.ret v) := fun g w ρ S σ H Q R E p => p w H x (.refl _) R (h w)
end
end Ev
end
section
set_option Elab.async false
set_option linter.all false
set_option maxRecDepth 100000
namespace Ev
open PySem PySem.Spec L2
open PyProof.Rows hiding St IsTup
structure FnG (P : Program) (w : World) (K : PySem.W.Frag) (mg : Str → Option Value) (base : Heap) (CX : CXT) (k : Nat) (f : Addr) (fd : FuncData) (ps : List Str) (sp : Sp) : Prop where
  len : ∀ vs H Q E, sp vs H Q E → vs.length = ps.length
  run : ∀ (A : Around) (outer : List PySem.Env) (s : Shared) (H : Hp) (args : Args) (us : List Value) (vs : List V) (Q : VK) (E : XK), A.guards = some [] → Room k A → Env0 P w K mg base A outer s H → BindsTo s fd args (ps.zip us) → Vals vs us → sp vs H Q E →
    codeAny (model P w) A (.call (.ref f) args) (CR CX outer P w H s Q E) s
theorem FnG.imp {P : Program} {w : World} {K : PySem.W.Frag} {mg : Str → Option Value} {base : Heap} {CX : CXT} {k : Nat} {f : Addr} {fd : FuncData} {ps : List Str} {sp sp' : Sp} (F : FnG P w K mg base CX k f fd ps sp)
    (h : ∀ vs H Q E, sp' vs H Q E → sp vs H Q E) : FnG P w K mg base CX k f fd ps sp' :=
  ⟨fun vs H Q E q => F.len vs H Q E (h _ _ _ _ q), fun A outer s H args us vs Q E hg hr he hb hv hs => F.run A outer s H args us vs Q E hg hr he hb hv (h _ _ _ _ hs)⟩
theorem guards_deeper {A : Around} {env : PySem.Env} (h : A.guards = some []) : (A.deeper env).guards = some [] := h
/-- a def's body keeps its promise (as fn_of tells it, the guards told on) -/
theorem fnG_of {CX : CXT} {P : Program} {w : World} {K : PySem.W.Frag} {mg : Str → Option Value} {base : Heap} {k : Nat} {f : Addr} {x qual : Str} {params : Arguments} {body : List Stmt} {scope : Scope} {fd : FuncData} {N ps : List Str} {sp : Sp}
    (D : FunD K x qual params body scope [] [] f fd) (S : FnScope N ps scope) (len : ∀ vs H Q E, sp vs H Q E → vs.length = ps.length)
    (hbody : ∀ (cdv : Value) (A : Around) (outer : List PySem.Env) (s : Shared) (H : Hp) (vs : List V) (Q : VK) (E : XK), A.guards = some [] → fd.code = cdv → Room k (A.deeper (envOfC qual scope s.heap.objs.size f cdv)) → sp vs H Q E →
      ∃ t, PSs (cxOf CX P w K mg base N qual scope f cdv A outer s H E) body t ∧ t { nx := fun _ H' => Q .non H', rt := Q } (start N vs) H) : FnG P w K mg base CX (k + 1) f fd ps sp := by
  obtain ⟨oc, od, dV, kV, doc, pm, an, cdv, ct, osl, rfl, lk, hcd, _, _⟩ := D.ex
  refine ⟨len, fun A outer s H args us vs Q E hgd hr e0 hb r hsp => ?_⟩
  have hl := len _ _ _ _ hsp
  have hin : ∀ b o, K.lookup b = some o → s.heap.get? b = some o := fun b o e => (e0.bs b o (e0.mod.kin b o e)).1
  have lim : s.heap.NoLimit := e0.mod.nolimit.keeps fun b o e => (e0.bs b o e).1
  refine codeAny_call_function hr.depth (hin _ _ lk) rfl S.co S.gen rfl (PySem.W.codeRec_of hin hcd) (hb _ _ _ _ ?_)
  refine wpAny_newFunctionEnv_cells S.kind (fun y hy => ?_) fun env he s1 x => ?_
  · rcases S.par y.1 (List.of_mem_zip hy).1 with q | q
    · exact .inl q
    · exact .inr ⟨q, PySem.W.cellsFrom_some _ _ _ (.inl q)⟩
  · subst he
    refine ⟨lim.keeps x.toInCall.keep, codeAny_func ?_⟩
    obtain ⟨t, ht, hq⟩ := hbody cdv A outer s H vs Q E hgd rfl (hr.deeper _) hsp
    refine wpAny_mono (ht.run [] s1 (start N vs) H _ (inv_start S hr.hd e0 hl r x) hq) (fun fl s' hs => ?_) fun e s' hs => hs
    cases fl with
    | ret u => obtain ⟨v, σ', H', J, rv, q⟩ := hs; exact ⟨v, H', J.os, J.bare, J.base, J.hok, rv, q⟩
    | next => obtain ⟨σ', H', J, q⟩ := hs; exact ⟨.non, H', J.os, J.bare, J.base, J.hok, rfl, q⟩
    | brk => obtain ⟨_, _, _, q⟩ := hs; exact q.elim
    | cont => obtain ⟨_, _, _, q⟩ := hs; exact q.elim
section
variable {X : Cx} {CX : CXT} {k : Nat} {f : Addr} {fd : FuncData} {ps ks : List Str} {sp : Sp} {x : Str} {p pos : Pos} {e : Expr} {es : List Expr} {kws : List Keyword} {t tk : TA} {W : WX}
/-- what a body wants of exceptions is met by a callee that lets them out so -/
def PassesW (CX : CXT) (X : Cx) (W : WX) : Prop := ∀ (pins : List (Addr × Obj)) (σ : St) (H : Hp) (s : Shared) (e : Value) (s' : Shared), Inv X pins σ H s → CX X.stack H s (fun c d H' => W c d σ H') e s' → X.xe e s'
theorem run_fnG {pins : List (Addr × Obj)} {σ : St} {H : Hp} {s : Shared} {Q : VK} {args : Args} {us : List Value} {vs : List V} (F : FnG X.prog X.w X.K X.mg X.base CX k f fd ps sp) (hg : X.A.guards = some []) (hr : Room k X.A) (hb : BindsTo s fd args (ps.zip us)) (hx : PassesW CX X W)
    (I : Inv X pins σ H s) (r : Vals vs us) (h : sp vs H Q fun c d H' => W c d σ H') : codeAny (model X.prog X.w) X.A (.call (.ref f) args) (fun r s' => match r with
      | .ok (.ret u) => EP X pins σ Q u s'
      | .ok _ => False
      | .error e => X.xe e s') s := by
  refine codeAny_mono (F.run X.A X.stack s H args us vs Q _ hg hr I.env0 hb r h) fun r s' hq => ?_
  cases r with
  | error e => exact hx pins σ H s e s' I hq
  | ok fl =>
    cases fl with
    | ret u => exact I.after hq
    | next => exact hq.elim
    | brk => exact hq.elim
    | cont => exact hq.elim
def tCallG (W : WX) (sp : Sp) (t : TA) : TE := fun σ H Q => t σ H fun vs H1 => sp vs H1 Q fun c d H' => W c d σ H'
def tCallGK (W : WX) (sp : Sp) (g : List V → List V → List V) (t tk : TA) : TE := fun σ H Q => t σ H fun vs H1 => tk σ H1 fun zs H2 => sp (g vs zs) H2 Q fun c d H' => W c d σ H'
/-- f(e, ..) -/
theorem pe_callG (F : FnG X.prog X.w X.K X.mg X.base CX k f fd ps sp) (hgd : X.A.guards = some []) (hr : Room k X.A) (hg : Gl X x) (hm : X.mg x = some (.ref f)) (hk : PySem.W.keepIn X.K (.ref f) = true) (hb : Binds X.K fd ps []) (hx : PassesW CX X W)
    (ha : PA X (e :: es) t) (hdb : (x == ("__debug__" : Str)) = false) (he : starEach (e :: es) X.env = (false, eval e X.env) :: starEach es X.env) (hpl : (backTo pos (starEach es X.env)).any (·.1) = false) :
    PE X (.Call (.Name x p) (e :: es) [] pos) (tCallG W sp t) := by
  refine ⟨fun pins s σ H Q I h => ?_⟩
  refine wpAny_Call_Name_kw (ld_glob I hg hm ?_ hdb)
  refine PySem.W.callWith_K (h₀ := X.base) I.ok.mod.kin hk (thn (ha.run pos pins s σ H _ I h) fun us s1 ⟨vs, H1, I1, r, q⟩ => ⟨I1.kIn, ?_⟩) he hpl
  have hl : (us ++ []).length = ps.length := by rw [List.append_nil, ← r.length]; exact F.len _ _ _ _ q
  have hb' := hb s1 us I1.kIn hl
  rw [List.append_nil] at hb'
  refine wpAny_call (codeAny_mono (run_fnG F hgd hr hb' hx I1 r q) fun r s' z => ?_)
  rcases r with e | (v | _ | _ | _) <;> first | exact z | exact z.elim
/-- f() -/
theorem pe_callG0 (F : FnG X.prog X.w X.K X.mg X.base CX k f fd ps sp) (hgd : X.A.guards = some []) (hr : Room k X.A) (hg : Gl X x) (hm : X.mg x = some (.ref f)) (hk : PySem.W.keepIn X.K (.ref f) = true) (hb : Binds X.K fd ps []) (hx : PassesW CX X W)
    (hdb : (x == ("__debug__" : Str)) = false) : PE X (.Call (.Name x p) [] [] pos) (tCallG W sp tNil) := by
  refine ⟨fun pins s σ H Q I h => ?_⟩
  refine wpAny_Call_Name_kw (ld_glob I hg hm ?_ hdb)
  have h : sp [] H Q _ := h
  have hl : (([] : List Value) ++ []).length = ps.length := by
    have := F.len _ _ _ _ h
    simpa using this
  refine PySem.W.callWith_K0 I.kIn hk (wpAny_call (codeAny_mono (run_fnG F hgd hr (hb s [] I.kIn hl) hx I .nil h) fun r s' z => ?_))
  rcases r with e | (v | _ | _ | _) <;> first | exact z | exact z.elim
/-- f(e, .., k = v, ..) -/
theorem pe_callGK {g : List Value → List Value → List Value} {gV : List V → List V → List V} (F : FnG X.prog X.w X.K X.mg X.base CX k f fd ps sp) (hgd : X.A.guards = some []) (hr : Room k X.A) (hg : Gl X x) (hm : X.mg x = some (.ref f)) (hk : PySem.W.keepIn X.K (.ref f) = true) (hb : KBinds X.K fd ps ks g gV) (hx : PassesW CX X W)
    (ha : PA X (e :: es) t) (hkw : PK X kws tk) (hall : (backToKw pos (keywordEach kws X.env)).all (·.1.isSome) = true) (hks : (backToKw pos (keywordEach kws X.env)).filterMap (·.1) = ks)
    (hdb : (x == ("__debug__" : Str)) = false) (he : starEach (e :: es) X.env = (false, eval e X.env) :: starEach es X.env)
    (hpl : ((backTo pos (starEach (e :: es) X.env)).any (·.1) || (backToKw pos (keywordEach kws X.env)).any (·.1.isNone)) = false) :
    PE X (.Call (.Name x p) (e :: es) kws pos) (tCallGK W sp gV t tk) := by
  refine ⟨fun pins s σ H Q I h => ?_⟩
  refine wpAny_Call_Name_kw (ld_glob I hg hm ?_ hdb)
  refine PySem.W.callWith_KW (h₀ := X.base) I.ok.mod.kin hk hall (thn (ha.run pos pins s σ H _ I h) fun us s1 ⟨vs, H1, I1, r, q⟩ => ?_) hpl he
  refine thn (hkw.run pos pins s1 σ H1 _ I1 q) fun ws s2 ⟨zs, H2, I2, rz, q2⟩ => ⟨I2.kIn, ?_⟩
  rw [hks]
  have r2 := hb.rel r rz
  have hl : (g us ws).length = ps.length := by rw [← r2.length]; exact F.len _ _ _ _ q2
  refine wpAny_call (codeAny_mono (run_fnG F hgd hr (hb.to s2 us ws I2.kIn hl) hx I2 r2 q2) fun r s' z => ?_)
  rcases r with e | (v | _ | _ | _) <;> first | exact z | exact z.elim
end
theorem law_callG {P : Program} {w : World} {K : PySem.W.Frag} {mg mb : Str → Option Value} {CX : CXT} {k : Nat} {fa a : Addr} {fd : FuncData} {x : Str} {sp : Sp} {s₁ : Shared} {vs : List Value} {ns : List Int}
    (KX : K.In s₁.heap) (hns : s₁.heap.Ns mainGlobals mg) (hb : s₁.heap.Ns builtinsNs mb) (hbb : ∀ x : Str, x ≠ "__name__" → mb x = bootBuiltins x) (hlim : s₁.heap.NoLimit) (hg : s₁.gens = #[])
    (ha : s₁.heap.get? a = some { cls := .type "list", data := .seq vs.toArray }) (hi : IntsAre vs ns) (hl : ns.length ≤ sizeLine) (hr : Room k callerA)
    (F : ∀ base : Heap, K.In base → base.Ns mainGlobals mg → FnG P w K mg base CX k fa fd [x] sp) (hbind : ∀ (s : Shared) (u : Value), BindsTo s fd ⟨[u], []⟩ [(x, u)])
    (hsp : ∀ H : Hp, Only H → SqL K H a (ns.map V.int) → sp [.ref a] H (fun v _ => v = .bl true) fun _ _ _ => False)
    (hCX : ∀ H e s', CX [] H s₁ (fun _ _ _ => False) e s' → False) :
    codeAny (model P w) callerA (.call (.ref fa) ⟨[.ref a], []⟩) (fun r s' => r = .ok (.ret (.bool true)) ∧ OldK s₁.heap s'.heap ∧ s'.os = s₁.os ∧ AllBare s'.gens) s₁ := by
  have rv := vals_ints hi
  have lenV := hi.length
  -- H: nothing, or the script alone
  have core : ∀ H : Hp, Only H → SqL K H a (ns.map V.int) → HOk P w H s₁.heap → (∀ b, H b ≠ none → b = a ∧ K.lookup a = none) →
      codeAny (model P w) callerA (.call (.ref fa) ⟨[.ref a], []⟩) (fun r s' => r = .ok (.ret (.bool true)) ∧ OldK s₁.heap s'.heap ∧ s'.os = s₁.os ∧ AllBare s'.gens) s₁ := by
    intro H hO hS hok hA
    have free : ∀ {b : Addr}, (b = a → K.lookup a ≠ none) ∨ (∃ o : Obj, s₁.heap.get? b = some o ∧ ∀ vs n, o.data ≠ .seq vs n) → H b = none := fun {b} h => by
      cases q : H b with
      | none => rfl
      | some u =>
        obtain ⟨e1, e2⟩ := hA b (by rw [q]; exact Option.some_ne_none u)
        rcases h with h | ⟨o, e, n⟩
        · exact (h e1 e2).elim
        · rw [e1, ha] at e
          cases e
          exact (n _ _ rfl).elim
    have nsK : ∀ {b : Addr} {m : Str → Option Value}, s₁.heap.Ns b m → (hidT s₁.heap H).Ns b m := fun {b m} ⟨o, es, ep, e, d, r⟩ =>
      ⟨o, es, ep, hidT_get e (free (.inr ⟨o, e, fun vs n z => by rw [d] at z; cases z⟩)), d, r⟩
    have hKb : K.In (hidT s₁.heap H) := fun b o e => hidT_get (KX b o e) (free (.inl fun z n => by rw [← z, e] at n; cases n))
    have hM : Mod K mg (hidT s₁.heap H) := ⟨hKb, nsK hns, ⟨mb, nsK hb, hbb⟩, let ⟨mc, h1, h2⟩ := hlim; ⟨mc, nsK h1, h2⟩⟩
    have e0 : Env0 P w K mg (hidT s₁.heap H) callerA [] s₁ H := ⟨rfl, hM, fun b o e => of_hidT e, Nat.le_of_eq (hidT_size _ _), trivial, (fun b hb => absurd (show b ∈ ([] : List Addr) from hb) (by simp)), hok, .of_eq hg⟩
    refine codeAny_mono ((F _ hKb (nsK hns)).run callerA [] s₁ H ⟨[.ref a], []⟩ [.ref a] [.ref a] _ _ rfl hr e0 (hbind s₁ (.ref a)) (.cons rfl .nil) (hsp H hO hS)) fun r s' h => ?_
    cases r with
    | error e => exact (hCX H e s' h).elim
    | ok fl =>
      cases fl with
      | next => exact h.elim
      | brk => exact h.elim
      | cont => exact h.elim
      | ret u =>
        obtain ⟨v, H', os, bare, un, hok', r', q⟩ := h
        obtain rfl : v = .bl true := q
        obtain rfl : u = Value.bool true := r'
        refine ⟨rfl, OldK.of_keep fun b o e => ?_, os, bare⟩
        rcases hO b with z | ⟨ob, xs, z⟩
        · exact un.keep b o e z (by intro z; exact absurd (show b ∈ ([] : List Addr) from z) (by simp)) (by simp)
        · obtain ⟨e1, _⟩ := hok b _ z
          obtain ⟨e2, _⟩ := hok' b _ (un.frzs b ob _ z)
          rw [e] at e1; cases e1
          exact e2
  cases hk : K.lookup a with
  | some o =>
    have e := KX a o hk
    rw [ha] at e
    cases e
    exact core (fun _ => none) (fun _ => .inl rfl) (.inr ⟨_, vs.toArray, _, hk, rfl, rfl, rfl, by rw [List.size_toArray, lenV]; exact hl, by simpa using rv⟩) (fun b u z => by have z' : (none : Option HO) = some u := z; cases z') fun b z => absurd rfl z
  | none =>
    have at_ : ∀ b u, (if b = a then some (HO.frz { cls := .type "list", data := .seq vs.toArray } (.lst (ns.map V.int))) else none) = some u → b = a ∧ u = .frz { cls := .type "list", data := .seq vs.toArray } (.lst (ns.map V.int)) := fun b u z => by
      by_cases hb : b = a
      · rw [if_pos hb] at z; cases z; exact ⟨hb, rfl⟩
      · rw [if_neg hb] at z; cases z
    refine core (fun b => if b = a then some (.frz { cls := .type "list", data := .seq vs.toArray } (.lst (ns.map V.int))) else none) (fun b => ?_) (.inl (.inr ⟨{ cls := .type "list", data := .seq vs.toArray }, if_pos rfl⟩)) (fun b u z => ?_) fun b z => ?_
    · by_cases hb : b = a
      · exact .inr ⟨_, _, if_pos hb⟩
      · exact .inl (if_neg hb)
    · obtain ⟨rfl, rfl⟩ := at_ b u z
      exact ⟨ha, by rw [List.length_map]; exact hl, vs, _, rv, ha⟩
    · obtain ⟨u, q⟩ := Option.ne_none_iff_exists'.mp z
      exact ⟨(at_ b u q).1, hk⟩
theorem walk_ofG {l : PySem.W.OpenLaw} {n k : Nat} {q : Program} {loose : List Str} {XP : (Str → Option Value) → Heap → Prop} {YP : World → Heap → Prop} {d : DefRec} {CX : World → CXT} {x : Str}
    (hn : l.most = some n) (hn2 : n ≤ sizeLine) (hdf : d.params.defaults = []) (hr : Room k callerA)
    (F : ∀ (w : World) (mg : Str → Option Value) (fa : Addr) (h : Heap), YP w h → h.Ns mainGlobals mg → mg d.name = some (.ref fa) →
      ∃ (K : PySem.W.Frag) (fd : FuncData) (sp : Sp), K.In h ∧ (∀ (s : Shared) (u : Value), BindsTo s fd ⟨[u], []⟩ [(x, u)]) ∧
        (∀ (H : Hp) (a : Addr) (ns : List Int), ns.length ≤ n → (∀ z ∈ ns, Builtin.Int.intBits z ≤ 1048576) → Only H → SqL K H a (ns.map V.int) → sp [.ref a] H (fun v _ => v = .bl true) fun _ _ _ => False) ∧
        ∀ base : Heap, K.In base → base.Ns mainGlobals mg → FnG l.prog w K mg base (CX w) k fa fd [x] sp)
    (hCX : ∀ (w : World) (H : Hp) (s : Shared) (e : Value) (s' : Shared), CX w [] H s (fun _ _ _ => False) e s' → False) :
    PySem.W.WalkO q loose XP YP l.row.toRowW d [] (fun f vs => PySem.call f vs) := by
  refine Att.attach_callB hn hdf fun w s₀ s₁ mg mb fa o pm cd doc a vs ns G Y ho hd hcd hmg hobj hints hlen hbits hg => ?_
  obtain ⟨K, fd, sp, KX, hb, hsp, hF⟩ := F w mg fa _ Y G.T.g hmg
  exact law_callG KX G.T.g G.T.b G.T.builtins G.T.nolimit hg hobj hints (Nat.le_trans hlen hn2) hr hF hb (fun H hO hS => hsp H a ns hlen hbits hO hS) fun H e s' => hCX w H s₁ e s'
end Ev
end
section
set_option Elab.async false
set_option linter.all false
set_option maxRecDepth 100000
namespace Ev
open PySem PySem.Spec L2
section
variable {K : PySem.W.Frag}
mutual
theorem RV.under {w : Wd} {k : Nat} : ∀ {v : Val} {x : V}, Ev.below k v = true → RV K w v x → RV K ⟨w.I, w.α, k⟩ v x
  | .d _, _, _, .d r => .d r
  | .k _, _, _, .k r => .k r
  | .r n, _, h, .r _ => RV.r (w := ⟨w.I, w.α, k⟩) (by unfold Ev.below at h; exact of_decide_eq_true h)
  | .t xs, _, h, .t e r => .t e (RVs.under (by unfold Ev.below at h; exact h) r)
theorem RVs.under {w : Wd} {k : Nat} : ∀ {v : List Val} {x : List V}, Ev.belowL k v = true → RVs K w v x → RVs K ⟨w.I, w.α, k⟩ v x
  | [], _, _, .nil => .nil
  | v :: vs, _, h, .cons a b => by
    unfold Ev.belowL at h
    have h : Ev.below k v = true ∧ belowL k vs = true := by simpa using h
    exact .cons (RV.under h.1 a) (RVs.under h.2 b)
end
theorem RKV.under {κ : Type} {w : Wd} {k : Nat} : ∀ {v : List (κ × Val)} {x : List (κ × V)}, Ev.belowL k (v.map (·.2)) = true → RKV K w v x → RKV K ⟨w.I, w.α, k⟩ v x
  | [], _, _, .nil => .nil
  | v :: vs, _, h, .cons a b => by
    unfold Ev.belowL at h
    have h : Ev.below k v.2 = true ∧ belowL k (vs.map (·.2)) = true := by simpa using h
    exact .cons ⟨a.1, RV.under h.1 a.2⟩ (RKV.under h.2 b)
theorem RC.under {w : Wd} {k : Nat} {c : Cell} {o : HO} (h : belowC k c = true) (r : RC K w c o) : RC K ⟨w.I, w.α, k⟩ c o := by
  cases r with
  | lst r => exact .lst (r.under h)
  | lk r => exact .lk (r.under h)
  | dk r => exact .dk (RKV.under h r)
  | dt r => exact .dt (RKV.under h r)
theorem take_get {α : Type} {l : List α} {k n : Nat} {c : α} (h : (l.take k)[n]? = some c) : n < k ∧ l[n]? = some c := by
  have hn : n < (l.take k).length := (List.getElem?_eq_some_iff.mp h).1
  have hk : n < k := by rw [List.length_take] at hn; omega
  rw [List.getElem?_take_of_lt hk] at h
  exact ⟨hk, h⟩
/-- the objects of a call are let go -/
theorem RS.trim {g : Gh} {w w1 : Wd} {S1 : List Cell} {H : Hp} {v : Val} {x : V} (R : RS K g w1 S1 H) (e : Ext w w1) (rv : RV K w1 v x) :
    ∃ w2, Ext w w2 ∧ RS K g w2 (Ev.trim w.k v S1) H ∧ RV K w2 v x := by
  unfold Ev.trim
  by_cases h : (Ev.below w.k v && (S1.take w.k).all (belowC w.k)) = true
  · rw [if_pos h]
    have h : Ev.below w.k v = true ∧ (S1.take w.k).all (belowC w.k) = true := by simpa using h
    refine ⟨⟨w1.I, w1.α, w.k⟩, ⟨e.I, Nat.le_refl _, e.α⟩, ⟨?_, R.le, R.out, fun n c ec l => ?_, fun n m c c' a la b lb => ?_, R.fr, R.pI, R.pO, R.tab⟩, rv.under h.1⟩
    · rw [List.length_take, R.len]
      exact Nat.min_eq_left e.k
    · obtain ⟨hk, ec'⟩ := take_get ec
      obtain ⟨o, a, b, i, d⟩ := R.cell n c ec' l
      exact ⟨o, a, b.under (List.all_eq_true.mp h.2 c (List.mem_of_getElem? ec)), i, d⟩
    · exact R.inj n m c c' (take_get a).2 la (take_get b).2 lb
  · rw [if_neg h]
    exact ⟨w1, e, R, rv⟩
/-- a call with data alone begins: nothing of the store is seen -/
def np (H : Hp) : Hp := fun b => match H b with
  | some o => if pl o = true then some o else none
  | none => none
theorem np_some {H : Hp} {b : Addr} {o : HO} (h : H b = some o) (p : pl o = true) : np H b = some o := by
  unfold np
  rw [h]
  show (if pl o = true then some o else none) = _
  rw [if_pos p]
theorem np_inv {H : Hp} {b : Addr} {o : HO} (h : np H b = some o) : H b = some o ∧ pl o = true := by
  unfold np at h
  cases e : H b with
  | none => rw [e] at h; cases h
  | some u =>
    rw [e] at h
    have h : (if pl u = true then some u else none) = some o := h
    split at h
    · rename_i p; cases h; exact ⟨rfl, p⟩
    · cases h
theorem RS.enter {g : Gh} {w : Wd} {S : List Cell} {H : Hp} (R : RS K g w S H) : RS K ⟨np H, w.I⟩ ⟨w.I, w.α, 0⟩ [] H :=
  ⟨rfl, R.le, fun _ _ h => (np_inv h).1, fun n c e => by simp at e, fun n m c c' e => by simp at e, fun b o h => .inl ⟨o, h⟩, R.pI, fun _ _ h => (np_inv h).2, R.tab⟩
theorem RVs.enter {w : Wd} : ∀ {vs : List Val} {xs : List V}, RVs K w vs xs → (allD vs).isSome = true → RVs K ⟨w.I, w.α, 0⟩ vs xs
  | [], _, .nil, _ => .nil
  | .d x :: r, _, .cons (.d a) b, h => .cons (.d a) (RVs.enter b (by
    have h : ((allD r).map (x :: ·)).isSome = true := h
    rwa [Option.isSome_map] at h))
  | .r _ :: _, _, _, h => by cases h
  | .t _ :: _, _, _, h => by cases h
  | .k _ :: _, _, _, h => by cases h
/-- .. ends -/
theorem RS.back {g : Gh} {w w1 : Wd} {S S1 : List Cell} {H H1 J : Hp} (R : RS K g w S H) (R1 : RS K ⟨np H, w.I⟩ w1 S1 H1) (e : Ext ⟨w.I, w.α, 0⟩ w1) (hJ : Hle w1.I J) (le : ∀ b o, J b = some o → H1 b = some o)
    (fr : ∀ b o, J b = some o → w1.I b = some o ∨ np H b = none) (hp : ∀ b o, J b = some o → pl o = true) : Ext w ⟨J, w.α, w.k⟩ ∧ RS K g ⟨J, w.α, w.k⟩ S H1 := by
  have ex : Ext w ⟨J, w.α, w.k⟩ := ⟨Hle.trans (J := w1.I) e.I hJ, Nat.le_refl _, fun _ _ => rfl⟩
  refine ⟨ex, ⟨R.len, le, fun b o h => R1.out b o (np_some (R.out b o h) (R.pO b o h)), fun n c ec l => ?_, R.inj, fun b o h => ?_, hp, R.pO, R1.tab⟩⟩
  · obtain ⟨o, a, b, i, d⟩ := R.cell n c ec l
    have a' := np_some a b.pl
    refine ⟨o, R1.out _ _ a', b.mono ex, ?_, d⟩
    show J (w.α n) = none
    cases q : J (w.α n) with
    | none => rfl
    | some u =>
      rcases fr _ _ q with z | z
      · rcases R1.fr _ _ z with ⟨u', z⟩ | z
        · have z : w.I (w.α n) = some u' := z
          rw [i] at z; cases z
        · have z : np H (w.α n) = none := z
          rw [a'] at z; cases z
      · rw [a'] at z; cases z
  · have no : np H b = none → g.out b = none := fun z => by
      cases q : g.out b with
      | none => rfl
      | some u => rw [np_some (R.out _ _ q) (R.pO _ _ q)] at z; cases z
    rcases fr b o h with z | z
    · rcases R1.fr b o z with ⟨u, z⟩ | z
      · exact R.fr b u z
      · exact .inr (no z)
    · exact .inr (no z)
theorem RS.freeze {g : Gh} {w w1 : Wd} {S S1 : List Cell} {H H1 : Hp} {v : Val} {x : V} {y : PyData} (R : RS K g w S H) (R1 : RS K ⟨np H, w.I⟩ w1 S1 H1) (e : Ext ⟨w.I, w.α, 0⟩ w1) (rv : RV K w1 v x) (h : Ev.freeze S1 v = some y) :
    ∃ w2, Ext w w2 ∧ RS K g w2 S H1 ∧ RV K w2 (.d y) x := by
  cases rv with
  | d r =>
    obtain rfl := Option.some.inj h
    obtain ⟨a, b⟩ := R.back R1 e (.refl _) R1.le (fun b o z => .inl z) R1.pI
    exact ⟨_, a, b, .d r⟩
  | @r n hn =>
    have h : (match S1[n]? with
      | some (.lst xs) => (allD xs).map PyData.list
      | some (.dk kvs) => (dkD kvs).map PyData.dict
      | some (.dt kvs) => (dtD kvs).map PyData.dict
      | _ => none) = some y := h
    have put : ∀ (c : Cell) (o : HO), S1[n]? = some c → c.live = true → (∀ o', RC K w1 c o' → H1 (w1.α n) = some o' → o' = o) → Ext w ⟨upd w1.I (w1.α n) o, w.α, w.k⟩ ∧ RS K g ⟨upd w1.I (w1.α n) o, w.α, w.k⟩ S H1 ∧ Hle w1.I (upd w1.I (w1.α n) o) := fun c o ec l ho => by
      obtain ⟨o', a, b, i, d⟩ := R1.cell n c ec l
      have d : np H (w1.α n) = none := d
      obtain rfl := ho o' b a
      have ho2 := b.pl
      have hj : Hle w1.I (upd w1.I (w1.α n) o') := .of fun b u z => by rw [upd_ne (fun q => by rw [q, i] at z; cases z)]; exact z
      have up : ∀ b u, upd w1.I (w1.α n) o' b = some u → (b = w1.α n ∧ u = o') ∨ w1.I b = some u := fun b u z => by
        by_cases hb : b = w1.α n
        · rw [hb, upd_same] at z; exact .inl ⟨hb, (Option.some.inj z).symm⟩
        · rw [upd_ne hb] at z; exact .inr z
      obtain ⟨x1, x2⟩ := R.back R1 e hj (fun b u z => (up b u z).elim (fun ⟨q1, q2⟩ => by rw [q1, q2]; exact a) (R1.le b u)) (fun b u z => (up b u z).elim (fun ⟨q1, _⟩ => .inr (by rw [q1]; exact d)) .inl) fun b u z => (up b u z).elim (fun ⟨_, q2⟩ => by rw [q2]; exact ho2) (R1.pI b u)
      exact ⟨x1, x2, hj⟩
    cases ec : S1[n]? with
    | none => rw [ec] at h; cases h
    | some c =>
      rw [ec] at h
      cases c with
      | lst xs =>
        obtain ⟨ds, ed, rfl⟩ := Option.map_eq_some_iff.mp (show (allD xs).map PyData.list = some y from h)
        obtain ⟨o, a, b, _⟩ := R1.cell n _ ec rfl
        obtain ⟨x1, x2, x3⟩ := put _ o ec rfl fun o' _ a' => by rw [a] at a'; exact (Option.some.inj a').symm
        cases b with
        | lst b => exact ⟨_, x1, x2, .d (.list upd_same ((b.data ed).mono x3))⟩
      | dk xs =>
        obtain ⟨ds, ed, rfl⟩ := Option.map_eq_some_iff.mp (show (dkD xs).map PyData.dict = some y from h)
        obtain ⟨o, a, b, _⟩ := R1.cell n _ ec rfl
        obtain ⟨x1, x2, x3⟩ := put _ o ec rfl fun o' _ a' => by rw [a] at a'; exact (Option.some.inj a').symm
        cases b with
        | dk b => exact ⟨_, x1, x2, .d (.dk (.inl upd_same) ((RKV.dk b ed).mono x3))⟩
      | dt xs =>
        obtain ⟨ds, ed, rfl⟩ := Option.map_eq_some_iff.mp (show (dtD xs).map PyData.dict = some y from h)
        obtain ⟨o, a, b, _⟩ := R1.cell n _ ec rfl
        obtain ⟨x1, x2, x3⟩ := put _ o ec rfl fun o' _ a' => by rw [a] at a'; exact (Option.some.inj a').symm
        cases b with
        | dt b => exact ⟨_, x1, x2, .d (.dt (.inl upd_same) ((RKV.dt b ed).mono x3))⟩
      | _ => cases h
  | t _ _ => cases h
  | k _ => cases h
theorem RVs.get_at {w : Wd} : ∀ {vs : List Val} {xs : List V} {i : Nat} {v : Val}, RVs K w vs xs → vs[i]? = some v → ∃ x, xs[i]? = some x ∧ RV K w v x
  | _, _, 0, _, .cons a _, h => by simp at h; subst h; exact ⟨_, rfl, a⟩
  | _, _, i + 1, _, .cons _ b, h => by
    obtain ⟨x, e, r⟩ := RVs.get_at b (show _ = some _ by simpa using h)
    exact ⟨x, by simpa using e, r⟩
  | _, _, _, _, .nil, h => by simp at h
theorem RE.start {w : Wd} {N : List Str} {n : Nat} (hN : N.length = n) {vs : List Val} {xs : List V} (r : RVs K w vs xs) : RE K w (startE n vs) (L2.start N xs) := by
  refine ⟨by unfold startE L2.start; simp [r.length, hN], fun i v h => ?_⟩
  unfold startE at h
  unfold L2.start
  by_cases hi : i < vs.length
  · rw [List.getElem?_append_left (by simpa using hi), List.getElem?_map] at h
    obtain ⟨u, eu, q⟩ := Option.map_eq_some_iff.mp h
    obtain rfl := Option.some.inj q
    obtain ⟨x, ex, rx⟩ := r.get_at eu
    exact ⟨x, by rw [List.getElem?_append_left (by rw [List.length_map, ← r.length]; exact hi), List.getElem?_map, ex]; rfl, rx⟩
  · rw [List.getElem?_append_right (by simpa using hi), List.getElem?_replicate] at h
    split at h <;> cases h
end
def spEv (K : PySem.W.Frag) (cA : Str → Addr) (np : Nat) (m : List Val → M Val) : Sp := fun vs H Q E => ∃ g w S args, RS K g w S H ∧ RVs K w args vs ∧ args.length = np ∧ PO ⟨K, cA, fun c d _ H => E c d H⟩ (RV K) g w [] Q (m args S)
theorem spEv_len {K : PySem.W.Frag} {cA : Str → Addr} {np : Nat} {m : List Val → M Val} {vs : List V} {H : Hp} {Q : VK} {E : XK} (h : spEv K cA np m vs H Q E) : vs.length = np := by
  obtain ⟨g, w, S, args, _, r, l, _⟩ := h
  rw [← r.length]; exact l
theorem PO.of_W {F : Fx} {g : Gh} {w : Wd} {σ : St} {Q : VK} {r : Res Val} (h : PO F (RV F.K) g w σ Q r) : PO ⟨F.K, F.cA, fun c d _ H => F.W c d σ H⟩ (RV F.K) g w [] Q r := by
  match r, h with
  | .ok v S', h => exact h
  | .ex _ S', h => exact h
  | .no, h => exact h
theorem SE.call {F : Fx} {t : TA} {ma : Env → M (List Val)} {np : Nat} {m : List Val → M Val} (ha : SA F t ma) (hl : ∀ vs S, m vs S ≠ .no → vs.length = np) :
    SE F (tCallG F.W (spEv F.K F.cA np m) t) (fun ρ => bnd (ma ρ) m) := fun g w ρ S σ H Q R E h =>
  ha g w ρ S σ H _ R E (pa_bind (P := fun w r => PO F (RV F.K) g w σ Q r) h (fun e S' w' H' c d p => p w' H' c d) (fun p => p) fun us S1 w1 H1 xs e1 R1 r1 p =>
    ⟨g, w1, S1, us, R1, r1, hl us S1 (fun z => by rw [z] at p; exact p), (p.ext e1).of_W⟩)
theorem SE.callK {F : Fx} {t tk : TA} {ma mk : Env → M (List Val)} {np : Nat} {m : List Val → M Val} {o : List Val → List Val → Option (List Val)} {gV : List V → List V → List V} (ha : SA F t ma) (hk : SA F tk mk)
    (hl : ∀ vs S, m vs S ≠ .no → vs.length = np) (ho : ∀ w vs ws us xs ys, RVs F.K w vs xs → RVs F.K w ws ys → o vs ws = some us → RVs F.K w us (gV xs ys)) :
    SE F (tCallGK F.W (spEv F.K F.cA np m) gV t tk) (fun ρ => bnd (ma ρ) fun vs => bnd (mk ρ) fun ws => (match o vs ws with
      | some us => m us
      | none => fail)) := fun g w ρ S σ H Q R E h =>
  ha g w ρ S σ H _ R E (pa_bind (P := fun w r => PO F (RV F.K) g w σ Q r) h (fun e S' w' H' c d p => p w' H' c d) (fun p => p) fun us S1 w1 H1 xs e1 R1 r1 p =>
    hk g w1 ρ S1 σ H1 _ R1 (E.mono e1) (pa_bind (P := fun w r => PO F (RV F.K) g w σ Q r) (p.ext e1) (fun e S' w' H' c d p => p w' H' c d) (fun p => p) fun ws S2 w2 H2 ys e2 R2 r2 p2 => by
      cases eo : o us ws with
      | none => rw [eo] at p2; exact p2.elim
      | some zs =>
        rw [eo] at p2
        have p2 : PO F (RV F.K) g w1 σ Q (m zs S2) := p2
        exact ⟨g, w2, S2, zs, R2, ho w2 us ws zs xs ys (r1.mono e2) r2 eo, hl zs S2 (fun z => by rw [z] at p2; exact p2), (p2.ext e2).of_W⟩))
/-- a def's body, as the evaluator runs it -/
theorem call_body {K : PySem.W.Frag} {cA : Str → Addr} {C : Cfg} {fd : Fn} {N : List Str} (hN : N.length = fd.nslots) {g : Gh} {w : Wd} {S : List Cell} {H : Hp} {Q : VK} {E : XK} {args : List Val} {vs : List V} {t : TS}
    (R : RS K g w S H) (ra : RVs K w args vs) (hs : SS ⟨K, cA, fun c d _ H => E c d H⟩ t (fun ρ => seqL (fun s ρ => ex C bodyFuel s ρ) fd.body ρ))
    (p : PO ⟨K, cA, fun c d _ H => E c d H⟩ (RV K) g w [] Q (callB C fd args S)) : t { nx := fun _ H' => Q .non H', rt := Q } (L2.start N vs) H := by
  unfold callB at p
  by_cases hl : args.length = fd.np
  · rw [if_pos hl] at p
    by_cases hsh : fd.shared = true
    · rw [if_pos hsh] at p
      refine hs g w _ S _ H _ R (RE.start hN ra) ?_
      unfold runB bnd at p
      dsimp only
      cases e : seqL (fun s ρ => ex C bodyFuel s ρ) fd.body (startE fd.nslots args) S with
      | no => simp only [e] at p; exact p.elim
      | ex _ _ => simp only [e] at p; exact fun w' σ' H' c d => p w' H' c d
      | ok f S1 =>
        simp only [e] at p
        cases f with
        | rt v =>
          intro w1 H1 x e1 R1 r1
          obtain ⟨w2, a, b, c⟩ := R1.trim e1 r1
          rw [← R.len] at b
          exact p w2 H1 x a b c
        | nx ρ =>
          intro w1 σ1 H1 e1 R1 _
          obtain ⟨w2, a, b, c⟩ := R1.trim (v := .d .none) e1 (.d .none)
          rw [← R.len] at b
          exact p w2 H1 .non a b c
        | bk _ => exact p.elim
        | ct _ => exact p.elim
    · rw [if_neg hsh] at p
      cases ed : allD args with
      | none => simp only [ed] at p; exact p.elim
      | some ds =>
        simp only [ed] at p
        refine hs ⟨np H, w.I⟩ ⟨w.I, w.α, 0⟩ _ [] _ H _ R.enter (RE.start hN (ra.enter (by rw [ed]; rfl))) ?_
        unfold runB bnd at p
        dsimp only
        cases e : seqL (fun s ρ => ex C bodyFuel s ρ) fd.body (startE fd.nslots args) [] with
        | no => simp only [e] at p; exact p.elim
        | ex x S1 =>
          simp only [e] at p
          intro w1 σ' H1 c d e1 R1 rx
          obtain ⟨a, b⟩ := R.back R1 e1 (.refl _) R1.le (fun b o z => .inl z) R1.pI
          exact p _ H1 c d a b rx
        | ok f S1 =>
          simp only [e] at p
          cases f with
          | rt v =>
            intro w1 H1 x e1 R1 r1
            have p : PO ⟨K, cA, fun c d _ H => E c d H⟩ (RV K) g w [] Q (match Ev.freeze S1 v with
              | some x => .ok (.d x) S
              | none => .no) := p
            cases ef : Ev.freeze S1 v with
            | none => rw [ef] at p; exact p.elim
            | some y =>
              rw [ef] at p
              obtain ⟨w2, a, b, c⟩ := R.freeze R1 e1 r1 ef
              exact p w2 H1 x a b c
          | nx ρ =>
            intro w1 σ1 H1 e1 R1 _
            obtain ⟨w2, a, b, c⟩ := R.freeze R1 e1 (.d .none) (show Ev.freeze S1 (.d .none) = some .none from rfl)
            exact p w2 H1 .non a b c
          | bk _ => exact p.elim
          | ct _ => exact p.elim
  · rw [if_neg hl] at p; exact p.elim
theorem callB_len {C : Cfg} {fd : Fn} {vs : List Val} {S : List Cell} (h : callB C fd vs S ≠ .no) : vs.length = fd.np := by
  unfold callB at h
  by_cases hl : vs.length = fd.np
  · exact hl
  · rw [if_neg hl] at h; exact (h rfl).elim
end Ev
end
section
set_option Elab.async false
set_option linter.all false
set_option maxRecDepth 100000
namespace Ev
open PySem PySem.Spec L2
section
variable {P : Program} {w : World} {H I : Hp} {h : Heap}
theorem key_reads {k : Key} {v : Value} (e : keyIs k v = true) : Reads h v (keyD k) [] := by
  rcases keyIs_shape e with ⟨i, t, rfl, rfl⟩ | ⟨x, t, rfl, rfl⟩
  · exact .int i t
  · exact .str x t
theorem rel_key {k : Key} {v : Value} (e : RelV (kV k) v) : Reads h v (keyD k) [] := by
  cases k with
  | inl i => obtain ⟨t, rfl⟩ := e; exact .int i t
  | inr x => obtain ⟨t, rfl⟩ := e; exact .str x t
theorem keys_reads : ∀ {ks : List Key} {its : List Value}, Vals (ks.map kV) its → ReadsAll h its (ks.map keyD) []
  | [], _, .nil => .nil
  | k :: ks, _, .cons a b => by
    have := ReadsAll.cons (rel_key (h := h) a) (keys_reads b)
    exact this
/-- all of it stands in H -/
def Tr (H : Hp) (as : List Addr) : Prop := ∀ b ∈ as, ∃ o, H b = some o
theorem Tr.nil : Tr H [] := fun b h => by simp at h
theorem Tr.append {as bs : List Addr} (a : Tr H as) (b : Tr H bs) : Tr H (as ++ bs) := fun c h => (List.mem_append.mp h).elim (a c) (b c)
theorem Tr.cons {a : Addr} {o : HO} {bs : List Addr} (e : H a = some o) (b : Tr H bs) : Tr H (a :: bs) := fun c h => (List.mem_cons.mp h).elim (fun z => ⟨o, z ▸ e⟩) (b c)
theorem rd_at {a : Addr} {u : HO} (r : Rd H a u) : ∃ o, H a = some o := r.elim (fun e => ⟨_, e⟩) fun ⟨o, e⟩ => ⟨_, e⟩
section
variable (ok : HOk P w H h)
include ok
theorem lst_reads {a : Addr} {xs : List V} (e : H a = some (.lst xs)) {ds : List PyData} (ih : ∀ its, Vals xs its → ∃ as, ReadsAll h its ds as ∧ Tr H as) : ∃ as, Reads h (.ref a) (.list ds) as ∧ Tr H as := by
  obtain ⟨_, its, n, r, eo⟩ := (show ObjOk P w H h a (.lst xs) from ok a _ e)
  obtain ⟨as, r1, t1⟩ := ih its r
  exact ⟨a :: as, .list eo rfl rfl (by simpa using r1), .cons e t1⟩
theorem tup_reads {a : Addr} {xs : List V} (e : H a = some (.tup xs)) {ds : List PyData} (ih : ∀ its, Vals xs its → ∃ as, ReadsAll h its ds as ∧ Tr H as) : ∃ as, Reads h (.ref a) (.tuple ds) as ∧ Tr H as := by
  obtain ⟨_, its, r, o, h1, h2, n, h3⟩ := (show ObjOk P w H h a (.tup xs) from ok a _ e)
  obtain ⟨as, r1, t1⟩ := ih its r
  exact ⟨as, .tuple h1 h2 h3 (by simpa using r1), t1⟩
theorem dk_reads {a : Addr} {kvs : List (Key × V)} {ps : List (PyData × PyData)} (e : Rd H a (.dK kvs)) (hk : ps.map (·.1) = kvs.map fun p => keyD p.1) (ih : ∀ its, Vals (kvs.map (·.2)) its → ∃ as, ReadsAll h its (ps.map (·.2)) as ∧ Tr H as) : ∃ as, Reads h (.ref a) (.dict ps) as ∧ Tr H as := by
  obtain ⟨_, _, vs, kv, o, es, ep, h1, h2, h3, _, h5, _⟩ := dk_rd ok e
  have go : ∀ {es : List DictEntry} {vs : List (Key × Value)}, Pairs (mixKind P w) es vs → ∀ {kvs : List (Key × V)}, KV kvs vs → ReadsAll h (es.map (·.key)) (kvs.map fun p => keyD p.1) [] ∧ Vals (kvs.map (·.2)) (es.map (·.val)) := by
    intro es vs p
    induction p with
    | nil => intro kvs r; cases r; exact ⟨.nil, .nil⟩
    | @cons e kv es vs q1 q2 _ ih =>
      intro kvs r
      cases r with
      | @cons x _ _ _ r1 r2 =>
        obtain ⟨i1, i2⟩ := ih r2
        refine ⟨?_, .cons (show RelV x.2 e.val by rw [q2]; exact r1.2) i2⟩
        have k1 : Reads h e.key (keyD x.1) [] := key_reads (by rw [r1.1]; exact q1)
        exact ReadsAll.cons k1 i1
  obtain ⟨g1, g2⟩ := go h5 kv
  obtain ⟨as, r1, t1⟩ := ih _ g2
  obtain ⟨u, eu⟩ := rd_at e
  exact ⟨a :: [] ++ as, .dict h1 h2.1 h3 (by rw [hk]; exact g1) r1, .cons eu t1⟩
theorem dt_reads {a : Addr} {kvs : List (List Key × V)} {ps : List (PyData × PyData)} (e : Rd H a (.dT kvs)) (hk : ps.map (·.1) = kvs.map fun p => keysD p.1) (ih : ∀ its, Vals (kvs.map (·.2)) its → ∃ as, ReadsAll h its (ps.map (·.2)) as ∧ Tr H as) : ∃ as, Reads h (.ref a) (.dict ps) as ∧ Tr H as := by
  obtain ⟨_, _, xs, kt, o, es, ep, h1, h2, h3, h4, _⟩ := dt_rd ok e
  have go : ∀ {kvs : List (List Key × V)} {xs : List (List Key × Addr × Value)}, KT H kvs xs → ReadsAll h ((xs.map (entryOfKey (tupleKind (mixKind P w)))).map (·.key)) (kvs.map fun p => keysD p.1) [] ∧ Vals (kvs.map (·.2)) ((xs.map (entryOfKey (tupleKind (mixKind P w)))).map (·.val)) := by
    intro kvs xs r
    induction r with
    | nil => exact ⟨.nil, .nil⟩
    | @cons p q ps qs r1 _ ih =>
      refine ⟨?_, .cons r1.2.2 ih.2⟩
      obtain ⟨_, its, rv, o, t1, t2, n, t3⟩ := (show ObjOk P w H h q.2.1 (.tup (p.1.map kV)) from ok _ _ r1.2.1)
      have k1 : Reads h (.ref q.2.1) (keysD p.1) [] := .tuple t1 t2 t3 (by simpa using keys_reads rv)
      exact ReadsAll.cons k1 ih.1
  obtain ⟨g1, g2⟩ := go kt
  rw [← h4] at g1 g2
  obtain ⟨as, r1, t1⟩ := ih _ g2
  obtain ⟨u, eu⟩ := rd_at e
  exact ⟨a :: [] ++ as, .dict h1 h2.1 h3 (by rw [hk]; exact g1) r1, .cons eu t1⟩
end
theorem RDk.keys : ∀ {ps : List (PyData × PyData)} {kvs : List (Key × V)}, RDk I ps kvs → ps.map (·.1) = kvs.map fun p => keyD p.1
  | _, _, .nil => rfl
  | _, _, .cons _ r => by rw [List.map_cons, List.map_cons, RDk.keys r]
theorem RDt.keys : ∀ {ps : List (PyData × PyData)} {kvs : List (List Key × V)}, RDt I ps kvs → ps.map (·.1) = kvs.map fun p => keysD p.1
  | _, _, .nil => rfl
  | _, _, .cons _ r => by rw [List.map_cons, List.map_cons, RDt.keys r]
section
variable (ok : HOk P w H h) (le : ∀ b o, I b = some o → H b = some o)
include ok le
theorem rd_le {a : Addr} {u : HO} (r : Rd I a u) : Rd H a u := r.elim (fun e => .inl (le _ _ e)) fun ⟨o, e⟩ => .inr ⟨o, le _ _ e⟩
mutual
theorem RD.reads : ∀ {d : PyData} {x : V}, RD I d x → ∀ u, RelV x u → ∃ as, Reads h u d as ∧ Tr H as
  | _, _, .none, u, r => by cases (show u = .none from r); exact ⟨[], .none, .nil⟩
  | _, _, .bool b, u, r => by cases (show u = .bool b from r); exact ⟨[], .bool b, .nil⟩
  | _, _, .int i, u, r => by obtain ⟨t, rfl⟩ := r; exact ⟨[], .int i t, .nil⟩
  | _, _, .str s, u, r => by obtain ⟨t, rfl⟩ := r; exact ⟨[], .str s t, .nil⟩
  | _, _, .list (a := a) e rd, u, r => by cases (show u = .ref a from r); exact lst_reads ok (le _ _ e) (RDs.reads rd)
  | _, _, .tuple (a := a) e rd, u, r => by cases (show u = .ref a from r); exact tup_reads ok (le _ _ e) (RDs.reads rd)
  | _, _, .dk (a := a) e rd, u, r => by cases (show u = .ref a from r); exact dk_reads ok (rd_le ok le e) rd.keys (RDk.reads rd)
  | _, _, .dt (a := a) e rd, u, r => by cases (show u = .ref a from r); exact dt_reads ok (rd_le ok le e) rd.keys (RDt.reads rd)
theorem RDs.reads : ∀ {ds : List PyData} {xs : List V}, RDs I ds xs → ∀ us, Vals xs us → ∃ as, ReadsAll h us ds as ∧ Tr H as
  | _, _, .nil, _, .nil => ⟨[], .nil, .nil⟩
  | _, _, .cons a b, _, .cons r1 r2 => by
    obtain ⟨as, a1, a2⟩ := RD.reads a _ r1
    obtain ⟨bs, b1, b2⟩ := RDs.reads b _ r2
    exact ⟨as ++ bs, .cons a1 b1, a2.append b2⟩
theorem RDk.reads : ∀ {ps : List (PyData × PyData)} {kvs : List (Key × V)}, RDk I ps kvs → ∀ us, Vals (kvs.map (·.2)) us → ∃ as, ReadsAll h us (ps.map (·.2)) as ∧ Tr H as
  | _, _, .nil, _, .nil => ⟨[], .nil, .nil⟩
  | _, _, .cons a b, _, .cons r1 r2 => by
    obtain ⟨as, a1, a2⟩ := RD.reads a _ r1
    obtain ⟨bs, b1, b2⟩ := RDk.reads b _ r2
    exact ⟨as ++ bs, .cons a1 b1, a2.append b2⟩
theorem RDt.reads : ∀ {ps : List (PyData × PyData)} {kvs : List (List Key × V)}, RDt I ps kvs → ∀ us, Vals (kvs.map (·.2)) us → ∃ as, ReadsAll h us (ps.map (·.2)) as ∧ Tr H as
  | _, _, .nil, _, .nil => ⟨[], .nil, .nil⟩
  | _, _, .cons a b, _, .cons r1 r2 => by
    obtain ⟨as, a1, a2⟩ := RD.reads a _ r1
    obtain ⟨bs, b1, b2⟩ := RDt.reads b _ r2
    exact ⟨as ++ bs, .cons a1 b1, a2.append b2⟩
end
theorem RU.reads {d : PyData} {x : V} (r : RU H I d x) (u : Value) (ru : RelV x u) : ∃ as, Reads h u d as ∧ Tr H as := by
  cases r with
  | flat e =>
    exact RD.reads ok le (flat_RD e) u ru
  | @list a _ _ e rd => cases (show u = .ref a from ru); exact lst_reads ok e (RDs.reads ok le rd)
  | @tuple a _ _ e rd => cases (show u = .ref a from ru); exact tup_reads ok e (RDs.reads ok le rd)
  | @dk a _ _ e rd => cases (show u = .ref a from ru); exact dk_reads ok e rd.keys (RDk.reads ok le rd)
  | @dt a _ _ e rd => cases (show u = .ref a from ru); exact dt_reads ok e rd.keys (RDt.reads ok le rd)
end
end
def rRepr : V → Hp → VK → Prop := fun v H Q => ∃ I d, (∀ b o, I b = some o → H b = some o) ∧ RU H I d v ∧ (d.showable = true ∧ d.depth ≤ 100 ∧ d.shown.length ≤ sizeLine) ∧ Q (.str d.shown) H
theorem call_repr {X : Cx} (hg : X.A.guards = some []) (hu : X.A.units + 102 < cLine) (hs : ∃ o, X.K.lookup sysModules = some o) : CallR X (.builtin "repr") (fun xs H Q => ∃ x, xs = [x] ∧ rRepr x H Q) := by
  intro pins s σ H xs us Q I r h
  obtain ⟨x, rfl, J, d, le, ru, ⟨h1, h2, h3⟩, q⟩ := h
  obtain ⟨u, rfl, rx⟩ := vals1 r
  obtain ⟨as, rd, tr⟩ := RU.reads I.hok le ru u rx
  have fin : ∀ (t tk : Tok) (h' : Heap), (∀ b o, s.heap.get? b = some o → h'.get? b = some o) → EP X pins σ Q (.str d.shown t) { s with heap := h', toks := tk } := fun t tk h' k => ⟨.str d.shown, H, I.kept k, ⟨t, rfl⟩, q⟩
  have no : sysModules ∉ as := fun m => by
    obtain ⟨o, e⟩ := tr _ m
    obtain ⟨o2, e2⟩ := hs
    have := (I.bs _ _ (I.ok.mod.kin _ _ e2)).2
    rw [e] at this; cases this
  have go : ∀ a, u = .ref a → wpAny (model X.prog X.w) X.A (call (.builtin "repr") [u]) (EP X pins σ Q) X.xe s := fun a e => by
    subst e
    exact repr_of_reads' rd h1 (fun _ => no) hg (by omega) (fun _ _ e => e) (fun h' t tk k => fin t tk h' k) h3
  cases ru with
  | flat e =>
    cases d <;> first | (cases e; done) | skip
    all_goals obtain rfl := Option.some.inj e
    · cases (show u = .none from rx); exact PySem.P.repr_of_none (fin _ _ _ fun _ _ e => e)
    · rename_i b; cases (show u = .bool b from rx)
      exact PySem.P.repr_of_bool (fin _ _ _ fun _ _ e => e)
    · obtain ⟨t, rfl⟩ := rx
      exact PySem.P.repr_of_int (of_decide_eq_true h1) (fin _ _ _ fun _ _ e => e)
    · obtain ⟨t, rfl⟩ := rx
      exact PySem.P.repr_of_str (fin _ _ _ fun _ _ e => e) h3
  | list _ _ => exact go _ rx
  | tuple _ _ => exact go _ rx
  | dk _ _ => exact go _ rx
  | dt _ _ => exact go _ rx
theorem SE.rep {F : Fx} {ta : TE} {ma : Ev.Env → M Val} (ha : SE F ta ma) : SE F (tCB (fun xs H Q => ∃ x, xs = [x] ∧ rRepr x H Q) (tCons ta tNil)) (fun ρ => bnd (ma ρ) reprM) := fun g w ρ S σ H Q R E h =>
  ha g w ρ S σ H _ R E (po_bind (P := fun w r => PO F (RV F.K) g w σ Q r) h (fun e S' w' H' c d p => p w' H' c d) (fun p => p) fun v S1 w1 H1 x e1 R1 r1 p => by
    obtain ⟨d, ed, p⟩ := po_viewd p
    obtain ⟨y, ey, p⟩ := po_lift p
    unfold reprD at ey
    split at ey
    · rename_i c
      obtain rfl := Option.some.inj ey
      exact ⟨x, rfl, w1.I, d, R1.le, R1.vwd r1 ed, c, p w1 H1 _ e1 R1 (.d (.str _))⟩
    · cases ey)
end Ev
end
section
set_option Elab.async false
set_option linter.all false
set_option maxRecDepth 100000
set_option maxHeartbeats 4000000
namespace Ev
open PySem PySem.Spec L2 PySem.Calls PySem.W Builtin Builtin.ObjectAttr
open PyProof.Rows hiding St IsTup
abbrev excB : List Value := [.type "Exception", .type "BaseException", .type "object"]
/-- what the written part says of such a class -/
structure ErrC (K : PySem.W.Frag) (C : Addr) : Prop where
  cls : ∃ nm q N bs bm sn sub ab col dd k0 k1 k2 k3 k5, K.lookup C = some (excClassObj nm q C N bs bm true sn sub ab col dd k0 k1 k2 k3 k5 "Exception.__new__") ∧ PySem.W.excTail excB bm = true
  sa : PySem.W.findIn K (.ref C) "__setattr__" = some (some (.builtin "object.__setattr__"))
  exC : PySem.W.subIn K (.ref C) (.type "BaseException") = some true
  tyC : PySem.W.typeIn K (.ref C) = some (.type "type")
  kC : PySem.W.keepIn K (.ref C) = true
section
variable {prog : Program} {w : World} {A : Around} {E : Value → Shared → Prop} {R : Result → Shared → Prop} {hh : Heap} {gs : Array GenState} {dr : Drawn} {tk0 : Nat} {oss : OsState}
/-- x.name = v, x an error without a dict -/
theorem osa_err {K : PySem.W.Frag} {name : Str} {tk : Tok} {v : Value} {x C : Addr} {fv : Array Value} {cd : ClassData}
    (X : K.In hh) (hx : hh.get? x = some { cls := .ref C, data := .fields fv }) (hcd : PySem.W.clsIn K C = some cd) (hm : PySem.W.excOver K C excB = true) (hd : cd.hasDict = true) (ha : PySem.W.findIn K (.ref C) name = some none)
    (hq : ∀ h' tk' dx, (∀ b o, b ≠ x → hh.get? b = some o → h'.get? b = some o) → hh.objs.size ≤ dx → dx ≠ x → h'.get? x = some { cls := .ref C, dict := some dx, data := .fields fv } →
      h'.Ns1 dx (fun y => if y = name then some v else none) → R (.ok (.ret .none)) ⟨h', gs, dr, tk', oss⟩) :
    codeAny (model prog w) A (.call (.builtin "object.__setattr__") ⟨[.ref x, .str name tk, v], []⟩) R ⟨hh, gs, dr, tk0, oss⟩ := by
  have I : PySem.W.InstAt hh x { cls := .ref C, data := .fields fv } C none := ⟨hx, rfl, rfl, trivial⟩
  have ne : x ≠ hh.objs.size := Nat.ne_of_lt (Heap.lt_size hx)
  have Lc : PySem.W.Looks (model prog w) hh (classData C) cd := PySem.W.looks_clsIn X hcd
  refine PySem.W.osa_openX (r := none) F.store_Exception X I hm (by unfold PySem.W.takerIn; rw [ha]; rfl) fun b => ?_
  obtain ⟨nm, bs, mro, ns, qn, hdct, sn, sb, ab, col, del⟩ := cd
  dsimp only at hd
  subst hd
  unfold storeInOwnDict ownDictForStores
  repeat (first | with_reducible refine PySem.HandSPX.store_in_new ?_ ?_ | with_reducible refine wpAny_loadPart_at hx ?_ | with_reducible refine Lc.at ?_ | wp_step)
  · exact ⟨_, #[], _, (Heap.get?_update_ne _ _ _ _ ne.symm).trans (Heap.get?_push_at rfl rfl), rfl, fun e he => absurd he (by simp), fun _ => rfl⟩
  · intro h' tk' hn' hs
    have hx1 : (hh.push { cls := .type "dict", data := .dict #[] }).get? x = some { cls := .ref C, data := .fields fv } := Heap.get?_push_of_some _ hx
    exact hq h' tk' hh.objs.size (fun b o hb ho => (hs.2 b (Nat.ne_of_lt (Heap.lt_size ho))).trans ((Heap.get?_update_ne _ _ _ _ hb).trans (Heap.get?_push_of_some _ ho))) (Nat.le_refl _) ne.symm ((hs.2 x ne).trans (Heap.get?_update_self _ hx1 rfl)) hn'
end
end Ev
namespace Ev
open PySem PySem.Spec L2
open PyProof.Rows hiding St IsTup
theorem ErrC.over {K : PySem.W.Frag} {C : Addr} (T : ErrC K C) : PySem.W.excOver K C excB = true ∧ ∃ cd, PySem.W.clsIn K C = some cd ∧ cd.hasDict = true := by
  obtain ⟨nm, q, N, bs, bm, sn, sub, ab, col, dd, k0, k1, k2, k3, k5, hC, ht⟩ := T.cls
  have hcl : PySem.W.clsIn K C = some { name := nm, bases := bs, mro := .ref C :: bm, ns := N, qualname := q, hasDict := true, slotNames := sn, subclasses := sub, abstract := ab, collection := col, hasDel := false } := by unfold PySem.W.clsIn; rw [hC] <;> rfl
  refine ⟨?_, _, hcl, rfl⟩
  unfold PySem.W.excOver
  rw [hcl]
  show (C == C && PySem.W.excTail excB bm) = true
  rw [ht]; simp
section
variable {X : Cx} {pins : List (Addr × Obj)} {σ : St} {H : Hp} {s : Shared} {a C : Addr} {f : Str} {y : V} {u : Value} {Q : Unit → Shared → Prop} {E : Value → Shared → Prop} {A : Around}
/-- the error's first field is stored -/
theorem ost_err (T : ErrC X.K C) (I : Inv X pins σ H s) (ea : H a = some (exo a C none)) (hno : PySem.W.findIn X.K (.ref C) f = some none) (ry : RelV y u)
    (h : ∀ d s', H d = none → d ≠ a → Inv X pins σ (upd (upd H d (exd d [(f, y)])) a (exo a C (some d))) s' → Q () s') : wpAny (model X.prog X.w) A (setAttr (.ref a) f u) Q E s := by
  obtain ⟨hov, cd, hcd, hdd⟩ := T.over
  obtain ⟨t1, ho⟩ := exo_at I.hok ea
  obtain ⟨h0, g0, d0, t0, os0⟩ := s
  refine PySem.W.set_plain I.kIn (ox := { cls := .ref C, dict := none, data := .fields #[.ref t1, .none, .none, .none, .bool false, .none] }) (od := none) ⟨ho, rfl, rfl, trivial⟩ T.sa ?_
  refine osa_err I.kIn ho hcd hov hdd hno fun h1 tk1 d kp hge hne hx hn => ?_
  have fd : H d = none := I.hok.fresh hge
  have ltd : ∀ {b : Addr} {o : Obj}, h0.get? b = some o → b ≠ d := fun {b o} q => Nat.ne_of_lt (Nat.lt_of_lt_of_le (Heap.lt_size q) hge)
  have nea : ∀ {b : Addr}, H b = none → b ≠ a := fun {b} n z => by
    rw [z, ea] at n
    cases n
  have away : ∀ {b : Addr} {v : HO}, H b = some v → b ≠ a → upd (upd H d (exd d [(f, y)])) a (exo a C (some d)) b = some v := fun {b v} q n => by
    rw [upd_ne n, upd_ne (ne_of_none q fd)]
    exact q
  have U : Un X.fs [] H (upd (upd H d (exd d [(f, y)])) a (exo a C (some d))) h0 h1 :=
    ⟨fun b o q n _ _ => kp b o (nea n) q, fun b o q n _ _ => ⟨o.slots, kp b o (nea n) q⟩, fun b o q n _ => by rw [upd_ne (nea n), upd_ne (ltd q)]; exact n,
      fun b o q _ => (Classical.em (b = a)).elim (fun z => ⟨_, (congrArg h1.get? z).trans hx⟩) fun z => ⟨o, kp b o z q⟩,
      fun b xs q => away q (at_ne ea q exo_tup), fun b o v q => away q (at_ne ea q exo_frz), fun b ps q => ⟨#[], by rw [away q (at_ne ea q exo_tbl)]; simp⟩⟩
  refine h d _ fd hne (I.un (t' := tk1) U fun b v q => ?_)
  by_cases hb : b = a
  · rw [hb, upd_same] at q
    cases q
    rw [hb]
    exact exo_ok hx
  · rw [upd_ne hb] at q
    by_cases hbd : b = d
    · rw [hbd, upd_same] at q
      cases q
      rw [hbd]
      exact exd_ok hn (relO_put (fs := []) ry fun g => True.intro)
    · rw [upd_ne hbd] at q
      refine (I.hok b v q).stay (fun c z hc e => kp c z ?_ e) (fun c hc => away hc (at_ne ea hc exo_own)) fun c xs hc => away hc (at_ne ea hc exo_tup)
      rcases hc with hc | hc
      · rw [hc]; exact hb
      · exact at_ne ea hc exo_own
/-- self.f = v, in a def of such a class -/
def tErrI (K : PySem.W.Frag) (f : Str) (to te : TE) : TS := fun D σ H => te σ H fun y H1 => to σ H1 fun x H2 => ∃ a C : Addr, x = .ref a ∧ ErrC K C ∧ PySem.W.findIn K (.ref C) f = some none ∧ H2 a = some (exo a C none) ∧
  ∀ d, H2 d = none → d ≠ a → D.nx σ (upd (upd H2 d (exd d [(f, y)])) a (exo a C (some d)))
theorem ps_errI {o e : Expr} {to te : TE} {p' pos : Pos} (ho : PE X o to) (he : PE X e te) (hs : swapsWith e (some (.Attribute o f p')) pos.line X.env = pure false) : PS X (.Assign [.Attribute o f p'] e pos) (tErrI X.K f to te) := by
  refine ⟨fun pins s σ H D I h => ?_⟩
  refine plainObj_wpAny_Assign_Attribute (thn (he.run pins s σ H _ I h) fun v s1 ⟨y, H1, I1, r1, q1⟩ => thn (ho.run pins s1 σ H1 _ I1 q1) fun u s2 ⟨x, H2, I2, r2, a, C, ex, T, hno, ea, q⟩ => ?_) hs
  subst ex
  obtain rfl : u = Value.ref a := r2
  exact ost_err T I2 ea hno r1 fun d s' n ne J => ⟨σ, _, J, q d n ne⟩
end
/-- what __init__(self, p): self.f = p does -/
def spErrI (K : PySem.W.Frag) (f : Str) : Sp := fun vs H Q _ => ∃ (a C : Addr) (y : V), vs = [.ref a, y] ∧ ErrC K C ∧ PySem.W.findIn K (.ref C) f = some none ∧ H a = some (exo a C none) ∧ ∀ d, H d = none → d ≠ a → Q .non (upd (upd H d (exd d [(f, y)])) a (exo a C (some d)))
section
variable {CX : CXT} {P : Program} {w : World} {K : PySem.W.Frag} {mg : Str → Option Value} {base : Heap} {qual p f : Str} {pa : Arguments} {scope : Scope} {fI : Addr} {fd : FuncData} {q1 q2 q3 q4 : Pos}
theorem visP {N ps : List Str} {sc : Scope} (S : FnScope N ps sc) {x : Str} (h : x ∈ ps) : Vis sc x := (S.par x h).elim (fun e => Or.inl e) fun e => Or.inr (Or.inl e)
theorem ok_errI (F : FunD K "__init__" qual pa [.Assign [.Attribute (.Name "self" q1) f q2] (.Name p q3) q4] scope [] [] fI fd) (S : FnScope ["self", p] ["self", p] scope) (h1 : (p == ("__debug__" : Str)) = false) (h2 : (p == ("__classdict__" : Str)) = false)
    (hsw : ∀ env : PySem.Env, swapsWith (.Name p q3) (some (.Attribute (.Name "self" q1) f q2)) q4.line env = pure false) : FnOk P w K mg base CX 1 fI fd ["self", p] (spErrI K f) := by
  refine F.ok (CX := CX) S (fun vs H Q E h => ?_) (fun cdv A outer s H vs Q E hr h => ⟨_, pss_one (ps_errI (pe_var (i := 0) rfl (visP S (by simp))) (pe_var (i := 1) rfl (visP S (by simp)) h1 h2) (hsw _)), ?_⟩)
  · obtain ⟨a, C, y, rfl, _⟩ := h
    rfl
  · obtain ⟨a, C, y, rfl, T, hno, ea, q⟩ := h
    exact ⟨y, rfl, .ref a, rfl, a, C, rfl, T, hno, ea, q⟩
end
/-- x(e): an error of the class at C, its field f -/
def tMkE (C : Addr) (f : Str) (te : TE) : St → Hp → XK → Prop := fun σ H Q => te σ H fun y H1 => ∀ d, H1 d = none → Q (.ref C) (some d) (upd H1 d (.xd [(f, y)]))
section
variable {X : Cx} {CX : CXT} {x f p : Str} {C fI : Addr} {fd : FuncData} {e : Expr} {te : TE} {q1 pos : Pos} {k : Nat}
theorem pmk_err (T : ErrC X.K C) (hno : PySem.W.findIn X.K (.ref C) f = some none) (iC : PySem.W.findIn X.K (.ref C) "__init__" = some (some (.ref fI))) (tI : PySem.W.typeIn X.K (.ref fI) = some (.type "function"))
    (F1 : FnOk X.prog X.w X.K X.mg X.base CX 1 fI fd ["self", p] (spErrI X.K f)) (hr : Room (1 + 1) X.A) (hb : Binds X.K fd ["self", p] []) (hx : Passes CX X (fun _ _ _ => False)) (hg : Gl X x) (hm : X.mg x = some (.ref C)) (he : PE X e te)
    (hdb : (x == ("__debug__" : Str)) = false) (h1 : starEach [e] X.env = (false, eval e X.env) :: starEach [] X.env) (h2 : (backTo pos (starEach [] X.env)).any (·.1) = false) :
    PMk X (.Call (.Name x q1) [e] [] pos) (tMkE C f te) := by
  intro pins s σ H Q I h
  obtain ⟨nm, q, N, bs, bm, sn, sub, ab, col, dd, k0, k1, k2, k3, k5, hC, ht⟩ := T.cls
  have hbm : ∀ Y : String, bm.contains (.type Y) = excB.contains (.type Y) := fun Y => PySem.W.excTail_contains Y bm ht
  refine wpAny_Call_Name_kw (ld_glob I hg hm ?_ hdb)
  refine PySem.W.callWith_K (h₀ := X.base) I.ok.mod.kin T.kC ?_ h1 h2
  rw [h1]
  show wpAny _ _ (spliced ((false, eval e X.env) :: backTo pos (starEach [] X.env))) _ _ s
  refine Calls.spliced_cons (thn (he.run pins s σ H _ I h) fun u s1 hu => Calls.spliced_nil ?_)
  obtain ⟨y, H1, I1, ru, hQ⟩ := hu
  refine ⟨I1.kIn, ?_⟩
  show wpAny _ _ (call (.ref C) [u]) _ _ _
  obtain ⟨h0, g0, d0, t0, os0⟩ := s1
  have hge : h0.objs.size ≤ h0.objs.size + 1 := Nat.le_succ _
  have hn : H1 (h0.objs.size + 1) = none := I1.hok.fresh hge
  have kp : ∀ b o, h0.get? b = some o → ((h0.push (PySem.W.kdv_tup [u])).push (PySem.HandSPX.excO C h0.objs.size)).get? b = some o := fun b o e => Heap.get?_push_of_some _ (Heap.get?_push_of_some _ e)
  have hat : ((h0.push (PySem.W.kdv_tup [u])).push (PySem.HandSPX.excO C h0.objs.size)).get? (h0.objs.size + 1) = some (PySem.HandSPX.excO C h0.objs.size) := by heap_get
  have I2 : Inv X pins σ (upd H1 (h0.objs.size + 1) (exo (h0.objs.size + 1) C none)) ⟨(h0.push (PySem.W.kdv_tup [u])).push (PySem.HandSPX.excO C h0.objs.size), g0, d0, t0, os0⟩ := I1.laid (t' := t0) kp hge (exo_ok hat)
  have sp : spErrI X.K f [.ref (h0.objs.size + 1), y] (upd H1 (h0.objs.size + 1) (exo (h0.objs.size + 1) C none))
      (fun v H2 => v = .non ∧ ∃ d, H1 d = none ∧ d ≠ h0.objs.size + 1 ∧ H2 = upd (upd (upd H1 (h0.objs.size + 1) (exo (h0.objs.size + 1) C none)) d (exd d [(f, y)])) (h0.objs.size + 1) (exo (h0.objs.size + 1) C (some d))) (fun _ _ _ => False) :=
    ⟨_, C, y, rfl, T, hno, upd_same, fun d hd hne => ⟨rfl, d, by rw [upd_ne hne] at hd; exact hd, hne, rfl⟩⟩
  have r2 : Vals [V.ref (h0.objs.size + 1), y] [Value.ref (h0.objs.size + 1), u] := .cons rfl (.cons ru .nil)
  refine wpAny_call (PySem.HandSPX.call_own F.excBase_Exception hbm (I1.kIn _ _ hC) (PySem.W.looks_findIn I1.kIn iC) (fun self => PySem.W.bind_fn I1.kIn self tI) (by show 1 ≤ sizeLine; rw [sizeLine_eq]; omega)
    (codeAny_mono (F1.run _ X.stack _ _ ⟨[Value.ref (h0.objs.size + 1), u], []⟩ [Value.ref (h0.objs.size + 1), u] _ _ (fun _ _ _ => False) (hr.make C [u] []) (I2.env0.make C [u] []) (hb _ _ I2.kIn rfl) r2 sp) fun r s' z => ?_))
  cases r with
  | error er => exact hx pins σ _ _ er s' I2 z
  | ok fl =>
    cases fl with
    | next => exact z.elim
    | brk => exact z.elim
    | cont => exact z.elim
    | ret v =>
      obtain ⟨v', H2, os2, bare2, un2, hok2, rv, rfl, d, hd, hne, rfl⟩ := z
      obtain ⟨h2', g2, d2, t2, os'⟩ := s'
      refine ⟨rv, mk_end (raises_own T.exC T.tyC) I1 hge kp un2 hok2 os2 bare2 upd_same (by rw [upd_ne hne, upd_same]) hd ?_⟩
      have eH : upd (del (upd (upd (upd H1 (h0.objs.size + 1) (exo (h0.objs.size + 1) C none)) d (exd d [(f, y)])) (h0.objs.size + 1) (exo (h0.objs.size + 1) C (some d))) (h0.objs.size + 1)) d (.xd [(f, y)]) = upd H1 d (.xd [(f, y)]) := by
        funext b
        by_cases hb : b = d
        · rw [hb, upd_same, upd_same]
        · rw [upd_ne hb, upd_ne hb]
          by_cases hba : b = h0.objs.size + 1
          · rw [hba, del_same, hn]
          · rw [del_ne hba, upd_ne hba, upd_ne hb, upd_ne hba]
      rw [eH]
      exact hQ d hd
end
end Ev
end
section
set_option Elab.async false
set_option linter.all false
set_option maxRecDepth 100000
set_option maxHeartbeats 4000000
namespace Ev
open PySem PySem.Spec L2
open PyProof.Rows hiding St IsTup
/-- what is known of a class of errors -/
structure ErrK (K : PySem.W.Frag) (C : Addr) (f : Str) : Prop where
  T : ErrC K C
  no : PySem.W.findIn K (.ref C) f = some none
  xf : XfC K C
  ha : PySem.W.findIn K (.ref C) "__class__" = some (some (.builtin "object.__class__"))
  hn : PySem.W.specialIn K (.builtin "object.__class__") "__get__" = some (some (.builtin "getset_descriptor.__get__"))
  ht : PySem.W.takesIn K (.builtin "object.__class__") = some true
  hm : PySem.W.mroIn K C (.type "object") = some true
/-- isinstance(e, C) in a suite -/
def rIsE (K : PySem.W.Frag) (a : Addr) (cls : Value) (d : Option Addr) : List V → Hp → VK → Prop := fun xs H Q => ∃ (D dx C : Addr) (f : Str) (fs : List (Str × V)) (b : Bool), cls = .ref D ∧ d = some dx ∧ H dx = some (.xd fs) ∧ ErrK K D f ∧ xs = [.ref a, .ref C] ∧ PySem.W.kitOne K (.ref D) (.ref C) = some b ∧ Q (.bl b) H
section
variable {X : Cx} {a : Addr} {oe : Obj} {cls : Value} {d : Option Addr} {pn : List (Addr × Obj)}
theorem call_isErr (hz : Zc cls d oe) (hf : ∃ vs, oe.data = .fields vs) : CallR (X.suite a ((a, oe) :: pn)) (.builtin "isinstance") (rIsE X.K a cls d) := by
  intro pins s σ H xs us Q I r h
  obtain ⟨D, dx, C, f, fs, b, rfl, rfl, hd, k, rfl, e, q⟩ := h
  cases r with
  | @cons _ u1 _ _ rx rr =>
    cases rr with
    | @cons _ u2 _ _ rt rr =>
      cases rr
      obtain rfl : u1 = Value.ref a := rx
      obtain rfl : u2 = Value.ref C := rt
      obtain ⟨hget, _⟩ := I.pin (a, oe) (List.mem_append.mpr (.inl List.mem_cons_self))
      obtain ⟨vs, hv⟩ := hf
      have hx : ObjOk X.prog X.w H s.heap dx (.xd fs) := I.hok dx _ hd
      obtain ⟨mA, hns, _⟩ := hx
      obtain ⟨od, ho, _⟩ := lookIn_ns hns
      have J : PySem.W.InstAt s.heap a oe D (some od) := ⟨hget, hz.1, by unfold PySem.W.notCls; rw [hv] <;> rfl, by rw [hz.2]; exact ho⟩
      obtain ⟨_, cd, hcl, _⟩ := k.T.over
      exact PySem.W.kia_one (PySem.W.kitx_exc (by rw [hcl]; rfl) k.xf.ga k.xf.gg k.T.exC k.ha k.hn k.ht k.hm) I.kIn J e (fun z => nomatch z) fun tk => ⟨.bl b, H, I.kept (t' := tk) fun _ _ z => z, rfl, q⟩
/-- e.f in a suite -/
def tXE (K : PySem.W.Frag) (a : Addr) (cls : Value) (d : Option Addr) (f : Str) (te : TE) : TE := fun σ H Q => ∃ C, ErrK K C f ∧ tXf a cls d C f te σ H Q
theorem pe_xe {e : Expr} {te : TE} {pos : Pos} {n : Str} (hz : Zc cls d oe) (hf : ∃ vs, oe.data = .fields vs) (he : PE (X.suite a ((a, oe) :: pn)) e te) (hb : attributeBase e n X.env (eval e X.env) = eval e X.env) :
    PE (X.suite a ((a, oe) :: pn)) (.Attribute e n pos) (tXE X.K a cls d n te) := by
  refine ⟨fun pins s σ H Q I h => ?_⟩
  obtain ⟨C, k, h⟩ := h
  exact (pe_xf k.xf k.no hz hf he hb).run pins s σ H Q I h
end
end Ev
end
section
set_option Elab.async false
set_option linter.all false
set_option maxRecDepth 100000
namespace Ev
open PySem PySem.Spec L2
def noStar : Expr → Bool
  | .Starred _ _ => false
  | _ => true
theorem star_cons {e : Expr} (h : noStar e = true) (es : List Expr) (env : PySem.Env) : starEach (e :: es) env = (false, eval e env) :: starEach es env := by
  cases e <;> first | (cases h; done) | rfl
theorem star_none (pos : Pos) (env : PySem.Env) : ∀ {es : List Expr}, es.all noStar = true → (backTo pos (starEach es env)).any (·.1) = false
  | [], _ => rfl
  | e :: es, h => by
    have h : noStar e = true ∧ es.all noStar = true := by simpa using h
    rw [star_cons h.1]
    show (false || (backTo pos (starEach es env)).any (·.1)) = false
    rw [star_none pos env h.2]; rfl
theorem star_all (pos : Pos) (env : PySem.Env) : ∀ {es : List Expr}, es.all noStar = true → (backTo pos (starEach es env)).all (fun x => !x.1) = true
  | [], _ => rfl
  | e :: es, h => by
    have h : noStar e = true ∧ es.all noStar = true := by simpa using h
    rw [star_cons h.1]
    show (true && (backTo pos (starEach es env)).all (fun x => !x.1)) = true
    rw [star_all pos env h.2]; rfl
theorem asg_each {e : Expr} (h : noStar e = true) (es : List Expr) (env : PySem.Env) : assignEach (e :: es) env = (false, assign e env) :: assignEach es env := by
  cases e <;> first | (cases h; done) | rfl
theorem asg_len (env : PySem.Env) : ∀ {es : List Expr}, es.all noStar = true → (assignEach es env).length = es.length
  | [], _ => rfl
  | e :: es, h => by
    have h : noStar e = true ∧ es.all noStar = true := by simpa using h
    rw [asg_each h.1, List.length_cons, asg_len env h.2, List.length_cons]
theorem asg_find (env : PySem.Env) : ∀ {es : List Expr}, es.all noStar = true → (assignEach es env).findIdx? (·.1) = none
  | [], _ => rfl
  | e :: es, h => by
    have h : noStar e = true ∧ es.all noStar = true := by simpa using h
    rw [asg_each h.1, List.findIdx?_cons, asg_find env h.2]
    rfl
/-- an expression whose test is its value's truth -/
def plainT : Expr → Bool
  | .UnaryOp .Not _ _ => false
  | .BoolOp _ _ _ => false
  | .IfExp _ _ _ _ => false
  | .Compare _ _ _ _ => false
  | _ => true
theorem plain_true {e : Expr} (h : plainT e = true) (env : PySem.Env) (whole : Sem Value) : PySem.isTrue e env whole = (do let v ← whole; standAt e.pos; holding [v] (truthy v)) := by
  cases e with
  | UnaryOp op _ _ => cases op <;> first | (cases h; done) | (unfold PySem.isTrue; rfl)
  | BoolOp _ _ _ => cases h
  | IfExp _ _ _ _ => cases h
  | Compare _ _ _ _ => cases h
  | _ => unfold PySem.isTrue; rfl
def plainI : Expr → Bool
  | .Slice _ _ _ _ => false
  | _ => true
theorem plain_ix {e : Expr} (h : plainI e = true) : PlainIx e := fun o i => by
  cases e <;> first | (cases h; done) | rfl
def notSet : Expr → Bool
  | .Set _ _ _ => false
  | _ => true
theorem no_marks {op : CmpOp} {e : Expr} (h : notSet e = true) : behindInMarks op e = false := by
  cases e <;> first | (cases h; done) | rfl
theorem no_last {op op' : CmpOp} {b c : Expr} (h : notSet c = true) : lastMarks [op, op'] [b, c] = false := by
  show behindInMarks op' c = false
  exact no_marks h
theorem not_folded {e : Expr} (h : notSet e = true) (env : PySem.Env) (x : Value) : foldedSetIterable e env x = pure x := by
  cases e <;> first | (cases h; done) | rfl
def notCall : Expr → Bool
  | .Call (.Name x _) [] [] _ => decide (x ≠ "super")
  | _ => true
theorem attr_base {o : Expr} (h : notCall o = true) (m : Str) (env : PySem.Env) (whole : Sem Value) : attributeBase o m env whole = whole := by
  unfold attributeBase
  split
  · rename_i x p pos
    have h : x ≠ "super" := by simpa [notCall] using h
    have h2 : (x != "super") = true := by simpa using h
    rw [h2]
    rfl
  · rfl
def notComp : Expr → Bool
  | .ListComp _ _ _ _ => false
  | .SetComp _ _ _ _ => false
  | .DictComp _ _ _ _ _ => false
  | _ => true
theorem no_swap {e : Expr} (h : notComp e = true) (t : Option Expr) (l : Nat) (env : PySem.Env) : swapsWith e t l env = pure false := by
  cases e <;> first | (cases h; done) | rfl
theorem no_swapS {e : Expr} (h : notComp e = true) (t : Expr) (l : Nat) (env : PySem.Env) : swapsWithSole [t] e l env = pure false := by
  show swapsWith e (some t) l env = pure false
  exact no_swap h _ l env
def notName : Expr → Bool
  | .Name _ _ => false
  | _ => true
/-- a comprehension behind a target that is no name -/
theorem no_swapT {e t : Expr} (h : notName t = true) (l : Nat) (env : PySem.Env) : swapsWithSole [t] e l env = pure false := by
  show swapsWith e (some t) l env = pure false
  unfold swapsWith
  cases e <;> first | rfl | (cases t <;> first | (cases h; done) | rfl)
def notSeq : Expr → Bool
  | .Tuple _ _ _ => false
  | .List _ _ => false
  | _ => true
theorem no_stores {t e : Expr} (h : notSeq t = true) (env : PySem.Env) : swappedStores [t] e env = pure none := by
  unfold swappedStores
  cases t <;> first | (cases h; done) | rfl
def notTup : Expr → Bool
  | .Tuple _ _ _ => false
  | _ => true
theorem no_stores' {t e : Expr} (h : notTup e = true) (env : PySem.Env) : swappedStores [t] e env = pure none := by
  unfold swappedStores
  cases t <;> first | rfl | (cases e <;> first | (cases h; done) | rfl)
theorem asg_one {t : Expr} (h : noStar t = true) (env : PySem.Env) : (assignEach [t] env).map (·.2) = [assign t env] := by
  rw [asg_each h]; rfl
theorem kw_names (pos : Pos) (env : PySem.Env) : ∀ {kws : List Keyword} {ks : List Str}, kws.map (·.arg) = ks.map some → (backToKw pos (keywordEach kws env)).filterMap (·.1) = ks ∧ (backToKw pos (keywordEach kws env)).all (·.1.isSome) = true ∧ (backToKw pos (keywordEach kws env)).any (·.1.isNone) = false
  | [], ks, h => by
    cases ks with
    | nil => exact ⟨rfl, rfl, rfl⟩
    | cons _ _ => simp at h
  | ⟨n, e, p⟩ :: kws, ks, h => by
    cases ks with
    | nil => simp at h
    | cons k ks =>
      have h' : n = some k ∧ kws.map (·.arg) = ks.map some := by simpa using h
      obtain ⟨rfl, h'⟩ := h'
      obtain ⟨a, b, c⟩ := kw_names pos env h'
      refine ⟨?_, ?_, ?_⟩
      · show k :: (backToKw pos (keywordEach kws env)).filterMap (·.1) = _
        rw [a]
      · show (true && (backToKw pos (keywordEach kws env)).all (·.1.isSome)) = true
        rw [b]; rfl
      · show (false || (backToKw pos (keywordEach kws env)).any (·.1.isNone)) = false
        rw [c]; rfl
end Ev
end
section
set_option Elab.async false
set_option linter.all false
set_option maxRecDepth 100000
namespace Ev
open PySem PySem.Spec L2
structure PInf where
  Γ : Tab
  G : List (Str × Val)
  gv : Str → V
  bis : List Str
  kws : List (Str × Nat × List Str)
  errs : List (Str × Str) := []
  bases : List Str := []
  trs : List (Str × List Stmt × Scope × List Str × Str) := []
  lams : List Str := []
/-- what is seen of a body: its scope, its names, the comprehension around -/
structure CT where
  sc : Scope
  N : List Str
  blk : Option Scope
  fn : Bool
def CT.fnb (Θ : CT) (x : Str) : Bool := match Θ.blk with
  | none => true
  | some s => s.names.lookup x == some .cell
/-- positional values first, then the keywords' -/
def gP {α : Type} (np nk : Nat) (is : List Nat) (us ws : List α) : List α := if us.length = np ∧ ws.length = nk then is.filterMap fun i => (us ++ ws)[i]? else []
/-- a class of errors that can be made -/
structure MkErr (P : Program) (w : World) (K : PySem.W.Frag) (mg : Str → Option Value) (base : Heap) (x f : Str) (C : Addr) : Prop where
  at_ : mg x = some (.ref C)
  k : ErrK K C f
  ex : ∃ (fI : Addr) (fd : FuncData) (p : Str), PySem.W.findIn K (.ref C) "__init__" = some (some (.ref fI)) ∧ PySem.W.typeIn K (.ref fI) = some (.type "function") ∧ FnOk P w K mg base (L2.CX P w) 1 fI fd ["self", p] (spErrI K f) ∧ Binds K fd ["self", p] []
/-- the body makes lambdas: its code, the table in it -/
def LamAt (X : Cx) : Prop := ∃ c P, X.env.code = .ref c ∧ LamX.TabB X.base X.mg c P ∧ (P, X.env.qual ++ "<lambda>") ∈ tabsOf X.K ∧ ∀ p ∈ tabsOf X.K, p.1 = P → p.2 = X.env.qual ++ "<lambda>"
/-- a def that can be called, its depth below k -/
def FnAt (CX : CXT) (Pn : PInf) (F : Fx) (X : Cx) (k : Nat) (f : Str) (fd : Fn) : Prop := ∃ a fdata ps, X.mg f = some (.ref a) ∧ PySem.W.keepIn X.K (.ref a) = true ∧ Binds X.K fdata ps [] ∧ FnG X.prog X.w X.K X.mg X.base CX (k + 3) a fdata ps (spEv F.K F.cA fd.np (callF Pn.Γ Pn.G k f)) ∧
    ∀ n ks is, (f, n, ks) ∈ Pn.kws → kwF Pn.Γ f ks n = some is → KBinds X.K fdata ps ks (gP n ks.length is) (gP n ks.length is)
structure Gd (CX : CXT) (Pn : PInf) (k : Nat) (F : Fx) (Θ : CT) (X : Cx) : Prop where
  K : X.K = F.K
  calm : X.calm = true
  nN : X.N = Θ.N
  nd : X.N.Nodup
  sc : X.env.scope = Θ.sc
  fn : ∀ x, X.fn x = Θ.fnb x
  gd : X.A.guards = some []
  room : Room (k + 3) X.A
  sysm : ∃ o, F.K.lookup sysModules = some o
  glob : ∀ p ∈ Pn.G, GlobOk F.K p.2 (Pn.gv p.1) ∧ ∃ u, X.mg p.1 = some u ∧ RelV (Pn.gv p.1) u
  bi : ∀ x ∈ Pn.bis, X.mg x = none
  fns : ∀ f fd, lookF Pn.Γ f = some fd → FnAt CX Pn F X k f fd
  low : ∀ j, k = j + 2 → ∀ f fd, lookF Pn.Γ f = some fd → FnAt CX Pn F X j f fd
  px : PassesW CX X F.W
  tk : Takes X F.W
  cx : CX = L2.CX X.prog X.w
  errs : ∀ p ∈ Pn.errs, MkErr X.prog X.w X.K X.mg X.base p.1 p.2 (F.cA p.1)
  bases : ∀ b ∈ Pn.bases, X.mg b = some (.ref (F.cA b)) ∧ ∀ p ∈ Pn.errs, PySem.W.exmOne X.K (.ref (F.cA p.1)) (.ref (F.cA b)) = some true
  kit : ∀ p ∈ Pn.errs, ∀ q ∈ Pn.errs, PySem.W.kitOne X.K (.ref (F.cA p.1)) (.ref (F.cA q.1)) = some (decide (p.1 = q.1))
  lam : Θ.fn = true → LamAt X
  trs : ∀ p ∈ Pn.trs, ∃ (g : Addr) (fdata : FuncData) (pa : Arguments), X.mg p.1 = some (.ref g) ∧ PySem.W.keepIn X.K (.ref g) = true ∧ FunD X.K p.1 p.1 pa p.2.1 p.2.2.1 [] [] g fdata ∧ FnScope p.2.2.2.1 [p.2.2.2.2] p.2.2.1 ∧ Binds X.K fdata [p.2.2.2.2] []
theorem Gd.units {CX : CXT} {Pn : PInf} {k : Nat} {F : Fx} {Θ : CT} {X : Cx} (g : Gd CX Pn k F Θ X) : X.A.units + 102 < cLine := by have := g.room.un; omega
def CT.inner (Θ : CT) (s : Scope) : CT := ⟨relS s Θ.sc, Θ.N, some s, false⟩
theorem Gd.blk {CX : CXT} {Pn : PInf} {k : Nat} {F : Fx} {Θ : CT} {X : Cx} (hCX : ∀ outer H s e s', CX outer H s (fun _ _ _ => False) e s' → False) (g : Gd CX Pn k F Θ X) (s : Shared) (H : Hp) (scope : Scope) (C : Addr) (cl : List (Str × Addr)) (fp : List Addr) :
    Gd CX Pn k (noF F) (Θ.inner scope) (X.blk s H scope (compEnvC scope cl C X.env) fp) where
  K := g.K
  calm := g.calm
  nN := g.nN
  nd := g.nd
  sc := by
    show relabel scope X.env = relS scope Θ.sc
    rw [← g.sc]; rfl
  fn := fun x => rfl
  gd := g.gd
  room := g.room
  sysm := g.sysm
  glob := g.glob
  bi := g.bi
  fns := g.fns
  low := g.low
  px := fun pins σ H s e s' _ h => hCX _ _ _ _ _ h
  tk := fun _ _ x => by
    obtain ⟨_, _, _, _, _, _, _, _, _, _, _, _, _, _, _, _, z⟩ := x
    exact z.elim
  cx := g.cx
  errs := g.errs
  bases := g.bases
  kit := g.kit
  lam := fun z => by cases z
  trs := g.trs
def visB (sc : Scope) (x : Str) : Bool := match sc.names.lookup x with
  | some .local => true
  | some .cell => true
  | some .free => true
  | _ => false
def locB (sc : Scope) (x : Str) : Bool := match sc.names.lookup x with
  | some .local => true
  | some .cell => true
  | _ => false
def glB (sc : Scope) (x : Str) : Bool := match sc.names.lookup x with
  | some .globalImplicit => true
  | _ => false
theorem visB_ok {sc : Scope} {x : Str} (h : visB sc x = true) : Vis sc x := by
  unfold visB at h
  split at h
  · rename_i e; exact .inl e
  · rename_i e; exact .inr (.inl e)
  · rename_i e; exact .inr (.inr e)
  · cases h
theorem locB_ok {sc : Scope} {x : Str} (h : locB sc x = true) : Loc sc x := by
  unfold locB at h
  split at h
  · rename_i e; exact .inl e
  · rename_i e; exact .inr e
  · cases h
theorem glB_ok {X : Cx} {sc : Scope} (e : X.env.scope = sc) {x : Str} (h : glB sc x = true) : Gl X x := by
  unfold glB at h
  split at h
  · rename_i q
    show X.env.scope.names.lookup x = _
    rw [e]; exact q
  · cases h
def okN (x : Str) : Bool := decide (x ≠ "__debug__") && decide (x ≠ "__classdict__") && decide (x ≠ "__name__")
theorem okN_ok {x : Str} (h : okN x = true) : (x == ("__debug__" : Str)) = false ∧ (x == ("__classdict__" : Str)) = false ∧ x ≠ "__name__" := by
  unfold okN at h
  simp only [Bool.and_eq_true, decide_eq_true_eq] at h
  obtain ⟨⟨a, b⟩, c⟩ := h
  exact ⟨by simpa using a, by simpa using b, c⟩
def vBin : Expr → Option (Expr × Operator × Expr)
  | .BinOp a o b _ => some (a, o, b)
  | _ => none
def vUn : Expr → Option (UnaryOp × Expr)
  | .UnaryOp o a _ => some (o, a)
  | _ => none
def vCmp : Expr → Option (Expr × CmpOp × Expr)
  | .Compare a [o] [b] _ => some (a, o, b)
  | _ => none
def vChn : Expr → Option (Expr × CmpOp × Expr × CmpOp × Expr)
  | .Compare a [o, p] [b, c] _ => some (a, o, b, p, c)
  | _ => none
def vBool : Expr → Option (BoolOp × List Expr)
  | .BoolOp o es _ => some (o, es)
  | _ => none
def vName : Expr → Option Str
  | .Name x _ => some x
  | _ => none
def vCall : Expr → Option (Str × List Expr × List Keyword)
  | .Call (.Name f _) es ks _ => some (f, es, ks)
  | _ => none
def vMeth : Expr → Option (Expr × Str × List Expr)
  | .Call (.Attribute o m ap) es [] cp => if (ap.endLine == cp.line) = true then some (o, m, es) else none
  | _ => none
def vSub : Expr → Option (Expr × Expr)
  | .Subscript a i _ => some (a, i)
  | _ => none
def vSl : Expr → Option (Expr × Option Expr × Option Expr)
  | .Subscript a (.Slice lo hi none _) _ => some (a, lo, hi)
  | _ => none
def vRev : Expr → Option Expr
  | .Subscript a (.Slice none none (some (.UnaryOp .USub (.Constant (.int 1) _ _) _)) _) _ => some a
  | _ => none
def vTup : Expr → Option (List Expr)
  | .Tuple es _ _ => some es
  | _ => none
def vLst : Expr → Option (List Expr)
  | .List es _ => some es
  | _ => none
def vDict : Expr → Option (List (Option Expr) × List Expr)
  | .Dict ks vs _ => some (ks, vs)
  | _ => none
def vIf : Expr → Option (Expr × Expr × Expr)
  | .IfExp c a b _ => some (c, a, b)
  | _ => none
def vConst : Expr → Option Const
  | .Constant c _ _ => some c
  | _ => none
def vLc : Expr → Option (Expr × Expr × Expr × List Expr × Scope)
  | .ListComp el [⟨tg, it, ifs, 0⟩] sc _ => some (el, tg, it, ifs, sc)
  | _ => none
def constF : Const → Option V
  | .none => some .non
  | .bool b => some (.bl b)
  | .int i => some (.int i)
  | .str s => some (.str s)
  | _ => none
def tyE (Pn : PInf) (Θ : CT) (e : Expr) (t : Ty) : Bool := match vName e with
  | some x => decide (x = Str.ofString t.name) && glB Θ.sc x && Pn.bis.contains x
  | none => false
def all2 {α β : Type} (f : α → β → Bool) : List α → List β → Bool
  | [], [] => true
  | a :: r, b :: s => f a b && all2 f r s
  | _, _ => false
def opt2 {α β : Type} (f : α → β → Bool) : Option α → Option β → Bool
  | none, none => true
  | some a, some b => f a b
  | _, _ => false
/-- targets -/
def ckG : Nat → CT → Expr → Tg → Bool
  | 0, _, _, _ => false
  | n + 1, Θ, e, t => match t with
    | .var i => (match vName e with
      | some x => decide (Θ.N[i]? = some x) && locB Θ.sc x && (Θ.fnb x || decide (Θ.sc.names.lookup x = some .local))
      | none => false)
    | .tup ts => (match vTup e with
      | some es => es.all noStar && all2 (ckG n Θ) es ts
      | none => false)
def slots : Nat → Tg → List Nat
  | 0, _ => []
  | n + 1, t => match t with
    | .var i => [i]
    | .tup ts => (ts.map (slots n)).flatten
def biName (Pn : PInf) (Θ : CT) (x : Str) (n : String) : Bool := decide (x = Str.ofString n) && glB Θ.sc x && Pn.bis.contains x
section
variable (Pn : PInf)
def ckI (ck : CT → Expr → X → Bool) (Θ : CT) (tg e : Expr) (it : It) : Bool := match it with
  | .ex a => ck Θ e a
  | .rng xs => (match vCall e with
    | some (f, es, []) => biName Pn Θ f "range" && es.all noStar && all2 (ck Θ) es xs && (xs.length == 1 || xs.length == 2)
    | _ => false)
  | .enu a => (match vCall e with
    | some (f, [b], []) => biName Pn Θ f "enumerate" && noStar b && ck Θ b a && (vTup tg).isSome
    | _ => false)
  | .zip a b => (match vCall e with
    | some (f, [c, d], []) => biName Pn Θ f "zip" && noStar c && noStar d && ck Θ c a && ck Θ d b && (vTup tg).isSome
    | _ => false)
  | .rev a => (match vCall e with
    | some (f, [b], []) => biName Pn Θ f "reversed" && noStar b && ck Θ b a
    | _ => false)
def vAttr : Expr → Option (Str × Str)
  | .Attribute (.Name x _) f _ => some (x, f)
  | _ => none
theorem vAttr_ok {e : Expr} {x} (h : vAttr e = some x) : ∃ p q, e = .Attribute (.Name x.1 p) x.2 q := by
  unfold vAttr at h
  split at h
  · cases h; exact ⟨_, _, rfl⟩
  · cases h
/-- an expression of an except suite (ex: the slot of its name, the name) -/
def ckHX (Θ : CT) (ex : Option (Nat × Str)) : Nat → Expr → HX → Bool
  | 0, _, _ => false
  | n + 1, e, h => match h with
    | .c x => (match vConst e with
      | some c => decide (x = c) && (constF c).isSome
      | none => false)
    | .var i => (match vName e with
      | some x => decide (Θ.N[i]? = some x) && visB Θ.sc x && okN x && (match ex with
        | some (j, _) => !decide (i = j)
        | none => true)
      | none => false)
    | .fld f => (match vAttr e, ex with
      | some (x, f'), some (j, y) => decide (f' = f) && decide (x = y) && decide (Θ.N[j]? = some x) && visB Θ.sc x && okN x
      | _, _ => false)
    | .isx c => (match vCall e, ex with
      | some (f, [ea, ec], []), some (j, y) => biName Pn Θ f "isinstance" && (match vName ea, vName ec with
        | some x, some c' => decide (x = y) && decide (Θ.N[j]? = some x) && visB Θ.sc x && okN x && decide (c' = c) && glB Θ.sc c && okN c && (Pn.errs.map (·.1)).contains c
        | _, _ => false)
      | _, _ => false)
    | .rep h => (match vCall e with
      | some (f, [ea], []) => biName Pn Θ f "repr" && noStar ea && ckHX Θ ex n ea h
      | _ => false)
    | .tup hs => (match vTup e with
      | some es => es.all noStar && all2 (ckHX Θ ex n) es hs
      | none => false)
    | .ite t a b => (match vIf e with
      | some (et, ea, eb) => (match t with
        | .isin _ _ => true
        | _ => plainT et) && ckHX Θ ex n et t && ckHX Θ ex n ea a && ckHX Θ ex n eb b
      | none => false)
    | .isin a b => (match vCmp e with
      | some (ea, .In, eb) => notSet eb && ckHX Θ ex n ea a && ckHX Θ ex n eb b
      | _ => false)
/-- a statement x = e -/
def vSet : Stmt → Option (Str × Expr)
  | .Assign [.Name x _] e _ => some (x, e)
  | _ => none
theorem vSet_ok {s : Stmt} {x} (h : vSet s = some x) : ∃ p q, s = .Assign [.Name x.1 p] x.2 q := by
  unfold vSet at h
  split at h
  · cases h; exact ⟨_, _, rfl⟩
  · cases h
def ckHT (Θ : CT) (ex : Nat × Str) : Nat → List Stmt → HT → Bool
  | 0, _, _ => false
  | n + 1, ss, h => match h, ss with
    | .ret h, [.Return (some e) _] => ckHX Pn Θ (some ex) 20 e h
    | .asg i h k, s :: rest => (match vSet s with
      | some (x, e) => decide (Θ.N[i]? = some x) && locB Θ.sc x && notComp e && !decide (i = ex.1) && ckHX Pn Θ (some ex) 20 e h && ckHT Θ ex n rest k
      | none => false)
    | .iff t a k, .If c ss' [] _ :: rest => plainT c && ckHX Pn Θ (some ex) 20 c t && ckHT Θ ex n ss' a && ckHT Θ ex n rest k
    | _, _ => false
/-- the body of a def that tries what it got -/
def ckTr (body : List Stmt) (sc : Scope) (N : List Str) (a : Str) (ns i : Nat) (w : HX) (hs : List (Str × Str)) (h : HT) : Bool :=
  decide (N.length = ns) && decide (N[0]? = some a) && visB sc a && okN a && hs.all (fun c => decide (c ∈ Pn.errs)) && decide (1 ≤ ns) && (match body with
    | [.Try [s] [.ExceptHandler (some (.Name b _)) (some e) (h0 :: hb) _] [] [] _, .Return (some we) _] => (match vSet s with
      | some (x, .Call (.Name a' _) [] [] _) => decide (a' = a) && decide (N[i]? = some x) && locB sc x && !decide (i = 0) && decide (i < ns) && Pn.bases.contains b && glB sc b && okN b && decide (sc.names.lookup e = some .local) && decide (N[N.idxOf e]? = some e) && !decide (N.idxOf e = 0) &&
          ckHX Pn ⟨sc, N, none, false⟩ none 20 we w && ckHT Pn ⟨sc, N, none, false⟩ (N.idxOf e, e) 20 (h0 :: hb) h
      | _ => false)
    | [.Try [.Return (some (.Tuple [.Constant c _ _, .Call (.Name a' _) [] [] _] _ _)) _] [.ExceptHandler (some (.Name b _)) (some e) (h0 :: hb) _] [] [] _] => (match w with
      | .tup [.c c', .var i'] => decide (c = c') && (constF c).isSome && decide (i' = i) && decide (ns = i)
      | _ => false) && decide (a' = a) && Pn.bases.contains b && glB sc b && okN b && decide (sc.names.lookup e = some .local) && decide (N[N.idxOf e]? = some e) && !decide (N.idxOf e = 0) && ckHT Pn ⟨sc, N, none, false⟩ (N.idxOf e, e) 20 (h0 :: hb) h
    | _ => false)
/-- f(x, .., k = y, ..) in a lambda -/
def ckLam (Θ : CT) (e : Expr) (cf : Str) (as : List Nat) (ks : List (Str × Nat)) : Bool := match e with
  | .Lambda params body scope _ => LamX.lamSB Θ.sc scope && params.posonlyargs.isEmpty && params.args.isEmpty && params.vararg.isNone && params.kwonlyargs.isEmpty && params.kw_defaults.isEmpty && params.kwarg.isNone && params.defaults.isEmpty && (match vCall body with
    | some (f, es, kws) => decide (f = cf) && glB scope f && okN f && (lookF Pn.Γ cf).isSome && (kwF Pn.Γ cf (ks.map (·.1)) as.length).isSome && (ks.isEmpty || decide ((cf, as.length, ks.map (·.1)) ∈ Pn.kws)) && es.all noStar &&
        all2 (fun e i => match vName e with
          | some x => decide (Θ.N[i]? = some x) && visB scope x && okN x
          | none => false) es as && decide (kws.map (·.arg) = (ks.map (·.1)).map some) && all2 (fun (w : Keyword) (p : Str × Nat) => match vName w.value with
          | some x => decide (Θ.N[p.2]? = some x) && visB scope x && okN x
          | none => false) kws ks
    | none => false)
  | _ => false
def stepE (cE cT : CT → Expr → X → Bool) (Θ : CT) (e : Expr) (x : X) : Bool := match x with
    | .var i => (match vName e with
      | some x => decide (Θ.N[i]? = some x) && visB Θ.sc x && okN x
      | none => false)
    | .c c => (match vConst e with
      | some c' => decide (c = c') && (constF c).isSome
      | none => false)
    | .g j => (match vName e with
      | some x => decide ((Pn.G[j]?).map (·.1) = some x) && glB Θ.sc x && okN x
      | none => false)
    | .tup xs => (match vTup e with
      | some es => es.all noStar && all2 (cE Θ) es xs
      | none => false)
    | .lst _ xs => (match vLst e with
      | some es => es.all noStar && all2 (cE Θ) es xs
      | none => false)
    | .dnil => (match vDict e with
      | some ([], []) => true
      | _ => false)
    | .dnew _ => (match vDict e with
      | some ([], []) => true
      | _ => false)
    | .dct _ ps => (match vDict e with
      | some (ks, vs) => all2 (fun (k : Option Expr) (p : X × X) => match k with
          | some k => cE Θ k p.1
          | none => false) ks ps && all2 (fun (v : Expr) (p : X × X) => cE Θ v p.2) vs ps && !ps.isEmpty && decide (ps.length ≤ 15)
      | none => false)
    | .bin _ o a b => (match vBin e with
      | some (ea, op, eb) => decide (op = opB o) && cE Θ ea a && cE Θ eb b
      | none => false)
    | .neg a => (match vUn e with
      | some (.USub, ea) => cE Θ ea a
      | _ => false)
    | .cmp o a b => (match vCmp e with
      | some (ea, op, eb) => decide (op = opC o) && notSet eb && cE Θ ea a && cE Θ eb b
      | none => false)
    | .chn o p a b c => (match vChn e with
      | some (ea, op, eb, op', ec) => decide (op = opC o) && decide (op' = opC p) && notSet ec && cE Θ ea a && cE Θ eb b && cE Θ ec c
      | none => false)
    | .and_ xs => (match vBool e with
      | some (.And, es) => !xs.isEmpty && all2 (cE Θ) es xs
      | _ => false)
    | .or_ xs => (match vBool e with
      | some (.Or, es) => !xs.isEmpty && all2 (cE Θ) es xs
      | _ => false)
    | .not_ a => (match vUn e with
      | some (.Not, ea) => cE Θ ea a
      | _ => false)
    | .ite t a b => (match vIf e with
      | some (et, ea, eb) => cT Θ et t && cE Θ ea a && cE Θ eb b
      | none => false)
    | .idx a i => (match vSub e with
      | some (ea, ei) => plainI ei && cE Θ ea a && cE Θ ei i
      | none => false)
    | .sl _ a lo hi => (match vSl e with
      | some (ea, el, eh) => cE Θ ea a && opt2 (cE Θ) el lo && opt2 (cE Θ) eh hi
      | none => false)
    | .rev _ a => (match vRev e with
      | some ea => cE Θ ea a
      | none => false)
    | .call f xs => (match vCall e with
      | some (f', es, []) => decide (f = f') && glB Θ.sc f && okN f && (lookF Pn.Γ f).isSome && es.all noStar && all2 (cE Θ) es xs
      | _ => false)
    | .callk f xs ks => (match vCall e with
      | some (f', es, kws) => decide (f = f') && glB Θ.sc f && okN f && (lookF Pn.Γ f).isSome && (kwF Pn.Γ f (ks.map (·.1)) xs.length).isSome && decide ((f, xs.length, ks.map (·.1)) ∈ Pn.kws) && es.all noStar && all2 (cE Θ) es xs &&
          decide (kws.map (·.arg) = (ks.map (·.1)).map some) && all2 (fun (w : Keyword) (p : Str × X) => cE Θ w.value p.2) kws ks
      | _ => false)
    | .bi _ b xs => (match vCall e, fnB b with
      | some (f, es, []), some (nm, _) => biName Pn Θ f nm && es.all noStar && !es.isEmpty && all2 (cE Θ) es xs
      | _, _ => false)
    | .rep a => (match vCall e with
      | some (f, [ea], []) => biName Pn Θ f "repr" && noStar ea && cE Θ ea a
      | _ => false)
    | .isi ts a => (match vCall e with
      | some (f, [ea, et], []) => biName Pn Θ f "isinstance" && noStar ea && cE Θ ea a && (match ts with
        | [t] => tyE Pn Θ et t
        | ts => (match vTup et with
          | some ets => all2 (tyE Pn Θ) ets ts && decide (ts.length ≤ 10)
          | none => false))
      | _ => false)
    | .tried f ns i w hs h cf as ks => Θ.fn && (match vCall e with
      | some (f', [el], []) => decide (f' = f) && glB Θ.sc f && okN f && ckLam Pn Θ el cf as ks && (match Pn.trs.find? fun p => decide (p.1 = f) with
        | some (_, body, sc, N, a) => ckTr Pn body sc N a ns i w hs h
        | none => false)
      | _ => false)
    | .me m o xs => (match vMeth e, meId m with
      | some (eo, nm, es), some (nm', _) => decide (nm = nm') && notCall eo && es.all noStar && decide (es.length < 20) && cE Θ eo o && all2 (cE Θ) es xs
      | _, _ => false)
    | .comp _ el tg it ts own => (match vLc e with
      | some (eel, etg, eit, eifs, sc) => blkC Θ.N Θ.sc sc (own.map fun i => ((Θ.N[i]?).getD "", i)) && ckG 9 (Θ.inner sc) etg tg && (slots 9 tg).all (fun i => own.contains i) && ckI Pn cE Θ etg eit it && notSet eit &&
          (match eifs, ts with
            | [], [] => true
            | [ec], [c] => cT (Θ.inner sc) ec c
            | _, _ => false) && cE (Θ.inner sc) eel el
      | none => false)
/-- a test -/
def stepT (cE cT cE' : CT → Expr → X → Bool) (Θ : CT) (e : Expr) (x : X) : Bool := match x with
    | .and_ xs => (match vBool e with
      | some (.And, es) => !xs.isEmpty && all2 (cT Θ) es xs
      | _ => false)
    | .or_ xs => (match vBool e with
      | some (.Or, es) => !xs.isEmpty && all2 (cT Θ) es xs
      | _ => false)
    | .not_ a => (match vUn e with
      | some (.Not, ea) => cT Θ ea a
      | _ => false)
    | .cmp o a b => (match vCmp e with
      | some (ea, op, eb) => decide (op = opC o) && notSet eb && cE Θ ea a && cE Θ eb b
      | none => false)
    | .chn o p a b c => (match vChn e with
      | some (ea, op, eb, op', ec) => decide (op = opC o) && decide (op' = opC p) && notSet ec && cE Θ ea a && cE Θ eb b && cE Θ ec c
      | none => false)
    | x => plainT e && cE' Θ e x
def ckB : Nat → (CT → Expr → X → Bool) × (CT → Expr → X → Bool)
  | 0 => (fun _ _ _ => false, fun _ _ _ => false)
  | n + 1 => (stepE Pn (ckB n).1 (ckB n).2, stepT (ckB n).1 (ckB n).2 (stepE Pn (ckB n).1 (ckB n).2))
def ckE (n : Nat) : CT → Expr → X → Bool := (ckB Pn n).1
def ckT (n : Nat) : CT → Expr → X → Bool := (ckB Pn n).2
theorem ckE_succ (n : Nat) : ckE Pn (n + 1) = stepE Pn (ckE Pn n) (ckT Pn n) := rfl
theorem ckT_succ (n : Nat) : ckT Pn (n + 1) = stepT (ckE Pn n) (ckT Pn n) (ckE Pn (n + 1)) := rfl
end
end Ev
end
section
set_option Elab.async false
set_option linter.all false
set_option maxRecDepth 100000
namespace Ev
open PySem PySem.Spec L2
open PyProof.Rows hiding St IsTup
theorem all2_len {α β : Type} {f : α → β → Bool} : ∀ {a : List α} {b : List β}, all2 f a b = true → a.length = b.length
  | [], [], _ => rfl
  | x :: a, y :: b, h => by
    have h : f x y = true ∧ all2 f a b = true := by simpa [all2] using h
    exact congrArg (· + 1) (all2_len h.2)
  | [], _ :: _, h => by cases h
  | _ :: _, [], h => by cases h
def Cf (Pn : PInf) (k : Nat) : Cfg := ⟨callF Pn.Γ Pn.G k, kwF Pn.Γ, Pn.G, lowF Pn.Γ Pn.G k⟩
section
variable {CX : CXT} {Pn : PInf} {k : Nat} {K : PySem.W.Frag} {cA : Str → Addr}
def OkE (CX : CXT) (Pn : PInf) (k : Nat) (K : PySem.W.Frag) (cA : Str → Addr) (W : WX) (Θ : CT) (e : Expr) (m : Ev.Env → M Val) : Prop := ∃ t, (∀ X, Gd CX Pn k ⟨K, cA, W⟩ Θ X → PE X e t) ∧ SE ⟨K, cA, W⟩ t m
def OkT (CX : CXT) (Pn : PInf) (k : Nat) (K : PySem.W.Frag) (cA : Str → Addr) (W : WX) (Θ : CT) (e : Expr) (m : Ev.Env → M Bool) : Prop := ∃ t, (∀ X, Gd CX Pn k ⟨K, cA, W⟩ Θ X → PT X e t) ∧ ST ⟨K, cA, W⟩ t m
def OkA (CX : CXT) (Pn : PInf) (k : Nat) (K : PySem.W.Frag) (cA : Str → Addr) (W : WX) (Θ : CT) (es : List Expr) (m : Ev.Env → M (List Val)) : Prop := ∃ t, (∀ X, Gd CX Pn k ⟨K, cA, W⟩ Θ X → PA X es t) ∧ SA ⟨K, cA, W⟩ t m
def OkI (CX : CXT) (Pn : PInf) (k : Nat) (K : PySem.W.Frag) (cA : Str → Addr) (W : WX) (Θ : CT) (tg e : Expr) (m : Ev.Env → M (List Val)) : Prop := ∃ t, (∀ X, Gd CX Pn k ⟨K, cA, W⟩ Θ X → PI X tg e t) ∧ SI (F := ⟨K, cA, W⟩) t m
def OkG (CX : CXT) (Pn : PInf) (k : Nat) (K : PySem.W.Frag) (cA : Str → Addr) (W : WX) (Θ : CT) (e : Expr) (t : Tg) (own : List Nat) : Prop := ∃ g, (∀ X, Gd CX Pn k ⟨K, cA, W⟩ Θ X → PG X e g) ∧ SG (F := ⟨K, cA, W⟩) own g (asgT t)
theorem vName_ok {e : Expr} {x : Str} (h : vName e = some x) : ∃ p, e = .Name x p := by cases e <;> cases h; exact ⟨_, rfl⟩
theorem vTup_ok {e : Expr} {x : List Expr} (h : vTup e = some x) : ∃ kk p, e = .Tuple x kk p := by cases e <;> cases h; exact ⟨_, _, rfl⟩
theorem vLst_ok {e : Expr} {x : List Expr} (h : vLst e = some x) : ∃ p, e = .List x p := by cases e <;> cases h; exact ⟨_, rfl⟩
theorem vConst_ok {e : Expr} {x : Const} (h : vConst e = some x) : ∃ kk p, e = .Constant x kk p := by cases e <;> cases h; exact ⟨_, _, rfl⟩
theorem vBin_ok {e : Expr} {x} (h : vBin e = some x) : ∃ p, e = .BinOp x.1 x.2.1 x.2.2 p := by cases e <;> cases h; exact ⟨_, rfl⟩
theorem vUn_ok {e : Expr} {x} (h : vUn e = some x) : ∃ p, e = .UnaryOp x.1 x.2 p := by cases e <;> cases h; exact ⟨_, rfl⟩
theorem vBool_ok {e : Expr} {x} (h : vBool e = some x) : ∃ p, e = .BoolOp x.1 x.2 p := by cases e <;> cases h; exact ⟨_, rfl⟩
theorem vSub_ok {e : Expr} {x} (h : vSub e = some x) : ∃ p, e = .Subscript x.1 x.2 p := by cases e <;> cases h; exact ⟨_, rfl⟩
theorem vIf_ok {e : Expr} {x} (h : vIf e = some x) : ∃ p, e = .IfExp x.1 x.2.1 x.2.2 p := by cases e <;> cases h; exact ⟨_, rfl⟩
theorem vDict_ok {e : Expr} {x} (h : vDict e = some x) : ∃ p, e = .Dict x.1 x.2 p := by cases e <;> cases h; exact ⟨_, rfl⟩
theorem vCmp_ok {e : Expr} {x} (h : vCmp e = some x) : ∃ p, e = .Compare x.1 [x.2.1] [x.2.2] p := by
  unfold vCmp at h
  split at h
  · cases h; exact ⟨_, rfl⟩
  · cases h
theorem vChn_ok {e : Expr} {x} (h : vChn e = some x) : ∃ p, e = .Compare x.1 [x.2.1, x.2.2.2.1] [x.2.2.1, x.2.2.2.2] p := by
  unfold vChn at h
  split at h
  · cases h; exact ⟨_, rfl⟩
  · cases h
theorem vCall_ok {e : Expr} {x} (h : vCall e = some x) : ∃ p q, e = .Call (.Name x.1 p) x.2.1 x.2.2 q := by
  unfold vCall at h
  split at h
  · cases h; exact ⟨_, _, rfl⟩
  · cases h
theorem vMeth_ok {e : Expr} {x} (h : vMeth e = some x) : ∃ p q, e = .Call (.Attribute x.1 x.2.1 p) x.2.2 [] q ∧ (p.endLine == q.line) = true := by
  unfold vMeth at h
  split at h
  · split at h
    · rename_i c; cases h; exact ⟨_, _, rfl, c⟩
    · cases h
  · cases h
theorem vSl_ok {e : Expr} {x} (h : vSl e = some x) : ∃ p q, e = .Subscript x.1 (.Slice x.2.1 x.2.2 none p) q := by
  unfold vSl at h
  split at h
  · cases h; exact ⟨_, _, rfl⟩
  · cases h
theorem vRev_ok {e : Expr} {x} (h : vRev e = some x) : ∃ kk p1 p2 p3 q, e = .Subscript x (.Slice none none (some (.UnaryOp .USub (.Constant (.int 1) kk p1) p2)) p3) q := by
  unfold vRev at h
  split at h
  · cases h; exact ⟨_, _, _, _, _, rfl⟩
  · cases h
theorem vLc_ok {e : Expr} {x} (h : vLc e = some x) : ∃ p, e = .ListComp x.1 [⟨x.2.1, x.2.2.1, x.2.2.2.1, 0⟩] x.2.2.2.2 p := by
  unfold vLc at h
  split at h
  · cases h; exact ⟨_, rfl⟩
  · cases h
theorem fnB_boot : ∀ b n f, fnB b = some (n, f) → bootBuiltins (Str.ofString n) = some f ∧ Str.ofString n ≠ "__name__" ∧ (Str.ofString n == ("__debug__" : Str)) = false := fun b n f h => by
  cases b <;> first | (cases h; done) | skip
  all_goals obtain ⟨rfl, rfl⟩ : _ = n ∧ _ = f := by simpa [fnB] using h
  all_goals refine ⟨?_, by decide +kernel, by decide +kernel⟩
  all_goals decide +kernel
theorem biName_ok {Θ : CT} {x : Str} {n : String} (h : biName Pn Θ x n = true) : x = Str.ofString n ∧ glB Θ.sc x = true ∧ x ∈ Pn.bis := by
  unfold biName at h
  simp only [Bool.and_eq_true, decide_eq_true_eq, List.contains_iff_mem] at h
  exact ⟨h.1.1, h.1.2, h.2⟩
section
variable {W : WX} {Θ : CT}
/-- targets -/
theorem ckG_ok : ∀ (n : Nat) {e : Expr} {t : Tg}, ckG n Θ e t = true → OkG CX Pn k K cA W Θ e t (slots n t)
  | 0, _, _, h => by cases h
  | n + 1, e, .var i, h => by
    have h' : (match vName e with
      | some x => decide (Θ.N[i]? = some x) && locB Θ.sc x && (Θ.fnb x || decide (Θ.sc.names.lookup x = some .local))
      | none => false) = true := h
    clear h
    split at h'
    · rename_i x ex
      obtain ⟨p, rfl⟩ := vName_ok ex
      simp only [Bool.and_eq_true, Bool.or_eq_true, decide_eq_true_eq] at h'
      obtain ⟨⟨h1, h2⟩, h3⟩ := h'
      refine ⟨gName i, fun X g => pg_name g.nd (by rw [g.nN]; exact h1) (by rw [g.sc]; exact locB_ok h2) ?_, SG.name i⟩
      rcases h3 with h3 | h3
      · exact .inl (by rw [g.fn]; exact h3)
      · exact .inr (by rw [g.sc]; exact h3)
    · cases h'
  | n + 1, e, .tup ts, h => by
    have h' : (match vTup e with
      | some es => es.all noStar && all2 (ckG n Θ) es ts
      | none => false) = true := h
    clear h
    split at h'
    · rename_i es ex
      obtain ⟨kk, p, rfl⟩ := vTup_ok ex
      have h : es.all noStar = true ∧ all2 (ckG n Θ) es ts = true := by simpa using h'
      have go : ∀ {es : List Expr} {ts : List Tg}, es.all noStar = true → all2 (ckG n Θ) es ts = true → ∃ g, (∀ X, Gd CX Pn k ⟨K, cA, W⟩ Θ X → PGs X es g) ∧ SGs (F := ⟨K, cA, W⟩) ((ts.map (slots n)).flatten) g (asgTs ts) := by
        intro es
        induction es with
        | nil =>
          intro ts _ h2
          cases ts with
          | nil => exact ⟨gNil, fun X g => pgs_nil, SGs.nil⟩
          | cons _ _ => cases h2
        | cons e es ih =>
          intro ts h1 h2
          cases ts with
          | nil => cases h2
          | cons t ts =>
            have h1 : noStar e = true ∧ es.all noStar = true := by simpa using h1
            have h2 : ckG n Θ e t = true ∧ all2 (ckG n Θ) es ts = true := by simpa [all2] using h2
            obtain ⟨g1, a1, b1⟩ := ckG_ok n h2.1
            obtain ⟨g2, a2, b2⟩ := ih h1.2 h2.2
            exact ⟨gCons g1 g2, fun X g => pgs_cons (a1 X g) (a2 X g) (by rw [asg_each h1.1]; rfl), SGs.cons b1 b2⟩
      obtain ⟨g, a, b⟩ := go h.1 h.2
      have hl := all2_len h.2
      refine ⟨gTup K es.length g, fun X gd => ?_, SG.tup b fun vs ρ S z => by rw [hl]; exact asgTs_length ts vs ρ S z⟩
      have := pg_tup (pos := p) (k := kk) gd.calm (a X gd) (asg_len X.env h.1) (asg_find X.env h.1)
      rw [gd.K] at this
      exact this
    · cases h'
end
section
variable {n : Nat} {cE cT : CT → Expr → X → Bool}
variable (hE : ∀ W Θ e x, cE Θ e x = true → OkE CX Pn k K cA W Θ e (ev (Cf Pn k) n x)) (hT : ∀ W Θ e x, cT Θ e x = true → OkT CX Pn k K cA W Θ e (fun ρ => bnd (ev (Cf Pn k) n x ρ) truB))
variable {W : WX} {Θ : CT}
include hE in
theorem ckA_ok : ∀ {es : List Expr} {xs : List X}, es.all noStar = true → all2 (cE Θ) es xs = true → OkA CX Pn k K cA W Θ es (fun ρ => mapE (fun e => ev (Cf Pn k) n e ρ) xs)
  | [], [], _, _ => ⟨tNil, fun X g => pa_nil, SA.nil⟩
  | e :: es, x :: xs, h1, h2 => by
    have h1 : noStar e = true ∧ es.all noStar = true := by simpa using h1
    have h2 : cE Θ e x = true ∧ all2 (cE Θ) es xs = true := by simpa [all2] using h2
    obtain ⟨t1, a1, b1⟩ := hE W Θ e x h2.1
    obtain ⟨t2, a2, b2⟩ := ckA_ok h1.2 h2.2
    exact ⟨tCons t1 t2, fun X g => pa_cons (a1 X g) (a2 X g) (star_cons h1.1 _ _), SA.cons b1 b2⟩
  | [], _ :: _, _, h => by cases h
  | _ :: _, [], _, h => by cases h
theorem mapE_len {f : X → M Val} : ∀ {xs : List X} {S : List Cell} {vs : List Val} {S' : List Cell}, mapE f xs S = .ok vs S' → vs.length = xs.length
  | [], _, _, _, h => by cases h; rfl
  | x :: xs, S, vs, S', h => by
    have h : bnd (f x) (fun v => bnd (mapE f xs) fun vs => Ev.ret (v :: vs)) S = .ok vs S' := h
    unfold bnd at h
    cases e1 : f x S with
    | ok v S1 =>
      simp only [e1] at h
      cases e2 : mapE f xs S1 with
      | ok us S2 => simp only [e2] at h; cases h; exact congrArg (· + 1) (mapE_len e2)
      | ex _ _ => simp only [e2] at h; cases h
      | no => simp only [e2] at h; cases h
    | ex _ _ => simp only [e1] at h; cases h
    | no => simp only [e1] at h; cases h
include hE in
theorem ckI_ok {tg e : Expr} {it : It} (h : ckI Pn cE Θ tg e it = true) : OkI CX Pn k K cA W Θ tg e (fun ρ => itE (fun e => ev (Cf Pn k) n e ρ) it) := by
  cases it with
  | ex a =>
    obtain ⟨t, a1, b1⟩ := hE W Θ e a h
    refine ⟨iAny K t, fun X g => ?_, SI.any b1⟩
    have := pi_any (X := X) (tg := tg) (a1 X g)
    rw [g.K] at this
    exact this
  | rng xs =>
    have h' : (match vCall e with
      | some (f, es, []) => biName Pn Θ f "range" && es.all noStar && all2 (cE Θ) es xs && (xs.length == 1 || xs.length == 2)
      | _ => false) = true := h
    clear h
    split at h'
    · rename_i f es ex
      obtain ⟨p, q, rfl⟩ := vCall_ok ex
      simp only [Bool.and_eq_true, Bool.or_eq_true, beq_iff_eq] at h'
      obtain ⟨⟨⟨h1, h2⟩, h3⟩, h4⟩ := h'
      obtain ⟨rfl, hg, hb⟩ := biName_ok h1
      have hl := all2_len h3
      obtain ⟨t, a1, b1⟩ := ckA_ok hE (W := W) h2 h3
      match es, xs, h2, h3, h4, hl, a1, b1 with
      | [ea], [xa], h2, h3, h4, hl, a1, b1 =>
        have h2 : noStar ea = true := by simpa using h2
        refine ⟨iRng1 t, fun X g => pi_range1 (glB_ok g.sc hg) (g.bi _ hb) (a1 X g) (star_cons h2 _ _), SI.rng1 b1 fun ρ S vs S' e => ?_⟩
        exact mapE_len e
      | [ea, eb], [xa, xb], h2, h3, h4, hl, a1, b1 =>
        have h2 : noStar ea = true ∧ noStar eb = true := by simpa using h2
        refine ⟨iRng2 t, fun X g => pi_range2 (glB_ok g.sc hg) (g.bi _ hb) (a1 X g) (by rw [star_cons h2.1, star_cons h2.2]; rfl) (by rw [star_cons h2.2]; rfl), SI.rng2 b1 fun ρ S vs S' e => ?_⟩
        exact mapE_len e
      | [], xs, _, _, h4, hl, _, _ => simp at hl; rw [← hl] at h4; simp at h4
      | _ :: _ :: _ :: _, xs, _, _, h4, hl, _, _ => simp at hl; rw [← hl] at h4; simp at h4
      | [_], [], _, _, _, hl, _, _ => simp at hl
      | [_], _ :: _ :: _, _, _, _, hl, _, _ => simp at hl
      | [_, _], [], _, _, _, hl, _, _ => simp at hl
      | [_, _], [_], _, _, _, hl, _, _ => simp at hl
      | [_, _], _ :: _ :: _ :: _, _, _, _, hl, _, _ => simp at hl
    · cases h'
  | enu a =>
    have h' : (match vCall e with
      | some (f, [b], []) => biName Pn Θ f "enumerate" && noStar b && cE Θ b a && (vTup tg).isSome
      | _ => false) = true := h
    clear h
    split at h'
    · rename_i f b ex
      obtain ⟨p, q, rfl⟩ := vCall_ok ex
      simp only [Bool.and_eq_true] at h'
      obtain ⟨⟨⟨h1, h2⟩, h3⟩, h4⟩ := h'
      obtain ⟨rfl, hg, hb⟩ := biName_ok h1
      obtain ⟨es, et⟩ := Option.isSome_iff_exists.mp h4
      obtain ⟨kk, pt, rfl⟩ := vTup_ok et
      obtain ⟨t, a1, b1⟩ := ckA_ok hE (W := W) (es := [b]) (xs := [a]) (by simpa using h2) (by simpa [all2] using h3)
      refine ⟨iEnum K t, fun X g => ?_, SI.enu b1⟩
      have := pi_enum (X := X) (pos := q) (p := p) (tpos := pt) (elts := es) (kk := kk) (glB_ok g.sc hg) (g.bi _ hb) (a1 X g) (star_cons h2 _ _)
      rw [g.K] at this
      exact this
    · cases h'
  | zip a b =>
    have h' : (match vCall e with
      | some (f, [c, d], []) => biName Pn Θ f "zip" && noStar c && noStar d && cE Θ c a && cE Θ d b && (vTup tg).isSome
      | _ => false) = true := h
    clear h
    split at h'
    · rename_i f c d ex
      obtain ⟨p, q, rfl⟩ := vCall_ok ex
      simp only [Bool.and_eq_true] at h'
      obtain ⟨⟨⟨⟨⟨h1, h2⟩, h3⟩, h4⟩, h5⟩, h6⟩ := h'
      obtain ⟨rfl, hg, hb⟩ := biName_ok h1
      obtain ⟨es, et⟩ := Option.isSome_iff_exists.mp h6
      obtain ⟨kk, pt, rfl⟩ := vTup_ok et
      obtain ⟨t, a1, b1⟩ := ckA_ok hE (W := W) (es := [c, d]) (xs := [a, b]) (by show (noStar c && (noStar d && true)) = true; rw [h2, h3]; rfl) (by show (cE Θ c a && (cE Θ d b && true)) = true; rw [h4, h5]; rfl)
      refine ⟨RZ.iZipA K t, fun X g => ?_, SI.zip b1⟩
      have := RZ.pi_zipA (X := X) (pos := q) (p := p) (tpos := pt) (elts := es) (kk := kk) (glB_ok g.sc hg) (g.bi _ hb) (a1 X g) (star_cons h2 _ _) (star_none _ _ (by simp [h3]))
      rw [g.K] at this
      exact this
    · cases h'
  | rev a =>
    have h' : (match vCall e with
      | some (f, [b], []) => biName Pn Θ f "reversed" && noStar b && cE Θ b a
      | _ => false) = true := h
    clear h
    split at h'
    · rename_i f b ex
      obtain ⟨p, q, rfl⟩ := vCall_ok ex
      simp only [Bool.and_eq_true] at h'
      obtain ⟨⟨h1, h2⟩, h3⟩ := h'
      obtain ⟨rfl, hg, hb⟩ := biName_ok h1
      obtain ⟨t, a1, b1⟩ := hE W Θ b a h3
      refine ⟨RT.iRevA K t, fun X g => ?_, SI.rev b1⟩
      have := RT.pi_revA (X := X) (tg := tg) (pos := q) (p := p) (glB_ok g.sc hg) (g.bi _ hb) (a1 X g) (star_cons h2 _ _)
      rw [g.K] at this
      exact this
    · cases h'
end
end
end Ev
end
section
set_option Elab.async false
set_option linter.all false
set_option maxRecDepth 100000
namespace Ev
open PySem PySem.Spec L2
open PyProof.Rows hiding St IsTup
/-- f(k = v, ..) -/
theorem pe_callGK0 {X : Cx} {CX : CXT} {k : Nat} {f : Addr} {fd : FuncData} {ps ks : List Str} {sp : Sp} {x : Str} {p pos : Pos} {kws : List Keyword} {tk : TA} {W : WX} {g : List Value → List Value → List Value} {gV : List V → List V → List V} (F : FnG X.prog X.w X.K X.mg X.base CX k f fd ps sp) (hgd : X.A.guards = some []) (hr : Room k X.A) (hg : Gl X x) (hm : X.mg x = some (.ref f)) (hk : PySem.W.keepIn X.K (.ref f) = true) (hb : KBinds X.K fd ps ks g gV) (hx : PassesW CX X W)
    (hkw : PK X kws tk) (hall : (backToKw pos (keywordEach kws X.env)).all (·.1.isSome) = true) (hks : (backToKw pos (keywordEach kws X.env)).filterMap (·.1) = ks)
    (hdb : (x == ("__debug__" : Str)) = false) (hpl : (backToKw pos (keywordEach kws X.env)).any (·.1.isNone) = false) :
    PE X (.Call (.Name x p) [] kws pos) (tCallGK W sp gV tNil tk) := by
  refine ⟨fun pins s σ H Q I h => ?_⟩
  refine wpAny_Call_Name_kw (ld_glob I hg hm ?_ hdb)
  have h : tk σ H (fun zs H2 => sp (gV [] zs) H2 Q fun c d H' => W c d σ H') := h
  refine PySem.W.callWith_KW0 (h₀ := X.base) I.ok.mod.kin hk hall (thn (hkw.run pos pins s σ H _ I h) fun ws s2 ⟨zs, H2, I2, rz, q2⟩ => ⟨I2.kIn, ?_⟩) (by show (false || _) = false; rw [hpl]; rfl)
  rw [hks]
  have r2 := hb.rel (vs := []) (us := []) .nil rz
  have hl : (g [] ws).length = ps.length := by rw [← r2.length]; exact F.len _ _ _ _ q2
  refine wpAny_call (codeAny_mono (run_fnG F hgd hr (hb.to s2 [] ws I2.kIn hl) hx I2 r2 q2) fun r s' z => ?_)
  rcases r with e | (v | _ | _ | _) <;> first | exact z | exact z.elim
theorem mapM_RVs {K : PySem.W.Frag} {w : Wd} {l : List Val} {xs : List V} (r : RVs K w l xs) : ∀ {is : List Nat} {us : List Val}, is.mapM (fun i => l[i]?) = some us → RVs K w us (is.filterMap fun i => xs[i]?)
  | [], us, h => by
    simp at h
    subst h
    exact .nil
  | i :: is, us, h => by
    rw [List.mapM_cons] at h
    cases e1 : l[i]? with
    | none => rw [e1] at h; cases h
    | some v =>
      rw [e1] at h
      cases e2 : is.mapM (fun i => l[i]?) with
      | none => rw [e2] at h; cases h
      | some vs =>
        rw [e2] at h
        have h : some (v :: vs) = some us := h
        obtain rfl := Option.some.inj h
        obtain ⟨x, ex, rx⟩ := r.get_at e1
        rw [List.filterMap_cons, ex]
        exact .cons rx (mapM_RVs r e2)
theorem RVs.app {K : PySem.W.Frag} {w : Wd} : ∀ {x y : List Val} {v u : List V}, RVs K w x v → RVs K w y u → RVs K w (x ++ y) (v ++ u)
  | _, _, _, _, .nil, s => s
  | _, _, _, _, .cons a b, s => .cons a (RVs.app b s)
theorem kwOrder_RVs {K : PySem.W.Frag} {np nk : Nat} {is : List Nat} (w : Wd) (vs ws us : List Val) (xs ys : List V) (a : RVs K w vs xs) (b : RVs K w ws ys) (h : kwOrder np nk is vs ws = some us) : RVs K w us (gP np nk is xs ys) := by
  unfold kwOrder at h
  split at h
  · rename_i c
    unfold gP
    rw [if_pos (by rw [← a.length, ← b.length]; exact c)]
    exact mapM_RVs (a.app b) h
  · cases h
theorem Vals.mapF {xs : List V} {us : List Value} (r : Vals xs us) : ∀ is : List Nat, Vals (is.filterMap fun i => xs[i]?) (is.filterMap fun i => us[i]?)
  | [] => .nil
  | i :: is => by
    have ih := Vals.mapF r is
    rw [List.filterMap_cons, List.filterMap_cons]
    cases e : xs[i]? with
    | some x =>
      obtain ⟨u, eu, ru⟩ := r.get e
      rw [eu]
      exact .cons ru ih
    | none =>
      have : us[i]? = none := List.getElem?_eq_none (by rw [← r.length]; exact List.getElem?_eq_none_iff.mp e)
      rw [this]
      exact ih
theorem gP_rel {np nk : Nat} {is : List Nat} {vs : List V} {us : List Value} {zs : List V} {ws : List Value} (a : Vals vs us) (b : Vals zs ws) : Vals (gP np nk is vs zs) (gP np nk is us ws) := by
  unfold gP
  rw [a.length, b.length]
  split
  · exact Vals.mapF (a.append b) is
  · exact .nil
section
variable {CX : CXT} {Pn : PInf} {k : Nat} {K : PySem.W.Frag} {cA : Str → Addr}
theorem callF_len {Γ : Tab} {G : List (Str × Val)} {k : Nat} {f : Str} {fd : Fn} (h : lookF Γ f = some fd) (vs : List Val) (S : List Cell) (hn : callF Γ G k f vs S ≠ .no) : vs.length = fd.np := by
  cases k with
  | zero => exact (hn rfl).elim
  | succ k =>
    have e : callF Γ G (k + 1) f vs = callB ⟨callF Γ G k, kwF Γ, G, lowF Γ G k⟩ fd vs := by
      rw [callF_D]
      unfold callD
      rw [h]
    rw [e] at hn
    exact callB_len hn
theorem ty_boot (t : Ty) : bootBuiltins (Str.ofString t.name) = some (.type t.name) ∧ Str.ofString t.name ≠ "__name__" ∧ (Str.ofString t.name == ("__debug__" : Str)) = false := by
  cases t <;> exact ⟨by decide +kernel, by decide +kernel, by decide +kernel⟩
theorem tyE_ok {Θ : CT} {e : Expr} {t : Ty} (h : tyE Pn Θ e t = true) {W : WX} : noStar e = true ∧ ∀ X, Gd CX Pn k ⟨K, cA, W⟩ Θ X → PE X e (tC (.ty t.name)) := by
  unfold tyE at h
  split at h
  · rename_i x ex
    obtain ⟨p, rfl⟩ := vName_ok ex
    simp only [Bool.and_eq_true, decide_eq_true_eq, List.contains_iff_mem] at h
    obtain ⟨⟨rfl, hg⟩, hb⟩ := h
    obtain ⟨b1, b2, b3⟩ := ty_boot t
    exact ⟨rfl, fun X g => pe_bltn (glB_ok g.sc hg) (g.bi _ hb) b1 rfl b2 b3⟩
  · cases h
section
variable {n : Nat} {cE cT : CT → Expr → X → Bool}
variable (hCX : ∀ outer H s e s', CX outer H s (fun _ _ _ => False) e s' → False) (hG : ∀ p ∈ Pn.G, GlobOk K p.2 (Pn.gv p.1))
variable (hE : ∀ W Θ e x, cE Θ e x = true → OkE CX Pn k K cA W Θ e (ev (Cf Pn k) n x)) (hT : ∀ W Θ e x, cT Θ e x = true → OkT CX Pn k K cA W Θ e (fun ρ => bnd (ev (Cf Pn k) n x ρ) truB))
variable {W : WX} {Θ : CT}
include hE in
theorem and_ok {p : Pos} : ∀ {es : List Expr} {xs : List X}, xs ≠ [] → all2 (cE Θ) es xs = true → OkE CX Pn k K cA W Θ (.BoolOp .And es p) (fun ρ => andE (fun e => ev (Cf Pn k) n e ρ) xs)
  | [], [], h, _ => (h rfl).elim
  | [e], [x], _, h => by
    have h : cE Θ e x = true := by simpa [all2] using h
    obtain ⟨t, a, b⟩ := hE W Θ e x h
    exact ⟨t, fun X g => pe_one (a X g), b⟩
  | e :: e2 :: es, x :: x2 :: xs, _, h => by
    have h : cE Θ e x = true ∧ all2 (cE Θ) (e2 :: es) (x2 :: xs) = true := by
      have : (cE Θ e x && all2 (cE Θ) (e2 :: es) (x2 :: xs)) = true := h
      simpa using this
    obtain ⟨t, a, b⟩ := hE W Θ e x h.1
    obtain ⟨t2, a2, b2⟩ := and_ok (p := p) (List.cons_ne_nil x2 xs) h.2
    exact ⟨tAndV t t2, fun X g => pe_and (a X g) (a2 X g), SE.andV b b2⟩
  | [], _ :: _, _, h => by cases h
  | _ :: _, [], _, h => by cases h
  | [_], _ :: _ :: _, _, h => by simp [all2] at h
  | _ :: _ :: _, [_], _, h => by simp [all2] at h
include hE in
theorem or_ok {p : Pos} : ∀ {es : List Expr} {xs : List X}, xs ≠ [] → all2 (cE Θ) es xs = true → OkE CX Pn k K cA W Θ (.BoolOp .Or es p) (fun ρ => orE (fun e => ev (Cf Pn k) n e ρ) xs)
  | [], [], h, _ => (h rfl).elim
  | [e], [x], _, h => by
    have h : cE Θ e x = true := by simpa [all2] using h
    obtain ⟨t, a, b⟩ := hE W Θ e x h
    exact ⟨t, fun X g => pe_one (a X g), b⟩
  | e :: e2 :: es, x :: x2 :: xs, _, h => by
    have h : cE Θ e x = true ∧ all2 (cE Θ) (e2 :: es) (x2 :: xs) = true := by
      have : (cE Θ e x && all2 (cE Θ) (e2 :: es) (x2 :: xs)) = true := h
      simpa using this
    obtain ⟨t, a, b⟩ := hE W Θ e x h.1
    obtain ⟨t2, a2, b2⟩ := or_ok (p := p) (List.cons_ne_nil x2 xs) h.2
    exact ⟨tOrV t t2, fun X g => pe_or (a X g) (a2 X g), SE.orV b b2⟩
  | [], _ :: _, _, h => by cases h
  | _ :: _, [], _, h => by cases h
  | [_], _ :: _ :: _, _, h => by simp [all2] at h
  | _ :: _ :: _, [_], _, h => by simp [all2] at h
include hE in
theorem opt_ok {e : Option Expr} {x : Option X} (h : opt2 (cE Θ) e x = true) : ∃ t, (∀ X, Gd CX Pn k ⟨K, cA, W⟩ Θ X → L2.PO X e t) ∧ SO (F := ⟨K, cA, W⟩) t (fun ρ => optE (fun e => ev (Cf Pn k) n e ρ) x) := by
  cases e with
  | none =>
    cases x with
    | none => exact ⟨tNoPart, fun X g => po_none, SO.none⟩
    | some _ => cases h
  | some e =>
    cases x with
    | none => cases h
    | some x =>
      obtain ⟨t, a, b⟩ := hE W Θ e x h
      exact ⟨tPart t, fun X g => po_some (a X g), SO.some b⟩
include hE in
theorem prs_ok {p : Pos} : ∀ {ks : List (Option Expr)} {vs : List Expr} {ps : List (X × X)}, all2 (fun (k : Option Expr) (p : X × X) => match k with
          | some k => cE Θ k p.1
          | none => false) ks ps = true → all2 (fun (v : Expr) (p : X × X) => cE Θ v p.2) vs ps = true →
    ks.all (·.isSome) = true ∧ ∃ trs, (∀ X, Gd CX Pn k ⟨K, cA, W⟩ Θ X → PPs X p ks vs trs) ∧ SPs (F := ⟨K, cA, W⟩) trs (fun ρ => prsE (fun e => ev (Cf Pn k) n e ρ) ps)
  | [], [], [], _, _ => ⟨rfl, [], fun X g => pps_nil, SPs.nil⟩
  | k :: ks, v :: vs, q :: ps, h1, h2 => by
    have h1 := Bool.and_eq_true_iff.mp (show (_ && _) = true from h1)
    have h2 := Bool.and_eq_true_iff.mp (show (_ && _) = true from h2)
    cases k with
    | none => exact Bool.noConfusion (show false = true from h1.1)
    | some ke =>
      obtain ⟨t1, a1, b1⟩ := hE W Θ ke q.1 h1.1
      obtain ⟨t2, a2, b2⟩ := hE W Θ v q.2 h2.1
      obtain ⟨hs, trs, a3, b3⟩ := prs_ok (p := p) h1.2 h2.2
      exact ⟨by simpa using hs, (t1, t2) :: trs, fun X g => pps_cons (a1 X g) (a2 X g) (a3 X g), SPs.cons b1 b2 b3⟩
  | [], _, _ :: _, h, _ => by cases h
  | _ :: _, _, [], h, _ => by cases h
  | _, [], _ :: _, _, h => by cases h
  | _, _ :: _, [], _, h => by cases h
include hE in
theorem kws_ok : ∀ {kws : List Keyword} {ks : List (Str × X)}, all2 (fun (w : Keyword) (p : Str × X) => cE Θ w.value p.2) kws ks = true → ∃ t, (∀ X, Gd CX Pn k ⟨K, cA, W⟩ Θ X → PK X kws t) ∧ SA ⟨K, cA, W⟩ t (fun ρ => mapE (fun e => ev (Cf Pn k) n e ρ) (ks.map (·.2)))
  | [], [], _ => ⟨tNil, fun X g => pk_nil, SA.nil⟩
  | ⟨nm, e, kp⟩ :: kws, (_, x) :: ks, h => by
    have h : cE Θ e x = true ∧ all2 (fun (w : Keyword) (p : Str × X) => cE Θ w.value p.2) kws ks = true := by simpa [all2] using h
    obtain ⟨t1, a1, b1⟩ := hE W Θ e x h.1
    obtain ⟨t2, a2, b2⟩ := kws_ok h.2
    exact ⟨tCons t1 t2, fun X g => pk_cons (a1 X g) (a2 X g), SA.cons b1 b2⟩
  | [], _ :: _, h => by cases h
  | _ :: _, [], h => by cases h
theorem const_ok {c : Const} (h : (constF c).isSome = true) {kk : Nat} {p : Pos} : OkE CX Pn k K cA W Θ (.Constant c kk p) (fun _ => lift ((constD c).map .d)) := by
  cases c <;> first | (cases h; done) | skip
  · exact ⟨tC .non, fun X g => pe_non, SE.const (x := .none) rfl⟩
  · rename_i b; exact ⟨tC (.bl b), fun X g => pe_bl, SE.const (x := .bool b) rfl⟩
  · rename_i b; exact ⟨tC (.int b), fun X g => pe_int, SE.const (x := .int b) rfl⟩
  · rename_i b; exact ⟨tC (.str b), fun X g => pe_str, SE.const (x := .str b) rfl⟩
include hE in
theorem cmp_ok {o : COp} {a b : X} {ea eb : Expr} {p : Pos} (h1 : notSet eb = true) (h2 : cE Θ ea a = true) (h3 : cE Θ eb b = true) :
    ∃ t, (∀ X, Gd CX Pn k ⟨K, cA, W⟩ Θ X → PE X (.Compare ea [opC o] [eb] p) t ∧ PT X (.Compare ea [opC o] [eb] p) (tTest t)) ∧ SE ⟨K, cA, W⟩ t (fun ρ => bnd (ev (Cf Pn k) n a ρ) fun x => bnd (ev (Cf Pn k) n b ρ) fun y => bnd (cmpM o x y) fun r => Ev.ret (.d (.bool r))) := by
  obtain ⟨t1, a1, b1⟩ := hE W Θ ea a h2
  obtain ⟨t2, a2, b2⟩ := hE W Θ eb b h3
  refine ⟨tOp (rCmp K o) t1 t2, fun X g => ?_, SE.two b1 b2 fun g w S σ H Q u v x y R r1 r2 h => cmp_snd (F := ⟨K, cA, W⟩) o R r1 r2 h⟩
  have hu : X.A.units + 70 < cLine := by have := g.units; omega
  have e1 := pe_cmpR (pos := p) (op_cmp (X := X) hu o) (a1 X g) (a2 X g) (no_marks h1)
  have e2 := pt_cmpR (pos := p) (op_cmp (X := X) hu o) (a1 X g) (a2 X g) (no_marks h1)
  rw [g.K] at e1 e2
  exact ⟨e1, e2⟩
include hE in
theorem chn_ok {o q : COp} {a b c : X} {ea eb ec : Expr} {p : Pos} (h1 : notSet ec = true) (h2 : cE Θ ea a = true) (h3 : cE Θ eb b = true) (h4 : cE Θ ec c = true) :
    ∃ t, (∀ X, Gd CX Pn k ⟨K, cA, W⟩ Θ X → PE X (.Compare ea [opC o, opC q] [eb, ec] p) t ∧ PT X (.Compare ea [opC o, opC q] [eb, ec] p) (tTest t)) ∧ SE ⟨K, cA, W⟩ t (fun ρ => bnd (ev (Cf Pn k) n a ρ) fun x => bnd (ev (Cf Pn k) n b ρ) fun y => bnd (cmpM o x y) fun r => if r = true then bnd (ev (Cf Pn k) n c ρ) fun z => bnd (cmpM q y z) fun r => Ev.ret (.d (.bool r)) else Ev.ret (.d (.bool false))) := by
  obtain ⟨t1, a1, b1⟩ := hE W Θ ea a h2
  obtain ⟨t2, a2, b2⟩ := hE W Θ eb b h3
  obtain ⟨t3, a3, b3⟩ := hE W Θ ec c h4
  refine ⟨tChain (rCmp K o) (rCmp K q) t1 t2 t3, fun X g => ?_, SE.chn (F := ⟨K, cA, W⟩) b1 b2 b3⟩
  have hu : X.A.units + 70 < cLine := by have := g.units; omega
  have e1 := pe_chain (pos := p) (op_cmp (X := X) hu o) (op_cmp (X := X) hu q) (a1 X g) (a2 X g) (a3 X g) (no_last h1)
  have e2 := pt_chain (pos := p) (op_cmp (X := X) hu o) (op_cmp (X := X) hu q) (a1 X g) (a2 X g) (a3 X g) (no_last h1)
  rw [g.K] at e1 e2
  exact ⟨e1, e2⟩
theorem call_bi' {X : Cx} (hc : X.calm = true) {b : BI} {nm : String} {f : Value} (h : fnB b = some (nm, f)) {Θ : CT} {e : Expr} {es : List Expr} {t : TA} {p q : Pos} (hg : Gl X (Str.ofString nm)) (hm : X.mg (Str.ofString nm) = none) (ha : PA X (e :: es) t) (h1 : noStar e = true) (h2 : es.all noStar = true) :
    PE X (.Call (.Name (Str.ofString nm) p) (e :: es) [] q) (tCB (rBi X.K b) t) := by
  have hcr := call_bi (X := X) hc b nm f h
  obtain ⟨b1, b2, b3⟩ := fnB_boot b nm f h
  have : (∃ id, f = .builtin id) ∨ ∃ T, f = .type T := by
    cases b <;> first | (cases h; done) | skip
    all_goals obtain ⟨rfl, rfl⟩ : _ = nm ∧ _ = f := by simpa [fnB] using h
    all_goals first | exact .inl ⟨_, rfl⟩ | exact .inr ⟨_, rfl⟩
  rcases this with ⟨id, rfl⟩ | ⟨T, rfl⟩
  · exact pe_callB hcr hg hm b1 ha b2 b3 (star_cons h1 _ _) (star_none _ _ h2)
  · exact pe_callTy hcr hg hm b1 ha b2 b3 (star_cons h1 _ _) (star_none _ _ h2)
theorem me_pe {X : Cx} (m : ME) {nm : Str} {id : String} (hm : meId m = some (nm, id)) {o : Expr} {es : List Expr} {to : TE} {t : TA} {ap cp : Pos} (ho : PE X o to) (ha : PA X es t) (h0 : es = [] → t = tNil) (h1 : notCall o = true) (h2 : es.all noStar = true) (h3 : es.length < 20) (hl : (ap.endLine == cp.line) = true) :
    PE X (.Call (.Attribute o nm ap) es [] cp) (tBM X.K m.ty.T (rMe X.K m) to t) := by
  have key : ∀ {T id : String} {r : V → List V → Hp → VK → Prop} (pa : PlainAttrs T) (slot : Slot T nm id) (hty : typeOf (.builtin id) = pure (.type "method_descriptor")) (hm : MtR X id r), PE X (.Call (.Attribute o nm ap) es [] cp) (tBM X.K T r to t) := fun {T id r} pa slot hty hm => by
    cases es with
    | nil =>
      obtain rfl := h0 rfl
      exact pe_bm0 pa slot hty hm ho (attr_base h1 _ _ _) hl
    | cons e es =>
      have h2' : noStar e = true ∧ es.all noStar = true := by simpa using h2
      refine pe_bm pa slot hty hm ho ha (attr_base h1 _ _ _) ?_ hl (star_cons h2'.1 _ _) (star_none _ _ h2'.2)
      rw [star_all cp X.env h2]
      show (true && true && decide ((e :: es).length + 0 + 0 < 30)) = true
      have : (e :: es).length + 0 + 0 < 30 := by omega
      simp only [this, decide_true]; rfl
  cases m <;> first | (cases hm; done) | skip
  all_goals obtain ⟨rfl, rfl⟩ : _ = nm ∧ _ = id := by simpa [meId] using hm
  · exact key F.plainAttrs_str F.slot_str_join F.type_str_join mt_join
  · exact key F.plainAttrs_list F.slot_list_append F.type_list_append mt_append
  · exact key F.plainAttrs_list F.slot_list_pop F.type_list_pop mt_pop
  · exact key F.plainAttrs_list F.slot_list_pop F.type_list_pop mt_popAt
  · exact key F.plainAttrs_list F.slot_list_extend F.type_list_extend mt_extend
  · exact key F.plainAttrs_tuple F.slot_tuple_index F.type_tuple_index mt_tup_index
end
end
end Ev
end
section
set_option Elab.async false
set_option linter.all false
set_option maxRecDepth 100000
set_option maxHeartbeats 4000000
namespace Ev
open PySem PySem.Spec L2
open PyProof.Rows hiding St IsTup
/-- the exception of a suite: the slot of its name, where it lies, its class, its dict -/
structure XI where
  j : Nat
  a : Addr
  cls : Value
  d : Option Addr
mutual
def rdH (K : PySem.W.Frag) (cA : Str → Addr) (xi : Option XI) : HX → TE
  | .c x => (match constF x with
    | some v => tC v
    | none => fun _ _ _ => False)
  | .var i => tVar i
  | .fld f => (match xi with
    | some z => tXE K z.a z.cls z.d f (tVar z.j)
    | none => fun _ _ _ => False)
  | .isx c => (match xi with
    | some z => tCB (rIsE K z.a z.cls z.d) (tCons (tVar z.j) (tCons (tC (.ref (cA c))) tNil))
    | none => fun _ _ _ => False)
  | .rep h => tCB (fun xs H Q => ∃ x, xs = [x] ∧ rRepr x H Q) (tCons (rdH K cA xi h) tNil)
  | .tup hs => tTup (rdHs K cA xi hs)
  | .ite t a b => tIf (tTest (rdH K cA xi t)) (rdH K cA xi a) (rdH K cA xi b)
  | .isin a b => tOp (rCmp K .in_) (rdH K cA xi a) (rdH K cA xi b)
def rdHs (K : PySem.W.Frag) (cA : Str → Addr) (xi : Option XI) : List HX → TA
  | [] => tNil
  | h :: hs => tCons (rdH K cA xi h) (rdHs K cA xi hs)
end
/-- what is known of a context in which such an expression stands -/
structure HC (Pn : PInf) (K : PySem.W.Frag) (cA : Str → Addr) (Θ : CT) (xi : Option XI) (Y : Cx) : Prop where
  eK : Y.K = K
  nN : Y.N = Θ.N
  sc : Y.env.scope = Θ.sc
  gd : Y.A.guards = some []
  un : Y.A.units + 102 < cLine
  sysm : ∃ o, K.lookup sysModules = some o
  nd : Y.N.Nodup
  fn : ∀ x, Y.fn x = true
  bi : ∀ x ∈ Pn.bis, Y.mg x = none
  errs : ∀ p ∈ Pn.errs, Y.mg p.1 = some (.ref (cA p.1))
  su : ∀ z, xi = some z → ∃ (X : Cx) (oe : Obj) (pn : List (Addr × Obj)), Y = X.suite z.a ((z.a, oe) :: pn) ∧ Zc z.cls z.d oe ∧ ∃ vs, oe.data = .fields vs
section
variable {Pn : PInf} {K : PySem.W.Frag} {cA : Str → Addr} {Θ : CT} {xi : Option XI} {nm : Str}
def exS (xi : Option XI) (nm : Str) : Option (Nat × Str) := xi.map fun z => (z.j, nm)
theorem hx_pe : ∀ (n : Nat) {e : Expr} {h : HX}, ckHX Pn Θ (exS xi nm) n e h = true → ∀ Y, HC Pn K cA Θ xi Y → PE Y e (rdH K cA xi h)
  | 0, _, _, h, _, _ => by cases h
  | n + 1, e, h, hk, Y, c => by
    unfold ckHX at hk
    cases h with
    | c x =>
      dsimp only at hk
      split at hk
      · rename_i c' ex
        obtain ⟨kk, p, rfl⟩ := vConst_ok ex
        simp only [Bool.and_eq_true, decide_eq_true_eq] at hk
        obtain ⟨rfl, h2⟩ := hk
        unfold rdH
        cases x <;> first | (cases h2; done) | skip
        · exact pe_non
        · exact pe_bl
        · exact pe_int
        · exact pe_str
      · cases hk
    | var i =>
      dsimp only at hk
      split at hk
      · rename_i x ex
        obtain ⟨p, rfl⟩ := vName_ok ex
        simp only [Bool.and_eq_true, decide_eq_true_eq] at hk
        obtain ⟨⟨⟨h1, h2⟩, h3⟩, _⟩ := hk
        obtain ⟨o1, o2, o3⟩ := okN_ok h3
        unfold rdH
        exact pe_var (by rw [c.nN]; exact h1) (by rw [c.sc]; exact visB_ok h2) o1 o2
      · cases hk
    | fld f =>
      cases xi with
      | none =>
        dsimp only [exS, Option.map] at hk
        split at hk <;> first | (rename_i q; cases q; done) | cases hk
      | some z =>
        dsimp only [exS, Option.map] at hk
        split at hk
        · rename_i x f' j y ex ey
          obtain ⟨p, q, rfl⟩ := vAttr_ok ex
          cases ey
          simp only [Bool.and_eq_true, decide_eq_true_eq] at hk
          obtain ⟨⟨⟨⟨rfl, rfl⟩, h1⟩, h2⟩, h3⟩ := hk
          obtain ⟨o1, o2, o3⟩ := okN_ok h3
          obtain ⟨X, oe, pn, rfl, hz, hf⟩ := c.su z rfl
          unfold rdH
          have := pe_xe (X := X) (a := z.a) (oe := oe) (cls := z.cls) (d := z.d) (pn := pn) (n := f') (pos := q) hz hf (pe_var (i := z.j) (pos := p) (by rw [c.nN]; exact h1) (by rw [c.sc]; exact visB_ok h2) o1 o2) (attr_base rfl _ _ _)
          rw [show X.K = K from c.eK] at this
          exact this
        · cases hk
    | isx cc =>
      cases xi with
      | none =>
        dsimp only [exS, Option.map] at hk
        split at hk <;> first | (rename_i q; cases q; done) | cases hk
      | some z =>
        dsimp only [exS, Option.map] at hk
        split at hk
        · rename_i f ea ec j y ex ey
          obtain ⟨p, q, rfl⟩ := vCall_ok ex
          cases ey
          simp only [Bool.and_eq_true] at hk
          obtain ⟨h1, hk⟩ := hk
          obtain ⟨rfl, hg, hb⟩ := biName_ok h1
          split at hk
          · rename_i x c' en em
            obtain ⟨p1, rfl⟩ := vName_ok en
            obtain ⟨p2, rfl⟩ := vName_ok em
            simp only [Bool.and_eq_true, decide_eq_true_eq, List.contains_iff_mem] at hk
            obtain ⟨⟨⟨⟨⟨⟨⟨rfl, h1⟩, h2⟩, h3⟩, rfl⟩, h4⟩, h5⟩, h6⟩ := hk
            obtain ⟨o1, o2, o3⟩ := okN_ok h3
            obtain ⟨o4, o5, o6⟩ := okN_ok h5
            obtain ⟨X, oe, pn, rfl, hz, hf⟩ := c.su z rfl
            unfold rdH
            have bk : ("isinstance" : Str) ≠ "__name__" := by decide +kernel
            have bk2 : (("isinstance" : Str) == ("__debug__" : Str)) = false := by decide +kernel
            obtain ⟨pp, hpp, rfl⟩ := List.mem_map.mp h6
            have := pe_callB (pos := q) (p := p) (call_isErr (X := X) (pn := pn) hz hf) (glB_ok c.sc hg) (c.bi _ hb) PyProof.Rows.boot_isinstance (pa_cons (pe_var (i := z.j) (pos := p1) (by rw [c.nN]; exact h1) (by rw [c.sc]; exact visB_ok h2) o1 o2) (pa_cons (pe_glob (pos := p2) (glB_ok c.sc h4) (c.errs pp hpp) (v := .ref (cA pp.1)) rfl o4) pa_nil (star_cons rfl _ _)) (star_cons rfl _ _)) bk bk2 (star_cons rfl _ _) (star_none _ _ rfl)
            rw [show X.K = K from c.eK] at this
            exact this
          · cases hk
        · cases hk
    | rep h =>
      dsimp only at hk
      split at hk
      · rename_i f ea ex
        obtain ⟨p, q, rfl⟩ := vCall_ok ex
        simp only [Bool.and_eq_true] at hk
        obtain ⟨⟨h1, h2⟩, h3⟩ := hk
        obtain ⟨rfl, hg, hb⟩ := biName_ok h1
        have bk : ("repr" : Str) ≠ "__name__" := by decide +kernel
        have bk2 : (("repr" : Str) == ("__debug__" : Str)) = false := by decide +kernel
        unfold rdH
        exact pe_callB (call_repr c.gd c.un (by rw [c.eK]; exact c.sysm)) (glB_ok c.sc hg) (c.bi _ hb) PyProof.Rows.boot_repr (pa_cons (hx_pe n h3 Y c) pa_nil (star_cons h2 _ _)) bk bk2 (star_cons h2 _ _) rfl
      · cases hk
    | tup hs =>
      dsimp only at hk
      split at hk
      · rename_i es ex
        obtain ⟨kk, p, rfl⟩ := vTup_ok ex
        obtain ⟨h1, h2⟩ := Bool.and_eq_true_iff.mp hk
        unfold rdH
        have go : ∀ {es : List Expr} {hs : List HX}, es.all noStar = true → all2 (ckHX Pn Θ (exS xi nm) n) es hs = true → PA Y es (rdHs K cA xi hs) := by
          intro es
          induction es with
          | nil =>
            intro hs _ h2
            cases hs with
            | nil => unfold rdHs; exact pa_nil
            | cons _ _ => cases h2
          | cons e es ih =>
            intro hs h1 h2
            cases hs with
            | nil => cases h2
            | cons h hs =>
              obtain ⟨a1, a2⟩ := Bool.and_eq_true_iff.mp (show (_ && _) = true from h2)
              have h1 : noStar e = true ∧ es.all noStar = true := by simpa using h1
              unfold rdHs
              exact pa_cons (hx_pe n a1 Y c) (ih h1.2 a2) (star_cons h1.1 _ _)
        exact pe_tup (go h1 h2)
      · cases hk
    | ite t a b =>
      dsimp only at hk
      split at hk
      · rename_i et ea eb ex
        obtain ⟨p, rfl⟩ := vIf_ok ex
        simp only [Bool.and_eq_true] at hk
        obtain ⟨⟨⟨h0, h1⟩, h2⟩, h3⟩ := hk
        unfold rdH
        refine pe_ifExp ?_ (hx_pe n h2 Y c) (hx_pe n h3 Y c)
        have pt : plainT et = true → PT Y et (tTest (rdH K cA xi t)) := fun z => pt_val (hx_pe n h1 Y c) (fun whole => plain_true z _ whole)
        cases t with
        | isin a b =>
          cases n with
          | zero => cases h1
          | succ n =>
            unfold ckHX at h1
            dsimp only at h1
            split at h1
            · rename_i ea eb ex
              obtain ⟨p, rfl⟩ := vCmp_ok ex
              simp only [Bool.and_eq_true] at h1
              obtain ⟨⟨h4, h5⟩, h6⟩ := h1
              have hu : Y.A.units + 70 < cLine := by have := c.un; omega
              have := pt_cmpR (pos := p) (op_cmp (X := Y) hu .in_) (hx_pe n h5 Y c) (hx_pe n h6 Y c) (no_marks h4)
              rw [c.eK] at this
              show PT Y _ (tTest (tOp (rCmp K .in_) _ _))
              exact this
            · cases h1
        | _ => exact pt h0
      · cases hk
    | isin a b =>
      dsimp only at hk
      split at hk
      · rename_i ea eb ex
        obtain ⟨p, rfl⟩ := vCmp_ok ex
        simp only [Bool.and_eq_true] at hk
        obtain ⟨⟨h4, h5⟩, h6⟩ := hk
        have hu : Y.A.units + 70 < cLine := by have := c.un; omega
        have := pe_cmpR (pos := p) (op_cmp (X := Y) hu .in_) (hx_pe n h5 Y c) (hx_pe n h6 Y c) (no_marks h4)
        rw [c.eK] at this
        unfold rdH
        exact this
      · cases hk
/-- the caught exception lies so -/
def EXh (Pn : PInf) (cA : Str → Addr) (xi : Option XI) (y : Exn) (w : Wd) (σ : St) (H : Hp) : Prop := ∀ z, xi = some z → σ[z.j]? = some (some (.ref z.a)) ∧ z.cls = .ref (cA y.cls) ∧ (y.cls, y.fld) ∈ Pn.errs ∧ ∃ dd v, z.d = some dd ∧ H dd = some (.xd [(y.fld, v)]) ∧ RD w.I y.arg v
theorem EXh.new {y : Exn} {w w' : Wd} {σ : St} {H : Hp} {p : Addr} {o : HO} (e : EXh Pn cA xi y w σ H) (x : Ext w w') (hp : H p = none) : EXh Pn cA xi y w' σ (upd H p o) := fun z hz => by
  obtain ⟨a1, a2, a3, dd, v, a4, a5, a6⟩ := e z hz
  exact ⟨a1, a2, a3, dd, v, a4, by rw [upd_ne (ne_of_none a5 hp)]; exact a5, a6.mono x.I⟩
theorem EXh.ext {y : Exn} {w w' : Wd} {σ : St} {H : Hp} (e : EXh Pn cA xi y w σ H) (x : Ext w w') : EXh Pn cA xi y w' σ H := fun z hz => by
  obtain ⟨a1, a2, a3, dd, v, a4, a5, a6⟩ := e z hz
  exact ⟨a1, a2, a3, dd, v, a4, a5, a6.mono x.I⟩
variable (hE : ∀ p ∈ Pn.errs, ErrK K (cA p.1) p.2) (hK : ∀ p ∈ Pn.errs, ∀ q ∈ Pn.errs, PySem.W.kitOne K (.ref (cA p.1)) (.ref (cA q.1)) = some (decide (p.1 = q.1)))
include hE hK in
theorem hx_ok : ∀ (n : Nat) {e : Expr} {h : HX}, ckHX Pn Θ (exS xi nm) n e h = true → ∀ (y : Exn) (g : Gh) (w : Wd) (ρ : Ev.Env) (S : List Cell) (σ : St) (H : Hp) (Q : VK) (d : PyData), RS K g w S H → RE K w ρ σ → EXh Pn cA xi y w σ H → hev y ρ h = some d →
    (∀ w' H' x, Ext w w' → RS K g w' S H' → EXh Pn cA xi y w' σ H' → RD w'.I d x → Q x H') → rdH K cA xi h σ H Q
  | 0, _, _, h => by cases h
  | n + 1, e, h, hk => by
    intro y g w ρ S σ H Q d R E ex hd q
    unfold ckHX at hk
    cases h with
    | c x =>
      dsimp only at hk
      split at hk
      · simp only [Bool.and_eq_true, decide_eq_true_eq] at hk
        obtain ⟨rfl, h2⟩ := hk
        unfold hev at hd
        unfold rdH
        cases x <;> first | (cases h2; done) | skip
        all_goals
          cases hd
          exact q w H _ (.refl _) R ex (flat_RD rfl)
      · cases hk
    | var i =>
      unfold hev at hd
      unfold rdH
      split at hd
      · rename_i d' ed
        cases hd
        have e' : ρ[i]? = some (some (.d d)) := by
          cases e1 : ρ[i]? with
          | none => rw [e1] at ed; cases ed
          | some o => rw [e1] at ed; rw [show o = some (.d d) from ed]
        obtain ⟨x, ex1, rx⟩ := E.at_ i _ e'
        cases rx with
        | d rx => exact ⟨x, ex1, q w H x (.refl _) R ex rx⟩
      · cases hd
    | fld f =>
      cases xi with
      | none =>
        dsimp only [exS, Option.map] at hk
        split at hk <;> first | (rename_i q; cases q; done) | cases hk
      | some z =>
        unfold hev at hd
        obtain ⟨a1, a2, a3, dd, v, a4, a5, a6⟩ := ex z rfl
        split at hd
        · rename_i ef
          cases hd
          unfold rdH
          refine ⟨cA y.cls, ?_, .ref z.a, a1, rfl, a2, dd, _, v, a4, a5, ?_, q w H v (.refl _) R ex a6⟩
          · rw [ef]; exact hE _ a3
          · rw [ef]; simp [List.lookup]
        · cases hd
    | isx cc =>
      cases xi with
      | none =>
        dsimp only [exS, Option.map] at hk
        split at hk <;> first | (rename_i q; cases q; done) | cases hk
      | some z =>
        dsimp only [exS, Option.map] at hk
        split at hk
        · rename_i f ea ec j y' ex' ey
          simp only [Bool.and_eq_true] at hk
          obtain ⟨h1, hk⟩ := hk
          split at hk
          · simp only [Bool.and_eq_true, decide_eq_true_eq, List.contains_iff_mem] at hk
            obtain ⟨_, h6⟩ := hk
            obtain ⟨pp, hpp, rfl⟩ := List.mem_map.mp h6
            unfold hev at hd
            cases hd
            obtain ⟨a1, a2, a3, dd, v, a4, a5, a6⟩ := ex z rfl
            unfold rdH
            exact ⟨.ref z.a, a1, cA y.cls, dd, cA pp.1, y.fld, _, _, a2, a4, a5, hE _ a3, rfl, hK _ a3 _ hpp, q w H _ (.refl _) R ex (flat_RD rfl)⟩
          · cases hk
        · cases hk
    | rep h =>
      dsimp only at hk
      split at hk
      · simp only [Bool.and_eq_true] at hk
        unfold hev at hd
        obtain ⟨d1, e1, e2⟩ := Option.bind_eq_some_iff.mp hd
        unfold rdH
        refine hx_ok n hk.2 y g w ρ S σ H _ d1 R E ex e1 fun w1 H1 x x1 R1 ex1 r1 => ?_
        unfold reprD at e2
        split at e2
        · rename_i c
          cases e2
          exact ⟨x, rfl, w1.I, d1, R1.le, RD.ru (F := ⟨K, cA, fun _ _ _ _ => False⟩) R1 r1, c, q w1 H1 _ x1 R1 ex1 (flat_RD rfl)⟩
        · cases e2
      · cases hk
    | tup hs =>
      dsimp only at hk
      split at hk
      · obtain ⟨h1, h2⟩ := Bool.and_eq_true_iff.mp hk
        unfold hev at hd
        split at hd
        · rename_i hl
          obtain ⟨ds, e1, rfl⟩ := Option.map_eq_some_iff.mp hd
          unfold rdH
          have go : ∀ {es : List Expr} {hs : List HX}, all2 (ckHX Pn Θ (exS xi nm) n) es hs = true → ∀ (w : Wd) (H : Hp) (Q : List V → Hp → Prop) (ds : List PyData), RS K g w S H → RE K w ρ σ → EXh Pn cA xi y w σ H → hevs y ρ hs = some ds →
              (∀ w' H' xs, Ext w w' → RS K g w' S H' → EXh Pn cA xi y w' σ H' → RDs w'.I ds xs → Q xs H') → rdHs K cA xi hs σ H Q := by
            intro es
            induction es with
            | nil =>
              intro hs h2 w H Q ds R E ex hd q
              cases hs with
              | nil => unfold hevs at hd; cases hd; unfold rdHs; exact q w H _ (.refl _) R ex .nil
              | cons _ _ => cases h2
            | cons e es ih =>
              intro hs h2 w H Q ds R E ex hd q
              cases hs with
              | nil => cases h2
              | cons h hs =>
                obtain ⟨a1, a2⟩ := Bool.and_eq_true_iff.mp (show (_ && _) = true from h2)
                unfold hevs at hd
                split at hd
                · rename_i d1 ds1 e1 e2
                  cases hd
                  unfold rdHs
                  exact hx_ok n a1 y g w ρ S σ H _ d1 R E ex e1 fun w1 H1 x x1 R1 ex1 r1 => ih a2 w1 H1 _ ds1 R1 (E.mono x1) ex1 e2 fun w2 H2 xs x2 R2 ex2 r2 => q w2 H2 _ (x1.trans x2) R2 ex2 (.cons (r1.mono x2.I) r2)
                · cases hd
          have hlen : ∀ {hs : List HX} {ds : List PyData}, hevs y ρ hs = some ds → ds.length = hs.length := by
            intro hs
            induction hs with
            | nil => intro ds h; unfold hevs at h; cases h; rfl
            | cons h hs ih =>
              intro ds h
              unfold hevs at h
              split at h
              · rename_i _ _ _ e2
                cases h
                exact congrArg (· + 1) (ih e2)
              · cases h
          refine go h2 w H _ ds R E ex e1 fun w1 H1 xs x1 R1 ex1 r1 => ⟨?_, fun p hp => ?_⟩
          · rw [← r1.length, hlen e1, sizeLine_eq]; omega
          · have x2 : Ext w1 (w1.put p (.tup xs)) := .put (R1.Ifree hp)
            exact q _ _ _ (x1.trans x2) (R1.put hp) (ex1.new x2 hp) (.tuple upd_same (r1.mono x2.I))
        · cases hd
      · cases hk
    | ite t a b =>
      dsimp only at hk
      split at hk
      · simp only [Bool.and_eq_true] at hk
        obtain ⟨⟨⟨h0, h1⟩, h2⟩, h3⟩ := hk
        unfold hev at hd
        unfold rdH
        split at hd
        · rename_i e1
          refine hx_ok n h1 y g w ρ S σ H _ _ R E ex e1 fun w1 H1 x x1 R1 ex1 r1 => ?_
          cases r1
          refine ⟨true, rfl, ?_⟩
          exact hx_ok n h2 y g w1 ρ S σ H1 Q d R1 (E.mono x1) ex1 hd fun w2 H2 u x2 => q w2 H2 u (x1.trans x2)
        · rename_i e1
          refine hx_ok n h1 y g w ρ S σ H _ _ R E ex e1 fun w1 H1 x x1 R1 ex1 r1 => ?_
          cases r1
          refine ⟨false, rfl, ?_⟩
          exact hx_ok n h3 y g w1 ρ S σ H1 Q d R1 (E.mono x1) ex1 hd fun w2 H2 u x2 => q w2 H2 u (x1.trans x2)
        · cases hd
      · cases hk
    | isin a b =>
      dsimp only at hk
      split at hk
      · simp only [Bool.and_eq_true] at hk
        obtain ⟨⟨h4, h5⟩, h6⟩ := hk
        unfold hev at hd
        unfold rdH
        split at hd
        · rename_i p1 p2 e1 e2
          obtain ⟨r, er, rfl⟩ := Option.map_eq_some_iff.mp hd
          refine hx_ok n h5 y g w ρ S σ H _ p1 R E ex e1 fun w1 H1 x x1 R1 ex1 r1 => ?_
          refine hx_ok n h6 y g w1 ρ S σ H1 _ p2 R1 (E.mono x1) ex1 e2 fun w2 H2 u x2 R2 ex2 r2 => ?_
          exact inD_snd (F := ⟨K, cA, fun _ _ _ _ => False⟩) (neg := false) R2 (RD.ru (F := ⟨K, cA, fun _ _ _ _ => False⟩) R2 (r1.mono x2.I)) (RU.rt (RD.ru (F := ⟨K, cA, fun _ _ _ _ => False⟩) R2 r2)) er (q w2 H2 _ (x1.trans x2) R2 ex2 (flat_RD rfl))
        · cases hd
      · cases hk
end
end Ev
end
section
set_option Elab.async false
set_option linter.all false
set_option maxRecDepth 100000
set_option maxHeartbeats 4000000
namespace Ev
open PySem PySem.Spec L2
open PyProof.Rows hiding St IsTup
def rdT (K : PySem.W.Frag) (cA : Str → Addr) (xi : Option XI) : HT → TS
  | .ret h => tSeq (tRet (rdH K cA xi h)) tNext
  | .asg i h k => tSeq (tAsg (rdH K cA xi h) (gName i)) (rdT K cA xi k)
  | .iff t a k => tSeq (tIfS (tTest (rdH K cA xi t)) (rdT K cA xi a) tNext) (rdT K cA xi k)
section
variable {Pn : PInf} {K : PySem.W.Frag} {cA : Str → Addr} {Θ : CT} {z : XI} {nm : Str}
theorem ht_pe : ∀ (n : Nat) {ss : List Stmt} {h : HT}, ckHT Pn Θ (z.j, nm) n ss h = true → ∀ Y, HC Pn K cA Θ (some z) Y → PSs Y ss (rdT K cA (some z) h)
  | 0, _, _, h, _, _ => by cases h
  | n + 1, ss, h, hk, Y, c => by
    unfold ckHT at hk
    split at hk
    · rename_i h' e p
      unfold rdT
      exact pss_cons (ps_ret (hx_pe (xi := some z) (nm := nm) 20 hk Y c)) pss_nil
    · rename_i i h' k s rest
      split at hk
      · rename_i x e es
        obtain ⟨p, q, rfl⟩ := vSet_ok es
        simp only [Bool.and_eq_true, decide_eq_true_eq] at hk
        obtain ⟨⟨⟨⟨⟨h1, h2⟩, h3⟩, _⟩, h5⟩, h6⟩ := hk
        unfold rdT
        exact pss_cons (ps_set c.nd (by rw [c.nN]; exact h1) (by rw [c.sc]; exact locB_ok h2) (hx_pe (xi := some z) (nm := nm) 20 h5 Y c) (no_swap h3 _ _ _) (.inl (c.fn _))) (ht_pe n h6 Y c)
      · cases hk
    · rename_i t a k cc ss' p rest
      simp only [Bool.and_eq_true] at hk
      obtain ⟨⟨⟨h1, h2⟩, h3⟩, h4⟩ := hk
      unfold rdT
      exact pss_cons (ps_if (pt_val (hx_pe (xi := some z) (nm := nm) 20 h2 Y c) (fun whole => plain_true h1 _ whole)) (ht_pe n h3 Y c) pss_nil) (ht_pe n h4 Y c)
    · cases hk
variable (hE : ∀ p ∈ Pn.errs, ErrK K (cA p.1) p.2) (hK : ∀ p ∈ Pn.errs, ∀ q ∈ Pn.errs, PySem.W.kitOne K (.ref (cA p.1)) (.ref (cA q.1)) = some (decide (p.1 = q.1)))
include hE hK in
theorem ht_ok : ∀ (n : Nat) {ss : List Stmt} {h : HT}, ckHT Pn Θ (z.j, nm) n ss h = true → ∀ (y : Exn) (g : Gh) (w : Wd) (ρ : Ev.Env) (S S' : List Cell) (σ : St) (H : Hp) (D : Ends) (v : Val), RS K g w S H → RE K w ρ σ → EXh Pn cA (some z) y w σ H → hexec y h ρ S = .ok v S' →
    (∀ w' H' x, Ext w w' → RS K g w' S' H' → RV K w' v x → D.rt x H') → rdT K cA (some z) h D σ H
  | 0, _, _, h => by cases h
  | n + 1, ss, h, hk => by
    intro y g w ρ S S' σ H D v R E ex hd q
    unfold ckHT at hk
    split at hk
    · rename_i h' e p
      unfold hexec at hd
      unfold rdT
      cases e1 : hev y ρ h' with
      | none => rw [e1] at hd; cases hd
      | some d =>
        rw [e1] at hd
        obtain ⟨rfl, rfl⟩ : v = .d d ∧ S' = S := by
          have hd : Res.ok (Val.d d) S = .ok v S' := hd
          cases hd
          exact ⟨rfl, rfl⟩
        exact hx_ok (xi := some z) (nm := nm) hE hK 20 hk y g w ρ S' σ H _ d R E ex e1 fun w1 H1 x x1 R1 _ r1 => q w1 H1 x x1 R1 (.d r1)
    · rename_i i h' k s rest
      split at hk
      · rename_i x e es
        simp only [Bool.and_eq_true, decide_eq_true_eq, Bool.not_eq_true', decide_eq_false_iff_not] at hk
        obtain ⟨⟨⟨⟨⟨h1, h2⟩, h3⟩, h4⟩, h5⟩, h6⟩ := hk
        unfold hexec at hd
        unfold rdT
        cases e1 : hev y ρ h' with
        | none => rw [e1] at hd; cases hd
        | some d =>
          rw [e1] at hd
          have hd : hexec y k (ρ.set i (some (.d d))) S = .ok v S' := hd
          refine hx_ok (xi := some z) (nm := nm) hE hK 20 h5 y g w ρ S σ H _ d R E ex e1 fun w1 H1 u x1 R1 ex1 r1 => ?_
          refine ht_ok n h6 y g w1 _ S S' _ H1 D v R1 ((E.mono x1).set i (.d r1)) ?_ hd fun w2 H2 u2 x2 => q w2 H2 u2 (x1.trans x2)
          intro z' hz'
          obtain ⟨a1, a2⟩ := ex1 z' hz'
          have : z = z' := Option.some.inj hz'
          subst this
          exact ⟨by rw [List.getElem?_set_ne h4]; exact a1, a2⟩
      · cases hk
    · rename_i t a k cc ss' p rest
      simp only [Bool.and_eq_true] at hk
      obtain ⟨⟨⟨h1, h2⟩, h3⟩, h4⟩ := hk
      unfold hexec at hd
      unfold rdT
      cases e1 : hev y ρ t with
      | none => rw [e1] at hd; cases hd
      | some d =>
        rw [e1] at hd
        refine hx_ok (xi := some z) (nm := nm) hE hK 20 h2 y g w ρ S σ H _ _ R E ex e1 fun w1 H1 u x1 R1 ex1 r1 => ?_
        cases d <;> first | (cases hd; done) | skip
        rename_i b
        cases r1
        cases b with
        | true =>
          refine ⟨true, rfl, ?_⟩
          exact ht_ok n h3 y g w1 ρ S S' σ H1 _ v R1 (E.mono x1) ex1 hd fun w2 H2 u2 x2 => q w2 H2 u2 (x1.trans x2)
        | false =>
          refine ⟨false, rfl, ?_⟩
          exact ht_ok n h4 y g w1 ρ S S' σ H1 D v R1 (E.mono x1) ex1 hd fun w2 H2 u2 x2 => q w2 H2 u2 (x1.trans x2)
    · cases hk
end
end Ev
end
section
set_option Elab.async false
set_option linter.all false
set_option maxRecDepth 100000
set_option maxHeartbeats 4000000
namespace Ev
open PySem PySem.Spec L2 LamX
open PyProof.Rows hiding St IsTup
section
variable {X : Cx}
/-- the context of the def that got the lambda -/
abbrev gotCx (X : Cx) (Ng : List Str) (x : Str) (sg : Scope) (gA : Addr) (cdg : Value) (s : Shared) (H : Hp) : Cx := cxOf C8.CX0 X.prog X.w X.K X.mg X.base Ng x sg gA cdg X.A X.stack s H C8.E0
/-- a(), in the def that got the lambda: what is wished of an exception is told where it is called -/
theorem pe_actG {Ng : List Str} {x a : Str} {sg scope : Scope} {gA f c' : Addr} {cdg pm ctv : Value} {params : Arguments} {body : Expr} {k : Nat} {pn : List (Addr × Obj)} {xe : Value → Shared → Prop} {W : WX} {tb : XK → TE} {p1 p2 : Pos} {pins : List (Addr × Obj)} {σ : L2.St} {H : Hp} {s : Shared}
    (I : Inv X pins σ H s) (L : LamS X.env.scope scope) (hf : s.heap.get? f = some (PySem.W.kla_obj "<lambda>" (X.env.qual ++ "<lambda>") params body scope (cloFrom X.env.cells scope.names []) pm c' ctv)) (hfn : H f = none) (hfr : f ∉ frs X.stack)
    (hbind : bindArgs (PySem.W.kla_fn "<lambda>" (X.env.qual ++ "<lambda>") params body scope (cloFrom X.env.cells scope.names []) pm (.ref c') ctv) ⟨[], []⟩ = pure [])
    (tk : Takes ((gotCx X Ng x sg gA cdg s H).tr pn xe) W) (hgd : X.A.guards = some []) (hr : Room (k + 1) (X.A.deeper (envOfC x sg s.heap.objs.size gA cdg)))
    (hbody : ∀ (A : Around) (outer : List PySem.Env) (s : Shared) (H : Hp) (E : XK), A.guards = some [] → Room k (A.deeper (lamEnv X scope s.heap.objs.size f c')) → PE (lamCx X A outer s H E scope f c') body (tb E))
    (hN : Ng[0]? = some a) (hv : Vis sg a) (hd : (a == ("__debug__" : Str)) = false) (hcd : (a == ("__classdict__" : Str)) = false) :
    PE ((gotCx X Ng x sg gA cdg s H).tr pn xe) (.Call (.Name a p1) [] [] p2)
      (fun σZ HZ Q => ∃ E : XK, (∀ cls d H', E cls d H' → W cls d σZ H') ∧ σZ[0]? = some (some (.ref f)) ∧ HZ c' = some (CodeO c' (X.env.qual ++ "<lambda>")) ∧ tb E σ HZ Q) := by
  refine ⟨fun pz sz σz Hz Q Iz h => ?_⟩
  obtain ⟨E, hW, h0, hco, ht⟩ := h
  refine wpAny_Call_Name_kw (thn ((pe_var (pos := p1) (i := 0) hN hv hd hcd).run pz sz σz Hz (fun v H1 => v = .ref f ∧ H1 = Hz) Iz ⟨.ref f, h0, rfl, rfl⟩) fun u s1 ⟨v, H1, I1, r1, q1⟩ => ?_)
  obtain ⟨rfl, rfl⟩ := q1
  obtain rfl : u = Value.ref f := r1
  have hat := I1.base.keep f _ hf hfn hfr fun z => nomatch (show f ∈ ([] : List Addr) from z)
  refine PySem.W.callWith_F0 ⟨_, _, _, _, hat⟩ ?_
  have un : Un (frs X.stack) [] H H1 s.heap s1.heap := I1.base
  obtain ⟨⟨oc, vs, t, hoc, hdc, hvc⟩, _, _⟩ := I1.hok c' _ hco
  have rc : codeAny (model X.prog X.w) (X.A.deeper (envOfC x sg s.heap.objs.size gA cdg)) (.call (.ref f) ⟨[], []⟩) (CR (L2.CX X.prog X.w) (envOfC x sg s.heap.objs.size gA cdg :: X.stack) X.prog X.w H1 s1 Q E) s1 := by
    refine PySem.W.kla_callFunE hr.depth hat rfl L.co L.gen rfl ⟨c', oc, vs, t, rfl, hoc, hdc, hvc⟩ ?_
    rw [hbind]
    refine wpAny_pure (wpAny_newFunctionEnv (fun y hy => (L.own y hy).2) (fun y hy => absurd hy (by simp)) (fun h1 hns hsb => ⟨I1.nolimit.fresh _ hsb, ?_⟩) L.kind)
    show codeAny _ _ (.expr body (lamEnv X scope s1.heap.objs.size f c')) _ _
    have kp : ∀ b o, s1.heap.get? b = some o → h1.get? b = some o := fun b o e => hsb.extBut b o (Nat.ne_of_lt (Heap.lt_size e)) (Heap.get?_push_of_some _ e)
    have J : Inv (lamCx X (X.A.deeper (envOfC x sg s.heap.objs.size gA cdg)) (envOfC x sg s.heap.objs.size gA cdg :: X.stack) s1 H1 E scope f c') [] σ H1 { s1 with heap := h1, toks := s1.toks + ([] : List (Str × Value)).length } := lam_start2 I L I1.env0 hr.hd un hns kp
    refine PySem.W.kla_codeExpr (wpAny_mono ((hbody (X.A.deeper (envOfC x sg s.heap.objs.size gA cdg)) _ s1 H1 E hgd (hr.deeper _)).run [] _ _ H1 Q J ht) (fun v s' hq => ?_) fun e s' hq => hq)
    obtain ⟨w', H', J', rv, q⟩ := hq
    exact ⟨w', H', J'.os, J'.bare, J'.base, J'.hok, rv, q⟩
  refine wpAny_call (codeAny_mono rc fun r s' hq => ?_)
  cases r with
  | error e => exact tk e s' (XE.of_call I1 (fun cls d H' h => hW cls d H' h) hq)
  | ok fl =>
    cases fl with
    | ret u => exact I1.after hq
    | next => exact False.elim hq
    | brk => exact False.elim hq
    | cont => exact False.elim hq
/-- what the def makes of it -/
def GotTo (X : Cx) (Ng : List Str) (x : Str) (sg : Scope) (gA : Addr) (bg : List Stmt) (a : Str) (k : Nat) (TT : Addr → (XK → Hp → VK → Prop) → Hp → VK → Prop) : Prop :=
  ∀ (cdg : Value) (f c' : Addr) (s : Shared) (H : Hp) (Q : VK) (tl : XK → Hp → VK → Prop), Room (k + 1) (X.A.deeper (envOfC x sg s.heap.objs.size gA cdg)) →
    (∀ (W : WX) (pn : List (Addr × Obj)) (xe : Value → Shared → Prop) (p1 p2 : Pos), Takes ((gotCx X Ng x sg gA cdg s H).tr pn xe) W →
      PE ((gotCx X Ng x sg gA cdg s H).tr pn xe) (.Call (.Name a p1) [] [] p2) (fun σZ HZ Q => ∃ E : XK, (∀ cls d H', E cls d H' → W cls d σZ H') ∧ σZ[0]? = some (some (.ref f)) ∧ HZ c' = some (CodeO c' (X.env.qual ++ "<lambda>")) ∧ tl E HZ Q)) →
    H c' = some (CodeO c' (X.env.qual ++ "<lambda>")) → TT f tl H Q →
    ∃ t, PSs (gotCx X Ng x sg gA cdg s H).nox bg t ∧ t { nx := fun _ H' => Q .non H', rt := Q } (L2.start Ng [.ref f]) H
def tTried (T : List (Addr × Str)) (TT : Addr → (XK → Hp → VK → Prop) → Hp → VK → Prop) (t : XK → TE) : TE := fun σ H Q => Tabs T H ∧ ∀ H1, ExtN H H1 → Tabs T H1 → ∀ f, TT f (fun E H' Q' => t E σ H' Q') H1 Q
/-- x(lambda: body) -/
theorem pe_triedG {T : List (Addr × Str)} {TT : Addr → (XK → Hp → VK → Prop) → Hp → VK → Prop} {x a : Str} {gA c P : Addr} {k : Nat} {pg params : Arguments} {bg : List Stmt} {sg scope : Scope} {fdata : FuncData} {Ng : List Str} {body : Expr} {t : XK → TE} {p lpos pos : Pos}
    (hg : Gl X x) (hm : X.mg x = some (.ref gA)) (hk : PySem.W.keepIn X.K (.ref gA) = true) (F : FunD X.K x x pg bg sg [] [] gA fdata) (hb : L2.Binds X.K fdata [a] []) (Sg : FnScope Ng [a] sg) (hN0 : Ng[0]? = some a) (hva : Vis sg a)
    (hG : GotTo X Ng x sg gA bg a k TT) (TB : TabB X.base X.mg c P) (hcode : X.env.code = .ref c) (hmT : (P, X.env.qual ++ "<lambda>") ∈ T) (hu : ∀ p ∈ T, p.1 = P → p.2 = X.env.qual ++ "<lambda>") (hr : Room (k + 2) X.A) (hgd : X.A.guards = some [])
    (L : LamS X.env.scope scope) (hdef : defaultsOf params X.env = ([], [])) (hbind : ∀ (q : Str) (cl : List (Str × Addr)) (pm cv ctv : Value), bindArgs (PySem.W.kla_fn "<lambda>" q params body scope cl pm cv ctv) ⟨[], []⟩ = pure [])
    (hbody : ∀ (A : Around) (outer : List PySem.Env) (s : Shared) (H : Hp) (E : XK) (f c' : Addr), A.guards = some [] → Room k (A.deeper (lamEnv X scope s.heap.objs.size f c')) → PE (lamCx X A outer s H E scope f c') body (t E))
    (hdb : (x == ("__debug__" : Str)) = false) (hd : (a == ("__debug__" : Str)) = false) (hcd : (a == ("__classdict__" : Str)) = false) :
    PE X (.Call (.Name x p) [.Lambda params body scope lpos] [] pos) (tTried T TT t) := by
  refine ⟨fun pins s σ H Q I h => ?_⟩
  obtain ⟨hT, h⟩ := h
  obtain ⟨oc, od, dV, kV, doc, pm, an, cdv, ct, osl, rfl, lk, hcg, _, _⟩ := F.ex
  refine wpAny_Call_Name_kw (ld_glob I hg hm ?_ hdb)
  refine PySem.W.callWith_K (h₀ := X.base) I.ok.mod.kin hk ?_ (by rfl) (by rfl)
  show wpAny _ _ (spliced ((false, eval (.Lambda params body scope lpos) X.env) :: backTo pos (starEach [] X.env))) _ _ s
  refine Calls.spliced_cons (lam_make2 I TB hcode hmT hu hT hdef (L.has I.ok) fun f c' pm' ctv H1 s1 I1 eN T1 hf hfn hfr hco => Calls.spliced_nil ⟨I1.kIn, ?_⟩)
  have rc : codeAny (model X.prog X.w) X.A (.call (.ref gA) ⟨[.ref f], []⟩) (CR C8.CX0 X.stack X.prog X.w H1 s1 Q C8.E0) s1 := by
    refine run_ofS (N := Ng) (ps := [a]) (us := [.ref f]) (vs := [.ref f]) lk hcg Sg hr I1.env0 (hb s1 [.ref f] I1.kIn rfl) (.cons rfl .nil) rfl fun hr' => ?_
    obtain ⟨t', ht', hq'⟩ := hG cdv f c' s1 H1 Q (fun E H' Q' => t E σ H' Q') hr' (fun W pn xe p1 p2 tk => pe_actG I1 L hf hfn hfr (hbind _ _ _ _ _) tk hgd hr' (fun A outer s H E hg2 hr2 => hbody A outer s H E f c' hg2 hr2) hN0 hva hd hcd) hco (h H1 eN T1 f)
    exact ⟨t', ht'.nox, hq'⟩
  refine wpAny_call (codeAny_mono rc fun r s2 hq => ?_)
  cases r with
  | error e => exact (show False from hq).elim
  | ok fl =>
    cases fl with
    | ret u => exact I1.after hq
    | next => exact False.elim hq
    | brk => exact False.elim hq
    | cont => exact False.elim hq
end
end Ev
end
section
set_option Elab.async false
set_option linter.all false
set_option maxRecDepth 100000
set_option maxHeartbeats 4000000
namespace Ev
open PySem PySem.Spec L2 LamX
open PyProof.Rows hiding St IsTup
/-- the reading of such a def: aft: behind the try -/
def TTx (K : PySem.W.Frag) (cA : Str → Addr) (CS : Addr) (Ng : List Str) (jE : Nat) (h : HT) (aft : Addr → V → Hp → VK → Prop) (f : Addr) (tl : XK → Hp → VK → Prop) (H : Hp) (Q : VK) : Prop :=
  tl (fun cls d H' => ∃ b, PySem.W.exmOne K cls (.ref CS) = some b ∧ (b = true → ∀ a, H' a = none → ∀ D : Ends, D.rt = Q → rdT K cA (some ⟨jE, a, cls, d⟩) h D ((L2.start Ng [.ref f]).set jE (some (.ref a))) H') ∧ (b = false → False)) H (fun v H' => aft f v H' Q)
def aftA (K : PySem.W.Frag) (cA : Str → Addr) (Ng : List Str) (i : Nat) (w : HX) : Addr → V → Hp → VK → Prop := fun f v H' Q => rdH K cA none w ((L2.start Ng [.ref f]).set i (some v)) H' Q
def aftB (cv : V) : Addr → V → Hp → VK → Prop := fun _ v H' Q => [cv, v].length ≤ sizeLine ∧ ∀ p, H' p = none → Q (.ref p) (upd H' p (.tup [cv, v]))
section
variable {Pn : PInf} {K : PySem.W.Frag} {cA : Str → Addr} {X : Cx}
/-- what is known of the maker's context -/
structure GC (Pn : PInf) (K : PySem.W.Frag) (cA : Str → Addr) (X : Cx) : Prop where
  eK : X.K = K
  sysm : ∃ o, K.lookup sysModules = some o
  bi : ∀ x ∈ Pn.bis, X.mg x = none
  errs : ∀ p ∈ Pn.errs, X.mg p.1 = some (.ref (cA p.1))
  bases : ∀ b ∈ Pn.bases, X.mg b = some (.ref (cA b))
  gd : X.A.guards = some []
theorem got_HC {Ng : List Str} {x a : Str} {sg : Scope} {gA : Addr} {cdg : Value} {s : Shared} {H : Hp} {k : Nat} {xi : Option XI} {Y : Cx} (G : GC Pn K cA X) (Sg : FnScope Ng [a] sg) (hr : Room (k + 1) (X.A.deeper (envOfC x sg s.heap.objs.size gA cdg)))
    (hY : (xi = none ∧ Y = (gotCx X Ng x sg gA cdg s H).nox) ∨ ∃ z oe pn, xi = some z ∧ Y = (gotCx X Ng x sg gA cdg s H).nox.suite z.a ((z.a, oe) :: pn) ∧ Zc z.cls z.d oe ∧ ∃ vs, oe.data = .fields vs) : HC Pn K cA ⟨sg, Ng, none, false⟩ xi Y := by
  have un : (X.A.deeper (envOfC x sg s.heap.objs.size gA cdg)).units + 102 < cLine := by have := hr.un; omega
  rcases hY with ⟨rfl, rfl⟩ | ⟨z, oe, pn, rfl, rfl, hz, hv⟩
  · exact ⟨G.eK, rfl, rfl, G.gd, un, G.sysm, Sg.nd, fun _ => rfl, G.bi, G.errs, fun z hz => by cases hz⟩
  · exact ⟨G.eK, rfl, rfl, G.gd, un, G.sysm, Sg.nd, fun _ => rfl, G.bi, G.errs, fun z' hz' => by cases hz'; exact ⟨_, oe, pn, rfl, hz, hv⟩⟩
theorem takesN {X : Cx} : Takes X (fun _ _ _ _ => False) := fun _ _ x => by
  obtain ⟨_, _, _, _, _, _, _, _, _, _, _, _, _, _, _, _, z⟩ := x
  exact z.elim
/-- the except clause of such a def -/
theorem got_try {Ng : List Str} {x a b e : Str} {sg : Scope} {gA : Addr} {cdg : Value} {s : Shared} {H : Hp} {k : Nat} {h : HT} {h0 : Stmt} {hb : List Stmt} {body : List Stmt} {tb : WX → TS} {pb p1 p2 : Pos} (G : GC Pn K cA X) (Sg : FnScope Ng [a] sg) (hr : Room (k + 1) (X.A.deeper (envOfC x sg s.heap.objs.size gA cdg)))
    (hbs : b ∈ Pn.bases) (hgb : glB sg b = true) (hob : okN b = true) (hle : sg.names.lookup e = some .local) (hNe : Ng[Ng.idxOf e]? = some e) (hh : ckHT Pn ⟨sg, Ng, none, false⟩ (Ng.idxOf e, e) 20 (h0 :: hb) h = true)
    (hbody : ∀ (W : WX) (pn : List (Addr × Obj)) (xe : Value → Shared → Prop), Takes ((gotCx X Ng x sg gA cdg s H).tr pn xe) W → PSs ((gotCx X Ng x sg gA cdg s H).tr pn xe) body (tb W)) :
    PS (gotCx X Ng x sg gA cdg s H).nox (.Try body [.ExceptHandler (some (.Name b pb)) (some e) (h0 :: hb) p1] [] [] p2) (fun D σ H' => tb (wAs K (.ref (cA b)) (Ng.idxOf e) (fun a cls d => rdT K cA (some ⟨Ng.idxOf e, a, cls, d⟩) h) (fun _ _ _ _ => False) D) D σ H') := by
  obtain ⟨o1, o2, o3⟩ := okN_ok hob
  have := ps_try_as (X := (gotCx X Ng x sg gA cdg s H).nox) (x := b) (n := e) (c := .ref (cA b)) (i := Ng.idxOf e) (np := pb) (pos := p2) (pos' := p1) (body := body) (b₀ := h0) (suite := hb) (tb := tb) (ts := fun a cls d => rdT K cA (some ⟨Ng.idxOf e, a, cls, d⟩) h) (Wout := fun _ _ _ _ => False) rfl rfl Sg.nd hNe hle
    ⟨glB_ok rfl hgb, o1, .inl (G.bases b hbs)⟩ takesN (fun W pn xe tk _ => hbody W pn xe tk) (fun a oe cls d pn hz hv => ht_pe (z := ⟨Ng.idxOf e, a, cls, d⟩) (nm := e) 20 hh _ (got_HC G Sg hr (.inr ⟨_, oe, pn, rfl, rfl, hz, hv⟩)))
  rw [show (gotCx X Ng x sg gA cdg s H).nox.K = K from G.eK] at this
  exact this
theorem start_len {N : List Str} {v : V} (h : 1 ≤ N.length) : (L2.start N [v]).length = N.length := by
  unfold L2.start
  simp
  omega
theorem RE.none {w : Wd} {n : Nat} {σ : St} (h : σ.length = n) : RE K w (List.replicate n none) σ := ⟨by rw [List.length_replicate, h], fun i v e => by
  rw [List.getElem?_replicate] at e
  split at e <;> cases e⟩
variable (hE : ∀ p ∈ Pn.errs, ErrK K (cA p.1) p.2) (hK : ∀ p ∈ Pn.errs, ∀ q ∈ Pn.errs, PySem.W.kitOne K (.ref (cA p.1)) (.ref (cA q.1)) = some (decide (p.1 = q.1)))
include hE hK in
theorem got_ok {body : List Stmt} {sc : Scope} {N : List Str} {a x : Str} {ns i : Nat} {w : HX} {hs : List (Str × Str)} {h : HT} (hk : ckTr Pn body sc N a ns i w hs h = true) (Sg : FnScope N [a] sc) :
    ∃ (b : Str) (jE : Nat) (nm : Str) (ss : List Stmt) (aft : Addr → V → Hp → VK → Prop), b ∈ Pn.bases ∧ jE < N.length ∧ N.length = ns ∧ 1 ≤ ns ∧ N[0]? = some a ∧ Vis sc a ∧ okN a = true ∧ ckHT Pn ⟨sc, N, none, false⟩ (jE, nm) 20 ss h = true ∧ (∀ c ∈ hs, c ∈ Pn.errs) ∧
      (∀ (X : Cx) (gA : Addr) (k : Nat), GC Pn K cA X → GotTo X N x sc gA body a k (TTx K cA (cA b) N jE h aft)) ∧
      ∀ (g : Gh) (wd : Wd) (S : List Cell) (H : Hp) (Q : VK) (f : Addr) (v : V) (d d' : PyData), RS K g wd S H → RD wd.I d v → hev noExn ((List.replicate (if i < ns then ns else i + 1) none).set i (some (.d d))) w = some d' →
        (∀ w' H' y, Ext wd w' → RS K g w' S H' → RD w'.I d' y → Q y H') → aft f v H Q := by
  unfold ckTr at hk
  simp only [Bool.and_eq_true, decide_eq_true_eq, List.all_eq_true, List.contains_iff_mem] at hk
  obtain ⟨⟨⟨⟨⟨⟨e1, e2⟩, e3⟩, e4⟩, e5⟩, e6⟩, hk⟩ := hk
  have hh : ∀ c ∈ hs, c ∈ Pn.errs := e5
  split at hk
  · rename_i s b pb e h0 hb p1 p2 we p3
    split at hk
    · rename_i y a' p4 p5 es
      obtain ⟨q1, q2, rfl⟩ := vSet_ok es
      simp only [Bool.and_eq_true, decide_eq_true_eq, Bool.not_eq_true', decide_eq_false_iff_not, List.contains_iff_mem] at hk
      obtain ⟨⟨⟨⟨⟨⟨⟨⟨⟨⟨⟨⟨rfl, f1⟩, f2⟩, f3⟩, f4⟩, f5⟩, f6⟩, f7⟩, f8⟩, f9⟩, f10⟩, f11⟩, f12⟩ := hk
      refine ⟨b, N.idxOf e, e, h0 :: hb, aftA K cA N i w, f5, (List.getElem?_eq_some_iff.mp f9).1, e1, e6, e2, visB_ok e3, e4, f12, hh, fun X gA k G => ?_, ?_⟩
      · intro cdg f c' s H Q tl hr act hco ht
        refine ⟨_, pss_cons (got_try G Sg hr f5 f6 f7 f8 f9 f12 (tb := fun W => tAsg (fun σZ HZ Q => ∃ E : XK, (∀ cls d H', E cls d H' → W cls d σZ H') ∧ σZ[0]? = some (some (.ref f)) ∧ HZ c' = some (CodeO c' (X.env.qual ++ "<lambda>")) ∧ tl E HZ Q) (gName i))
          fun W pn xe tk => pss_one (ps_set Sg.nd f1 (locB_ok f2) (act W pn xe p4 p5 tk) (no_swap rfl _ _ _) (.inl rfl))) (pss_one (ps_ret (hx_pe (xi := none) (nm := e) 20 f11 _ (got_HC G Sg hr (.inl ⟨rfl, rfl⟩))))), ?_⟩
        exact ⟨_, fun cls d H' ⟨bb, b1, b2, b3⟩ => ⟨bb, b1, fun z a ha => b2 z a ha _ rfl, b3⟩, rfl, hco, ht⟩
      · intro g wd S H Q f v d d' R rd hd q
        rw [if_pos f4] at hd
        have hr : RE K wd (List.replicate ns none) (L2.start N [V.ref f]) := RE.none (by rw [start_len (by omega), e1])
        exact hx_ok (xi := none) (nm := e) hE hK 20 f11 noExn g wd _ S _ H Q d' R (hr.set i (.d rd)) (fun z hz => by cases hz) hd fun w1 H1 y x1 R1 _ r1 => q w1 H1 y x1 R1 r1
    · cases hk
  · rename_i c kk pc a' p4 p5 kt pt p6 b pb e h0 hb p1 p2
    simp only [Bool.and_eq_true, decide_eq_true_eq, Bool.not_eq_true', decide_eq_false_iff_not, List.contains_iff_mem] at hk
    obtain ⟨⟨⟨⟨⟨⟨⟨⟨hw, rfl⟩, f5⟩, f6⟩, f7⟩, f8⟩, f9⟩, f10⟩, f12⟩ := hk
    split at hw
    · rename_i c' i'
      simp only [Bool.and_eq_true, decide_eq_true_eq] at hw
      obtain ⟨⟨⟨rfl, g1⟩, rfl⟩, g2⟩ := hw
      obtain ⟨cv, hcv⟩ := Option.isSome_iff_exists.mp g1
      refine ⟨b, N.idxOf e, e, h0 :: hb, aftB cv, f5, (List.getElem?_eq_some_iff.mp f9).1, e1, e6, e2, visB_ok e3, e4, f12, hh, fun X gA k G => ?_, ?_⟩
      · intro cdg f cc s H Q tl hr act hco ht
        have pc' : ∀ Y : Cx, PE Y (.Constant c kk pc) (tC cv) := fun Y => by
          cases c <;> first | (cases g1; done) | skip
          all_goals obtain rfl := Option.some.inj hcv
          · exact pe_non
          · exact pe_bl
          · exact pe_int
          · exact pe_str
        refine ⟨_, pss_one (got_try G Sg hr f5 f6 f7 f8 f9 f12 (tb := fun W => tRet (tTup (tCons (tC cv) (tCons (fun σZ HZ Q => ∃ E : XK, (∀ cls d H', E cls d H' → W cls d σZ H') ∧ σZ[0]? = some (some (.ref f)) ∧ HZ cc = some (CodeO cc (X.env.qual ++ "<lambda>")) ∧ tl E HZ Q) tNil))))
          fun W pn xe tk => pss_one (ps_ret (pe_tup (pa_cons (pc' _) (pa_cons (act W pn xe p4 p5 tk) pa_nil (star_cons rfl _ _)) (star_cons rfl _ _))))), ?_⟩
        refine ⟨_, fun cls d H' ⟨bb, b1, b2, b3⟩ => ⟨bb, b1, fun z a ha => b2 z a ha _ rfl, b3⟩, rfl, hco, ht⟩
      · intro g wd S H Q f v d d' R rd hd q
        rw [if_neg (by omega)] at hd
        obtain ⟨cd, hcd⟩ : ∃ cd, constD c = some cd ∧ flatOf cd = some cv := by
          cases c <;> first | (cases g1; done) | exact ⟨_, rfl, hcv⟩
        have hv : ((List.replicate (i' + 1) (none : Option Val)).set i' (some (.d d)))[i']? = some (some (.d d)) := by rw [List.getElem?_set_self (by simp)]
        have e7 : hev noExn ((List.replicate (i' + 1) none).set i' (some (.d d))) (.tup [.c c, .var i']) = some (.tuple [cd, d]) := by
          unfold hev
          rw [if_pos (by simp)]
          unfold hevs hevs hevs
          unfold hev
          rw [hcd.1, hv]
          rfl
        rw [e7] at hd
        cases hd
        refine ⟨by rw [sizeLine_eq]; simp, fun p hp => ?_⟩
        have x2 : Ext wd (wd.put p (.tup [cv, v])) := .put (R.Ifree hp)
        exact q _ _ _ x2 (R.put hp) (.tuple upd_same (.cons (flat_RD hcd.2) (.cons (rd.mono x2.I) .nil)))
    · cases hw
  · cases hk
end
end Ev
end
section
set_option Elab.async false
set_option linter.all false
set_option maxRecDepth 100000
set_option maxHeartbeats 4000000
namespace Ev
open PySem PySem.Spec L2 LamX
open PyProof.Rows hiding St IsTup
theorem RS.extN {K : PySem.W.Frag} {g : Gh} {w : Wd} {S : List Cell} {H H1 : Hp} (R : RS K g w S H) (e : ExtN H H1) (t : TabOk K H1) : RS K g w S H1 := by
  have k : ∀ b o, H b = some o → pl o = true → H1 b = some o := fun b o h p => e b o h fun ps z => by rw [z] at p; cases p
  refine ⟨R.len, fun b o h => k b o (R.le b o h) (R.pI b o h), fun b o h => k b o (R.out b o h) (R.pO b o h), fun n c ec l => ?_, R.inj, R.fr, R.pI, R.pO, t⟩
  obtain ⟨o, a, b, i, d⟩ := R.cell n c ec l
  exact ⟨o, k _ _ a b.pl, b, i, d⟩
def tVars : List Nat → TA
  | [] => tNil
  | i :: is => tCons (tVar i) (tVars is)
theorem slots_rd {K : PySem.W.Frag} {w : Wd} {ρ : Ev.Env} {σ : St} (E : RE K w ρ σ) : ∀ {is : List Nat} {vs : List Val}, slotsV ρ is = some vs → ∃ xs, RVs K w vs xs ∧ ∀ (H : Hp) (Q : List V → Hp → Prop), Q xs H → tVars is σ H Q
  | [], vs, h => by
    have h : some [] = some vs := h
    cases h
    exact ⟨[], .nil, fun H Q q => q⟩
  | i :: is, vs, h => by
    unfold slotsV at h
    rw [List.mapM_cons] at h
    cases e1 : ρ[i]?.join with
    | none => rw [e1] at h; cases h
    | some v =>
      rw [e1] at h
      cases e2 : is.mapM fun i => ρ[i]?.join with
      | none => rw [e2] at h; cases h
      | some vs' =>
        rw [e2] at h
        obtain rfl : v :: vs' = vs := Option.some.inj h
        obtain ⟨xs, r, k⟩ := slots_rd E (is := is) (vs := vs') e2
        have ei : ρ[i]? = some (some v) := by
          cases e3 : ρ[i]? with
          | none => rw [e3] at e1; cases e1
          | some o => rw [e3] at e1; rw [show o = some v from e1]
        obtain ⟨x, ex, rx⟩ := E.at_ i v ei
        exact ⟨x :: xs, .cons rx r, fun H Q q => ⟨x, ex, k H _ q⟩⟩
section
variable {CX : CXT} {Pn : PInf} {k : Nat} {K : PySem.W.Frag} {cA : Str → Addr} {W : WX} {Θ : CT}
/-- the reading of the call in a lambda -/
def rdC (Pn : PInf) (K : PySem.W.Frag) (cA : Str → Addr) (j : Nat) (cf : Str) (fd : Fn) (as : List Nat) (ks : List (Str × Nat)) (is : List Nat) (E : XK) : TE := match ks with
  | [] => tCallG (fun c d _ H => E c d H) (spEv K cA fd.np (callF Pn.Γ Pn.G j cf)) (tVars as)
  | _ => tCallGK (fun c d _ H => E c d H) (spEv K cA fd.np (callF Pn.Γ Pn.G j cf)) (gP as.length ks.length is) (tVars as) (tVars (ks.map (·.2)))
theorem lam_pe {j : Nat} {X : Cx} (g : Gd CX Pn (j + 2) ⟨K, cA, W⟩ Θ X) {params : Arguments} {body : Expr} {scope : Scope} {lp : Pos} {cf : Str} {as : List Nat} {ks : List (Str × Nat)} {fd : Fn} {is : List Nat} (hk : ckLam Pn Θ (.Lambda params body scope lp) cf as ks = true) (hf : lookF Pn.Γ cf = some fd) (his : kwF Pn.Γ cf (ks.map (·.1)) as.length = some is)
    {A : Around} {outer : List PySem.Env} {s : Shared} {H : Hp} {E : XK} {f c' : Addr} (hgd : A.guards = some []) (hr : Room (j + 3) (A.deeper (lamEnv X scope s.heap.objs.size f c'))) : PE (lamCx X A outer s H E scope f c') body (rdC Pn K cA j cf fd as ks is E) := by
  unfold ckLam at hk
  simp only [Bool.and_eq_true] at hk
  obtain ⟨_, hk⟩ := hk
  split at hk
  · rename_i f' es kws ex
    obtain ⟨p, q, rfl⟩ := vCall_ok ex
    simp only [Bool.and_eq_true, decide_eq_true_eq] at hk
    obtain ⟨⟨⟨⟨⟨⟨⟨⟨⟨rfl, h2⟩, h3⟩, h4⟩, h5⟩, h6⟩, h7⟩, h8⟩, h9⟩, h10⟩ := hk
    obtain ⟨o1, o2, o3⟩ := okN_ok h3
    obtain ⟨a, fdata, ps, m1, m2, m3, m4, m5⟩ := g.low j rfl f' fd hf
    have eC : CX = L2.CX X.prog X.w := g.cx
    subst eC
    have px : PassesW (L2.CX X.prog X.w) (lamCx X A outer s H E scope f c') (fun c d _ H => E c d H) := by
      have tk : Takes (lamCx X A outer s H E scope f c') (fun c d _ H => E c d H) := takes_of rfl rfl rfl rfl
      exact passes_call tk fun _ _ _ _ h => h
    have args : ∀ {es : List Expr} {as : List Nat}, es.all noStar = true → all2 (fun e i => match vName e with
        | some x => decide (Θ.N[i]? = some x) && visB scope x && okN x
        | none => false) es as = true → PA (lamCx X A outer s H E scope f c') es (tVars as) := by
      intro es
      induction es with
      | nil =>
        intro as _ h
        cases as with
        | nil => exact pa_nil
        | cons _ _ => cases h
      | cons e es ih =>
        intro as h1 h2
        cases as with
        | nil => cases h2
        | cons i as =>
          obtain ⟨a1, a2⟩ := Bool.and_eq_true_iff.mp (show (_ && _) = true from h2)
          have h1 : noStar e = true ∧ es.all noStar = true := by simpa using h1
          dsimp only at a1
          split at a1
          · rename_i x en
            obtain ⟨p, rfl⟩ := vName_ok en
            simp only [Bool.and_eq_true, decide_eq_true_eq] at a1
            obtain ⟨⟨b1, b2⟩, b3⟩ := a1
            obtain ⟨q1, q2, q3⟩ := okN_ok b3
            exact pa_cons (pe_var (i := i) (by rw [show (lamCx X A outer s H E scope f c').N = Θ.N from g.nN]; exact b1) (visB_ok b2) q1 q2) (ih h1.2 a2) (star_cons h1.1 _ _)
          · cases a1
    have kargs : ∀ {kws : List Keyword} {ks : List (Str × Nat)}, all2 (fun (w : Keyword) (p : Str × Nat) => match vName w.value with
        | some x => decide (Θ.N[p.2]? = some x) && visB scope x && okN x
        | none => false) kws ks = true → PK (lamCx X A outer s H E scope f c') kws (tVars (ks.map (·.2))) := by
      intro kws
      induction kws with
      | nil =>
        intro ks h
        cases ks with
        | nil => exact pk_nil
        | cons _ _ => cases h
      | cons e kws ih =>
        intro ks h2
        cases ks with
        | nil => cases h2
        | cons i ks =>
          obtain ⟨nm, e, kp⟩ := e
          obtain ⟨a1, a2⟩ := Bool.and_eq_true_iff.mp (show (_ && _) = true from h2)
          dsimp only at a1
          split at a1
          · rename_i x en
            obtain ⟨p, rfl⟩ := vName_ok en
            simp only [Bool.and_eq_true, decide_eq_true_eq] at a1
            obtain ⟨⟨b1, b2⟩, b3⟩ := a1
            obtain ⟨q1, q2, q3⟩ := okN_ok b3
            exact pk_cons (pe_var (i := i.2) (by rw [show (lamCx X A outer s H E scope f c').N = Θ.N from g.nN]; exact b1) (visB_ok b2) q1 q2) (ih a2)
          · cases a1
    have gl : Gl (lamCx X A outer s H E scope f c') f' := glB_ok rfl h2
    have hgd' : (lamCx X A outer s H E scope f c').A.guards = some [] := hgd
    cases ks with
    | nil =>
      have hk0 : kws = [] := by
        cases kws with
        | nil => rfl
        | cons _ _ => simp at h9
      subst hk0
      show PE _ _ (tCallG _ _ (tVars as))
      cases es with
      | nil =>
        cases as with
        | cons _ _ => cases h8
        | nil => exact pe_callG0 (X := lamCx X A outer s H E scope f c') m4 hgd' hr gl m1 m2 m3 px o1
      | cons e es =>
        have h7' : noStar e = true ∧ es.all noStar = true := by simpa using h7
        exact pe_callG (X := lamCx X A outer s H E scope f c') m4 hgd' hr gl m1 m2 m3 px (args h7 h8) o1 (star_cons h7'.1 _ _) (star_none _ _ h7'.2)
    | cons kk ks =>
      have hmem : (f', as.length, (kk :: ks).map (·.1)) ∈ Pn.kws := by
        simp only [Bool.or_eq_true, decide_eq_true_eq, List.isEmpty_cons, Bool.false_eq_true, false_or] at h6
        exact h6
      have kb := m5 _ _ _ hmem his
      obtain ⟨k1, k2, k3⟩ := kw_names q (lamCx X A outer s H E scope f c').env h9
      have el : ((kk :: ks).map (·.1)).length = (kk :: ks).length := List.length_map _
      rw [el] at kb
      show PE _ _ (tCallGK _ _ (gP as.length (kk :: ks).length is) (tVars as) (tVars ((kk :: ks).map (·.2))))
      cases es with
      | nil =>
        cases as with
        | cons _ _ => cases h8
        | nil => exact pe_callGK0 (X := lamCx X A outer s H E scope f c') m4 hgd' hr gl m1 m2 kb px (kargs h10) k2 k1 o1 k3
      | cons e es =>
        have h7' : noStar e = true ∧ es.all noStar = true := by simpa using h7
        exact pe_callGK (X := lamCx X A outer s H E scope f c') m4 hgd' hr gl m1 m2 kb px (args h7 h8) (kargs h10) k2 k1 o1 (star_cons h7'.1 _ _) (by rw [star_none _ _ h7, k3]; rfl)
  · cases hk
theorem Gd.GC {X : Cx} (g : Gd CX Pn k ⟨K, cA, W⟩ Θ X) : GC Pn K cA X := ⟨g.K, g.sysm, g.bi, fun p hp => (g.errs p hp).at_, fun b hb => (g.bases b hb).1, g.gd⟩
theorem PO.ofE {g : Gh} {w : Wd} {Q : VK} {E : XK} {σ : St} {r : Res Val} (h : PO ⟨K, cA, fun c d _ H => E c d H⟩ (RV K) g w σ Q r) : PO ⟨K, cA, fun c d _ H => E c d H⟩ (RV K) g w [] Q r := by
  match r, h with
  | .ok v S', h => exact h
  | .ex _ S', h => exact h
  | .no, h => exact h
/-- what is asked of the classes, of the defs that try -/
structure ErrT (Pn : PInf) (K : PySem.W.Frag) (cA : Str → Addr) : Prop where
  one : ∀ p ∈ Pn.errs, ErrK K (cA p.1) p.2
  kit : ∀ p ∈ Pn.errs, ∀ q ∈ Pn.errs, PySem.W.kitOne K (.ref (cA p.1)) (.ref (cA q.1)) = some (decide (p.1 = q.1))
  base : ∀ b ∈ Pn.bases, ∀ p ∈ Pn.errs, PySem.W.exmOne K (.ref (cA p.1)) (.ref (cA b)) = some true
  trs : ∀ p ∈ Pn.trs, FnScope p.2.2.2.1 [p.2.2.2.2] p.2.2.1
theorem hexec_ok (y : Exn) : ∀ (h : HT) (ρ : Ev.Env) (S : List Cell), (∃ v, hexec y h ρ S = .ok v S) ∨ hexec y h ρ S = .no
  | .ret h, ρ, S => by
    unfold hexec
    cases hev y ρ h with
    | none => exact .inr rfl
    | some d => exact .inl ⟨_, rfl⟩
  | .asg i h k, ρ, S => by
    unfold hexec
    cases hev y ρ h with
    | none => exact .inr rfl
    | some d => exact hexec_ok y k _ S
  | .iff t a k, ρ, S => by
    unfold hexec
    cases hev y ρ t with
    | none => exact .inr rfl
    | some d =>
      cases d <;> first | exact .inr rfl | skip
      rename_i b
      cases b with
      | true => exact hexec_ok y a ρ S
      | false => exact hexec_ok y k ρ S
theorem lam_bind {params : Arguments} {body : Expr} {scope : Scope} (h : (params.posonlyargs.isEmpty && params.args.isEmpty && params.vararg.isNone && params.kwonlyargs.isEmpty && params.kw_defaults.isEmpty && params.kwarg.isNone && params.defaults.isEmpty) = true) :
    (∀ env, defaultsOf params env = ([], [])) ∧ ∀ (q : Str) (cl : List (Str × Addr)) (pm cv ctv : Value), bindArgs (PySem.W.kla_fn "<lambda>" q params body scope cl pm cv ctv) ⟨[], []⟩ = pure [] := by
  obtain ⟨p1, p2, p3, p4, p5, p6, p7⟩ := params
  simp only [Bool.and_eq_true, List.isEmpty_iff, Option.isNone_iff_eq_none] at h
  obtain ⟨⟨⟨⟨⟨⟨rfl, rfl⟩, rfl⟩, rfl⟩, rfl⟩, rfl⟩, rfl⟩ := h
  exact ⟨fun env => rfl, fun q cl pm cv ctv => rfl⟩
theorem tried_ok (T : ErrT Pn K cA) {n : Nat} {e : Expr} {f : Str} {ns i : Nat} {w : HX} {hs : List (Str × Str)} {h : HT} {cf : Str} {as : List Nat} {ks : List (Str × Nat)} {cE cT : CT → Expr → X → Bool} (hk : stepE Pn cE cT Θ e (.tried f ns i w hs h cf as ks) = true) :
    ∃ t, (∀ X, Gd CX Pn k ⟨K, cA, W⟩ Θ X → PE X e t) ∧ SE ⟨K, cA, W⟩ t (ev (Cf Pn k) (n + 1) (.tried f ns i w hs h cf as ks)) := by
  unfold stepE at hk
  dsimp only at hk
  simp only [Bool.and_eq_true] at hk
  obtain ⟨h0, hk⟩ := hk
  split at hk
  case h_2 => cases hk
  rename_i f' el ex
  obtain ⟨p, q, rfl⟩ := vCall_ok ex
  simp only [Bool.and_eq_true, decide_eq_true_eq] at hk
  obtain ⟨⟨⟨⟨rfl, h2⟩, h3⟩, hl⟩, hk⟩ := hk
  obtain ⟨o1, o2, o3⟩ := okN_ok h3
  split at hk
  case h_2 => cases hk
  rename_i nm' body sc N a ef
  obtain ⟨params, lb, scope, lp, rfl⟩ : ∃ params lb scope lp, el = .Lambda params lb scope lp := by
    cases el <;> first | (cases hl; done) | exact ⟨_, _, _, _, rfl⟩
  have hmem := List.mem_of_find?_eq_some ef
  have hnm : nm' = f' := by simpa using List.find?_some ef
  subst hnm
  have hl' := hl
  unfold ckLam at hl'
  simp only [Bool.and_eq_true] at hl'
  obtain ⟨⟨⟨⟨⟨⟨⟨⟨l1, l2⟩, l3⟩, l4⟩, l5⟩, l6⟩, l7⟩, l8⟩, hl'⟩ := hl'
  split at hl'
  case h_2 => cases hl'
  rename_i f1 es1 kw1 e1x
  simp only [Bool.and_eq_true, decide_eq_true_eq] at hl'
  obtain ⟨⟨⟨⟨⟨⟨⟨⟨⟨hcf, _⟩, _⟩, l9⟩, l10⟩, _⟩, _⟩, _⟩, _⟩, _⟩ := hl'
  obtain ⟨fd, hf⟩ := Option.isSome_iff_exists.mp l9
  obtain ⟨is, his⟩ := Option.isSome_iff_exists.mp l10
  have d0 := lam_bind (params := params) (body := lb) (scope := scope) (by rw [l2, l3, l4, l5, l6, l7, l8]; rfl)
  obtain ⟨d1, d2⟩ := d0
  by_cases hk2 : ∃ j, k = j + 2
  case neg =>
    refine ⟨fun _ _ _ => False, fun X g => ⟨fun _ _ _ _ _ _ z => z.elim⟩, fun g wd ρ S σ H Q R E p => ?_⟩
    have hlow : (Cf Pn k).low = none := by
      match k, hk2 with
      | 0, _ => rfl
      | 1, _ => rfl
      | k + 2, z => exact (z ⟨k, rfl⟩).elim
    have p : PO ⟨K, cA, W⟩ (RV K) g wd σ Q (bnd (lift (slotsV ρ as)) (fun vs => bnd (lift (slotsV ρ (ks.map (·.2)))) fun ws => bnd (lift (argsOf (kwF Pn.Γ) cf as.length (ks.map (·.1)) vs ws)) fun us => (match (Cf Pn k).low with
      | some cl => fun S => triedM ns i w hs h (cl cf us S)
      | none => fail)) S) := p
    rw [hlow] at p
    obtain ⟨vs, _, p⟩ := po_lift p
    obtain ⟨ws, _, p⟩ := po_lift p
    obtain ⟨us, _, p⟩ := po_lift p
    exact p.elim
  obtain ⟨j, hj⟩ := hk2
  subst hj
  have hS : FnScope N [a] sc := T.trs _ hmem
  obtain ⟨b, jE, nm, ss, aft, hb, hjE, hN, hns, hN0, hva, hoa, hht, hhs, hG, haft⟩ := got_ok T.one T.kit (x := nm') hk hS
  have oa := okN_ok hoa
  refine ⟨tTried (tabsOf K) (TTx K cA (cA b) N jE h aft) (rdC Pn K cA j cf fd as ks is), fun X g => ?_, fun g wd ρ S σ H Q R E p => ?_⟩
  · obtain ⟨gA, fdata, pa, t1, t2, t3, _, t5⟩ := g.trs _ hmem
    obtain ⟨c, P, c1, c2, c3, c4⟩ := g.lam h0
    have eK : X.K = K := g.K
    rw [eK] at c3 c4
    exact pe_triedG (T := tabsOf K) (k := j + 3) (glB_ok g.sc h2) t1 t2 t3 t5 hS hN0 hva (hG X gA (j + 3) g.GC) c2 c1 c3 c4 g.room g.gd (by have := lamS_by l1; rw [← g.sc] at this; exact this) (d1 _) d2
      (fun A outer s H E f c' hg2 hr2 => lam_pe g hl hf his hg2 hr2) o1 oa.1 oa.2.1
  · have p : PO ⟨K, cA, W⟩ (RV K) g wd σ Q (bnd (lift (slotsV ρ as)) (fun vs => bnd (lift (slotsV ρ (ks.map (·.2)))) fun ws => bnd (lift (argsOf (kwF Pn.Γ) cf as.length (ks.map (·.1)) vs ws)) fun us => (fun S => triedM ns i w hs h (callF Pn.Γ Pn.G j cf us S))) S) := p
    obtain ⟨vs, ev, p⟩ := po_lift p
    obtain ⟨ws, ew, p⟩ := po_lift p
    obtain ⟨us, eu, p⟩ := po_lift p
    refine ⟨R.tab, fun H1 eN T1 fa => ?_⟩
    have R1 := R.extN eN T1
    obtain ⟨xs, rx, kx⟩ := slots_rd E ev
    obtain ⟨ys, ry, ky⟩ := slots_rd E ew
    -- what is wished of the call
    have core : PO ⟨K, cA, fun c d _ H' => ∃ b', PySem.W.exmOne K c (.ref (cA b)) = some b' ∧ (b' = true → ∀ ea, H' ea = none → ∀ D : Ends, D.rt = Q → rdT K cA (some ⟨jE, ea, c, d⟩) h D ((L2.start N [.ref fa]).set jE (some (.ref ea))) H') ∧ (b' = false → False)⟩ (RV K) g wd []
        (fun v H' => aft fa v H' Q) (callF Pn.Γ Pn.G j cf us S) := by
      have p : PO ⟨K, cA, W⟩ (RV K) g wd σ Q (triedM ns i w hs h (callF Pn.Γ Pn.G j cf us S)) := p
      cases er : callF Pn.Γ Pn.G j cf us S with
      | no => rw [er] at p; exact p.elim
      | ok v S' =>
        rw [er] at p
        cases v <;> first | exact (show False from p).elim | skip
        rename_i d
        have p : PO ⟨K, cA, W⟩ (RV K) g wd σ Q (lift ((hev noExn ((List.replicate (if i < ns then ns else i + 1) none).set i (some (.d d))) w).map .d) S') := p
        cases eh : hev noExn ((List.replicate (if i < ns then ns else i + 1) none).set i (some (.d d))) w with
        | none => rw [eh] at p; exact p.elim
        | some d' =>
          rw [eh] at p
          intro w' H' x e1 R' r'
          cases r' with
          | d r' => exact haft g w' S' H' Q fa x d d' R' r' eh fun w2 H2 y e2 R2 r2 => p w2 H2 y (e1.trans e2) R2 (.d r2)
      | ex y S' =>
        rw [er] at p
        by_cases hy : (y.cls, y.fld) ∈ hs
        case neg =>
          have p : PO ⟨K, cA, W⟩ (RV K) g wd σ Q (if (y.cls, y.fld) ∈ hs then hexec y h (List.replicate ns none) S' else .no) := p
          rw [if_neg hy] at p; exact p.elim
        have p : PO ⟨K, cA, W⟩ (RV K) g wd σ Q (if (y.cls, y.fld) ∈ hs then hexec y h (List.replicate ns none) S' else .no) := p
        rw [if_pos hy] at p
        rcases hexec_ok y h (List.replicate ns none) S' with ⟨v, eh⟩ | eh
        · rw [eh] at p
          intro w' H' c d e1 R' rx'
          obtain ⟨rfl, dd, vv, rfl, hd, rd⟩ := rx'
          refine ⟨true, T.base _ hb _ (hhs _ hy), fun _ ea hea D hD => ?_, fun z => by cases z⟩
          have hj : jE < (L2.start N [V.ref fa]).length := by rw [start_len (by omega)]; exact hjE
          refine ht_ok (z := ⟨jE, ea, .ref (cA y.cls), some dd⟩) (nm := nm) T.one T.kit 20 hht y g w' (List.replicate ns none) S' S' _ H' D v R' (RE.none (by rw [List.length_set, start_len (by omega), hN])) ?_ ?_ ?_
          · intro z hz
            cases hz
            exact ⟨by rw [List.getElem?_set_self hj], rfl, hhs _ hy, dd, vv, rfl, hd, rd⟩
          · exact eh
          · intro w2 H2 x e2 R2 r2
            rw [hD]
            exact p w2 H2 x (e1.trans e2) R2 r2
        · rw [eh] at p; exact p.elim
    have len : us.length = fd.np := callF_len hf us S (fun z => by rw [z] at core; exact core)
    show rdC Pn K cA j cf fd as ks is _ σ H1 _
    cases ks with
    | nil =>
      obtain rfl : vs = us := Option.some.inj eu
      exact kx H1 _ ⟨g, wd, S, vs, R1, rx, len, core⟩
    | cons kk ks =>
      have eu : (kwF Pn.Γ cf ((kk :: ks).map (·.1)) as.length).bind (fun is => kwOrder as.length ((kk :: ks).map (·.1)).length is vs ws) = some us := eu
      rw [his, List.length_map] at eu
      exact kx H1 _ (ky H1 _ ⟨g, wd, S, us, R1, kwOrder_RVs wd vs ws us xs ys rx ry eu, len, core⟩)
end
end Ev
end
section
set_option Elab.async false
set_option linter.all false
set_option maxRecDepth 100000
namespace Ev
open PySem PySem.Spec L2
open PyProof.Rows hiding St IsTup
section
variable {CX : CXT} {Pn : PInf} {k : Nat} {K : PySem.W.Frag} {cA : Str → Addr}
variable {n : Nat} {cE cT : CT → Expr → X → Bool}
variable (hCX : ∀ outer H s e s', CX outer H s (fun _ _ _ => False) e s' → False) (hG : ∀ p ∈ Pn.G, GlobOk K p.2 (Pn.gv p.1)) (hX : ErrT Pn K cA)
variable (hE : ∀ W Θ e x, cE Θ e x = true → OkE CX Pn k K cA W Θ e (ev (Cf Pn k) n x)) (hT : ∀ W Θ e x, cT Θ e x = true → OkT CX Pn k K cA W Θ e (fun ρ => bnd (ev (Cf Pn k) n x ρ) truB))
include hCX hG hX hE hT
theorem stepE_ok : ∀ W Θ e x, stepE Pn cE cT Θ e x = true → OkE CX Pn k K cA W Θ e (ev (Cf Pn k) (n + 1) x) := by
  intro W Θ e x h
  unfold stepE at h
  cases x with
  | var i =>
    dsimp only at h
    split at h
    · rename_i x ex
      obtain ⟨p, rfl⟩ := vName_ok ex
      simp only [Bool.and_eq_true, decide_eq_true_eq] at h
      obtain ⟨⟨h1, h2⟩, h3⟩ := h
      obtain ⟨o1, o2, o3⟩ := okN_ok h3
      exact ⟨tVar i, fun X g => pe_var (by rw [g.nN]; exact h1) (by rw [g.sc]; exact visB_ok h2) o1 o2, SE.var i⟩
    · cases h
  | c c =>
    dsimp only at h
    split at h
    · rename_i c' ex
      obtain ⟨kk, p, rfl⟩ := vConst_ok ex
      simp only [Bool.and_eq_true, decide_eq_true_eq] at h
      obtain ⟨rfl, h2⟩ := h
      exact const_ok h2
    · cases h
  | g j =>
    dsimp only at h
    split at h
    · rename_i x ex
      obtain ⟨p, rfl⟩ := vName_ok ex
      simp only [Bool.and_eq_true, decide_eq_true_eq] at h
      obtain ⟨⟨h1, h2⟩, h3⟩ := h
      obtain ⟨o1, o2, o3⟩ := okN_ok h3
      obtain ⟨q, eq, rfl⟩ := Option.map_eq_some_iff.mp h1
      have hq := List.mem_of_getElem? eq
      refine ⟨tC (Pn.gv q.1), fun X g => ?_, ?_⟩
      · obtain ⟨_, u, hm, r⟩ := g.glob q hq
        exact pe_glob (glB_ok g.sc h2) hm r o1
      · have := SE.glob (F := ⟨K, cA, W⟩) (v := q.2) (x := Pn.gv q.1) (hG q hq)
        have e : ev (Cf Pn k) (n + 1) (.g j) = fun _ => Ev.ret q.2 := by
          funext ρ
          show lift ((Pn.G[j]?).map (·.2)) = _
          rw [eq]; rfl
        rw [e]
        exact this
    · cases h
  | tup xs =>
    dsimp only at h
    split at h
    · rename_i es ex
      obtain ⟨kk, p, rfl⟩ := vTup_ok ex
      obtain ⟨h1, h2⟩ := Bool.and_eq_true_iff.mp h
      obtain ⟨t, a, b⟩ := ckA_ok hE (W := W) h1 h2
      exact ⟨tTup t, fun X g => pe_tup (a X g), SA.then_ b fun g w S σ H Q us xs R r h => tup_snd (F := ⟨K, cA, W⟩) R r h⟩
    · cases h
  | lst mu xs =>
    dsimp only at h
    split at h
    · rename_i es ex
      obtain ⟨p, rfl⟩ := vLst_ok ex
      obtain ⟨h1, h2⟩ := Bool.and_eq_true_iff.mp h
      obtain ⟨t, a, b⟩ := ckA_ok hE (W := W) h1 h2
      exact ⟨tLst t, fun X g => pe_lst (a X g), SA.then_ b fun g w S σ H Q us xs R r h => lst_snd (F := ⟨K, cA, W⟩) R r h⟩
    · cases h
  | dnil =>
    dsimp only at h
    split at h
    · rename_i ex
      obtain ⟨p, rfl⟩ := vDict_ok ex
      exact ⟨tDNewK, fun X g => pe_dnewK, SE.dnil⟩
    · cases h
  | dnew tk =>
    dsimp only at h
    split at h
    · rename_i ex
      obtain ⟨p, rfl⟩ := vDict_ok ex
      refine ⟨if tk = true then tDNewT else tDNewK, fun X g => ?_, SE.dnew tk⟩
      cases tk with
      | true => exact pe_dnewT
      | false => exact pe_dnewK
    · cases h
  | dct mu ps =>
    dsimp only at h
    split at h
    · rename_i ks vs ex
      obtain ⟨p, rfl⟩ := vDict_ok ex
      simp only [Bool.and_eq_true, decide_eq_true_eq] at h
      obtain ⟨⟨⟨h1, h2⟩, h3⟩, h4⟩ := h
      have l1 := all2_len h1
      have l2 := all2_len h2
      obtain ⟨hs, trs, a, b⟩ := prs_ok hE (W := W) (p := p) h1 h2
      refine ⟨tDisp trs, fun X g => pe_disp (a X g) hs (by rw [l1, l2]) (fun z => ?_) (by rw [l1]; exact h4), SE.dct mu b⟩
      have z : ks = [] := z
      rw [z] at l1
      have : ps = [] := List.length_eq_zero_iff.mp l1.symm
      rw [this] at h3
      exact Bool.noConfusion h3
    · cases h
  | bin mu o a b =>
    dsimp only at h
    split at h
    · rename_i ea op eb ex
      obtain ⟨p, rfl⟩ := vBin_ok ex
      simp only [Bool.and_eq_true, decide_eq_true_eq] at h
      obtain ⟨⟨rfl, h2⟩, h3⟩ := h
      obtain ⟨t1, a1, b1⟩ := hE W Θ ea a h2
      obtain ⟨t2, a2, b2⟩ := hE W Θ eb b h3
      refine ⟨tOp (rBin K o) t1 t2, fun X g => ?_, SE.two b1 b2 fun g w S σ H Q u v x y R r1 r2 h => bin_snd (F := ⟨K, cA, W⟩) o R r1 r2 h⟩
      have e1 := pe_op (pos := p) (op_bin (X := X) o) (a1 X g) (a2 X g)
      rw [g.K] at e1
      exact e1
    · cases h
  | neg a =>
    dsimp only at h
    split at h
    · rename_i ea ex
      obtain ⟨p, rfl⟩ := vUn_ok ex
      obtain ⟨t1, a1, b1⟩ := hE W Θ ea a h
      exact ⟨tUn (rU fun i => .int (-i)) t1, fun X g => pe_un un_neg (a1 X g), SE.neg b1⟩
    · cases h
  | cmp o a b =>
    dsimp only at h
    split at h
    · rename_i ea op eb ex
      obtain ⟨p, rfl⟩ := vCmp_ok ex
      simp only [Bool.and_eq_true, decide_eq_true_eq] at h
      obtain ⟨⟨⟨rfl, h1⟩, h2⟩, h3⟩ := h
      obtain ⟨t, a1, b1⟩ := cmp_ok hE (W := W) (o := o) (p := p) h1 h2 h3
      exact ⟨t, fun X g => (a1 X g).1, b1⟩
    · cases h
  | chn o q a b c =>
    dsimp only at h
    split at h
    · rename_i ea op eb op' ec ex
      obtain ⟨p, rfl⟩ := vChn_ok ex
      simp only [Bool.and_eq_true, decide_eq_true_eq] at h
      obtain ⟨⟨⟨⟨⟨rfl, rfl⟩, h1⟩, h2⟩, h3⟩, h4⟩ := h
      obtain ⟨t, a1, b1⟩ := chn_ok hE (W := W) (o := o) (q := q) (p := p) h1 h2 h3 h4
      exact ⟨t, fun X g => (a1 X g).1, b1⟩
    · cases h
  | and_ xs =>
    dsimp only at h
    split at h
    · rename_i es ex
      obtain ⟨p, rfl⟩ := vBool_ok ex
      obtain ⟨h1, h2⟩ := Bool.and_eq_true_iff.mp h
      exact and_ok hE (fun z => by rw [z] at h1; exact Bool.noConfusion h1) h2
    · cases h
  | or_ xs =>
    dsimp only at h
    split at h
    · rename_i es ex
      obtain ⟨p, rfl⟩ := vBool_ok ex
      obtain ⟨h1, h2⟩ := Bool.and_eq_true_iff.mp h
      exact or_ok hE (fun z => by rw [z] at h1; exact Bool.noConfusion h1) h2
    · cases h
  | not_ a =>
    dsimp only at h
    split at h
    · rename_i ea ex
      obtain ⟨p, rfl⟩ := vUn_ok ex
      obtain ⟨t1, a1, b1⟩ := hE W Θ ea a h
      exact ⟨tNotV t1, fun X g => pe_not (a1 X g), SE.notV b1⟩
    · cases h
  | ite t a b =>
    dsimp only at h
    split at h
    · rename_i et ea eb ex
      obtain ⟨p, rfl⟩ := vIf_ok ex
      simp only [Bool.and_eq_true] at h
      obtain ⟨⟨h1, h2⟩, h3⟩ := h
      obtain ⟨t0, a0, b0⟩ := hT W Θ et t h1
      obtain ⟨t1, a1, b1⟩ := hE W Θ ea a h2
      obtain ⟨t2, a2, b2⟩ := hE W Θ eb b h3
      refine ⟨tIf t0 t1 t2, fun X g => pe_ifExp (a0 X g) (a1 X g) (a2 X g), ?_⟩
      have e : ev (Cf Pn k) (n + 1) (.ite t a b) = fun ρ => bnd (bnd (ev (Cf Pn k) n t ρ) truB) fun c => if c = true then ev (Cf Pn k) n a ρ else ev (Cf Pn k) n b ρ := by
        funext ρ
        rw [bnd_assoc]; rfl
      rw [e]
      exact SE.ite b0 b1 b2
    · cases h
  | idx a i =>
    dsimp only at h
    split at h
    · rename_i ea ei ex
      obtain ⟨p, rfl⟩ := vSub_ok ex
      simp only [Bool.and_eq_true] at h
      obtain ⟨⟨h1, h2⟩, h3⟩ := h
      obtain ⟨t1, a1, b1⟩ := hE W Θ ea a h2
      obtain ⟨t2, a2, b2⟩ := hE W Θ ei i h3
      refine ⟨tOp (rIxX K) t1 t2, fun X g => ?_, SE.two b1 b2 fun g w S σ H Q u v x y R r1 r2 h => idx_snd (F := ⟨K, cA, W⟩) R r1 r2 h⟩
      have hu : X.A.units + 1 < cLine := by have := g.units; omega
      have e1 := pe_ix (pos := p) (ix_X (X := X) hu) (a1 X g) (a2 X g) (plain_ix h1)
      rw [g.K] at e1
      exact e1
    · cases h
  | sl mu a lo hi =>
    dsimp only at h
    split at h
    · rename_i ea el eh ex
      obtain ⟨p, q, rfl⟩ := vSl_ok ex
      simp only [Bool.and_eq_true] at h
      obtain ⟨⟨h1, h2⟩, h3⟩ := h
      obtain ⟨t1, a1, b1⟩ := hE W Θ ea a h1
      obtain ⟨t2, a2, b2⟩ := opt_ok hE (W := W) h2
      obtain ⟨t3, a3, b3⟩ := opt_ok hE (W := W) h3
      refine ⟨tSl (rSlX K) t1 t2 t3, fun X g => ?_, SE.slice (F := ⟨K, cA, W⟩) b1 b2 b3⟩
      have e1 := pe_slice (pos := q) (p2 := p) (sl_X (X := X)) (a1 X g) (a2 X g) (a3 X g)
      rw [g.K] at e1
      exact e1
    · cases h
  | rev mu a =>
    dsimp only at h
    split at h
    · rename_i ea ex
      obtain ⟨kk, p1, p2, p3, q, rfl⟩ := vRev_ok ex
      obtain ⟨t1, a1, b1⟩ := hE W Θ ea a h
      refine ⟨tRevL K t1, fun X g => ?_, SE.rev (F := ⟨K, cA, W⟩) b1⟩
      have e1 := pe_revL (X := X) (k := kk) (p1 := p1) (p2 := p2) (p3 := p3) (pos := q) (a1 X g)
      rw [g.K] at e1
      exact e1
    · cases h
  | call f xs =>
    dsimp only at h
    split at h
    · rename_i f' es ex
      obtain ⟨p, q, rfl⟩ := vCall_ok ex
      simp only [Bool.and_eq_true, decide_eq_true_eq] at h
      obtain ⟨⟨⟨⟨⟨rfl, h2⟩, h3⟩, h4⟩, h5⟩, h6⟩ := h
      obtain ⟨o1, o2, o3⟩ := okN_ok h3
      obtain ⟨fd, hf⟩ := Option.isSome_iff_exists.mp h4
      cases es with
      | nil =>
        cases xs with
        | cons _ _ => cases h6
        | nil =>
          refine ⟨tCallG W (spEv K cA fd.np (callF Pn.Γ Pn.G k f)) tNil, fun X g => ?_, SE.call (F := ⟨K, cA, W⟩) SA.nil fun vs S z => callF_len hf vs S z⟩
          obtain ⟨a, fdata, ps, m1, m2, m3, m4, _⟩ := g.fns f fd hf
          exact pe_callG0 m4 g.gd g.room (glB_ok g.sc h2) m1 m2 m3 g.px o1
      | cons e es =>
        obtain ⟨t, a1, b1⟩ := ckA_ok hE (W := W) h5 h6
        have h5' : noStar e = true ∧ es.all noStar = true := by simpa using h5
        refine ⟨tCallG W (spEv K cA fd.np (callF Pn.Γ Pn.G k f)) t, fun X g => ?_, SE.call (F := ⟨K, cA, W⟩) b1 fun vs S z => callF_len hf vs S z⟩
        obtain ⟨a, fdata, ps, m1, m2, m3, m4, _⟩ := g.fns f fd hf
        exact pe_callG m4 g.gd g.room (glB_ok g.sc h2) m1 m2 m3 g.px (a1 X g) o1 (star_cons h5'.1 _ _) (star_none _ _ h5'.2)
    · cases h
  | callk f xs ks =>
    dsimp only at h
    split at h
    · rename_i f' es kws ex
      obtain ⟨p, q, rfl⟩ := vCall_ok ex
      simp only [Bool.and_eq_true, decide_eq_true_eq] at h
      obtain ⟨⟨⟨⟨⟨⟨⟨⟨⟨rfl, h2⟩, h3⟩, h4⟩, h7⟩, h8⟩, h5⟩, h6⟩, h9⟩, h10⟩ := h
      obtain ⟨o1, o2, o3⟩ := okN_ok h3
      obtain ⟨fd, hf⟩ := Option.isSome_iff_exists.mp h4
      obtain ⟨is, his⟩ := Option.isSome_iff_exists.mp h7
      obtain ⟨tk, ak, bk⟩ := kws_ok hE (W := W) h10
      have el : (ks.map (·.1)).length = ks.length := List.length_map _
      have fin : ∀ {t : TA} {ma : Ev.Env → M (List Val)}, SA ⟨K, cA, W⟩ t ma → (ma = fun ρ => mapE (fun e => ev (Cf Pn k) n e ρ) xs) → SE ⟨K, cA, W⟩ (tCallGK W (spEv K cA fd.np (callF Pn.Γ Pn.G k f)) (gP xs.length (ks.map (·.1)).length is) t tk) (ev (Cf Pn k) (n + 1) (.callk f xs ks)) := fun {t ma} b e => by
        have := SE.callK (F := ⟨K, cA, W⟩) (m := callF Pn.Γ Pn.G k f) (o := kwOrder xs.length ks.length is) (gV := gP xs.length ks.length is) b bk (fun vs S z => callF_len hf vs S z) (fun w vs ws us xs' ys r1 r2 h => kwOrder_RVs w vs ws us xs' ys r1 r2 h)
        rw [el]
        have e2 : ev (Cf Pn k) (n + 1) (.callk f xs ks) = fun ρ => bnd (mapE (fun e => ev (Cf Pn k) n e ρ) xs) fun vs => bnd (mapE (fun e => ev (Cf Pn k) n e ρ) (ks.map (·.2))) fun ws => (match kwOrder xs.length ks.length is vs ws with
          | some us => callF Pn.Γ Pn.G k f us
          | none => fail) := by
          funext ρ
          show (bnd _ fun vs => bnd _ fun ws => (match kwF Pn.Γ f (ks.map (·.1)) xs.length with
            | some is => (match kwOrder xs.length ks.length is vs ws with
              | some us => callF Pn.Γ Pn.G k f us
              | none => fail)
            | none => fail)) = _
          rw [his]
        rw [e2]
        rw [e] at this
        exact this
      obtain ⟨k1, k2, k3⟩ : (∀ X : Cx, (backToKw q (keywordEach kws X.env)).filterMap (·.1) = ks.map (·.1)) ∧ (∀ X : Cx, (backToKw q (keywordEach kws X.env)).all (·.1.isSome) = true) ∧ ∀ X : Cx, (backToKw q (keywordEach kws X.env)).any (·.1.isNone) = false :=
        ⟨fun X => (kw_names q X.env h9).1, fun X => (kw_names q X.env h9).2.1, fun X => (kw_names q X.env h9).2.2⟩
      cases es with
      | nil =>
        cases xs with
        | cons _ _ => cases h6
        | nil =>
          refine ⟨_, fun X g => ?_, fin SA.nil rfl⟩
          obtain ⟨a, fdata, ps, m1, m2, m3, m4, m5⟩ := g.fns f fd hf
          exact pe_callGK0 m4 g.gd g.room (glB_ok g.sc h2) m1 m2 (m5 _ _ _ h8 his) g.px (ak X g) (k2 X) (k1 X) o1 (k3 X)
      | cons e es =>
        obtain ⟨t, a1, b1⟩ := ckA_ok hE (W := W) h5 h6
        have h5' : noStar e = true ∧ es.all noStar = true := by simpa using h5
        refine ⟨_, fun X g => ?_, fin b1 rfl⟩
        obtain ⟨a, fdata, ps, m1, m2, m3, m4, m5⟩ := g.fns f fd hf
        exact pe_callGK m4 g.gd g.room (glB_ok g.sc h2) m1 m2 (m5 _ _ _ h8 his) g.px (a1 X g) (ak X g) (k2 X) (k1 X) o1 (star_cons h5'.1 _ _) (by rw [star_none _ _ h5, k3 X]; rfl)
    · cases h
  | bi mu b xs =>
    dsimp only at h
    split at h
    · rename_i f es nm fv ex eb
      obtain ⟨p, q, rfl⟩ := vCall_ok ex
      simp only [Bool.and_eq_true] at h
      obtain ⟨⟨⟨h1, h2⟩, h3⟩, h4⟩ := h
      obtain ⟨rfl, hg, hb⟩ := biName_ok h1
      obtain ⟨t, a1, b1⟩ := ckA_ok hE (W := W) h2 h4
      cases es with
      | nil => exact Bool.noConfusion h3
      | cons e es =>
        have h2' : noStar e = true ∧ es.all noStar = true := by simpa using h2
        refine ⟨tCB (rBi K b) t, fun X g => ?_, SA.then_ b1 fun g w S σ H Q us xs R r h => bi_snd (F := ⟨K, cA, W⟩) b eb R r h⟩
        have e1 := call_bi' (X := X) g.calm eb (Θ := Θ) (p := p) (q := q) (glB_ok g.sc hg) (g.bi _ hb) (a1 X g) h2'.1 h2'.2
        rw [g.K] at e1
        exact e1
    · cases h
  | rep a =>
    dsimp only at h
    split at h
    · rename_i f ea ex
      obtain ⟨p, q, rfl⟩ := vCall_ok ex
      simp only [Bool.and_eq_true] at h
      obtain ⟨⟨h1, h2⟩, h3⟩ := h
      obtain ⟨rfl, hg, hb⟩ := biName_ok h1
      obtain ⟨t, a1, b1⟩ := hE W Θ ea a h3
      have bk : ("repr" : Str) ≠ "__name__" := by decide +kernel
      have bk2 : (("repr" : Str) == ("__debug__" : Str)) = false := by decide +kernel
      refine ⟨_, fun X g => ?_, SE.rep b1⟩
      exact pe_callB (call_repr g.gd g.units (by rw [g.K]; exact g.sysm)) (glB_ok g.sc hg) (g.bi _ hb) PyProof.Rows.boot_repr (pa_cons (a1 X g) pa_nil (star_cons h2 _ _)) bk bk2 (star_cons h2 _ _) rfl
    · cases h
  | isi ts a =>
    dsimp only at h
    split at h
    · rename_i f ea et ex
      obtain ⟨p, q, rfl⟩ := vCall_ok ex
      simp only [Bool.and_eq_true] at h
      obtain ⟨⟨⟨h1, h2⟩, h3⟩, h4⟩ := h
      obtain ⟨rfl, hg, hb⟩ := biName_ok h1
      obtain ⟨t, a1, b1⟩ := hE W Θ ea a h3
      have bk : ("isinstance" : Str) ≠ "__name__" := by decide +kernel
      have bk2 : (("isinstance" : Str) == ("__debug__" : Str)) = false := by decide +kernel
      split at h4
      · rename_i ty
        obtain ⟨n2, hty⟩ := tyE_ok (CX := CX) (k := k) (K := K) (cA := cA) (W := W) h4
        refine ⟨tCB (rIsX K) (tCons t (tCons (tC (.ty ty.name)) tNil)), fun X g => ?_, ?_⟩
        · have := pe_callB (X := X) (pos := q) (p := p) call_isX (glB_ok g.sc hg) (g.bi _ hb) PyProof.Rows.boot_isinstance (pa_cons (a1 X g) (pa_cons (hty X g) pa_nil (star_cons n2 _ _)) (star_cons h2 _ _)) bk bk2 (star_cons h2 _ _) (star_none _ _ (by simpa using n2))
          rw [g.K] at this
          exact this
        · have := SE.isi (F := ⟨K, cA, W⟩) (t := ty) b1
          have e : ev (Cf Pn k) (n + 1) (.isi [ty] a) = fun ρ => bnd (ev (Cf Pn k) n a ρ) fun v => bnd (view v) fun d => Ev.ret (.d (.bool (isT d ty))) := by
            funext ρ
            show bnd _ (isiM [ty]) = _
            congr 1
            funext v
            show bnd (view v) _ = _
            congr 1
            funext d
            show Ev.ret (Val.d (.bool (isT d ty || false))) = _
            rw [Bool.or_false]
          rw [e]
          exact this
      · split at h4
        · rename_i ets ex2
          obtain ⟨kk, pt, rfl⟩ := vTup_ok ex2
          simp only [Bool.and_eq_true, decide_eq_true_eq] at h4
          have go : ∀ {ets : List Expr} {ts : List Ty}, all2 (tyE Pn Θ) ets ts = true → ets.all noStar = true ∧ ∃ tt : TA, (∀ X, Gd CX Pn k ⟨K, cA, W⟩ Θ X → PA X ets tt) ∧ ∀ σ H (Q : List V → Hp → Prop), Q (ts.map fun t => V.ty t.name) H → tt σ H Q := by
            intro ets
            induction ets with
            | nil =>
              intro ts h
              cases ts with
              | nil => exact ⟨rfl, tNil, fun X g => pa_nil, fun σ H Q q => q⟩
              | cons _ _ => cases h
            | cons e ets ih =>
              intro ts h
              cases ts with
              | nil => cases h
              | cons ty ts =>
                obtain ⟨h1, h2⟩ := Bool.and_eq_true_iff.mp (show (_ && _) = true from h)
                obtain ⟨n2, hty⟩ := tyE_ok (CX := CX) (k := k) (K := K) (cA := cA) (W := W) h1
                obtain ⟨n3, tt, a2, b2⟩ := ih h2
                exact ⟨by simp only [List.all_cons, n2, n3]; rfl, tCons (tC (.ty ty.name)) tt, fun X g => pa_cons (hty X g) (a2 X g) (star_cons n2 _ _), fun σ H Q q => b2 σ H _ q⟩
          obtain ⟨n3, tt, a2, b2⟩ := go h4.1
          refine ⟨tCB (rIsXT K) (tCons t (tCons (tTup tt) tNil)), fun X g => ?_, SE.isiT (F := ⟨K, cA, W⟩) b1 b2 (Nat.le_trans h4.2 (by rw [sizeLine_eq]; decide))⟩
          have := pe_callB (X := X) (pos := q) (p := p) call_isXT (glB_ok g.sc hg) (g.bi _ hb) PyProof.Rows.boot_isinstance (pa_cons (a1 X g) (pa_cons (pe_tup (x1 := kk) (pos := pt) (a2 X g)) pa_nil (star_cons rfl _ _)) (star_cons h2 _ _)) bk bk2 (star_cons h2 _ _) (star_none _ _ rfl)
          rw [g.K] at this
          exact this
        · cases h4
    · cases h
  | me m o xs =>
    dsimp only at h
    split at h
    · rename_i eo nm es nm' id ex em
      obtain ⟨p, q, rfl, hl⟩ := vMeth_ok ex
      simp only [Bool.and_eq_true, decide_eq_true_eq] at h
      obtain ⟨⟨⟨⟨⟨rfl, h1⟩, h2⟩, h3⟩, h4⟩, h5⟩ := h
      obtain ⟨to, ao, bo⟩ := hE W Θ eo o h4
      have fin : ∀ {t : TA}, (∀ X, Gd CX Pn k ⟨K, cA, W⟩ Θ X → PA X es t) → SA ⟨K, cA, W⟩ t (fun ρ => mapE (fun e => ev (Cf Pn k) n e ρ) xs) → (es = [] → t = tNil) → OkE CX Pn k K cA W Θ (.Call (.Attribute eo nm p) es [] q) (ev (Cf Pn k) (n + 1) (.me m o xs)) := fun {t} a1 b1 h0 => by
        refine ⟨tBM K m.ty.T (rMe K m) to t, fun X g => ?_, SE.me (F := ⟨K, cA, W⟩) m em bo b1⟩
        have := me_pe (X := X) m em (ap := p) (cp := q) (ao X g) (a1 X g) h0 h1 h2 h3 hl
        rw [g.K] at this
        exact this
      cases es with
      | nil =>
        cases xs with
        | nil => exact fin (fun X g => pa_nil) SA.nil fun _ => rfl
        | cons _ _ => cases h5
      | cons e es =>
        obtain ⟨t, a1, b1⟩ := ckA_ok hE (W := W) h2 h5
        exact fin a1 b1 fun z => by cases z
    · cases h
  | tried f ns i w hs h' cf as ks => exact tried_ok hX (cE := cE) (cT := cT) h
  | comp mu el tg it ts own =>
    dsimp only at h
    split at h
    · rename_i eel etg eit eifs sc ex
      obtain ⟨p, rfl⟩ := vLc_ok ex
      simp only [Bool.and_eq_true] at h
      obtain ⟨⟨⟨⟨⟨⟨h1, h2⟩, h3⟩, h4⟩, h5⟩, h6⟩, h7⟩ := h
      obtain ⟨ti, ai, bi⟩ := ckI_ok hE (W := W) h4
      obtain ⟨tg', ag, bg⟩ := ckG_ok (CX := CX) (Pn := Pn) (k := k) (K := K) (cA := cA) (W := fun _ _ _ _ => False) 9 h2
      obtain ⟨te, ae, be⟩ := hE (fun _ _ _ _ => False) (Θ.inner sc) eel el h7
      have htt : ∃ tt, (∀ X, Gd CX Pn k ⟨K, cA, fun _ _ _ _ => False⟩ (Θ.inner sc) X → PTs X eifs tt) ∧ ST ⟨K, cA, fun _ _ _ _ => False⟩ tt (fun ρ => testsE (fun e => ev (Cf Pn k) n e ρ) ts) := by
        split at h6
        · exact ⟨tYes, fun X g => pts_nil, fun g w ρ S σ H Q R E h => h w H (.refl _) R⟩
        · rename_i ec c
          obtain ⟨tt, at_, bt⟩ := hT (fun _ _ _ _ => False) (Θ.inner sc) ec c h6
          refine ⟨tt, fun X g => pts_one (at_ X g), ?_⟩
          have e : (fun ρ => testsE (fun e => ev (Cf Pn k) n e ρ) [c]) = fun ρ => bnd (ev (Cf Pn k) n c ρ) truB := by
            funext ρ
            show (bnd (ev (Cf Pn k) n c ρ) fun v => bnd (truB v) fun b => if b = true then Ev.ret true else Ev.ret false) = _
            congr 1
            funext v
            have : (fun b => if b = true then Ev.ret true else Ev.ret false) = (Ev.ret : Bool → M Bool) := by
              funext b
              cases b <;> rfl
            rw [this, bnd_right]
          rw [e]
          exact bt
        · cases h6
      obtain ⟨tt, at_, bt⟩ := htt
      have eo : (own.map fun (i : Nat) => (((Θ.N[i]?).getD "" : Str), i)).map (·.2) = own := by
        rw [List.map_map]
        exact List.map_id _
      refine ⟨tLc ti tg' tt te own, fun X g => ?_, SE.comp (F := ⟨K, cA, W⟩) mu bi bg (fun i hi => ?_) bt be⟩
      · have := pe_lc (X := X) (pos := p) (own := own.map fun (i : Nat) => (((Θ.N[i]?).getD "" : Str), i)) g.calm g.nd (ai X g) (blkOk_by (by rw [g.nN, g.sc]; exact h1)) (fun s H C cl fp => ag _ (g.blk hCX s H sc C cl fp)) (fun s H C cl fp => at_ _ (g.blk hCX s H sc C cl fp)) (fun s H C cl fp => ae _ (g.blk hCX s H sc C cl fp)) (fun x => not_folded h5 _ x)
        rw [eo] at this
        exact this
      · have := List.all_eq_true.mp h3 i hi
        simpa using this
    · cases h
end
end Ev
end
section
set_option Elab.async false
set_option linter.all false
set_option maxRecDepth 100000
namespace Ev
open PySem PySem.Spec L2
open PyProof.Rows hiding St IsTup
section
variable {CX : CXT} {Pn : PInf} {k : Nat} {K : PySem.W.Frag} {cA : Str → Addr}
section
variable {n : Nat} {cE cT cE' : CT → Expr → X → Bool}
variable (hE : ∀ W Θ e x, cE Θ e x = true → OkE CX Pn k K cA W Θ e (ev (Cf Pn k) n x)) (hT : ∀ W Θ e x, cT Θ e x = true → OkT CX Pn k K cA W Θ e (fun ρ => bnd (ev (Cf Pn k) n x ρ) truB))
variable (hE' : ∀ W Θ e x, cE' Θ e x = true → OkE CX Pn k K cA W Θ e (ev (Cf Pn k) (n + 1) x))
variable {W : WX} {Θ : CT}
include hT in
theorem andT_ok {p : Pos} : ∀ {es : List Expr} {xs : List X}, xs ≠ [] → all2 (cT Θ) es xs = true →
    ∃ t, (∀ X, Gd CX Pn k ⟨K, cA, W⟩ Θ X → PW X (.BoolOp .And es p) t) ∧ ST ⟨K, cA, W⟩ t (fun ρ => bnd (andE (fun e => ev (Cf Pn k) n e ρ) xs) truB)
  | [], [], h, _ => (h rfl).elim
  | [e], [x], _, h => by
    have h : cT Θ e x = true := by simpa [all2] using h
    obtain ⟨t, a, b⟩ := hT W Θ e x h
    exact ⟨t, fun X g => pw_and1 (a X g), b⟩
  | e :: e2 :: es, x :: x2 :: xs, _, h => by
    have h := Bool.and_eq_true_iff.mp (show (cT Θ e x && all2 (cT Θ) (e2 :: es) (x2 :: xs)) = true from h)
    obtain ⟨t, a, b⟩ := hT W Θ e x h.1
    obtain ⟨t2, a2, b2⟩ := andT_ok (p := p) (List.cons_ne_nil x2 xs) h.2
    refine ⟨tAnd t t2, fun X g => pw_and (a X g) (a2 X g), ?_⟩
    have := ST.and b b2
    have e : (fun ρ => bnd (andE (fun e => ev (Cf Pn k) n e ρ) (x :: x2 :: xs)) truB) = fun ρ => bnd (bnd (ev (Cf Pn k) n x ρ) truB) fun b => if b = true then bnd (andE (fun e => ev (Cf Pn k) n e ρ) (x2 :: xs)) truB else Ev.ret false := by
      funext ρ
      show bnd (bnd (ev (Cf Pn k) n x ρ) fun v => bnd (truB v) fun b => if b = true then andE (fun e => ev (Cf Pn k) n e ρ) (x2 :: xs) else Ev.ret (Val.d (.bool false))) truB = _
      rw [bnd_assoc, bnd_assoc]
      congr 1
      funext v
      rw [bnd_assoc]
      congr 1
      funext b
      rw [bnd_ite]
      rfl
    rw [e]
    exact this
  | [], _ :: _, _, h => by cases h
  | _ :: _, [], _, h => by cases h
  | [_], _ :: _ :: _, _, h => by simp [all2] at h
  | _ :: _ :: _, [_], _, h => by simp [all2] at h
include hT in
theorem orT_ok {p : Pos} : ∀ {es : List Expr} {xs : List X}, xs ≠ [] → all2 (cT Θ) es xs = true →
    ∃ t, (∀ X, Gd CX Pn k ⟨K, cA, W⟩ Θ X → PW X (.BoolOp .Or es p) t) ∧ ST ⟨K, cA, W⟩ t (fun ρ => bnd (orE (fun e => ev (Cf Pn k) n e ρ) xs) truB)
  | [], [], h, _ => (h rfl).elim
  | [e], [x], _, h => by
    have h : cT Θ e x = true := by simpa [all2] using h
    obtain ⟨t, a, b⟩ := hT W Θ e x h
    exact ⟨t, fun X g => pw_or1 (a X g), b⟩
  | e :: e2 :: es, x :: x2 :: xs, _, h => by
    have h := Bool.and_eq_true_iff.mp (show (cT Θ e x && all2 (cT Θ) (e2 :: es) (x2 :: xs)) = true from h)
    obtain ⟨t, a, b⟩ := hT W Θ e x h.1
    obtain ⟨t2, a2, b2⟩ := orT_ok (p := p) (List.cons_ne_nil x2 xs) h.2
    refine ⟨tOr t t2, fun X g => pw_or (a X g) (a2 X g), ?_⟩
    have := ST.or b b2
    have e : (fun ρ => bnd (orE (fun e => ev (Cf Pn k) n e ρ) (x :: x2 :: xs)) truB) = fun ρ => bnd (bnd (ev (Cf Pn k) n x ρ) truB) fun b => if b = true then Ev.ret true else bnd (orE (fun e => ev (Cf Pn k) n e ρ) (x2 :: xs)) truB := by
      funext ρ
      show bnd (bnd (ev (Cf Pn k) n x ρ) fun v => bnd (truB v) fun b => if b = true then Ev.ret (Val.d (.bool true)) else orE (fun e => ev (Cf Pn k) n e ρ) (x2 :: xs)) truB = _
      rw [bnd_assoc, bnd_assoc]
      congr 1
      funext v
      rw [bnd_assoc]
      congr 1
      funext b
      rw [bnd_ite]
      rfl
    rw [e]
    exact this
  | [], _ :: _, _, h => by cases h
  | _ :: _, [], _, h => by cases h
  | [_], _ :: _ :: _, _, h => by simp [all2] at h
  | _ :: _ :: _, [_], _, h => by simp [all2] at h
include hE hT hE' in
theorem stepT_ok : ∀ W Θ e x, stepT cE cT cE' Θ e x = true → OkT CX Pn k K cA W Θ e (fun ρ => bnd (ev (Cf Pn k) (n + 1) x ρ) truB) := by
  intro W Θ e x h
  unfold stepT at h
  split at h
  · split at h
    · rename_i es ex
      obtain ⟨p, rfl⟩ := vBool_ok ex
      obtain ⟨h1, h2⟩ := Bool.and_eq_true_iff.mp h
      obtain ⟨t, a, b⟩ := andT_ok hT (W := W) (p := p) (fun z => by rw [z] at h1; exact Bool.noConfusion h1) h2
      exact ⟨t, fun X g => (a X g).pt, b⟩
    · cases h
  · split at h
    · rename_i es ex
      obtain ⟨p, rfl⟩ := vBool_ok ex
      obtain ⟨h1, h2⟩ := Bool.and_eq_true_iff.mp h
      obtain ⟨t, a, b⟩ := orT_ok hT (W := W) (p := p) (fun z => by rw [z] at h1; exact Bool.noConfusion h1) h2
      exact ⟨t, fun X g => (a X g).pt, b⟩
    · cases h
  · rename_i a
    split at h
    · rename_i ea ex
      obtain ⟨p, rfl⟩ := vUn_ok ex
      obtain ⟨t1, a1, b1⟩ := hT W Θ ea a h
      refine ⟨tNot t1, fun X g => pt_not (a1 X g), ?_⟩
      have := ST.not b1
      have e : (fun ρ => bnd (ev (Cf Pn k) (n + 1) (.not_ a) ρ) truB) = fun ρ => bnd (bnd (ev (Cf Pn k) n a ρ) truB) fun b => Ev.ret (!b) := by
        funext ρ
        show bnd (bnd (ev (Cf Pn k) n a ρ) fun v => bnd (truB v) fun b => Ev.ret (Val.d (.bool (!b)))) truB = _
        rw [bnd_assoc, bnd_assoc]
        congr 1
        funext v
        rw [bnd_assoc]
        rfl
      rw [e]
      exact this
    · cases h
  · rename_i o a b
    split at h
    · rename_i ea op eb ex
      obtain ⟨p, rfl⟩ := vCmp_ok ex
      simp only [Bool.and_eq_true, decide_eq_true_eq] at h
      obtain ⟨⟨⟨rfl, h1⟩, h2⟩, h3⟩ := h
      obtain ⟨t, a1, b1⟩ := cmp_ok hE (W := W) (o := o) (p := p) h1 h2 h3
      exact ⟨tTest t, fun X g => (a1 X g).2, ST.val b1⟩
    · cases h
  · rename_i o q a b c
    split at h
    · rename_i ea op eb op' ec ex
      obtain ⟨p, rfl⟩ := vChn_ok ex
      simp only [Bool.and_eq_true, decide_eq_true_eq] at h
      obtain ⟨⟨⟨⟨⟨rfl, rfl⟩, h1⟩, h2⟩, h3⟩, h4⟩ := h
      obtain ⟨t, a1, b1⟩ := chn_ok hE (W := W) (o := o) (q := q) (p := p) h1 h2 h3 h4
      exact ⟨tTest t, fun X g => (a1 X g).2, ST.val b1⟩
    · cases h
  · obtain ⟨h1, h2⟩ := Bool.and_eq_true_iff.mp h
    obtain ⟨t, a, b⟩ := hE' W Θ e x h2
    exact ⟨tTest t, fun X g => pt_val (a X g) (fun whole => plain_true h1 _ whole), ST.val b⟩
end
section
variable (hCX : ∀ outer H s e s', CX outer H s (fun _ _ _ => False) e s' → False) (hG : ∀ p ∈ Pn.G, GlobOk K p.2 (Pn.gv p.1)) (hX : ErrT Pn K cA)
include hCX hG hX
theorem ck_ok : ∀ n : Nat, (∀ W Θ e x, ckE Pn n Θ e x = true → OkE CX Pn k K cA W Θ e (ev (Cf Pn k) n x)) ∧ (∀ W Θ e x, ckT Pn n Θ e x = true → OkT CX Pn k K cA W Θ e (fun ρ => bnd (ev (Cf Pn k) n x ρ) truB))
  | 0 => ⟨fun W Θ e x h => (by cases h), fun W Θ e x h => (by cases h)⟩
  | n + 1 => by
    obtain ⟨h1, h2⟩ := ck_ok n
    have e1 : ∀ W Θ e x, ckE Pn (n + 1) Θ e x = true → OkE CX Pn k K cA W Θ e (ev (Cf Pn k) (n + 1) x) := stepE_ok hCX hG hX h1 h2
    exact ⟨e1, stepT_ok h1 h2 e1⟩
end
end
end Ev
end
section
set_option Elab.async false
set_option linter.all false
set_option maxRecDepth 100000
namespace Ev
open PySem PySem.Spec L2
open PyProof.Rows hiding St IsTup
def swNames (sc : Scope) (ts : List Expr) : List Str := ts.filterMap fun
  | .Name id pos => if (sc.names.lookup id == some .local && pos.line == (ts.head?.map (·.pos.line)).getD 0) = true then some id else none
  | _ => none
def swC (sc : Scope) (ts vs : List Expr) : Nat :=
  if (!(ts.length == 2 || ts.length == 3) || vs.length != ts.length) = true then 0
  else if (vs.any fun | .Starred .. => true | _ => false) = true then 0
  else if ((swNames sc ts).length != ts.length || (swNames sc ts).eraseDups.length != (swNames sc ts).length) = true then 0
  else if vs.all (foldedForSure 8) = true then 0
  else if vs.all (constantsAlone 8) = true then 1 else 2
theorem sw_eq {sc : Scope} {env : PySem.Env} (he : env.scope = sc) (hk : sc.kind = .function) (ts vs : List Expr) (k1 k2 : Nat) (p1 p2 : Pos) :
    (swC sc ts vs = 0 → swappedStores [.Tuple ts k1 p1] (.Tuple vs k2 p2) env = pure none) ∧ (swC sc ts vs = 2 → swappedStores [.Tuple ts k1 p1] (.Tuple vs k2 p2) env = pure (some (swNames sc ts))) := by
  subst he
  have hb : env.blockKind = .function := by unfold Env.blockKind; rw [hk]; rfl
  have e : swappedStores [.Tuple ts k1 p1] (.Tuple vs k2 p2) env = (if (!(ts.length == 2 || ts.length == 3) || vs.length != ts.length) = true then pure none
    else if (vs.any fun | .Starred .. => true | _ => false) = true then pure none
    else if ((swNames env.scope ts).length != ts.length || (swNames env.scope ts).eraseDups.length != (swNames env.scope ts).length) = true then pure none
    else if vs.all (foldedForSure 8) = true then pure none
    else if vs.all (constantsAlone 8) = true then unsupported "assign.tuple-of-constant-expressions:order-of-the-stores" else pure (some (swNames env.scope ts))) := by
    unfold swappedStores
    simp only [hb]
    rw [show (ScopeKind.function != ScopeKind.function) = false from rfl, Bool.or_false]
    rfl
  rw [e]
  unfold swC
  constructor
  · intro h
    split at h
    · rename_i c; rw [if_pos c]
    · rename_i c; rw [if_neg c]
      split at h
      · rename_i c; rw [if_pos c]
      · rename_i c; rw [if_neg c]
        split at h
        · rename_i c; rw [if_pos c]
        · rename_i c; rw [if_neg c]
          split at h
          · rename_i c; rw [if_pos c]
          · split at h <;> cases h
  · intro h
    split at h
    · cases h
    · rename_i c; rw [if_neg c]
      split at h
      · cases h
      · rename_i c; rw [if_neg c]
        split at h
        · cases h
        · rename_i c; rw [if_neg c]
          split at h
          · cases h
          · rename_i c; rw [if_neg c]
            split at h
            · cases h
            · rename_i c; rw [if_neg c]

theorem sub_asg {o i : Expr} (h : plainI i = true) (pos : Pos) (env : PySem.Env) (v : Value) : assign (.Subscript o i pos) env v = (do
      let ov ← holding [v] (eval o env)
      let iv ← holding [v, ov] (eval i env)
      standAt pos
      holding [v, ov, iv] (setItem ov iv v)
      release [v, ov, iv] []) := by
  cases i <;> first | (cases h; done) | rfl
def vAsg : Stmt → Option (Expr × Expr)
  | .Assign [t] e _ => some (t, e)
  | _ => none
theorem vAsg_ok {s : Stmt} {x} (h : vAsg s = some x) : ∃ p, s = .Assign [x.1] x.2 p := by
  unfold vAsg at h
  split at h
  · cases h; exact ⟨_, rfl⟩
  · cases h
def vAug : Stmt → Option (Str × Operator × Expr)
  | .AugAssign (.Name x _) op e _ => some (x, op, e)
  | _ => none
theorem vAug_ok {s : Stmt} {x} (h : vAug s = some x) : ∃ p q, s = .AugAssign (.Name x.1 p) x.2.1 x.2.2 q := by
  unfold vAug at h
  split at h
  · cases h; exact ⟨_, _, rfl⟩
  · cases h
def vExp : Stmt → Option Expr
  | .Expr e _ => some e
  | _ => none
theorem vExp_ok {s : Stmt} {x} (h : vExp s = some x) : ∃ p, s = .Expr x p := by cases s <;> cases h; exact ⟨_, rfl⟩
def vRet : Stmt → Option (Option Expr)
  | .Return e _ => some e
  | _ => none
theorem vRet_ok {s : Stmt} {x} (h : vRet s = some x) : ∃ p, s = .Return x p := by cases s <;> cases h; exact ⟨_, rfl⟩
def vIfS : Stmt → Option (Expr × List Stmt × List Stmt)
  | .If c a b _ => some (c, a, b)
  | _ => none
theorem vIfS_ok {s : Stmt} {x} (h : vIfS s = some x) : ∃ p, s = .If x.1 x.2.1 x.2.2 p := by cases s <;> cases h; exact ⟨_, rfl⟩
def vFor : Stmt → Option (Expr × Expr × List Stmt)
  | .For t i b [] _ => some (t, i, b)
  | _ => none
theorem vFor_ok {s : Stmt} {x} (h : vFor s = some x) : ∃ p, s = .For x.1 x.2.1 x.2.2 [] p := by
  unfold vFor at h
  split at h
  · cases h; exact ⟨_, rfl⟩
  · cases h
def vWhl : Stmt → Option (Expr × List Stmt)
  | .While c b [] _ => some (c, b)
  | _ => none
theorem vWhl_ok {s : Stmt} {x} (h : vWhl s = some x) : ∃ p, s = .While x.1 x.2 [] p := by
  unfold vWhl at h
  split at h
  · cases h; exact ⟨_, rfl⟩
  · cases h
theorem RS.more {K : PySem.W.Frag} {g : Gh} {w : Wd} {S : List Cell} {H : Hp} {p : Addr} {o : HO} (R : RS K g w S H) (h : H p = none) : RS K g w S (upd H p o) := by
  refine ⟨R.len, fun b u e => by rw [upd_ne (ne_of_none e (R.Ifree h))]; exact R.le _ _ e, fun b u e => by rw [upd_ne (ne_of_none e (R.outfree h))]; exact R.out _ _ e, fun n c ec l => ?_, R.inj, R.fr, R.pI, R.pO, R.tab.new h⟩
  obtain ⟨u, a, b, i, d⟩ := R.cell n c ec l
  exact ⟨u, by rw [upd_ne (ne_of_none a h)]; exact a, b, i, d⟩
theorem SS.raise_ {F : Fx} {te : TE} {me : Ev.Env → M Val} (c f : Str) (he : SE F te me) : SS F (fun _ σ H => tMkE (F.cA c) f te σ H fun cls d H' => F.W cls d σ H') (fun ρ => bnd (me ρ) fun v => bnd (lift (dataV v)) fun d => fun S => .ex ⟨c, f, d⟩ S) := fun g w ρ S σ H D R E p =>
  he g w ρ S σ H _ R E (po_bind (P := fun w r => PF F g w D r) p (pf_ex σ) (fun p => p) fun v S1 w1 H1 x e1 R1 r1 p1 => by
    intro d hd
    cases r1 with
    | @d y _ r1 =>
      have p1 : PF F g w D (.ex ⟨c, f, y⟩ S1) := p1
      exact p1 w1 σ _ _ _ e1 (R1.more hd) ⟨rfl, d, x, rfl, upd_same, r1⟩
    | r _ => exact (show False from p1).elim
    | t _ _ => exact (show False from p1).elim
    | k _ => exact (show False from p1).elim)
/-- how it is stored: as any value -/
def asgOk (Θ : CT) (t e : Expr) : Bool := match vTup t, vTup e with
  | some ts, some vs => decide (swC Θ.sc ts vs = 0) && decide (Θ.sc.kind = .function)
  | some _, none => true
  | none, _ => (vName t).isSome && (notComp e || (vLc e).isSome)
def ckS (Pn : PInf) : Nat → CT → Stmt → T → Bool
  | 0, _, _, _ => false
  | n + 1, Θ, s, t => match t with
    | .asg tg x => (match vAsg s with
      | some (te, e) => ckG 9 Θ te tg && ckE Pn n Θ e x && noStar te && asgOk Θ te e
      | none => false)
    | .par is es => (match vAsg s with
      | some (te, e) => (match vTup te, vTup e with
        | some ts, some vs => decide (Θ.sc.kind = .function) && decide (swC Θ.sc ts vs = 2) && vs.all noStar && all2 (ckE Pn n Θ) vs es && decide (is.Nodup) &&
            all2 (fun e i => match vName e with
              | some x => decide (Θ.N[i]? = some x) && decide (Θ.sc.names.lookup x = some .local)
              | none => false) ts is && decide (swNames Θ.sc ts = ts.filterMap vName)
        | _, _ => false)
      | none => false)
    | .sub o i x => (match vAsg s with
      | some (te, e) => (match vSub te with
        | some (eo, ei) => plainI ei && ckE Pn n Θ e x && ckE Pn n Θ eo o && ckE Pn n Θ ei i
        | none => false)
      | none => false)
    | .aug i o x => (match vAug s with
      | some (y, op, e) => decide (opA o = some op) && decide (Θ.N[i]? = some y) && locB Θ.sc y && (Θ.fnb y || decide (Θ.sc.names.lookup y = some .local)) && ckE Pn n Θ e x
      | none => false)
    | .ex x => (match vExp s with
      | some e => notComp e && ckE Pn n Θ e x
      | none => false)
    | .rtn none => (match vRet s with
      | some none => true
      | _ => false)
    | .rtn (some x) => (match vRet s with
      | some (some e) => ckE Pn n Θ e x
      | _ => false)
    | .if_ t a b => (match vIfS s with
      | some (et, ea, eb) => ckT Pn n Θ et t && all2 (ckS Pn n Θ) ea a && all2 (ckS Pn n Θ) eb b
      | none => false)
    | .for_ tg it b => (match vFor s with
      | some (et, ei, eb) => ckG 9 Θ et tg && ckI Pn (ckE Pn n) Θ et ei it && notSet ei && all2 (ckS Pn n Θ) eb b
      | none => false)
    | .while_ t b => (match vWhl s with
      | some (et, eb) => ckT Pn n Θ et t && all2 (ckS Pn n Θ) eb b
      | none => false)
    | .brk => (match s with
      | .Break _ => true
      | _ => false)
    | .cnt => (match s with
      | .Continue _ => true
      | _ => false)
    | .pass => (match s with
      | .Pass _ => true
      | _ => false)
    | .raise_ c f x => (match s with
      | .Raise (some (.Call (.Name c' _) [e] [] _)) none _ => decide (c' = c) && glB Θ.sc c && okN c && decide ((c, f) ∈ Pn.errs) && noStar e && ckE Pn n Θ e x
      | _ => false)
section
variable {CX : CXT} {Pn : PInf} {k : Nat} {K : PySem.W.Frag} {cA : Str → Addr}
def OkS (CX : CXT) (Pn : PInf) (k : Nat) (K : PySem.W.Frag) (cA : Str → Addr) (W : WX) (Θ : CT) (s : Stmt) (m : Ev.Env → M Fl) : Prop := ∃ t, (∀ X, Gd CX Pn k ⟨K, cA, W⟩ Θ X → PassesOwn (model X.prog X.w) X.A X.env X.xe → PS X s t) ∧ SS ⟨K, cA, W⟩ t m
def OkB (CX : CXT) (Pn : PInf) (k : Nat) (K : PySem.W.Frag) (cA : Str → Addr) (W : WX) (Θ : CT) (s : List Stmt) (m : Ev.Env → M Fl) : Prop := ∃ t, (∀ X, Gd CX Pn k ⟨K, cA, W⟩ Θ X → PassesOwn (model X.prog X.w) X.A X.env X.xe → PSs X s t) ∧ SS ⟨K, cA, W⟩ t m
theorem body_ok {n : Nat} {cS : CT → Stmt → T → Bool} {W : WX} {Θ : CT} (hS : ∀ s t, cS Θ s t = true → OkS CX Pn k K cA W Θ s (ex (Cf Pn k) n t)) : ∀ {ss : List Stmt} {ts : List T}, all2 (cS Θ) ss ts = true → OkB CX Pn k K cA W Θ ss (seqL (fun s ρ => ex (Cf Pn k) n s ρ) ts)
  | [], [], _ => ⟨tNext, fun X g p => pss_nil, SS.next⟩
  | s :: ss, t :: ts, h => by
    have h := Bool.and_eq_true_iff.mp (show (cS Θ s t && all2 (cS Θ) ss ts) = true from h)
    obtain ⟨t1, a1, b1⟩ := hS s t h.1
    obtain ⟨t2, a2, b2⟩ := body_ok hS h.2
    exact ⟨tSeq t1 t2, fun X g p => pss_cons (a1 X g p) (a2 X g p), SS.seq b1 b2⟩
  | [], _ :: _, h => by cases h
  | _ :: _, [], h => by cases h
theorem ip_aug {X : Cx} : ∀ {o : BOp} {op : Operator}, opA o = some op → PIp X op (rAug o) := fun {o op} h => by
  cases o <;> first | (cases h; done) | skip
  · obtain rfl : _ = op := Option.some.inj h
    exact (iop_add (X := X)).or iop_add_str
  · obtain rfl : _ = op := Option.some.inj h
    exact iop_sub (X := X)
section
variable (hCX : ∀ outer H s e s', CX outer H s (fun _ _ _ => False) e s' → False) (hG : ∀ p ∈ Pn.G, GlobOk K p.2 (Pn.gv p.1)) (hX : ErrT Pn K cA)
variable {W : WX} {Θ : CT}
include hCX hG hX
/-- name = [.. for ..] on one line -/
theorem lc_ok {n : Nat} {y : Str} {py : Pos} {el etg eit : Expr} {ifs : List Expr} {sc : Scope} {pos spos : Pos} {i : Nat} {x : X} (hx : ckE Pn n Θ (.ListComp el [⟨etg, eit, ifs, 0⟩] sc pos) x = true) (hi : Θ.N[i]? = some y) (hl : locB Θ.sc y = true) (hf : (Θ.fnb y || decide (Θ.sc.names.lookup y = some .local)) = true) :
    OkS CX Pn k K cA W Θ (.Assign [.Name y py] (.ListComp el [⟨etg, eit, ifs, 0⟩] sc pos) spos) (fun ρ => bnd (ev (Cf Pn k) n x ρ) fun v => bnd (asgT (.var i) v ρ) fun ρ' => Ev.ret (.nx ρ')) := by
  cases n with
  | zero => cases hx
  | succ m =>
    obtain ⟨hE, hT⟩ := ck_ok (k := k) (cA := cA) hCX hG hX m
    obtain ⟨hE', _⟩ := ck_ok (k := k) (cA := cA) hCX hG hX (m + 1)
    obtain ⟨t0, a0, b0⟩ := hE' W Θ _ _ hx
    cases x with
    | comp mu xel tg it ts own =>
      have hx' : stepE Pn (ckE Pn m) (ckT Pn m) Θ (.ListComp el [⟨etg, eit, ifs, 0⟩] sc pos) (.comp mu xel tg it ts own) = true := hx
      unfold stepE at hx'
      dsimp only [vLc] at hx'
      simp only [Bool.and_eq_true] at hx'
      obtain ⟨⟨⟨⟨⟨⟨h1, h2⟩, h3⟩, h4⟩, h5⟩, h6⟩, h7⟩ := hx'
      obtain ⟨ti, ai, bi⟩ := ckI_ok hE (W := W) h4
      obtain ⟨tg', ag, bg⟩ := ckG_ok (CX := CX) (Pn := Pn) (k := k) (K := K) (cA := cA) (W := fun _ _ _ _ => False) 9 h2
      obtain ⟨te, ae, be⟩ := hE (fun _ _ _ _ => False) (Θ.inner sc) el xel h7
      have htt : ∃ tt, (∀ X, Gd CX Pn k ⟨K, cA, fun _ _ _ _ => False⟩ (Θ.inner sc) X → PTs X ifs tt) ∧ ST ⟨K, cA, fun _ _ _ _ => False⟩ tt (fun ρ => testsE (fun e => ev (Cf Pn k) m e ρ) ts) := by
        split at h6
        · exact ⟨tYes, fun X g => pts_nil, fun g w ρ S σ H Q R E h => h w H (.refl _) R⟩
        · rename_i ec c
          obtain ⟨tt, at_, bt⟩ := hT (fun _ _ _ _ => False) (Θ.inner sc) ec c h6
          refine ⟨tt, fun X g => pts_one (at_ X g), ?_⟩
          have e : (fun ρ => testsE (fun e => ev (Cf Pn k) m e ρ) [c]) = fun ρ => bnd (ev (Cf Pn k) m c ρ) truB := by
            funext ρ
            show (bnd (ev (Cf Pn k) m c ρ) fun v => bnd (truB v) fun b => if b = true then Ev.ret true else Ev.ret false) = _
            congr 1
            funext v
            have : (fun b => if b = true then Ev.ret true else Ev.ret false) = (Ev.ret : Bool → M Bool) := by
              funext b
              cases b <;> rfl
            rw [this, bnd_right]
          rw [e]
          exact bt
        · cases h6
      obtain ⟨tt, at_, bt⟩ := htt
      have eo : (own.map fun (i : Nat) => (((Θ.N[i]?).getD "" : Str), i)).map (·.2) = own := by
        rw [List.map_map]
        exact List.map_id _
      have hse : SE ⟨K, cA, W⟩ (tLc ti tg' tt te own) (ev (Cf Pn k) (m + 1) (.comp mu xel tg it ts own)) := SE.comp (F := ⟨K, cA, W⟩) mu bi bg (fun i hi => by
        have := List.all_eq_true.mp h3 i hi
        simpa using this) bt be
      refine ⟨tAsg (tLc ti tg' tt te own) (gName i), fun X g _ => ?_, SS.asg hse (SG.name i)⟩
      have hlc : PE X (.ListComp el [⟨etg, eit, ifs, 0⟩] sc pos) (tLc ti tg' tt te own) := by
        have := pe_lc (X := X) (pos := pos) (own := own.map fun (i : Nat) => (((Θ.N[i]?).getD "" : Str), i)) g.calm g.nd (ai X g) (blkOk_by (by rw [g.nN, g.sc]; exact h1)) (fun s H C cl fp => ag _ (g.blk hCX s H sc C cl fp)) (fun s H C cl fp => at_ _ (g.blk hCX s H sc C cl fp)) (fun s H C cl fp => ae _ (g.blk hCX s H sc C cl fp)) (fun x => not_folded h5 _ x)
        rw [eo] at this
        exact this
      have hpg : PG X (.Name y py) (gName i) := pg_name g.nd (by rw [g.nN]; exact hi) (by rw [g.sc]; exact locB_ok hl) (by
        rcases Bool.or_eq_true_iff.mp hf with q | q
        · exact .inl (by rw [g.fn]; exact q)
        · exact .inr (by rw [g.sc]; exact of_decide_eq_true q))
      have hsw : ∃ b, swapsWith (.ListComp el [⟨etg, eit, ifs, 0⟩] sc pos) (some (.Name y py)) spos.line X.env = pure b ∧ (b = true → X.env.scope.names.lookup y = some .local) := by
        refine ⟨_, rfl, fun z => ?_⟩
        simp only [Bool.and_eq_true, beq_iff_eq] at z
        exact z.1.1.2
      obtain ⟨b, hb, hb2⟩ := hsw
      cases b with
      | false => exact ps_asg hlc hpg hb (no_stores rfl _) rfl
      | true =>
        have := ps_setLc (X := X) (pos := pos) (spos := spos) (i := i) (py := py) (own := own.map fun (i : Nat) => (((Θ.N[i]?).getD "" : Str), i)) g.calm g.nd (by rw [g.nN]; exact hi) (hb2 rfl) hb (ai X g) (blkOk_by (by rw [g.nN, g.sc]; exact h1)) (fun s H C cl fp => ag _ (g.blk hCX s H sc C cl fp)) (fun s H C cl fp => at_ _ (g.blk hCX s H sc C cl fp)) (fun s H C cl fp => ae _ (g.blk hCX s H sc C cl fp)) (fun x => not_folded h5 _ x)
        rw [eo] at this
        exact this
    | tried _ _ _ _ _ _ _ _ _ =>
      have hx : (Θ.fn && false) = true := hx
      rw [Bool.and_false] at hx
      cases hx
    | _ => exact Bool.noConfusion (show false = true from hx)
theorem ckS_ok : ∀ (n : Nat) (s : Stmt) (t : T), ckS Pn n Θ s t = true → OkS CX Pn k K cA W Θ s (ex (Cf Pn k) n t)
  | 0, _, _, h => by cases h
  | n + 1, s, t, h => by
    obtain ⟨hE, hT⟩ := ck_ok (k := k) (cA := cA) hCX hG hX n
    have hB : ∀ {ss : List Stmt} {ts : List T}, all2 (ckS Pn n Θ) ss ts = true → OkB CX Pn k K cA W Θ ss (seqL (fun s ρ => ex (Cf Pn k) n s ρ) ts) := fun h => body_ok (fun s t => ckS_ok n s t) h
    unfold ckS at h
    cases t with
    | asg tg x =>
      dsimp only at h
      split at h
      · rename_i te e es
        obtain ⟨p, rfl⟩ := vAsg_ok es
        simp only [Bool.and_eq_true] at h
        obtain ⟨⟨⟨h1, h2⟩, h3⟩, h4⟩ := h
        obtain ⟨gt, ag, bg⟩ := ckG_ok (CX := CX) (Pn := Pn) (k := k) (K := K) (cA := cA) (W := W) 9 h1
        obtain ⟨t1, a1, b1⟩ := hE W Θ e x h2
        have gen : (∀ X, Gd CX Pn k ⟨K, cA, W⟩ Θ X → swapsWithSole [te] e p.line X.env = pure false ∧ swappedStores [te] e X.env = pure none) → OkS CX Pn k K cA W Θ (.Assign [te] e p) (ex (Cf Pn k) (n + 1) (.asg tg x)) := fun hs =>
          ⟨tAsg t1 gt, fun X g _ => ps_asg (a1 X g) (ag X g) (hs X g).1 (hs X g).2 (asg_one h3 _), SS.asg b1 bg⟩
        unfold asgOk at h4
        split at h4
        · rename_i ts vs e1 e2
          obtain ⟨k1, p1, rfl⟩ := vTup_ok e1
          obtain ⟨k2, p2, rfl⟩ := vTup_ok e2
          simp only [Bool.and_eq_true, decide_eq_true_eq] at h4
          exact gen fun X g => ⟨no_swapT rfl _ _, (sw_eq g.sc h4.2 ts vs k1 k2 p1 p2).1 h4.1⟩
        · rename_i ts e1 e2
          obtain ⟨k1, p1, rfl⟩ := vTup_ok e1
          exact gen fun X g => ⟨no_swapT rfl _ _, no_stores' (by cases e <;> first | rfl | cases e2) _⟩
        · rename_i e1
          simp only [Bool.and_eq_true, Bool.or_eq_true] at h4
          obtain ⟨y, ey⟩ := Option.isSome_iff_exists.mp h4.1
          obtain ⟨py, rfl⟩ := vName_ok ey
          cases tg with
          | tup ts => cases h1
          | var i =>
            have h1' : (decide (Θ.N[i]? = some y) && locB Θ.sc y && (Θ.fnb y || decide (Θ.sc.names.lookup y = some .local))) = true := h1
            simp only [Bool.and_eq_true, decide_eq_true_eq] at h1'
            rcases h4.2 with hc | hc
            · exact gen fun X g => ⟨no_swapS hc _ _ _, no_stores rfl _⟩
            · obtain ⟨q, eq⟩ := Option.isSome_iff_exists.mp hc
              obtain ⟨p', rfl⟩ := vLc_ok eq
              exact lc_ok hCX hG hX h2 h1'.1.1 h1'.1.2 h1'.2
      · cases h
    | par is es =>
      dsimp only at h
      split at h
      · rename_i te e e0
        obtain ⟨p, rfl⟩ := vAsg_ok e0
        split at h
        · rename_i ts vs e1 e2
          obtain ⟨k1, p1, rfl⟩ := vTup_ok e1
          obtain ⟨k2, p2, rfl⟩ := vTup_ok e2
          simp only [Bool.and_eq_true, decide_eq_true_eq] at h
          obtain ⟨⟨⟨⟨⟨⟨h1, h2⟩, h3⟩, h4⟩, h5⟩, h6⟩, h7⟩ := h
          obtain ⟨ta, a1, b1⟩ := ckA_ok hE (W := W) h3 h4
          have hlen : (ts.length = 2 ∨ ts.length = 3) ∧ vs.length = ts.length := by
            unfold swC at h2
            split at h2
            · cases h2
            · rename_i c
              have c' : (¬ts.length = 2 → ts.length = 3) ∧ vs.length = ts.length := by simpa using c
              exact ⟨by omega, c'.2⟩
          have l1 := all2_len h6
          have nm : ∀ {e : Expr} {i : Nat}, (match vName e with
              | some x => decide (Θ.N[i]? = some x) && decide (Θ.sc.names.lookup x = some .local)
              | none => false) = true → ∃ x px, e = .Name x px ∧ Θ.N[i]? = some x ∧ Θ.sc.names.lookup x = some .local := fun {e i} q => by
            split at q
            · rename_i x ex
              obtain ⟨px, rfl⟩ := vName_ok ex
              simp only [Bool.and_eq_true, decide_eq_true_eq] at q
              exact ⟨x, px, rfl, q.1, q.2⟩
            · cases q
          have hsw := fun (X : Cx) (g : Gd CX Pn k ⟨K, cA, W⟩ Θ X) => (sw_eq g.sc h1 ts vs k1 k2 p1 p2).2 h2
          rw [h7] at hsw
          match ts, is, vs, hlen, l1, h6, hsw, a1, h5 with
          | [t1, t2], [i, j], [va, vb], _, _, h6, hsw, a1, h5 =>
            have h6' := Bool.and_eq_true_iff.mp (show (_ && (_ && true)) = true from h6)
            have h6'' := Bool.and_eq_true_iff.mp h6'.2
            obtain ⟨x, px, rfl, x1, x2⟩ := nm h6'.1
            obtain ⟨y, py, rfl, y1, y2⟩ := nm h6''.1
            have hij : i ≠ j := by simpa using h5
            exact ⟨tPar i j ta, fun X g _ => ps_par g.calm g.nd (by rw [g.nN]; exact x1) (by rw [g.nN]; exact y1) hij (by rw [g.sc]; exact x2) (by rw [g.sc]; exact y2) (a1 X g) (hsw X g) (no_swapT rfl _ _), SS.par b1⟩
          | [t1, t2, t3], [i, j, l], [va, vb, vc], _, _, h6, hsw, a1, h5 =>
            have h6' := Bool.and_eq_true_iff.mp (show (_ && (_ && (_ && true))) = true from h6)
            have h6'' := Bool.and_eq_true_iff.mp h6'.2
            have h63 := Bool.and_eq_true_iff.mp h6''.2
            obtain ⟨x, px, rfl, x1, x2⟩ := nm h6'.1
            obtain ⟨y, py, rfl, y1, y2⟩ := nm h6''.1
            obtain ⟨z, pz, rfl, z1, z2⟩ := nm h63.1
            have h5' : (i ≠ j ∧ i ≠ l) ∧ j ≠ l := by simpa using h5
            exact ⟨tPar3 i j l ta, fun X g _ => ps_par3 g.calm g.nd (by rw [g.nN]; exact x1) (by rw [g.nN]; exact y1) (by rw [g.nN]; exact z1) h5'.1.1 h5'.1.2 h5'.2 (by rw [g.sc]; exact x2) (by rw [g.sc]; exact y2) (by rw [g.sc]; exact z2) (a1 X g) (hsw X g) (no_swapT rfl _ _), SS.par3 b1⟩
          | [], _, _, h, _, _, _, _, _ => simp at h
          | [_], _, _, h, _, _, _, _, _ => simp at h
          | _ :: _ :: _ :: _ :: _, _, _, h, _, _, _, _, _ => simp at h
          | [_, _], [], _, _, h, _, _, _, _ => simp at h
          | [_, _], [_], _, _, h, _, _, _, _ => simp at h
          | [_, _], _ :: _ :: _ :: _, _, _, h, _, _, _, _ => simp at h
          | [_, _], [_, _], [], h, _, _, _, _, _ => simp at h
          | [_, _], [_, _], [_], h, _, _, _, _, _ => simp at h
          | [_, _], [_, _], _ :: _ :: _ :: _, h, _, _, _, _, _ => simp at h
          | [_, _, _], [], _, _, h, _, _, _, _ => simp at h
          | [_, _, _], [_], _, _, h, _, _, _, _ => simp at h
          | [_, _, _], [_, _], _, _, h, _, _, _, _ => simp at h
          | [_, _, _], _ :: _ :: _ :: _ :: _, _, _, h, _, _, _, _ => simp at h
          | [_, _, _], [_, _, _], [], h, _, _, _, _, _ => simp at h
          | [_, _, _], [_, _, _], [_], h, _, _, _, _, _ => simp at h
          | [_, _, _], [_, _, _], [_, _], h, _, _, _, _, _ => simp at h
          | [_, _, _], [_, _, _], _ :: _ :: _ :: _ :: _, h, _, _, _, _, _ => simp at h
        · cases h
      · cases h
    | sub o i x =>
      dsimp only at h
      split at h
      · rename_i te e e0
        obtain ⟨p, rfl⟩ := vAsg_ok e0
        split at h
        · rename_i eo ei e1
          obtain ⟨p1, rfl⟩ := vSub_ok e1
          simp only [Bool.and_eq_true] at h
          obtain ⟨⟨⟨h1, h2⟩, h3⟩, h4⟩ := h
          obtain ⟨t1, a1, b1⟩ := hE W Θ e x h2
          obtain ⟨t2, a2, b2⟩ := hE W Θ eo o h3
          obtain ⟨t3, a3, b3⟩ := hE W Θ ei i h4
          refine ⟨tAsg t1 (gSub t2 t3 rPut), fun X g _ => ?_, SS.sub b1 b2 b3⟩
          have hu : X.A.units + 1 < cLine := by have := g.units; omega
          exact ps_asg (a1 X g) (pg_sub (a2 X g) (a3 X g) (set_put hu) (fun v => sub_asg h1 _ _ v)) (no_swapT rfl _ _) (no_stores rfl _) rfl
        · cases h
      · cases h
    | aug i o x =>
      dsimp only at h
      split at h
      · rename_i y op e e0
        obtain ⟨p, q, rfl⟩ := vAug_ok e0
        simp only [Bool.and_eq_true, Bool.or_eq_true, decide_eq_true_eq] at h
        obtain ⟨⟨⟨⟨h1, h2⟩, h3⟩, h4⟩, h5⟩ := h
        obtain ⟨t1, a1, b1⟩ := hE W Θ e x h5
        refine ⟨tAug i t1 (rAug o), fun X g _ => ps_aug g.nd (by rw [g.nN]; exact h2) (by rw [g.sc]; exact locB_ok h3) (a1 X g) (ip_aug h1) ?_, SS.aug o b1⟩
        rcases h4 with q | q
        · exact .inl (by rw [g.fn]; exact q)
        · exact .inr (by rw [g.sc]; exact q)
      · cases h
    | ex x =>
      dsimp only at h
      split at h
      · rename_i e e0
        obtain ⟨p, rfl⟩ := vExp_ok e0
        obtain ⟨h1, h2⟩ := Bool.and_eq_true_iff.mp h
        obtain ⟨t1, a1, b1⟩ := hE W Θ e x h2
        exact ⟨tDrop t1, fun X g _ => ps_expr (a1 X g) (no_swap h1 _ _ _), SS.drop b1⟩
      · cases h
    | rtn e =>
      cases e with
      | none =>
        dsimp only at h
        split at h
        · rename_i e0
          obtain ⟨p, rfl⟩ := vRet_ok e0
          exact ⟨tRetN, fun X g _ => ps_retN, SS.retN⟩
        · cases h
      | some x =>
        dsimp only at h
        split at h
        · rename_i e e0
          obtain ⟨p, rfl⟩ := vRet_ok e0
          obtain ⟨t1, a1, b1⟩ := hE W Θ e x h
          exact ⟨tRet t1, fun X g _ => ps_ret (a1 X g), SS.ret b1⟩
        · cases h
    | if_ t a b =>
      dsimp only at h
      split at h
      · rename_i et ea eb e0
        obtain ⟨p, rfl⟩ := vIfS_ok e0
        simp only [Bool.and_eq_true] at h
        obtain ⟨⟨h1, h2⟩, h3⟩ := h
        obtain ⟨t1, a1, b1⟩ := hT W Θ et t h1
        obtain ⟨t2, a2, b2⟩ := hB h2
        obtain ⟨t3, a3, b3⟩ := hB h3
        refine ⟨tIfS t1 t2 t3, fun X g p => ps_if (a1 X g) (a2 X g p) (a3 X g p), ?_⟩
        have e : ex (Cf Pn k) (n + 1) (.if_ t a b) = fun ρ => bnd (bnd (ev (Cf Pn k) n t ρ) truB) fun c => if c = true then seqL (fun s ρ => ex (Cf Pn k) n s ρ) a ρ else seqL (fun s ρ => ex (Cf Pn k) n s ρ) b ρ := by
          funext ρ
          rw [bnd_assoc]; rfl
        rw [e]
        exact SS.if_ b1 b2 b3
      · cases h
    | for_ tg it b =>
      dsimp only at h
      split at h
      · rename_i et ei eb e0
        obtain ⟨p, rfl⟩ := vFor_ok e0
        simp only [Bool.and_eq_true] at h
        obtain ⟨⟨⟨h1, h2⟩, h3⟩, h4⟩ := h
        obtain ⟨gt, ag, bg⟩ := ckG_ok (CX := CX) (Pn := Pn) (k := k) (K := K) (cA := cA) (W := W) 9 h1
        obtain ⟨ti, ai, bi⟩ := ckI_ok hE (W := W) h2
        obtain ⟨t2, a2, b2⟩ := hB h4
        exact ⟨tFor ti gt t2, fun X g p => ps_for p g.calm (ai X g) (ag X g) (a2 X g p) (fun x => not_folded h3 _ x), SS.for_ bi bg (fun v ρ S e' S' => asgT_noex _ tg (Nat.lt_succ_self _) v ρ S e' S') b2⟩
      · cases h
    | while_ t b =>
      dsimp only at h
      split at h
      · rename_i et eb e0
        obtain ⟨p, rfl⟩ := vWhl_ok e0
        obtain ⟨h1, h2⟩ := Bool.and_eq_true_iff.mp h
        obtain ⟨t1, a1, b1⟩ := hT W Θ et t h1
        obtain ⟨t2, a2, b2⟩ := hB h2
        exact ⟨tWhile t1 t2, fun X g p => ps_while p (a1 X g) (a2 X g p), SS.while_ whileFuel b1 b2⟩
      · cases h
    | brk =>
      dsimp only at h
      split at h
      · exact ⟨tBreak, fun X g _ => ps_break, SS.brk⟩
      · cases h
    | cnt =>
      dsimp only at h
      split at h
      · exact ⟨tCont, fun X g _ => ps_continue, SS.cnt⟩
      · cases h
    | pass =>
      dsimp only at h
      split at h
      · exact ⟨tNext, fun X g _ => ps_pass, SS.next⟩
      · cases h
    | raise_ c f x =>
      dsimp only at h
      split at h
      · rename_i c' p e q r
        simp only [Bool.and_eq_true, decide_eq_true_eq] at h
        obtain ⟨⟨⟨⟨⟨rfl, h2⟩, h3⟩, h4⟩, h5⟩, h6⟩ := h
        obtain ⟨o1, o2, o3⟩ := okN_ok h3
        obtain ⟨t1, a1, b1⟩ := hE W Θ e x h6
        refine ⟨fun _ σ H => tMkE (cA c') f t1 σ H fun cls d H' => W cls d σ H', fun X g _ => ?_, SS.raise_ c' f b1⟩
        have m := g.errs _ h4
        obtain ⟨fI, fd, pr, i1, i2, i3, i4⟩ := m.ex
        have eC := g.cx
        subst eC
        exact ps_raise g.calm g.tk (pmk_err (CX := L2.CX X.prog X.w) m.k.T m.k.no i1 i2 i3 (g.room.mono (by omega)) i4 (fun _ _ _ _ _ _ _ z => by
          obtain ⟨_, _, _, _, _, _, _, _, _, _, _, _, z⟩ := z
          exact z.elim) (glB_ok g.sc h2) m.at_ (a1 X g) o1 (star_cons h5 _ _) (star_none _ _ rfl))
      · cases h
end
end
end Ev
end
section
set_option Elab.async false
set_option linter.all false
set_option maxRecDepth 100000
set_option maxHeartbeats 4000000
namespace Ev
open PySem PySem.Spec L2 LamX
open PyProof.Rows hiding St IsTup
abbrev emptyTab : Obj := { cls := .none, data := .fields #[] }
/-- the heap in which the script (if it is not the written part's own) and the tables are tracked -/
noncomputable def lawHp (a : Addr) (os : Option HO) (Ts : List Addr) : Hp := fun b => if b = a ∧ os.isSome = true then os else if b ∈ Ts then some (.tbl #[]) else none
theorem law_callGT {P : Program} {w : World} {K : PySem.W.Frag} {mg mb : Str → Option Value} {CX : CXT} {k : Nat} {fa a : Addr} {cs : List (Addr × Addr)} {fd : FuncData} {x : Str} {sp : Sp} {s1 : Shared} {vs : List Value} {ns : List Int}
    (KX : K.In s1.heap) (hG : s1.heap.Ns mainGlobals mg) (hB : s1.heap.Ns builtinsNs mb) (hBB : ∀ y : Str, y ≠ "__name__" → mb y = bootBuiltins y) (hL : s1.heap.NoLimit) (hg : s1.gens = #[])
    (hT : ∀ p ∈ cs, s1.heap.get? p.2 = some emptyTab) (nT : ∀ p ∈ cs, K.lookup p.2 = none) (hC : ∀ p ∈ cs, PySem.W.CodeHd s1.heap p.1 p.2)
    (hM : ∃ (bm : Addr) (ob : Obj), mg "__builtins__" = some (.ref bm) ∧ bm ≠ builtinsNs ∧ s1.heap.get? bm = some ob ∧ ob.cls = .type "module" ∧ ob.dict = some builtinsNs ∧ ob.data = .plain)
    (ha : s1.heap.get? a = some { cls := .type "list", data := .seq vs.toArray }) (hi : IntsAre vs ns) (hl : ns.length ≤ sizeLine) (hr : Room k callerA)
    (F : ∀ base : Heap, K.In base → base.Ns mainGlobals mg → (∀ p ∈ cs, TabB base mg p.1 p.2) → FnG P w K mg base CX k fa fd [x] sp) (hbind : ∀ (s : Shared) (u : Value), BindsTo s fd ⟨[u], []⟩ [(x, u)])
    (hsp : ∀ H : Hp, (∀ p ∈ cs, H p.2 = some (.tbl #[])) → (∀ b o, H b = some o → pl o = true → (∃ ob xs, o = .frz ob xs)) → SqL K H a (ns.map V.int) → sp [.ref a] H (fun v _ => v = .bl true) fun _ _ _ => False)
    (hX : ∀ H e s', CX [] H s1 (fun _ _ _ => False) e s' → False) :
    codeAny (model P w) callerA (.call (.ref fa) ⟨[.ref a], []⟩) (fun r s' => r = .ok (.ret (.bool true)) ∧ OldK s1.heap s'.heap ∧ s'.os = s1.os ∧ AllBare s'.gens) s1 := by
  have rv := vals_ints hi
  obtain ⟨Ts, hTs⟩ : ∃ Ts, Ts = cs.map (·.2) := ⟨_, rfl⟩
  have inT : ∀ p ∈ cs, p.2 ∈ Ts := fun p hp => by rw [hTs]; exact List.mem_map.mpr ⟨p, hp, rfl⟩
  have ofT : ∀ b ∈ Ts, ∃ p ∈ cs, p.2 = b := fun b hb => by rw [hTs] at hb; exact List.mem_map.mp hb
  have atT : ∀ b ∈ Ts, s1.heap.get? b = some emptyTab := fun b hb => by
    obtain ⟨p, hp, rfl⟩ := ofT b hb
    exact hT p hp
  have aT : a ∉ Ts := fun z => by
    have q := (atT a z).symm.trans ha
    cases q
  -- what is tracked: the script as os tells, the tables
  have main : ∀ os : Option HO, (os = none ∧ K.lookup a ≠ none ∨ os = some (.frz { cls := .type "list", data := .seq vs.toArray } (.lst (ns.map V.int))) ∧ K.lookup a = none) → SqL K (lawHp a os Ts) a (ns.map V.int) →
      codeAny (model P w) callerA (.call (.ref fa) ⟨[.ref a], []⟩) (fun r s' => r = .ok (.ret (.bool true)) ∧ OldK s1.heap s'.heap ∧ s'.os = s1.os ∧ AllBare s'.gens) s1 := by
    intro os hos hS
    obtain ⟨H, eH⟩ : ∃ H, H = lawHp a os Ts := ⟨_, rfl⟩
    have Htab : ∀ b ∈ Ts, H b = some (.tbl #[]) := fun b hb => by
      rw [eH]
      show (if b = a ∧ os.isSome = true then os else if b ∈ Ts then some (.tbl #[]) else none) = _
      rw [if_neg (fun (z : b = a ∧ os.isSome = true) => aT (z.1 ▸ hb)), if_pos hb]
    have Hinv : ∀ b o, H b = some o → (b = a ∧ os = some o) ∨ (b ∈ Ts ∧ o = .tbl #[]) := fun b o e => by
      rw [eH] at e
      have e : (if b = a ∧ os.isSome = true then os else if b ∈ Ts then some (.tbl #[]) else none) = some o := e
      by_cases h1 : b = a ∧ os.isSome = true
      · rw [if_pos h1] at e; exact .inl ⟨h1.1, e⟩
      · rw [if_neg h1] at e
        by_cases h2 : b ∈ Ts
        · rw [if_pos h2] at e; cases e; exact .inr ⟨h2, rfl⟩
        · rw [if_neg h2] at e; cases e
    have Hfrz : ∀ b o, H b = some o → pl o = true → (∃ ob xs, o = .frz ob xs) := fun b o e p => by
      rcases Hinv b o e with ⟨_, e⟩ | ⟨_, rfl⟩
      · rcases hos with ⟨z, _⟩ | ⟨z, _⟩
        · rw [z] at e; cases e
        · rw [z] at e; cases e; exact ⟨_, _, rfl⟩
      · cases p
    -- an object that is neither a list nor an empty record is not tracked
    have free : ∀ {b : Addr} {o : Obj}, s1.heap.get? b = some o → (∀ us n, o.data ≠ .seq us n) → o.data ≠ .fields #[] → H b = none := fun {b o} e h1 h2 => by
      cases q : H b with
      | none => rfl
      | some u =>
        rcases Hinv b u q with ⟨rfl, _⟩ | ⟨hb, _⟩
        · rw [ha] at e; cases e; exact (h1 _ _ rfl).elim
        · rw [atT b hb] at e; cases e; exact (h2 rfl).elim
    have stays : ∀ {b : Addr} {o : Obj}, s1.heap.get? b = some o → H b = none → (hidT s1.heap H).get? b = some o := fun e n => hidT_get e n
    have nsH : ∀ {b : Addr} {m : Str → Option Value}, s1.heap.Ns b m → (hidT s1.heap H).Ns b m := fun {b m} ⟨o, es, ep, e, d, r⟩ =>
      ⟨o, es, ep, stays e (free e (fun us n z => by rw [d] at z; cases z) fun z => by rw [d] at z; cases z), d, r⟩
    have KH : K.In (hidT s1.heap H) := fun b o e => stays (KX b o e) (by
      cases q : H b with
      | none => rfl
      | some u =>
        rcases Hinv b u q with ⟨rfl, z⟩ | ⟨hb, _⟩
        · rcases hos with ⟨z2, _⟩ | ⟨_, z2⟩
          · rw [z2] at z; cases z
          · rw [z2] at e; cases e
        · obtain ⟨p, hp, rfl⟩ := ofT b hb
          rw [nT p hp] at e; cases e)
    have MH : L2.Mod K mg (hidT s1.heap H) := ⟨KH, nsH hG, ⟨mb, nsH hB, hBB⟩, let ⟨mc, h1, h2⟩ := hL; ⟨mc, nsH h1, h2⟩⟩
    have TB : ∀ p ∈ cs, TabB (hidT s1.heap H) mg p.1 p.2 := fun p hp => by
      refine ⟨?_, ?_, fun z => ?_⟩
      · obtain ⟨o, us, file, tf, flags, tg, inF, text, tt, e1, r1, r2, r3, rest⟩ := hC p hp
        exact ⟨o, us, file, tf, flags, tg, inF, text, tt, stays e1 (free e1 (fun us n z => by rw [r2] at z; cases z) fun z => by rw [r2] at z; cases z; simp at r3), r1, r2, r3, rest⟩
      · obtain ⟨bm, ob, b1, b2, b3, b4, b5, b6⟩ := hM
        refine ⟨bm, ob, b1, b2, fun q => ?_, fun q => ?_, stays b3 (free b3 (fun us n z => by rw [b6] at z; cases z) fun z => by rw [b6] at z; cases z), b4, b5, b6⟩
        · obtain ⟨o, es, ep, e, hd, _⟩ := hG
          rw [q, e] at b3; cases b3
          rw [hd] at b6; cases b6
        · rw [q, hT p hp] at b3; cases b3
          cases b6
      · obtain ⟨o, es, ep, e, hd, _⟩ := hG
        rw [z, hT p hp] at e; cases e
        cases hd
    have okH : HOk P w H s1.heap := fun b o e => by
      rcases Hinv b o e with ⟨rfl, z⟩ | ⟨hb, rfl⟩
      · rcases hos with ⟨z2, _⟩ | ⟨z2, _⟩
        · rw [z2] at z; cases z
        · rw [z2] at z; cases z
          exact ⟨ha, by rw [List.length_map]; exact hl, vs, _, rv, ha⟩
      · exact atT b hb
    have e0 : Env0 P w K mg (hidT s1.heap H) callerA [] s1 H := ⟨rfl, MH, fun b o e => of_hidT e, Nat.le_of_eq (hidT_size _ _), trivial, (fun b hb => absurd (show b ∈ ([] : List Addr) from hb) (by simp)), okH, .of_eq hg⟩
    rw [← eH] at hS
    refine codeAny_mono ((F _ KH (nsH hG) TB).run callerA [] s1 H ⟨[.ref a], []⟩ [.ref a] [.ref a] _ _ rfl hr e0 (hbind s1 (.ref a)) (.cons rfl .nil) (hsp H (fun p hp => Htab _ (inT p hp)) Hfrz hS)) fun r s' h => ?_
    cases r with
    | error e => exact (hX H e s' h).elim
    | ok fl =>
      cases fl with
      | next => exact h.elim
      | brk => exact h.elim
      | cont => exact h.elim
      | ret u =>
        obtain ⟨v, H', os', bare, un, ok', r', q⟩ := h
        obtain rfl : v = .bl true := q
        obtain rfl : u = Value.bool true := r'
        have tab' : ∀ b ∈ Ts, ∃ more : Array Value, s'.heap.get? b = some { cls := .none, data := .fields more } := fun b hb => by
          obtain ⟨more, z⟩ := un.tbls b #[] (Htab b hb)
          exact ⟨_, ok' b _ z⟩
        have same : ∀ b o, b ∉ Ts → s1.heap.get? b = some o → s'.heap.get? b = some o := fun b o nb e => by
          cases q : H b with
          | none => exact un.keep b o e q (by intro z; exact absurd (show b ∈ ([] : List Addr) from z) (by simp)) (by simp)
          | some u =>
            rcases Hinv b u q with ⟨_, z⟩ | ⟨z, _⟩
            · rcases hos with ⟨z2, _⟩ | ⟨z2, _⟩
              · rw [z2] at z; cases z
              · rw [z2] at z; cases z
                obtain ⟨e1, _⟩ := okH b _ q
                obtain ⟨e2, _⟩ := ok' b _ (un.frzs b _ _ q)
                rw [e] at e1; cases e1
                exact e2
            · exact absurd z nb
        refine ⟨rfl, ⟨fun b o e => ?_, fun b o e => ?_⟩, os', bare⟩
        · by_cases hb : b ∈ Ts
          · obtain ⟨more, hm⟩ := tab' b hb
            obtain ⟨p, hp, rfl⟩ := ofT b hb
            rw [hT p hp] at e; cases e
            exact .inr (.inl ⟨((hC p hp).tab (hT p hp)).isCodeTable, rfl, #[], more, rfl, by rw [Array.empty_append]; exact hm⟩)
          · exact .inl (same b o hb e)
        · by_cases hb : b ∈ Ts
          · obtain ⟨more, hm⟩ := tab' b hb
            exact ⟨_, hm⟩
          · exact ⟨o, same b o hb e⟩
  cases hk : K.lookup a with
  | some o =>
    have e := KX a o hk
    rw [ha] at e; cases e
    exact main none (.inl ⟨rfl, by rw [hk]; simp⟩) (.inr ⟨_, vs.toArray, _, hk, rfl, rfl, rfl, by rw [List.size_toArray, hi.length]; exact hl, by simpa using rv⟩)
  | none =>
    refine main (some _) (.inr ⟨rfl, hk⟩) (.inl (.inr ⟨{ cls := .type "list", data := .seq vs.toArray }, ?_⟩))
    show (if a = a ∧ _ then _ else _) = _
    rw [if_pos ⟨rfl, rfl⟩]
theorem walk_ofGT {l : PySem.W.OpenLaw} {n k : Nat} {q : Program} {loose : List Str} {XP : (Str → Option Value) → Heap → Prop} {YP : World → Heap → Prop} {d : DefRec} {CX : World → CXT} {x : Str}
    (hn : l.most = some n) (hn2 : n ≤ sizeLine) (hdf : d.params.defaults = []) (hr : Room k callerA)
    (F : ∀ (w : World) (mg : Str → Option Value) (fa : Addr) (h : Heap), YP w h → h.Ns mainGlobals mg → mg d.name = some (.ref fa) →
      ∃ (K : PySem.W.Frag) (fd : FuncData) (sp : Sp) (cs : List (Addr × Addr)), K.In h ∧ (∀ p ∈ cs, h.get? p.2 = some emptyTab) ∧ (∀ p ∈ cs, K.lookup p.2 = none) ∧ (∀ p ∈ cs, PySem.W.CodeHd h p.1 p.2) ∧ (∀ (s : Shared) (u : Value), BindsTo s fd ⟨[u], []⟩ [(x, u)]) ∧
        (∀ (H : Hp) (a : Addr) (ns : List Int), ns.length ≤ n → (∀ z ∈ ns, Builtin.Int.intBits z ≤ 1048576) → (∀ p ∈ cs, H p.2 = some (.tbl #[])) → (∀ b o, H b = some o → pl o = true → (∃ ob xs, o = .frz ob xs)) → SqL K H a (ns.map V.int) → sp [.ref a] H (fun v _ => v = .bl true) fun _ _ _ => False) ∧
        ∀ base : Heap, K.In base → base.Ns mainGlobals mg → (∀ p ∈ cs, TabB base mg p.1 p.2) → FnG l.prog w K mg base (CX w) k fa fd [x] sp)
    (hCX : ∀ (w : World) (H : Hp) (s : Shared) (e : Value) (s' : Shared), CX w [] H s (fun _ _ _ => False) e s' → False) :
    PySem.W.WalkO q loose XP YP l.row.toRowW d [] (fun f vs => PySem.call f vs) := by
  refine Att.attach_callB hn hdf fun w s0 s1 mg mb fa o pm cd doc a vs ns G Y ho hd hcd hmg hobj hints hlen hbits hg => ?_
  obtain ⟨K, fd, sp, cs, KX, hT, nT, hC, hb, hsp, hF⟩ := F w mg fa _ Y G.T.g hmg
  exact law_callGT KX G.T.g G.T.b G.T.builtins G.T.nolimit hg hT nT hC G.T.bmain hobj hints (Nat.le_trans hlen hn2) hr hF hb (fun H hH hO hS => hsp H a ns hlen hbits hH hO hS) fun H e s' => hCX w H s1 e s'
end Ev
end
section
set_option Elab.async false
set_option linter.all false
set_option maxRecDepth 100000
namespace Ev
open PySem PySem.Spec L2
open PyProof.Rows hiding St IsTup
structure DInfo where
  params : Arguments
  body : List Stmt
  scope : Scope
  N : List Str
  ps : List Str
  lam : Bool
structure Facts (K : PySem.W.Frag) (mg : Str → Option Value) (Pn : PInf) (f : Str) (fd : Fn) (d : DInfo) (a : Addr) (fdata : FuncData) : Prop where
  mgf : mg f = some (.ref a)
  fn : FunD K f f d.params d.body d.scope [] [] a fdata
  scp : FnScope d.N d.ps d.scope
  binds : Binds K fdata d.ps []
  np : fd.np = d.ps.length
  ns : d.N.length = fd.nslots
  body : all2 (ckS Pn bodyFuel ⟨d.scope, d.N, none, d.lam⟩) d.body fd.body = true
  kws : ∀ n ks is, (f, n, ks) ∈ Pn.kws → kwF Pn.Γ f ks n = some is → KBinds K fdata d.ps ks (gP n ks.length is) (gP n ks.length is)
  lam : d.lam = true → f ∈ Pn.lams
section
variable {P : Program} {w : World} {K : PySem.W.Frag} {mg : Str → Option Value} {base : Heap} {Pn : PInf} {cA : Str → Addr} {aOf : Str → Addr} {fOf : Str → FuncData}
/-- exceptions as HandS.Exc has them -/
abbrev CXr (P : Program) (w : World) : CXT := L2.CX P w
theorem passesW_cx {N : List Str} {qual : Str} {scope : Scope} {f : Addr} {cd : Value} {A : Around} {outer : List PySem.Env} {s : Shared} {H : Hp} {E : XK} : PassesW (CXr P w) (cxOf (CXr P w) P w K mg base N qual scope f cd A outer s H E) (fun c d _ H => E c d H) := by
  have tk : Takes (cxOf (CXr P w) P w K mg base N qual scope f cd A outer s H E) (fun c d _ H => E c d H) := takes_of rfl rfl rfl rfl
  exact passes_call tk fun _ _ _ _ h => h
/-- a def that makes lambdas: its code, the table in it -/
def LamF (K : PySem.W.Frag) (mg : Str → Option Value) (base : Heap) (f : Str) (fdata : FuncData) : Prop := ∃ c Pt, fdata.code = .ref c ∧ LamX.TabB base mg c Pt ∧ (Pt, f ++ ".<locals>." ++ "<lambda>") ∈ tabsOf K ∧ ∀ p ∈ tabsOf K, p.1 = Pt → p.2 = f ++ ".<locals>." ++ "<lambda>"
theorem all_ok (hs : ∃ o, K.lookup sysModules = some o) (hG : ∀ p ∈ Pn.G, GlobOk K p.2 (Pn.gv p.1)) (hg : ∀ p ∈ Pn.G, ∃ u, mg p.1 = some u ∧ RelV (Pn.gv p.1) u) (hb : ∀ x ∈ Pn.bis, mg x = none)
    (hCX : ∀ outer H s e s', CXr P w outer H s (fun _ _ _ => False) e s' → False) (hT : ErrT Pn K cA) (hErr : ∀ p ∈ Pn.errs, MkErr P w K mg base p.1 p.2 (cA p.1)) (hBs : ∀ b ∈ Pn.bases, mg b = some (.ref (cA b)))
    (hTr : ∀ p ∈ Pn.trs, ∃ (g : Addr) (fdata : FuncData) (pa : Arguments), mg p.1 = some (.ref g) ∧ PySem.W.keepIn K (.ref g) = true ∧ FunD K p.1 p.1 pa p.2.1 p.2.2.1 [] [] g fdata ∧ FnScope p.2.2.2.1 [p.2.2.2.2] p.2.2.1 ∧ Binds K fdata [p.2.2.2.2] [])
    (hd : ∀ f fd, lookF Pn.Γ f = some fd → ∃ d, Facts K mg Pn f fd d (aOf f) (fOf f)) (hLm : ∀ f fd, lookF Pn.Γ f = some fd → f ∈ Pn.lams → LamF K mg base f (fOf f)) (k : Nat) :
    ∀ f fd, lookF Pn.Γ f = some fd → ∀ d, Facts K mg Pn f fd d (aOf f) (fOf f) → FnG P w K mg base (CXr P w) (k + 3) (aOf f) (fOf f) d.ps (spEv K cA fd.np (callF Pn.Γ Pn.G k f)) := by
  induction k using Nat.strongRecOn with
  | ind k ih =>
    intro f fd hf d F
    cases k with
    | zero =>
      exact ⟨fun vs H Q E h => by rw [spEv_len h, F.np], fun A outer s H args us vs Q E _ _ _ _ _ h => by
        obtain ⟨_, _, _, _, _, _, _, p⟩ := h
        exact p.elim⟩
    | succ k =>
      refine fnG_of F.fn F.scp (fun vs H Q E h => by rw [spEv_len h, F.np]) fun cdv A outer s H vs Q E hgd hcd hr hsp => ?_
      obtain ⟨g, w', S, args, R, ra, la, p⟩ := hsp
      obtain ⟨t, a, b⟩ := body_ok (W := fun c d _ H => E c d H) (Θ := ⟨d.scope, d.N, none, d.lam⟩) (fun s t h => ckS_ok (k := k) (cA := cA) (W := fun c d _ H => E c d H) hCX hG hT bodyFuel s t h) F.body
      have at_ : ∀ j, j < k + 1 → ∀ f' fd', lookF Pn.Γ f' = some fd' → FnAt (CXr P w) Pn ⟨K, cA, fun c d _ H => E c d H⟩ (cxOf (CXr P w) P w K mg base d.N f d.scope (aOf f) cdv A outer s H E) j f' fd' := fun j hj f' fd' hf' => by
        obtain ⟨d', F'⟩ := hd f' fd' hf'
        exact ⟨aOf f', fOf f', d'.ps, F'.mgf, F'.fn.kp, F'.binds, ih j hj f' fd' hf' d' F', F'.kws⟩
      refine ⟨t, a _ ⟨rfl, rfl, rfl, F.scp.nd, rfl, fun _ => rfl, hgd, hr, hs, fun q hq => ⟨hG q hq, hg q hq⟩, hb, at_ k (Nat.lt_succ_self k), fun j hj => at_ j (by omega), passesW_cx, takes_of rfl rfl rfl rfl, rfl, hErr, fun b hb => ⟨hBs b hb, hT.base b hb⟩, hT.kit, fun hl => ?_, hTr⟩ (passes_of rfl), ?_⟩
      · obtain ⟨c, Pt, e1, e2, e3, e4⟩ := hLm f fd hf (F.lam hl)
        exact ⟨c, Pt, by rw [← hcd]; exact e1, e2, e3, e4⟩
      · have e : callF Pn.Γ Pn.G (k + 1) f args S = callB (Cf Pn k) fd args S := by
          rw [callF_D]
          unfold callD
          rw [hf]; rfl
        rw [e] at p
        exact call_body F.ns R ra b p
end
end Ev
end
section
set_option Elab.async false
set_option linter.all false
set_option maxRecDepth 100000
namespace Ev
open PySem PySem.Spec L2
open PyProof.Rows hiding St IsTup
inductive CK where
  | int (i : Int)
  | str (s : Str)
  | tup (vs : List He.Dv)
  | lst (vs : List He.Dv)
def dvD : He.Dv → PyData
  | .bl b => .bool b
  | .int i => .int i
  | .str s => .str s
  | _ => .none
def dvB : He.Dv → Bool
  | .non => true
  | .bl _ => true
  | .int _ => true
  | .str _ => true
  | _ => false
theorem dv_flat (K : PySem.W.Frag) : ∀ {d : He.Dv}, dvB d = true → flatOf (dvD d) = some (d.v K) := fun {d} h => by cases d <;> first | (cases h; done) | rfl
theorem dvs_flat (K : PySem.W.Frag) : ∀ {ds : List He.Dv}, ds.all dvB = true → (ds.map dvD).map flatOf = (ds.map (He.Dv.v K)).map some
  | [], _ => rfl
  | d :: ds, h => by
    have h : dvB d = true ∧ ds.all dvB = true := by simpa using h
    rw [List.map_cons, List.map_cons, List.map_cons, List.map_cons, dv_flat K h.1, dvs_flat K h.2]
def CK.val : CK → Val
  | .int i => .d (.int i)
  | .str s => .d (.str s)
  | .tup vs => .k (.tuple (vs.map dvD))
  | .lst vs => .k (.list (vs.map dvD))
def CK.v (K : PySem.W.Frag) (x : Str) : CK → V
  | .int i => .int i
  | .str s => .str s
  | _ => .ref (He.ga K x)
def CK.ok (K : PySem.W.Frag) (x : Str) : CK → Bool
  | .int i => (He.Fa.int x i).ok K
  | .str s => (He.Fa.str x s).ok K
  | .tup vs => (He.Fa.glo x).ok K && He.tupB K x vs && vs.all dvB && (match K.lookup (He.ga K x) with
    | some o => decide (o.cls = .type "tuple") && o.dict.isNone
    | none => false)
  | .lst vs => (He.Fa.glo x).ok K && He.lstB K x vs && vs.all dvB
/-- the objects that are looked at: the module's values, what its classes hold, the code of all of them -/
def asV (g : Addr → Option Obj) : List Addr :=
  let dv := fun (a : Addr) => (match g a with
    | some ⟨_, _, .dict es _, _⟩ => es.toList.flatMap fun e => He.refV e.val
    | _ => [])
  let m := dv mainGlobals
  let c := m.flatMap fun a => match g a with
    | some ⟨_, _, .cls cd, _⟩ => cd.ns :: dv cd.ns
    | _ => []
  mainGlobals :: sysModules :: (m ++ c ++ (m ++ c).flatMap fun a => match g a with
    | some ⟨_, _, .func fd, _⟩ => He.refV fd.code
    | _ => [])
/-- an own class of errors over Exception, its __init__ -/
structure ErrD where
  x : Str
  f : Str
  p : Str
  params : Arguments
  body : List Stmt
  scope : Scope
def ErrD.defD (e : ErrD) : He.DefD := ⟨(e.x, some "__init__"), "__init__", e.x ++ ".__init__", e.params, e.body, e.scope, [], []⟩
def errB (K : PySem.W.Frag) (e : ErrD) : Bool :=
  let C := He.ga K e.x
  (He.Fa.glo e.x).ok K && PySem.W.excInitIn K C excB "Exception.__new__" && PySem.W.hasDictIn K C && decide (PySem.W.findIn K (.ref C) "__setattr__" = some (some (.builtin "object.__setattr__"))) &&
    decide (PySem.W.subIn K (.ref C) (.type "BaseException") = some true) && decide (PySem.W.typeIn K (.ref C) = some (.type "type")) && PySem.W.keepIn K (.ref C) && decide (PySem.W.findIn K (.ref C) e.f = some none) && xfB K C &&
    decide (PySem.W.findIn K (.ref C) "__class__" = some (some (.builtin "object.__class__"))) && decide (PySem.W.specialIn K (.builtin "object.__class__") "__get__" = some (some (.builtin "getset_descriptor.__get__"))) &&
    decide (PySem.W.takesIn K (.builtin "object.__class__") = some true) && decide (PySem.W.mroIn K C (.type "object") = some true) && decide (PySem.W.findIn K (.ref C) "__init__" = some (some (.ref (He.ma K C "__init__")))) &&
    decide (PySem.W.typeIn K (.ref (He.ma K C "__init__")) = some (.type "function"))
def kitB (K : PySem.W.Frag) (es : List ErrD) : Bool := es.all fun p => es.all fun q => decide (PySem.W.kitOne K (.ref (He.ga K p.x)) (.ref (He.ga K q.x)) = some (decide (p.x = q.x)))
def baseB (K : PySem.W.Frag) (es : List ErrD) (bs : List Str) : Bool := bs.all fun b => (He.Fa.glo b).ok K && es.all fun p => decide (PySem.W.exmOne K (.ref (He.ga K p.x)) (.ref (He.ga K b)) = some true)
def codeOf (K : PySem.W.Frag) (f : Str) : Option (Addr × Addr) := match K.lookup (He.ga K f) with
  | some ⟨_, _, .func fd, _⟩ => (match fd.code with
    | .ref c => (match K.lookup c with
      | some ⟨_, _, .fields vs, _⟩ => (match vs[11]? with
        | some (Value.ref P) => some (c, P)
        | _ => none)
      | _ => none)
    | _ => none)
  | _ => none
/-- a def that makes lambdas -/
def lamB (K : PySem.W.Frag) (f : Str) : Bool := match codeOf K f with
  | some (c, P) => decide ((c, P, f ++ ".<locals>." ++ "<lambda>") ∈ tabsC K) && (tabsC K).all fun t => !decide (t.2.1 = P) || decide (t.2.2 = f ++ ".<locals>." ++ "<lambda>")
  | none => false
/-- the tables are empty, no part of what is written -/
def tabB (g : Addr → Option Obj) (K : PySem.W.Frag) : Bool := (tabsC K).all fun t => (match g t.2.1 with
  | some ⟨.none, none, .fields vs, sl⟩ => vs.isEmpty && sl.isEmpty
  | _ => false) && (K.lookup t.2.1).isNone && PySem.W.codeHdIn K t.1 t.2.1
def obsV (fa : List He.Fa) (fn : List He.DefD) (cs : List (Str × CK)) (es : List ErrD) (bs lm : List Str) (K : PySem.W.Frag) : He.AlD :=
  ((fa.all fun f => f.ok K) && (fn.all fun d => d.ok K) && (cs.all fun c => c.2.ok K c.1) && (K.lookup sysModules).isSome && es.all (errB K) && kitB K es && baseB K es bs && lm.all (lamB K), fn.map fun d => He.fnW K d.at_)
def SaysV (fa : List He.Fa) (fn : List He.DefD) (cs : List (Str × CK)) (es : List ErrD) (bs lm : List Str) (K : PySem.W.Frag) : Prop := obsV fa fn cs es bs lm K = He.valD fn
def obsVG (fa : List He.Fa) (fn : List He.DefD) (cs : List (Str × CK)) (es : List ErrD) (bs lm : List Str) (g : Addr → Option Obj) : He.AlD :=
  let K := He.frG g (asV g)
  let o := obsV fa fn cs es bs lm K
  (o.1 && tabB g K, o.2)
def TabE (h : Heap) (K : PySem.W.Frag) : Prop := ∀ t ∈ tabsC K, h.get? t.2.1 = some emptyTab ∧ K.lookup t.2.1 = none ∧ PySem.W.codeHdIn K t.1 t.2.1 = true
theorem tabB_ok {h : Heap} {K : PySem.W.Frag} (e : tabB h.get? K = true) : TabE h K := fun t ht => by
  have := List.all_eq_true.mp e t ht
  simp only [Bool.and_eq_true] at this
  obtain ⟨⟨h1, h2⟩, h3⟩ := this
  refine ⟨?_, by simpa using h2, h3⟩
  split at h1
  · rename_i vs sl hg
    obtain ⟨z1, z2⟩ := Bool.and_eq_true_iff.mp h1
    rw [hg]
    have e1 : vs = #[] := by simpa using z1
    have e2 : sl = #[] := by simpa using z2
    rw [e1, e2]
  · cases h1
def hookV (fa : List He.Fa) (fn : List He.DefD) (cs : List (Str × CK)) (es : List ErrD) (bs lm : List Str) : PySem.W.Hook where
  α := He.AlD
  obs := fun s => obsVG fa fn cs es bs lm s.heap.get?
  val := fun _ => He.valD fn
  says := fun _ h => ∃ K : PySem.W.Frag, K.In h ∧ SaysV fa fn cs es bs lm K ∧ TabE h K
  of := fun _ s e => by
    have e : (((obsV fa fn cs es bs lm (He.frG s.heap.get? (asV s.heap.get?))).1 && tabB s.heap.get? (He.frG s.heap.get? (asV s.heap.get?))), (obsV fa fn cs es bs lm (He.frG s.heap.get? (asV s.heap.get?))).2) = He.valD fn := e
    obtain ⟨e1, e2⟩ := Prod.ext_iff.mp e
    obtain ⟨e3, e4⟩ := Bool.and_eq_true_iff.mp e1
    exact ⟨_, He.frG_in, Prod.ext e3 e2, tabB_ok e4⟩
  keeps := fun _ _ _ ⟨K, hK, c, t⟩ k => ⟨K, PySem.W.Frag.In.keeps hK k, c, fun p hp => ⟨k _ _ (t p hp).1, (t p hp).2⟩⟩
theorem obsVG_eq {fa : List He.Fa} {fn : List He.DefD} {cs : List (Str × CK)} {es : List ErrD} {bs lm : List Str} {g : Addr → Option Obj} {s : Shared} (h : ∀ a, g a = s.heap.get? a) : obsVG fa fn cs es bs lm g = (hookV fa fn cs es bs lm).obs s := by
  have e : g = s.heap.get? := funext h
  rw [e] <;> rfl
section
variable {fa : List He.Fa} {fn : List He.DefD} {cs : List (Str × CK)} {es : List ErrD} {bs lm : List Str} {K : PySem.W.Frag}
theorem SaysV.all (c : SaysV fa fn cs es bs lm K) : ((∀ f ∈ fa, f.ok K = true) ∧ (∀ d ∈ fn, d.ok K = true) ∧ (∀ q ∈ cs, q.2.ok K q.1 = true) ∧ (∃ o, K.lookup sysModules = some o) ∧ fn.map (fun d => He.fnW K d.at_) = fn.map He.DefD.val) ∧
    (∀ e ∈ es, errB K e = true) ∧ kitB K es = true ∧ baseB K es bs = true ∧ ∀ f ∈ lm, lamB K f = true := by
  have c1 : ((fa.all fun f => f.ok K) && (fn.all fun d => d.ok K) && (cs.all fun c => c.2.ok K c.1) && (K.lookup sysModules).isSome && es.all (errB K) && kitB K es && baseB K es bs && lm.all (lamB K)) = true := congrArg (fun z : He.AlD => z.1) c
  simp only [Bool.and_eq_true, List.all_eq_true] at c1
  obtain ⟨⟨⟨⟨⟨⟨⟨h1, h2⟩, h3⟩, h4⟩, h5⟩, h6⟩, h7⟩, h8⟩ := c1
  exact ⟨⟨h1, h2, h3, Option.isSome_iff_exists.mp h4, congrArg (fun z : He.AlD => z.2) c⟩, h5, h6, h7, h8⟩
theorem SaysV.def_ (c : SaysV fa fn cs es bs lm K) {d : He.DefD} (h : d ∈ fn) : ∃ fd, FunD K d.name d.qual d.params d.body d.scope (d.dvs K) (d.kws K) (He.fAd K d.at_) fd := by
  obtain ⟨⟨_, h2, _, _, e⟩, _⟩ := c.all
  have : He.fnW K d.at_ = d.val := by
    have go : ∀ {l : List He.DefD}, l.map (fun d => He.fnW K d.at_) = l.map He.DefD.val → ∀ d ∈ l, He.fnW K d.at_ = d.val := by
      intro l
      induction l with
      | nil => intro _ d hd; cases hd
      | cons x l ih =>
        intro e d hd
        rw [List.map_cons, List.map_cons] at e
        obtain ⟨e1, e2⟩ := List.cons.inj e
        rcases List.mem_cons.mp hd with rfl | hd
        · exact e1
        · exact ih e2 d hd
    exact go e d h
  exact He.DefD.funD this (h2 d h)
theorem CK.glob {x : Str} {c : CK} (h : c.ok K x = true) : GlobOk K c.val (c.v K x) := fun w => by
  cases c with
  | int i => exact .d (.int i)
  | str s => exact .d (.str s)
  | tup vs =>
    have h : ((He.Fa.glo x).ok K && He.tupB K x vs && vs.all dvB && (match K.lookup (He.ga K x) with
      | some o => decide (o.cls = .type "tuple") && o.dict.isNone
      | none => false)) = true := h
    simp only [Bool.and_eq_true] at h
    refine .k (.tuple (He.tupB_ok h.1.1.2 w.I) (dvs_flat K h.1.2) ?_)
    have h2 := h.2
    split at h2
    · rename_i o ho
      simp only [Bool.and_eq_true, decide_eq_true_eq, Option.isNone_iff_eq_none] at h2
      exact ⟨o, ho, h2.1, h2.2⟩
    · cases h2
  | lst vs =>
    have h : ((He.Fa.glo x).ok K && He.lstB K x vs && vs.all dvB) = true := h
    simp only [Bool.and_eq_true] at h
    exact .k (.list (He.lstB_ok h.1.2 w.I) (dvs_flat K h.2))
theorem CK.mg {h : Heap} {mg : Str → Option Value} (X : K.In h) (G : h.Ns mainGlobals mg) {x : Str} {c : CK} (e : c.ok K x = true) : ∃ u, mg x = some u ∧ RelV (c.v K x) u := by
  cases c with
  | int i => obtain ⟨t, e⟩ := He.int_ok X G e; exact ⟨_, e, t, rfl⟩
  | str s => obtain ⟨t, e⟩ := He.str_ok X G e; exact ⟨_, e, t, rfl⟩
  | tup vs =>
    have e : ((He.Fa.glo x).ok K && He.tupB K x vs && vs.all dvB && (match K.lookup (He.ga K x) with
      | some o => decide (o.cls = .type "tuple") && o.dict.isNone
      | none => false)) = true := e
    simp only [Bool.and_eq_true] at e
    exact ⟨_, He.glo_ok X G e.1.1.1, rfl⟩
  | lst vs =>
    have e : ((He.Fa.glo x).ok K && He.lstB K x vs && vs.all dvB) = true := e
    simp only [Bool.and_eq_true] at e
    exact ⟨_, He.glo_ok X G e.1.1, rfl⟩
end
structure Dfn where
  f : Str
  fd : Fn
  d : DInfo
def Dfn.defD (e : Dfn) : He.DefD := ⟨(e.f, none), e.f, e.f, e.d.params, e.d.body, e.d.scope, [], []⟩
structure LawT where
  ds : List Dfn
  cs : List (Str × CK)
  bis : List Str
  kws : List (Str × Nat × List Str)
  es : List ErrD := []
  bs : List Str := []
  ts : List (Str × DInfo) := []
def LawT.lm (L : LawT) : List Str := L.ds.filterMap fun e => if e.d.lam = true then some e.f else none
def LawT.Γ (L : LawT) : Tab := L.ds.map fun e => (e.f, e.fd)
def LawT.G (L : LawT) : List (Str × Val) := L.cs.map fun c => (c.1, c.2.val)
def LawT.trs (L : LawT) : List (Str × List Stmt × Scope × List Str × Str) := L.ts.map fun t => (t.1, t.2.body, t.2.scope, t.2.N, t.2.ps.headD "")
def LawT.pn (L : LawT) (gv : Str → V) : PInf := ⟨L.Γ, L.G, gv, L.bis, L.kws, L.es.map fun e => (e.x, e.f), L.bs, L.trs, L.lm⟩
def LawT.fa (L : LawT) : List He.Fa := (L.ds.map (fun e => He.Fa.glo e.f) ++ L.ts.map fun t => He.Fa.glo t.1) ++ L.bis.map He.Fa.free
def trD (t : Str × DInfo) : He.DefD := ⟨(t.1, none), t.1, t.1, t.2.params, t.2.body, t.2.scope, [], []⟩
def LawT.fn (L : LawT) : List He.DefD := L.ds.map Dfn.defD ++ (L.ts.map trD ++ L.es.map ErrD.defD)
def LawT.hook (L : LawT) : PySem.W.Hook := hookV L.fa L.fn L.cs L.es L.bs L.lm
/-- what is seen of a def's text -/
structure Stat (L : LawT) (e : Dfn) : Prop where
  scp : C8.scC e.d.N e.d.ps e.d.scope = true
  np : e.fd.np = e.d.ps.length
  ns : e.d.N.length = e.fd.nslots
  binds : ∀ (kV doc pm : Value) (an : Option Addr) (cdv ct : Value) (us : List Value), us.length = e.d.ps.length → bindArgs (PySem.W.fnOf e.f e.f e.d.params e.d.body e.d.scope .none kV doc pm an cdv ct) ⟨us, []⟩ = pure (e.d.ps.zip us)
  body : ∀ gv, all2 (ckS (L.pn gv) bodyFuel ⟨e.d.scope, e.d.N, none, e.d.lam⟩) e.d.body e.fd.body = true
  kws : ∀ n ks is, (e.f, n, ks) ∈ L.kws → kwF L.Γ e.f ks n = some is → e.d.ps ≠ [] ∧ ∀ (kV doc pm : Value) (an : Option Addr) (cdv ct : Value) (us ws : List Value), us.length = n → ws.length = ks.length →
    bindArgs (PySem.W.fnOf e.f e.f e.d.params e.d.body e.d.scope .none kV doc pm an cdv ct) ⟨us, ks.zip ws⟩ = pure (e.d.ps.zip (gP n ks.length is us ws))
/-- what is seen of a def that tries -/
structure StatT (t : Str × DInfo) : Prop where
  scp : C8.scC t.2.N [t.2.ps.headD ""] t.2.scope = true
  binds : ∀ (kV doc pm : Value) (an : Option Addr) (cdv ct : Value) (us : List Value), us.length = 1 → bindArgs (PySem.W.fnOf t.1 t.1 t.2.params t.2.body t.2.scope .none kV doc pm an cdv ct) ⟨us, []⟩ = pure ([t.2.ps.headD ""].zip us)
/-- self.f = p -/
def initB (f p : Str) : List Stmt → Bool
  | [.Assign [.Attribute (.Name s _) f' _] (.Name p' _) _] => decide (s = "self") && decide (f' = f) && decide (p' = p)
  | _ => false
theorem initB_ok {f p : Str} {b : List Stmt} (h : initB f p b = true) : ∃ q1 q2 q3 q4, b = [.Assign [.Attribute (.Name "self" q1) f q2] (.Name p q3) q4] := by
  unfold initB at h
  split at h
  · simp only [Bool.and_eq_true, decide_eq_true_eq] at h
    obtain ⟨⟨rfl, rfl⟩, rfl⟩ := h
    exact ⟨_, _, _, _, rfl⟩
  · cases h
/-- what is seen of a class of errors -/
structure StatE (e : ErrD) : Prop where
  ini : initB e.f e.p e.body = true
  scp : C8.scC ["self", e.p] ["self", e.p] e.scope = true
  ok : okN e.p = true
  binds : ∀ (kV doc pm : Value) (an : Option Addr) (cdv ct : Value) (us : List Value), us.length = 2 → bindArgs (PySem.W.fnOf "__init__" (e.x ++ ".__init__") e.params e.body e.scope .none kV doc pm an cdv ct) ⟨us, []⟩ = pure ((["self", e.p] : List Str).zip us)
theorem no_kw {l : List (Str × Nat × List Str)} {f : Str} (h : l.all (fun q => !decide (q.1 = f)) = true) (n : Nat) (ks : List Str) : (f, n, ks) ∉ l := fun m => by
  have := List.all_eq_true.mp h _ m
  simp at this
theorem lookF_mem {L : LawT} {f : Str} {fd : Fn} (h : lookF L.Γ f = some fd) : ∃ e ∈ L.ds, e.f = f ∧ e.fd = fd := by
  unfold lookF at h
  obtain ⟨p, hp, rfl⟩ := Option.map_eq_some_iff.mp h
  have hm := List.mem_of_find?_eq_some hp
  have hf := List.find?_some hp
  obtain ⟨e, he, rfl⟩ := List.mem_map.mp hm
  exact ⟨e, he, of_decide_eq_true hf, rfl⟩
def gvOf (K : PySem.W.Frag) (cs : List (Str × CK)) (x : Str) : V := match cs.find? fun c => decide (c.1 = x) with
  | some c => c.2.v K c.1
  | none => .non
theorem gvOf_mem {K : PySem.W.Frag} {cs : List (Str × CK)} (nd : (cs.map (·.1)).Nodup) {c : Str × CK} (h : c ∈ cs) : gvOf K cs c.1 = c.2.v K c.1 := by
  have : cs.find? (fun d => decide (d.1 = c.1)) = some c := by
    induction cs with
    | nil => cases h
    | cons d cs ih =>
      rw [List.map_cons, List.nodup_cons] at nd
      rcases List.mem_cons.mp h with rfl | h
      · rw [List.find?_cons_of_pos (by simp)]
      · have hne : d.1 ≠ c.1 := fun z => nd.1 (z ▸ List.mem_map_of_mem h)
        rw [List.find?_cons_of_neg (by simpa using hne)]
        exact ih nd.2 h
  unfold gvOf
  rw [this]
/-- a class's j-th statement -/
def clsSt (s : Stmt) (j : Nat) : Stmt := match s with
  | .ClassDef _ _ _ b _ _ _ _ _ _ _ => b.getD j (.Pass ⟨0, 0, 0, 0⟩)
  | _ => .Pass ⟨0, 0, 0, 0⟩
theorem errB_ok {K : PySem.W.Frag} {e : ErrD} (h : errB K e = true) : ErrK K (He.ga K e.x) e.f ∧ (He.Fa.glo e.x).ok K = true ∧ PySem.W.findIn K (.ref (He.ga K e.x)) "__init__" = some (some (.ref (He.ma K (He.ga K e.x) "__init__"))) ∧ PySem.W.typeIn K (.ref (He.ma K (He.ga K e.x) "__init__")) = some (.type "function") := by
  unfold errB at h
  simp only [Bool.and_eq_true, decide_eq_true_eq] at h
  obtain ⟨⟨⟨⟨⟨⟨⟨⟨⟨⟨⟨⟨⟨⟨h1, h2⟩, h3⟩, h4⟩, h5⟩, h6⟩, h7⟩, h8⟩, h9⟩, h10⟩, h11⟩, h12⟩, h13⟩, h14⟩, h15⟩ := h
  refine ⟨⟨⟨?_, h4, h5, h6, h7⟩, h8, xfB_ok h9, h10, h11, h12, h13⟩, h1, h14, h15⟩
  unfold PySem.W.excInitIn at h2
  split at h2
  · rename_i dd cd sl ho
    split at h2
    · rename_i C' bm k0 k1 k2 k3 n k5 hm hs
      simp only [Bool.and_eq_true, beq_iff_eq, Bool.not_eq_true'] at h2
      obtain ⟨⟨⟨hc, hn⟩, hdel⟩, ht⟩ := h2
      have hcl : PySem.W.clsIn K (He.ga K e.x) = some cd := by unfold PySem.W.clsIn; rw [ho]
      have hd : cd.hasDict = true := by
        obtain ⟨cd', e1, e2⟩ := PySem.W.any_some h3
        rw [hcl] at e1; cases e1; exact e2
      obtain ⟨nm, bs, mro, ns, qn, hdct, sn, sub, ab, col, del⟩ := cd
      dsimp only at hm hdel hd
      subst hm hdel hd
      have hsl : sl = #[k0, k1, k2, k3, some (.builtin n), k5] := by
        obtain ⟨l⟩ := sl
        simp only at hs
        rw [hs]
      subst hsl
      subst hn
      refine ⟨nm, qn, ns, bs, bm, sn, sub, ab, col, dd, k0, k1, k2, k3, k5, ?_, ht⟩
      rw [ho, hc]
    · cases h2
  · cases h2
theorem law_main {l : PySem.W.OpenLaw} {k : Nat} {q : Program} {loose : List Str} {XP : (Str → Option Value) → Heap → Prop} {d : DefRec} {L : LawT} {eL : Dfn} {x : Str}
    (hn : l.most = some 63) (hdf : d.params.defaults = []) (hr : Room (k + 3) callerA) (hnd : (L.cs.map (·.1)).Nodup)
    (hS : ∀ e ∈ L.ds, Stat L e) (hne : d.name = eL.f) (hx : eL.d.ps = [x]) (hl : lookF L.Γ eL.f = some eL.fd) (hu : ∀ e ∈ L.ds, e.f = eL.f → e = eL) (hsf : ∀ f fd, lookF L.Γ f = some fd → ∀ e ∈ L.ds, e.f = f → e.fd = fd)
    (hts : ∀ t ∈ L.ts, StatT t) (hes : ∀ e ∈ L.es, StatE e) (hnf : ∀ p ∈ L.es, ∀ q ∈ L.es, p.x = q.x → p.f = q.f)
    (math : ∀ ns : List Int, ns.length ≤ 63 → (∀ z ∈ ns, Builtin.Int.intBits z ≤ 1048576) → ∃ S, callF L.Γ L.G k eL.f [.k (.list (ns.map .int))] [] = .ok (.d (.bool true)) S) :
    PySem.W.WalkO q loose XP L.hook.says l.row.toRowW d [] (fun f vs => PySem.call f vs) := by
  have hCX : ∀ (P : Program) (w : World) outer H s e s', CXr P w outer H s (fun _ _ _ => False) e s' → False := fun P w outer H s e s' h => by
    obtain ⟨_, _, _, _, _, _, _, _, _, _, _, _, z⟩ := h
    exact z
  refine walk_ofGT (CX := fun w => CXr l.prog w) (x := x) (k := k + 3) hn (by rw [sizeLine_eq]; decide) hdf hr (fun w mg fa h Y G hmg => ?_) fun w H s e s' z => hCX _ _ _ _ _ _ _ z
  obtain ⟨K, KX, c, tE⟩ := Y
  obtain ⟨⟨c1, c2, c3, c4, c5⟩, c6, c7, c8, c9⟩ := c.all
  have glo : ∀ e ∈ L.ds, mg e.f = some (.ref (He.ga K e.f)) := fun e he => He.glo_ok KX G (c1 _ (List.mem_append_left _ (List.mem_append_left _ (List.mem_map_of_mem he))))
  have fre : ∀ y ∈ L.bis, mg y = none := fun y hy => He.free_ok KX G (c1 _ (List.mem_append_right _ (List.mem_map_of_mem hy)))
  have fun_ : ∀ e : Dfn, ∃ fdata, e ∈ L.ds → FunD K e.f e.f e.d.params e.d.body e.d.scope [] [] (He.ga K e.f) fdata := fun e => by
    by_cases he : e ∈ L.ds
    · obtain ⟨fdata, h⟩ := c.def_ (List.mem_append_left _ (List.mem_map_of_mem (f := Dfn.defD) he))
      exact ⟨fdata, fun _ => h⟩
    · exact ⟨⟨e.f, e.f, e.d.params, .stmts [], e.d.scope, 0, [], .none, .none, .none, .none, none, .none, .none, 0⟩, fun z => (he z).elim⟩
  obtain ⟨fDat, hfd⟩ := Classical.axiomOfChoice fun_
  let eOf : Str → Dfn := fun f => (L.ds.find? fun e => decide (e.f = f)).getD eL
  have eOf_mem : ∀ {f fd}, lookF L.Γ f = some fd → eOf f ∈ L.ds ∧ (eOf f).f = f := fun {f fd} h => by
    obtain ⟨e, he, e1, e2⟩ := lookF_mem h
    cases q : L.ds.find? fun e => decide (e.f = f) with
    | none =>
      have := List.find?_eq_none.mp q e he
      exact absurd e1 (by simpa using this)
    | some e' =>
      have h1 := List.mem_of_find?_eq_some q
      have h2 := List.find?_some q
      have : eOf f = e' := by show (L.ds.find? _).getD eL = _; rw [q]; rfl
      rw [this]
      exact ⟨h1, of_decide_eq_true h2⟩
  have hG : ∀ p ∈ (L.pn (gvOf K L.cs)).G, GlobOk K p.2 ((L.pn (gvOf K L.cs)).gv p.1) := fun p hp => by
    obtain ⟨q, hq, rfl⟩ := List.mem_map.mp hp
    show GlobOk K q.2.val (gvOf K L.cs q.1)
    rw [gvOf_mem hnd hq]
    exact CK.glob (c3 q hq)
  have hg : ∀ p ∈ (L.pn (gvOf K L.cs)).G, ∃ u, mg p.1 = some u ∧ RelV ((L.pn (gvOf K L.cs)).gv p.1) u := fun p hp => by
    obtain ⟨q, hq, rfl⟩ := List.mem_map.mp hp
    show ∃ u, mg q.1 = some u ∧ RelV (gvOf K L.cs q.1) u
    rw [gvOf_mem hnd hq]
    exact CK.mg KX G (c3 q hq)
  have fact : ∀ f fd, lookF L.Γ f = some fd → Facts K mg (L.pn (gvOf K L.cs)) f fd (eOf f).d (He.ga K f) (fDat (eOf f)) := fun f fd hf => by
    obtain ⟨m1, m2⟩ := eOf_mem hf
    have S := hS _ m1
    have F := hfd _ m1
    have e2 := hsf f fd hf _ m1 m2
    generalize eOf f = e at m1 m2 S F e2
    subst m2
    subst e2
    obtain ⟨oc, od, dV, kV, doc, pm, an, cdv, ct, osl, efd, lk, hcd, hD, hK⟩ := F.ex
    have hdV : dV = .none := by
      rcases hD with ⟨_, z⟩ | ⟨z, _⟩
      · exact z
      · exact (z rfl).elim
    subst hdV
    refine ⟨glo _ m1, F, C8.fnScope_by S.scp, F.bindsN S.binds, S.np, S.ns, S.body _, fun n ks is hk his => ⟨fun s us ws X hlen => ?_, fun a b => gP_rel a b⟩, fun z => List.mem_filterMap.mpr ⟨e, m1, if_pos z⟩⟩
    obtain ⟨hps, hkb⟩ := S.kws n ks is hk his
    by_cases hc : us.length = n ∧ ws.length = ks.length
    · rw [efd]
      exact .of_eq (hkb kV doc pm an cdv ct us ws hc.1 hc.2)
    · have z : gP n ks.length is us ws = [] := by unfold gP; rw [if_neg hc]
      rw [z] at hlen
      exact (hps (List.length_eq_zero_iff.mp hlen.symm)).elim
  have FL := fact eL.f eL.fd hl
  have eL' : eOf eL.f = eL := hu _ (eOf_mem hl).1 (eOf_mem hl).2
  have hfa : fa = He.ga K eL.f := by
    have := FL.mgf
    rw [hne] at hmg
    rw [hmg] at this
    exact Value.ref.inj (Option.some.inj this)
  subst hfa
  have gloT : ∀ t ∈ L.ts, mg t.1 = some (.ref (He.ga K t.1)) := fun t ht => He.glo_ok KX G (c1 _ (List.mem_append_left _ (List.mem_append_right _ (List.mem_map_of_mem (f := fun t : Str × DInfo => He.Fa.glo t.1) ht))))
  -- classes of errors
  have hErrK : ∀ e ∈ L.es, ErrK K (He.ga K e.x) e.f := fun e he => (errB_ok (c6 e he)).1
  have hErr : ∀ (base : Heap), ∀ p ∈ (L.pn (gvOf K L.cs)).errs, MkErr l.prog w K mg base p.1 p.2 (He.ga K p.1) := fun base p hp => by
    obtain ⟨e, he, rfl⟩ := List.mem_map.mp hp
    obtain ⟨h1, h2, h3, h4⟩ := errB_ok (c6 e he)
    have S := hes e he
    obtain ⟨fd, F⟩ := c.def_ (List.mem_append_right _ (List.mem_append_right _ (List.mem_map_of_mem (f := ErrD.defD) he)))
    have F : FunD K "__init__" (e.x ++ ".__init__") e.params e.body e.scope [] [] (He.ma K (He.ga K e.x) "__init__") fd := F
    obtain ⟨q1, q2, q3, q4, eb⟩ := initB_ok S.ini
    obtain ⟨o1, o2, o3⟩ := okN_ok S.ok
    refine ⟨He.glo_ok KX G h2, h1, _, fd, e.p, h3, h4, ?_, F.bindsN S.binds⟩
    rw [eb] at F
    exact ok_errI F (C8.fnScope_by S.scp) o1 o2 fun env => no_swap rfl _ _ _
  have hBs : ∀ b ∈ (L.pn (gvOf K L.cs)).bases, mg b = some (.ref (He.ga K b)) := fun b hb => by
    have := List.all_eq_true.mp c8 b hb
    exact He.glo_ok KX G (Bool.and_eq_true_iff.mp this).1
  have hET : ErrT (L.pn (gvOf K L.cs)) K (fun x => He.ga K x) := by
    refine ⟨fun p hp => ?_, fun p hp q hq => ?_, fun b hb p hp => ?_, fun t ht => ?_⟩
    · obtain ⟨e, he, rfl⟩ := List.mem_map.mp hp
      exact hErrK e he
    · obtain ⟨e, he, rfl⟩ := List.mem_map.mp hp
      obtain ⟨e', he', rfl⟩ := List.mem_map.mp hq
      exact of_decide_eq_true (List.all_eq_true.mp (List.all_eq_true.mp c7 e he) e' he')
    · obtain ⟨e, he, rfl⟩ := List.mem_map.mp hp
      have := List.all_eq_true.mp c8 b hb
      exact of_decide_eq_true (List.all_eq_true.mp (Bool.and_eq_true_iff.mp this).2 e he)
    · obtain ⟨t', ht', rfl⟩ := List.mem_map.mp ht
      exact C8.fnScope_by (hts t' ht').scp
  have hTr : ∀ p ∈ (L.pn (gvOf K L.cs)).trs, ∃ (g : Addr) (fdata : FuncData) (pa : Arguments), mg p.1 = some (.ref g) ∧ PySem.W.keepIn K (.ref g) = true ∧ FunD K p.1 p.1 pa p.2.1 p.2.2.1 [] [] g fdata ∧ FnScope p.2.2.2.1 [p.2.2.2.2] p.2.2.1 ∧ Binds K fdata [p.2.2.2.2] [] := fun p hp => by
    obtain ⟨t, ht, rfl⟩ := List.mem_map.mp hp
    obtain ⟨fd, F⟩ := c.def_ (List.mem_append_right _ (List.mem_append_left _ (List.mem_map_of_mem (f := trD) ht)))
    have F : FunD K t.1 t.1 t.2.params t.2.body t.2.scope [] [] (He.ga K t.1) fd := F
    exact ⟨_, fd, t.2.params, gloT t ht, F.kp, F, C8.fnScope_by (hts t ht).scp, F.bindsN (hts t ht).binds⟩
  refine ⟨K, fDat (eOf eL.f), spEv K (fun x => He.ga K x) eL.fd.np (callF L.Γ L.G k eL.f), (tabsC K).map fun t => (t.1, t.2.1), KX, fun p hp => ?_, fun p hp => ?_, fun p hp => ?_, fun s u => ?_, fun H a ns hlen hbits hTb hO hSq => ?_, fun base KB GB TB => ?_⟩
  · obtain ⟨t, ht, rfl⟩ := List.mem_map.mp hp
    exact (tE t ht).1
  · obtain ⟨t, ht, rfl⟩ := List.mem_map.mp hp
    exact (tE t ht).2.1
  · obtain ⟨t, ht, rfl⟩ := List.mem_map.mp hp
    exact PySem.W.codeHd_of_K KX (tE t ht).2.2
  · have S := hS _ (eOf_mem hl).1
    have F := hfd _ (eOf_mem hl).1
    rw [eL'] at S F ⊢
    obtain ⟨oc, od, dV, kV, doc, pm, an, cdv, ct, osl, efd, lk, hcd, hD, hK⟩ := F.ex
    have hdV : dV = .none := by
      rcases hD with ⟨_, z⟩ | ⟨z, _⟩
      · exact z
      · exact (z rfl).elim
    subst hdV
    rw [efd]
    have := S.binds kV doc pm an cdv ct [u] (by rw [hx]; rfl)
    rw [hx] at this
    exact .of_eq this
  · obtain ⟨S, e⟩ := math ns hlen hbits
    have hSq' : SqL K (np H) a (ns.map V.int) := by
      rcases hSq with (h | ⟨o, h⟩) | h
      · exact .inl (.inl (np_some h rfl))
      · exact .inl (.inr ⟨o, np_some h rfl⟩)
      · exact .inr h
    have tb : TabOk K H := fun p hp => by
      obtain ⟨t, ht, rfl⟩ := List.mem_map.mp hp
      exact LamX.TabS.nil (hTb (t.1, t.2.1) (List.mem_map.mpr ⟨t, ht, rfl⟩))
    refine ⟨⟨fun _ => none, H⟩, ⟨np H, fun _ => 0, 0⟩, [], [.k (.list (ns.map .int))], ⟨rfl, fun _ _ h => (np_inv h).1, fun _ _ h => (by cases h), fun n c h => (by simp at h), fun n m c c' h => (by simp at h), fun b o h => .inr rfl, fun _ _ h => (np_inv h).2, fun _ _ h => (by cases h), tb⟩, .cons (.k (.list hSq' ?_)) .nil, ?_, ?_⟩
    · rw [List.map_map, List.map_map]; rfl
    · rw [FL.np, eL', hx]; rfl
    · rw [e]
      intro w' H' x' e1 R1 r1
      cases r1 with
      | d r1 => cases r1; rfl
  · have hLm : ∀ f fd, lookF (L.pn (gvOf K L.cs)).Γ f = some fd → f ∈ (L.pn (gvOf K L.cs)).lams → LamF K mg base f (fDat (eOf f)) := fun f fd hf hm => by
      have h9 := c9 f hm
      have F := (fact f fd hf).fn
      obtain ⟨oc, od, dV, kV, doc, pm, an, cdv, ct, osl, efd, lk, _⟩ := F.ex
      unfold lamB at h9
      split at h9
      · rename_i c P eC
        simp only [Bool.and_eq_true, decide_eq_true_eq, List.all_eq_true, Bool.or_eq_true, Bool.not_eq_true', decide_eq_false_iff_not] at h9
        obtain ⟨m1, m2⟩ := h9
        refine ⟨c, P, ?_, TB (c, P) (List.mem_map.mpr ⟨_, m1, rfl⟩), List.mem_map.mpr ⟨_, m1, rfl⟩, fun p hp ep => ?_⟩
        · unfold codeOf at eC
          rw [lk] at eC
          dsimp only at eC
          split at eC
          · rename_i c' ec
            split at eC
            · split at eC
              · cases eC; exact ec
              · cases eC
            · cases eC
          · cases eC
        · obtain ⟨t, ht, rfl⟩ := List.mem_map.mp hp
          rcases m2 t ht with z | z
          · exact (z ep).elim
          · exact z
      · cases h9
    have := all_ok (P := l.prog) (w := w) (base := base) (cA := fun x => He.ga K x) (aOf := fun f => He.ga K f) (fOf := fun f => fDat (eOf f)) c4 hG hg fre (hCX _ _) hET (hErr base) hBs hTr (fun f fd hf => ⟨_, fact f fd hf⟩) hLm k eL.f eL.fd hl _ FL
    rw [eL', hx] at this
    rw [eL']
    exact this
end Ev
end
section
set_option Elab.async false
set_option linter.all false
set_option maxRecDepth 100000
namespace Ev
open PySem PySem.Spec L2
/-- (an equation that simp keeps a proof of) -/
theorem noRfl {α : Sort _} {a b : α} (h : a = b) : a = b := h
section
variable {C : Cfg} {n : Nat} {ρ : Env} {S : List Cell}
theorem m_bnd {α β : Type} {m : M α} {f : α → M β} : bnd m f S = (match m S with
  | .ok a S' => f a S'
  | .ex e S' => .ex e S'
  | .no => .no) := noRfl rfl
theorem m_bok {α β : Type} {a : α} {S' : List Cell} {f : α → M β} : (match (Res.ok a S' : Res α) with
  | .ok a S' => f a S'
  | .ex e S' => .ex e S'
  | .no => .no) = f a S' := rfl
theorem e_var (i : Nat) : ev C (n + 1) (.var i) ρ = lift (ρ[i]?.join) := noRfl rfl
theorem e_c (c : Const) : ev C (n + 1) (.c c) ρ = lift ((constD c).map .d) := noRfl rfl
theorem e_g (j : Nat) : ev C (n + 1) (.g j) ρ = lift (C.glob[j]?.map (·.2)) := noRfl rfl
theorem e_tup (es : List X) : ev C (n + 1) (.tup es) ρ = bnd (mapE (fun e => ev C n e ρ) es) mkTup := noRfl rfl
theorem e_lst (mu : Bool) (es : List X) : ev C (n + 1) (.lst mu es) ρ = bnd (mapE (fun e => ev C n e ρ) es) (mkList mu) := noRfl rfl
theorem e_dnil : ev C (n + 1) .dnil ρ = ret (.d (.dict [])) := noRfl rfl
theorem e_dnew (tk : Bool) : ev C (n + 1) (.dnew tk) ρ = alloc (if tk = true then .dt [] else .dk []) := noRfl rfl
theorem e_dct (mu : Bool) (es : List (X × X)) : ev C (n + 1) (.dct mu es) ρ = bnd (prsE (fun e => ev C n e ρ) es) (mkDict mu) := noRfl rfl
theorem e_bin (mu : Bool) (o : BOp) (a b : X) : ev C (n + 1) (.bin mu o a b) ρ = bnd (ev C n a ρ) fun x => bnd (ev C n b ρ) fun y => binM mu o x y := noRfl rfl
theorem e_neg (a : X) : ev C (n + 1) (.neg a) ρ = bnd (ev C n a ρ) negM := noRfl rfl
theorem e_cmp (o : COp) (a b : X) : ev C (n + 1) (.cmp o a b) ρ = bnd (ev C n a ρ) fun x => bnd (ev C n b ρ) fun y => bnd (cmpM o x y) fun r => ret (.d (.bool r)) := noRfl rfl
theorem e_chn (o p : COp) (a b c : X) : ev C (n + 1) (.chn o p a b c) ρ = bnd (ev C n a ρ) fun x => bnd (ev C n b ρ) fun y => bnd (cmpM o x y) fun r => if r = true then bnd (ev C n c ρ) fun z => bnd (cmpM p y z) fun r => ret (.d (.bool r)) else ret (.d (.bool false)) := noRfl rfl
theorem e_and (es : List X) : ev C (n + 1) (.and_ es) ρ = andE (fun e => ev C n e ρ) es := noRfl rfl
theorem e_or (es : List X) : ev C (n + 1) (.or_ es) ρ = orE (fun e => ev C n e ρ) es := noRfl rfl
theorem e_not (a : X) : ev C (n + 1) (.not_ a) ρ = bnd (ev C n a ρ) fun x => bnd (truB x) fun b => ret (.d (.bool (!b))) := noRfl rfl
theorem e_ite (t a b : X) : ev C (n + 1) (.ite t a b) ρ = bnd (ev C n t ρ) fun x => bnd (truB x) fun c => if c = true then ev C n a ρ else ev C n b ρ := noRfl rfl
theorem e_idx (a i : X) : ev C (n + 1) (.idx a i) ρ = bnd (ev C n a ρ) fun x => bnd (ev C n i ρ) fun y => idxM x y := noRfl rfl
theorem e_sl (mu : Bool) (a : X) (lo hi : Option X) : ev C (n + 1) (.sl mu a lo hi) ρ = bnd (ev C n a ρ) fun x => bnd (optE (fun e => ev C n e ρ) lo) fun l => bnd (optE (fun e => ev C n e ρ) hi) fun h => bnd (viewc x) fun x => bnd (lift (cutD x l h)) (mkRes mu) := noRfl rfl
theorem e_rev (mu : Bool) (a : X) : ev C (n + 1) (.rev mu a) ρ = bnd (ev C n a ρ) fun x => bnd (viewc x) fun x => bnd (lift (revD x)) (mkRes mu) := noRfl rfl
theorem e_call (f : Str) (es : List X) : ev C (n + 1) (.call f es) ρ = bnd (mapE (fun e => ev C n e ρ) es) (C.call f) := noRfl rfl
theorem e_bi (mu : Bool) (b : BI) (es : List X) : ev C (n + 1) (.bi mu b es) ρ = bnd (mapE (fun e => ev C n e ρ) es) (biM mu b) := noRfl rfl
theorem e_rep (a : X) : ev C (n + 1) (.rep a) ρ = bnd (ev C n a ρ) reprM := noRfl rfl
theorem e_isi (ts : List Ty) (a : X) : ev C (n + 1) (.isi ts a) ρ = bnd (ev C n a ρ) (isiM ts) := noRfl rfl
theorem e_me (m : ME) (o : X) (es : List X) : ev C (n + 1) (.me m o es) ρ = bnd (ev C n o ρ) fun x => bnd (tyM m.ty x) fun _ => bnd (mapE (fun e => ev C n e ρ) es) (meM m x) := noRfl rfl
theorem e_comp (mu : Bool) (el : X) (tg : Tg) (it : It) (ts : List X) (own : List Nat) : ev C (n + 1) (.comp mu el tg it ts own) ρ = bnd (itE (fun e => ev C n e ρ) it) fun vs =>
    bnd (compL (fun v => noex (bnd (asgT tg v (wipeE ρ own)) fun ρ' => bnd (testsE (fun e => ev C n e ρ') ts) fun b => if b = true then bnd (ev C n el ρ') fun x => ret (some x) else ret none)) vs) (mkList mu) := noRfl rfl
theorem l_nil {f : X → M Val} : mapE f [] = ret [] := noRfl rfl
theorem l_cons {f : X → M Val} (e : X) (es : List X) : mapE f (e :: es) = bnd (f e) fun v => bnd (mapE f es) fun vs => ret (v :: vs) := noRfl rfl
theorem s_nil {f : T → Env → M Fl} : seqL f [] ρ = ret (.nx ρ) := noRfl rfl
theorem s_cons {f : T → Env → M Fl} (s : T) (r : List T) : seqL f (s :: r) ρ = bnd (f s ρ) fun g => (match g with
    | .nx ρ' => seqL f r ρ'
    | g => ret g) := noRfl rfl
theorem x_asg (tg : Tg) (e : X) : ex C (n + 1) (.asg tg e) ρ = bnd (ev C n e ρ) fun v => bnd (asgT tg v ρ) fun ρ' => ret (.nx ρ') := noRfl rfl
theorem x_rtn (e : X) : ex C (n + 1) (.rtn (some e)) ρ = bnd (ev C n e ρ) fun v => ret (.rt v) := noRfl rfl
theorem x_if (t : X) (a b : List T) : ex C (n + 1) (.if_ t a b) ρ = bnd (ev C n t ρ) fun v => bnd (truB v) fun c => if c = true then seqL (fun s ρ => ex C n s ρ) a ρ else seqL (fun s ρ => ex C n s ρ) b ρ := noRfl rfl
theorem x_ex (e : X) : ex C (n + 1) (.ex e) ρ = bnd (ev C n e ρ) fun _ => ret (.nx ρ) := noRfl rfl
theorem x_sub (o i e : X) : ex C (n + 1) (.sub o i e) ρ = bnd (ev C n e ρ) fun v => bnd (ev C n o ρ) fun x => bnd (ev C n i ρ) fun y => bnd (putM x y v) fun _ => ret (.nx ρ) := noRfl rfl
theorem x_for (tg : Tg) (it : It) (b : List T) : ex C (n + 1) (.for_ tg it b) ρ = bnd (itE (fun e => ev C n e ρ) it) fun vs => forL (fun v ρ => bnd (asgT tg v ρ) fun ρ' => seqL (fun s ρ => ex C n s ρ) b ρ') vs ρ := noRfl rfl
end
theorem compL_map {body : Val → M (Option Val)} {g : Val → Option Val} {S : List Cell} : ∀ {vs : List Val}, (∀ v ∈ vs, body v S = .ok (g v) S) → compL body vs S = .ok (vs.filterMap g) S
  | [], _ => rfl
  | v :: vs, h => by
    have h1 := h v (by simp)
    have h2 := compL_map (vs := vs) fun u hu => h u (by simp [hu])
    show bnd (body v) _ S = _
    rw [bnd_ok h1, bnd_ok h2, List.filterMap_cons]
    cases g v <;> rfl
def wp {α : Type} (m : M α) (S : List Cell) (Q : α → List Cell → Prop) (E : Exn → List Cell → Prop) : Prop := match m S with
  | .ok a S' => Q a S'
  | .ex e S' => E e S'
  | .no => False
section
variable {α β : Type} {S : List Cell} {Q : α → List Cell → Prop} {Q' : β → List Cell → Prop} {E : Exn → List Cell → Prop}
theorem wp_mono {m : M α} {Q2 : α → List Cell → Prop} {E2 : Exn → List Cell → Prop} (h : wp m S Q E) (hQ : ∀ a S', Q a S' → Q2 a S') (hE : ∀ e S', E e S' → E2 e S') : wp m S Q2 E2 := by
  unfold wp at h ⊢
  cases e : m S with
  | ok a S' => rw [e] at h; exact hQ _ _ h
  | ex x S' => rw [e] at h; exact hE _ _ h
  | no => rw [e] at h; exact h
theorem wp_of {m : M α} {a : α} {S' : List Cell} (h : m S = .ok a S') : wp m S Q E = Q a S' := by unfold wp; rw [h]
theorem wp_to {m : M α} {a : α} {S' : List Cell} (h : wp m S (fun b T => b = a ∧ T = S') fun _ _ => False) : m S = .ok a S' := by
  unfold wp at h
  cases e : m S with
  | ok b T => rw [e] at h; rw [h.1, h.2]
  | ex x T => rw [e] at h; exact h.elim
  | no => rw [e] at h; exact h.elim
theorem wp_bnd {m : M α} {f : α → M β} : wp (bnd m f) S Q' E = wp m S (fun a S' => wp (f a) S' Q' E) E := by
  unfold wp bnd
  cases m S <;> rfl
theorem wp_ret {a : α} : wp (Ev.ret a) S Q E = Q a S := noRfl rfl
theorem wp_fail : wp (fail : M α) S Q E = False := noRfl rfl
theorem wp_some {a : α} : wp (lift (some a)) S Q E = Q a S := noRfl rfl
theorem wp_lift {o : Option α} : wp (lift o) S Q E = ∃ a, o = some a ∧ Q a S := by
  cases o with
  | none => simp [wp, lift]
  | some a => simp [wp, lift]
theorem wp_ite {c : Prop} [Decidable c] {m n : M α} : wp (if c then m else n) S Q E = ((c → wp m S Q E) ∧ (¬c → wp n S Q E)) := by
  by_cases h : c <;> simp [h]
theorem wp_guard {b : Bool} {m : M α} : wp (guardM b m) S Q E = (b = true ∧ wp m S Q E) := by
  cases b <;> simp [guardM, wp, fail]
theorem wp_noex {m : M α} : wp (noex m) S Q E = wp m S Q (fun _ _ => False) := by
  unfold wp noex
  cases m S <;> rfl
theorem wp_alloc {c : Cell} {Q : Val → List Cell → Prop} : wp (alloc c) S Q E = Q (.r S.length) (S ++ [c]) := noRfl rfl
theorem wp_tru {b : Bool} {Q : Bool → List Cell → Prop} : wp (truB (.d (.bool b))) S Q E = Q b S := noRfl rfl
theorem wp_view {v : Val} {Q : PyData → List Cell → Prop} : wp (view v) S Q E = ∃ d, vw S v = some d ∧ Q d S := by
  unfold wp view
  cases vw S v <;> simp
theorem wp_viewd {v : Val} {Q : PyData → List Cell → Prop} : wp (viewd v) S Q E = ∃ d, vwd S v = some d ∧ Q d S := by
  unfold wp viewd
  cases vwd S v <;> simp
theorem wp_view_d {x : PyData} {Q : PyData → List Cell → Prop} : wp (view (.d x)) S Q E = Q x S := noRfl rfl
theorem wp_view_k {x : PyData} {Q : PyData → List Cell → Prop} : wp (view (.k x)) S Q E = Q x S := noRfl rfl
theorem wp_viewd_d {x : PyData} {Q : PyData → List Cell → Prop} : wp (viewd (.d x)) S Q E = Q x S := noRfl rfl
theorem wp_viewI_d {x : PyData} {Q : PyData → List Cell → Prop} : wp (viewI (.d x)) S Q E = Q x S := noRfl rfl
theorem wp_viewI_k {x : PyData} {Q : PyData → List Cell → Prop} : wp (viewI (.k x)) S Q E = Q x S := noRfl rfl
theorem wp_viewc_d {x : PyData} {Q : PyData → List Cell → Prop} : wp (viewc (.d x)) S Q E = Q x S := noRfl rfl
theorem wp_list {vs : List Val} {Q : Val → List Cell → Prop} : wp (mkList false vs) S Q E = (vs.length ≤ sizeLine ∧ ∃ ds, allD vs = some ds ∧ Q (.d (.list ds)) S) := by
  unfold mkList
  by_cases h : vs.length ≤ sizeLine
  · rw [if_pos h, if_neg (by decide), wp_lift]
    cases allD vs <;> simp [h]
  · rw [if_neg h]; simp [h, wp, fail]
/-- a comprehension whose turns leave the store as it is -/
theorem wp_comp {body : Val → M (Option Val)} (g : Val → Option Val) {Q : List Val → List Cell → Prop} : ∀ {vs : List Val}, (∀ v ∈ vs, wp (body v) S (fun o S' => o = g v ∧ S' = S) fun _ _ => False) → Q (vs.filterMap g) S → wp (compL body vs) S Q E := fun {vs} h q => by
  have := compL_map (body := body) (g := g) (S := S) (vs := vs) fun v hv => wp_to (h v hv)
  rw [wp_of this]
  exact q
end
theorem callF_succ {Γ : Tab} {G : List (Str × Val)} {n : Nat} {f : Str} {fd : Fn} {vs : List Val} (h : lookF Γ f = some fd) : callF Γ G (n + 1) f vs = callB ⟨callF Γ G n, kwF Γ, G, lowF Γ G n⟩ fd vs := by
  rw [callF_D]
  unfold callD
  rw [h]
theorem wp_pure {Γ : Tab} {G : List (Str × Val)} {n : Nat} {f : Str} {fd : Fn} {vs : List Val} {ds : List PyData} {S : List Cell} {Q : Val → List Cell → Prop} {E : Exn → List Cell → Prop} (h : lookF Γ f = some fd) (hs : fd.shared = false) (hn : vs.length = fd.np) (hd : allD vs = some ds) :
    wp (callF Γ G (n + 1) f vs) S Q E = wp (runB ⟨callF Γ G n, kwF Γ, G, lowF Γ G n⟩ fd vs) [] (fun v S' => ∃ x, freeze S' v = some x ∧ Q (.d x) S) (fun e _ => E e S) := by
  rw [callF_succ h]
  unfold callB
  rw [if_pos hn, hs, if_neg (by decide), hd]
  unfold wp
  dsimp only
  cases runB ⟨callF Γ G n, kwF Γ, G, lowF Γ G n⟩ fd vs [] with
  | ok v S' =>
    dsimp only
    cases freeze S' v <;> simp
  | ex e S' => rfl
  | no => rfl
theorem wp_shared {Γ : Tab} {G : List (Str × Val)} {n : Nat} {f : Str} {fd : Fn} {vs : List Val} {S : List Cell} {Q : Val → List Cell → Prop} {E : Exn → List Cell → Prop} (h : lookF Γ f = some fd) (hs : fd.shared = true) (hn : vs.length = fd.np) :
    wp (callF Γ G (n + 1) f vs) S Q E = wp (runB ⟨callF Γ G n, kwF Γ, G, lowF Γ G n⟩ fd vs) S (fun v S' => Q v (trim S.length v S')) E := by
  rw [callF_succ h]
  unfold callB
  rw [if_pos hn, hs, if_pos rfl]
  unfold wp
  dsimp only
  cases runB ⟨callF Γ G n, kwF Γ, G, lowF Γ G n⟩ fd vs S <;> rfl
/-- a body -/
theorem wp_run {C : Cfg} {fd : Fn} {vs : List Val} {S : List Cell} {Q : Val → List Cell → Prop} {E : Exn → List Cell → Prop} : wp (runB C fd vs) S Q E = wp (seqL (fun s ρ => ex C bodyFuel s ρ) fd.body (startE fd.nslots vs)) S (fun f S' => (match f with
    | .rt v => Q v S'
    | .nx _ => Q (.d .none) S'
    | _ => False)) E := by
  unfold runB
  rw [wp_bnd]
  congr 1
  funext f S'
  cases f <;> rfl
theorem wp_seq {f : T → Env → M Fl} {s : T} {r : List T} {ρ : Env} {S : List Cell} {Q : Fl → List Cell → Prop} {E : Exn → List Cell → Prop} : wp (seqL f (s :: r) ρ) S Q E = wp (f s ρ) S (fun g S' => (match g with
    | .nx ρ' => wp (seqL f r ρ') S' Q E
    | g => Q g S')) E := by
  show wp (bnd (f s ρ) _) S Q E = _
  rw [wp_bnd]
  congr 1
  funext g S'
  cases g <;> rfl
theorem wp_seq0 {f : T → Env → M Fl} {ρ : Env} {S : List Cell} {Q : Fl → List Cell → Prop} {E : Exn → List Cell → Prop} : wp (seqL f [] ρ) S Q E = Q (.nx ρ) S := noRfl rfl
theorem eq_str (a b : Str) : eqG eqN (.str a) (.str b) = some (a == b) := noRfl rfl
theorem eq_int (a b : Int) : eqG eqN (.int a) (.int b) = some (a == b) := noRfl rfl
theorem eq_bool (a b : Bool) : eqG eqN (.bool a) (.bool b) = some (a == b) := noRfl rfl
theorem eq_listN (xs : List PyData) : eqG eqN (.list xs) (.list []) = some xs.isEmpty := by
  show (if xs.length = ([] : List PyData).length then eqL (eqG 63) xs [] else some false) = _
  cases xs with
  | nil => rfl
  | cons x xs => rw [if_neg (by simp)]; rfl
theorem anyEq_strs (a : Str) : ∀ ys : List Str, anyEq (.str a) (ys.map .str) = some (ys.any fun y => y == a)
  | [] => rfl
  | y :: ys => by
    rw [List.map_cons]
    unfold anyEq
    rw [eq_str, anyEq_strs a ys]
    rfl
theorem allD_d : ∀ xs : List PyData, allD (xs.map .d) = some xs
  | [] => rfl
  | x :: xs => by rw [List.map_cons]; unfold allD; rw [allD_d xs]; rfl
theorem allD_map {α : Type} (g : α → PyData) (l : List α) : allD (l.map fun c => .d (g c)) = some (l.map g) := by
  rw [show (l.map fun c => Val.d (g c)) = (l.map g).map .d by rw [List.map_map]; rfl]
  exact allD_d _
theorem boolsL_map {α : Type} (g : α → Bool) : ∀ l : List α, boolsL (l.map fun c => .bool (g c)) = some (l.map g)
  | [] => rfl
  | c :: l => by
    rw [List.map_cons]
    unfold boolsL
    rw [boolsL_map g l]; rfl
theorem fm_some {α β γ : Type} (f : α → β) (g : β → γ) (l : List α) : (l.map f).filterMap (fun v => some (g v)) = l.map fun c => g (f c) := by
  induction l with
  | nil => rfl
  | cons x l ih => rw [List.map_cons, List.filterMap_cons, ih]; rfl
theorem fm_opt {α β γ : Type} (f : α → β) (g : β → Option γ) (l : List α) : (l.map f).filterMap g = l.filterMap fun c => g (f c) := by
  induction l with
  | nil => rfl
  | cons x l ih =>
    rw [List.map_cons, List.filterMap_cons, List.filterMap_cons, ih]
theorem sign_eq (c d : Nat) : (sign c = sign d) ↔ c = d := by
  constructor
  · intro h
    have : (#[c] : Array Nat) = #[d] := congrArg Str.cps h
    simpa using this
  · rintro rfl; rfl
/-- a sign in a text -/
theorem inD_sign (c : Nat) (z : Str) : inD (.str (sign c)) (.str z) = some (decide (c ∈ z.cps.toList)) := noRfl rfl
theorem biM_all {bs : List Bool} {S : List Cell} {Q : Val → List Cell → Prop} {E : Exn → List Cell → Prop} : wp (biM false .all_ [.d (.list (bs.map .bool))]) S Q E = Q (.d (.bool (bs.all id))) S := by
  have h : boolsL (bs.map .bool) = some bs := by
    have := boolsL_map (fun b => b) bs
    simpa using this
  show wp (bnd (bnd (view (.d (.list (bs.map .bool)))) fun x => bnd (Ev.ret []) fun xs => Ev.ret (x :: xs)) fun xs => bnd (lift (biD .all_ xs)) (mkRes false)) S Q E = _
  rw [wp_bnd, wp_bnd, wp_view_d, wp_bnd, wp_ret, wp_ret, wp_bnd]
  show wp (lift ((boolsL (bs.map .bool)).map fun bs => PyData.bool (bs.all id))) S _ E = _
  rw [h]
  rfl
section
variable {S : List Cell} {Q : Bool → List Cell → Prop} {E : Exn → List Cell → Prop}
theorem wp_in_k (x y : PyData) : wp (cmpM .in_ (.d x) (.k y)) S Q E = wp (lift (inD x y)) S Q E := noRfl rfl
theorem wp_in_d (x y : PyData) : wp (cmpM .in_ (.d x) (.d y)) S Q E = wp (lift (inD x y)) S Q E := noRfl rfl
theorem wp_nin_d (x y : PyData) : wp (cmpM .nin (.d x) (.d y)) S Q E = wp (lift (inD x y)) S (fun r => Q (!r)) E := by
  show wp (bnd (inM (.d x) (.d y)) fun r => Ev.ret (!r)) S Q E = _
  rw [wp_bnd]; rfl
theorem wp_nin_k (x y : PyData) : wp (cmpM .nin (.d x) (.k y)) S Q E = wp (lift (inD x y)) S (fun r => Q (!r)) E := by
  show wp (bnd (inM (.d x) (.k y)) fun r => Ev.ret (!r)) S Q E = _
  rw [wp_bnd]; rfl
theorem wp_eq_d (x y : PyData) : wp (cmpM .eq (.d x) (.d y)) S Q E = wp (lift (eqG eqN x y)) S Q E := noRfl rfl
theorem wp_ne_d (x y : PyData) : wp (cmpM .ne (.d x) (.d y)) S Q E = wp (lift (eqG eqN x y)) S (fun r => Q (!r)) E := by
  show wp (lift ((eqG eqN x y).map (!·))) S Q E = _
  cases eqG eqN x y <;> rfl
theorem wp_cmpI (o : COp) (i j : Int) (h : o = .lt ∨ o = .le ∨ o = .gt ∨ o = .ge) : wp (cmpM o (.d (.int i)) (.d (.int j))) S Q E = Q (match o with
    | .lt => decide (i < j)
    | .le => decide (i ≤ j)
    | .gt => decide (j < i)
    | _ => decide (j ≤ i)) S := by
  rcases h with rfl | rfl | rfl | rfl <;> rfl
end
end Ev
end
section
set_option Elab.async false
set_option linter.all false
set_option maxRecDepth 100000
namespace Ev
open PySem PySem.Spec L2
section
variable {S : List Cell} {Q : Val → List Cell → Prop} {E : Exn → List Cell → Prop}
theorem wp_add (i j : Int) : wp (binM false .add (.d (.int i)) (.d (.int j))) S Q E = Q (.d (.int (i + j))) S := noRfl rfl
theorem wp_sub (i j : Int) : wp (binM false .sub (.d (.int i)) (.d (.int j))) S Q E = Q (.d (.int (i - j))) S := noRfl rfl
theorem wp_bin (o : BOp) (x y : PyData) : wp (binM false o (.d x) (.d y)) S Q E = wp (lift (binD o x y)) S (fun z S' => Q (.d z) S') E := by
  show wp (bnd (viewd (.d x)) fun x => bnd (viewd (.d y)) fun y => bnd (lift (binD o x y)) (mkRes false)) S Q E = _
  rw [wp_bnd, wp_viewd_d, wp_bnd, wp_viewd_d, wp_bnd]
  rfl
theorem wp_mul (i j : Int) : wp (binM false .mul (.d (.int i)) (.d (.int j))) S Q E = (i.natAbs.log2 + j.natAbs.log2 < 1000000 ∧ Q (.d (.int (i * j))) S) := by
  rw [wp_bin, wp_lift]
  show (∃ a, (if i.natAbs.log2 + j.natAbs.log2 < 1000000 then some (PyData.int (i * j)) else none) = some a ∧ Q (.d a) S) = _
  by_cases h : i.natAbs.log2 + j.natAbs.log2 < 1000000 <;> simp [h]
theorem wp_mod (i j : Int) : wp (binM false .mod (.d (.int i)) (.d (.int j))) S Q E = (0 < j ∧ Q (.d (.int (i % j))) S) := by
  rw [wp_bin, wp_lift]
  show (∃ a, (if 0 < j then some (PyData.int (i % j)) else none) = some a ∧ Q (.d a) S) = _
  by_cases h : 0 < j <;> simp [h]
theorem wp_fdiv (i j : Int) : wp (binM false .fdiv (.d (.int i)) (.d (.int j))) S Q E = ((0 < j ∧ j.natAbs.log2 < 9000) ∧ Q (.d (.int (i / j))) S) := by
  rw [wp_bin, wp_lift]
  show (∃ a, (if 0 < j ∧ j.natAbs.log2 < 9000 then some (PyData.int (i / j)) else none) = some a ∧ Q (.d a) S) = _
  by_cases h : 0 < j ∧ j.natAbs.log2 < 9000 <;> simp [h]
theorem wp_pow (i j : Int) : wp (binM false .pow (.d (.int i)) (.d (.int j))) S Q E = ((0 ≤ j ∧ j ≤ 1000000 ∧ i.natAbs < 2 ^ 64) ∧ Q (.d (.int (i ^ j.toNat))) S) := by
  rw [wp_bin, wp_lift]
  show (∃ a, (if 0 ≤ j ∧ j ≤ 1000000 ∧ i.natAbs < 2 ^ 64 then some (PyData.int (i ^ j.toNat)) else none) = some a ∧ Q (.d a) S) = _
  by_cases h : 0 ≤ j ∧ j ≤ 1000000 ∧ i.natAbs < 2 ^ 64 <;> simp only [h, if_true, if_false] <;> simp
theorem wp_bi1 (b : BI) (x : PyData) : wp (biM false b [.d x]) S Q E = wp (lift (biD b [x])) S (fun z S' => Q (.d z) S') E := by
  show wp (bnd (lift (biD b [x])) (mkRes false)) S Q E = _
  rw [wp_bnd]; rfl
theorem wp_bi2 (b : BI) (x y : PyData) : wp (biM false b [.d x, .d y]) S Q E = wp (lift (biD b [x, y])) S (fun z S' => Q (.d z) S') E := by
  show wp (bnd (lift (biD b [x, y])) (mkRes false)) S Q E = _
  rw [wp_bnd]; rfl
theorem wp_int (i : Int) : wp (biM false .int_ [.d (.int i)]) S Q E = Q (.d (.int i)) S := by rw [wp_bi1]; rfl
theorem wp_max2 (i j : Int) : wp (biM false .max2 [.d (.int i), .d (.int j)]) S Q E = Q (.d (.int (if j > i then j else i))) S := by rw [wp_bi2]; rfl
theorem wp_idx_dk {n : Nat} {kvs : List (Key × Val)} {k : Str} (h : S[n]? = some (.dk kvs)) : wp (idxM (.r n) (.d (.str k))) S Q E = wp (lift (lookK kvs (.inr k))) S Q E := by
  have : idxM (.r n) (.d (.str k)) S = lift (lookK kvs (.inr k)) S := by
    unfold idxM
    simp only [h]
    rfl
  unfold wp
  rw [this]
theorem wp_put_dk {n : Nat} {kvs : List (Key × Val)} {k : Str} {v : Val} {Q : Unit → List Cell → Prop} (h : S[n]? = some (.dk kvs)) (hl : kvs.length < sizeLine) : wp (putM (.r n) (.d (.str k)) v) S Q E = Q () (S.set n (.dk (storeK kvs (.inr k) v))) := by
  have : putM (.r n) (.d (.str k)) v S = .ok () (S.set n (.dk (storeK kvs (.inr k) v))) := by
    unfold putM
    simp only [h, keyOf, if_pos hl]
  rw [wp_of this]
end
structure DeckK where
  kl : Str
  km : Str
  kd : Str
  ne1 : kl ≠ km
  ne2 : kl ≠ kd
  ne3 : km ≠ kd
def deckS (κ : DeckK) (U : List Cell) (ls : List Int) (m d : Int) : List Cell := .lst (ls.map fun i => .d (.int i)) :: .dk [(.inr κ.kl, .r 0), (.inr κ.km, .d (.int m)), (.inr κ.kd, .d (.int d))] :: U
/-- .. with b draws to come -/
def Deck (κ : DeckK) (U : List Cell) (b : Nat) (S : List Cell) : Prop := ∃ ls m d, S = deckS κ U ls m d ∧ ls.length ≤ 63 ∧ 0 ≤ m ∧ m < 2 ^ 40 ∧ 0 ≤ d ∧ d + b ≤ 2 ^ 100
section
variable {κ : DeckK} {U : List Cell} {ls : List Int} {m d : Int} {Q : Val → List Cell → Prop} {E : Exn → List Cell → Prop}
theorem key_ne {a b : Str} (h : a ≠ b) : ((.inr a : Key) = .inr b) = False := by simp [h]
theorem dk_l : wp (idxM (.r 1) (.d (.str κ.kl))) (deckS κ U ls m d) Q E = Q (.r 0) (deckS κ U ls m d) := by
  rw [wp_idx_dk (kvs := [(.inr κ.kl, .r 0), (.inr κ.km, .d (.int m)), (.inr κ.kd, .d (.int d))]) rfl]
  simp [lookK, wp, lift]
theorem dk_m : wp (idxM (.r 1) (.d (.str κ.km))) (deckS κ U ls m d) Q E = Q (.d (.int m)) (deckS κ U ls m d) := by
  rw [wp_idx_dk (kvs := [(.inr κ.kl, .r 0), (.inr κ.km, .d (.int m)), (.inr κ.kd, .d (.int d))]) rfl]
  simp [lookK, wp, lift, κ.ne1]
theorem dk_d : wp (idxM (.r 1) (.d (.str κ.kd))) (deckS κ U ls m d) Q E = Q (.d (.int d)) (deckS κ U ls m d) := by
  rw [wp_idx_dk (kvs := [(.inr κ.kl, .r 0), (.inr κ.km, .d (.int m)), (.inr κ.kd, .d (.int d))]) rfl]
  simp [lookK, wp, lift, κ.ne2, κ.ne3]
theorem put_m {i : Int} {Q : Unit → List Cell → Prop} : wp (putM (.r 1) (.d (.str κ.km)) (.d (.int i))) (deckS κ U ls m d) Q E = Q () (deckS κ U ls i d) := by
  rw [wp_put_dk (kvs := [(.inr κ.kl, .r 0), (.inr κ.km, .d (.int m)), (.inr κ.kd, .d (.int d))]) rfl (show 3 < sizeLine by rw [sizeLine_eq]; decide)]
  simp [storeK, deckS, κ.ne1, κ.ne3, κ.ne3.symm]
theorem put_d {i : Int} {Q : Unit → List Cell → Prop} : wp (putM (.r 1) (.d (.str κ.kd)) (.d (.int i))) (deckS κ U ls m d) Q E = Q () (deckS κ U ls m i) := by
  rw [wp_put_dk (kvs := [(.inr κ.kl, .r 0), (.inr κ.km, .d (.int m)), (.inr κ.kd, .d (.int d))]) rfl (show 3 < sizeLine by rw [sizeLine_eq]; decide)]
  simp [storeK, deckS, κ.ne2, κ.ne3]
theorem vw_l : vw (deckS κ U ls m d) (.r 0) = some (.list (ls.map .int)) := by
  show (allD (ls.map fun i => .d (.int i))).map PyData.list = _
  rw [allD_map]; rfl
end
/-- the commonest body of _law_draw -/
def draw1 (κ : DeckK) : T := .sub (.var 0) (.c (.str κ.kd)) (.bin false .add (.idx (.var 0) (.c (.str κ.kd))) (.c (.int 1)))
def draw2 (κ : DeckK) (A B C D : Int) : T := .if_ (.cmp .ne (.idx (.var 0) (.c (.str κ.kl))) (.lst false [])) [.asg (.var 3) (.me .pop0 (.idx (.var 0) (.c (.str κ.kl))) []), .if_ (.cmp .ge (.var 3) (.bin false .pow (.c (.int 10)) (.c (.int 18)))) [.ex (.me .append (.idx (.var 0) (.c (.str κ.kl))) [(.bin false .fdiv (.var 3) (.bi false .max2 [(.c (.int 2)), (.var 1)]))]), .rtn (some (.bin false .mod (.bi false .int_ [(.var 3)]) (.var 1)))] [], .sub (.var 0) (.c (.str κ.km)) (.bin false .mod (.bi false .int_ [(.bin false .add (.bin false .add (.bin false .mul (.idx (.var 0) (.c (.str κ.km))) (.c (.int A))) (.bin false .mod (.bi false .int_ [(.var 3)]) (.c (.int B)))) (.c (.int C)))]) (.c (.int D)))] []
def draw3 (κ : DeckK) (E F G H I J K M : Int) : List T := [.asg (.var 2) (.bin false .mod (.bi false .int_ [(.bin false .add (.idx (.var 0) (.c (.str κ.km))) (.bin false .mul (.c (.int E)) (.idx (.var 0) (.c (.str κ.kd)))))]) (.c (.int F))), .asg (.var 2) (.bin false .mod (.bi false .int_ [(.bin false .add (.bin false .add (.bin false .mul (.var 2) (.var 2)) (.bin false .mul (.c (.int G)) (.idx (.var 0) (.c (.str κ.kd))))) (.c (.int H)))]) (.c (.int I))), .asg (.var 2) (.bin false .mod (.bi false .int_ [(.bin false .add (.bin false .mul (.var 2) (.c (.int J))) (.c (.int K)))]) (.c (.int M))), .rtn (some (.bin false .mod (.bi false .int_ [(.bin false .fdiv (.var 2) (.c (.int 64)))]) (.var 1)))]
def drawT (κ : DeckK) (A B C D E F G H I J K M : Int) : List T := draw1 κ :: draw2 κ A B C D :: draw3 κ E F G H I J K M
theorem wp_ge {S : List Cell} {Q : Bool → List Cell → Prop} {E : Exn → List Cell → Prop} (i j : Int) : wp (cmpM .ge (.d (.int i)) (.d (.int j))) S Q E = Q (decide (j ≤ i)) S := noRfl rfl
theorem wp_lst0 {S : List Cell} {Q : Val → List Cell → Prop} {E : Exn → List Cell → Prop} : wp (mkList false []) S Q E = Q (.d (.list [])) S := noRfl rfl
theorem log_small {i : Int} {k : Nat} (h0 : 0 ≤ i) (h : i < 2 ^ k) (hk : k ≤ 1000) : i.natAbs.log2 ≤ 1000 := by
  by_cases hz : i.natAbs = 0
  · rw [hz]; decide
  · have h1 : i.natAbs < 2 ^ k := by
      have : ((i.natAbs : Nat) : Int) < ((2 ^ k : Nat) : Int) := by
        rw [Int.natAbs_of_nonneg h0]; push_cast; exact h
      exact_mod_cast this
    have := (Nat.log2_lt hz).mpr h1
    omega
theorem ne_nil_l {κ : DeckK} {U : List Cell} {ls : List Int} {m d : Int} {Q : Bool → List Cell → Prop} {E : Exn → List Cell → Prop} : wp (cmpM .ne (.r 0) (.d (.list []))) (deckS κ U ls m d) Q E = Q (!(ls.isEmpty)) (deckS κ U ls m d) := by
  show wp (bnd (view (.r 0)) fun x => bnd (view (.d (.list []))) fun y => lift (cmpD .ne x y)) (deckS κ U ls m d) Q E = _
  rw [wp_bnd, wp_view, vw_l]
  simp only [Option.some.injEq, exists_eq_left', wp_bnd, wp_view_d]
  show wp (lift ((eqG eqN (.list (ls.map .int)) (.list [])).map (!·))) _ Q E = _
  rw [eq_listN]
  cases ls <;> rfl
section
variable {κ : DeckK} {U : List Cell} {ls : List Int} {m d c : Int} {Q : Val → List Cell → Prop} {E : Exn → List Cell → Prop}
theorem ty_l {Q : Unit → List Cell → Prop} : wp (tyM .list (.r 0)) (deckS κ U ls m d) Q E = Q () (deckS κ U ls m d) := noRfl rfl
theorem pop_l : wp (meM .pop0 (.r 0) []) (deckS κ U (ls ++ [c]) m d) Q E = Q (.d (.int c)) (deckS κ U ls m d) := by
  have h : meM .pop0 (.r 0) [] (deckS κ U (ls ++ [c]) m d) = .ok (.d (.int c)) (deckS κ U ls m d) := by
    show (match ((ls ++ [c]).map fun i => Val.d (.int i))[((ls ++ [c]).map fun i => Val.d (.int i)).length - 1]? with
        | some v => Res.ok v ((deckS κ U (ls ++ [c]) m d).set 0 (.lst ((ls ++ [c]).map fun i => Val.d (.int i)).dropLast))
        | none => .no) = _
    have e : ((ls ++ [c]).map fun i => Val.d (.int i))[((ls ++ [c]).map fun i => Val.d (.int i)).length - 1]? = some (.d (.int c)) := by simp
    have e2 : ((ls ++ [c]).map fun i => Val.d (.int i)).dropLast = ls.map fun i => .d (.int i) := by
      rw [List.map_append]; simp
    rw [e, e2]
    rfl
  rw [wp_of h]
theorem app_l (h : ls.length < 63) : wp (meM .append (.r 0) [.d (.int c)]) (deckS κ U ls m d) Q E = Q (.d .none) (deckS κ U (ls ++ [c]) m d) := by
  have h : meM .append (.r 0) [.d (.int c)] (deckS κ U ls m d) = .ok (.d .none) (deckS κ U (ls ++ [c]) m d) := by
    show (if (ls.map fun i => Val.d (.int i)).length < sizeLine then Res.ok (Val.d .none) ((deckS κ U ls m d).set 0 (.lst ((ls.map fun i => Val.d (.int i)) ++ [.d (.int c)]))) else .no) = _
    rw [if_pos (by rw [List.length_map, sizeLine_eq]; omega)]
    show Res.ok (Val.d .none) _ = Res.ok _ _
    simp [deckS]
  rw [wp_of h]
end
def Cs (l : List Int) : Prop := ∀ c ∈ l, 0 < c ∧ c < 2 ^ 40
theorem draw_spec {C : Cfg} {κ : DeckK} {U : List Cell} {A B C' D E' F G H I J K M many : Int} {b : Nat} {S : List Cell} {E : Exn → List Cell → Prop} (hc : Cs [A, B, C', D, E', F, G, H, I, J, K, M]) (hm : 1 ≤ many) (hm2 : many < 2 ^ 200) (h : Deck κ U (b + 1) S) :
    wp (seqL (fun s ρ => ex C bodyFuel s ρ) (drawT κ A B C' D E' F G H I J K M) (startE 4 [.r 1, .d (.int many)])) S (fun f S' => ∃ v, f = .rt (.d (.int v)) ∧ 0 ≤ v ∧ v < many ∧ Deck κ U b S') E := by
  obtain ⟨ls, m, d, rfl, hl, m0, m1, d0, d1⟩ := h
  have cA := hc A (by simp)
  have cB := hc B (by simp)
  have cC := hc C' (by simp)
  have cD := hc D (by simp)
  have cE := hc E' (by simp)
  have cF := hc F (by simp)
  have cG := hc G (by simp)
  have cH := hc H (by simp)
  have cI := hc I (by simp)
  have cJ := hc J (by simp)
  have cK := hc K (by simp)
  have cM := hc M (by simp)
  have hdl : (d + 1).natAbs.log2 ≤ 1000 := log_small (by omega) (show d + 1 < 2 ^ 101 by omega) (by decide)
  have fin : ∀ (ls : List Int) (m : Int) (o : Option Val), ls.length ≤ 63 → 0 ≤ m → m < 2 ^ 40 →
      wp (seqL (fun s ρ => ex C 60 s ρ) (draw3 κ E' F G H I J K M) [some (.r 1), some (.d (.int many)), none, o]) (deckS κ U ls m (d + 1)) (fun f S' => ∃ v, f = .rt (.d (.int v)) ∧ 0 ≤ v ∧ v < many ∧ Deck κ U b S') E := fun ls m o hl m0 m1 => by
    simp only [draw3, bodyFuel, wp_seq, wp_seq0, x_asg, x_rtn, x_if, x_ex, x_sub, x_for, e_var, e_c, e_g, e_tup, e_lst, e_dnil, e_dnew, e_dct, e_bin, e_neg, e_cmp, e_chn, e_and, e_or, e_not, e_ite, e_idx, e_sl, e_rev, e_call, e_bi, e_rep, e_isi, e_me, e_comp, andE, orE, startE, wp_bnd, wp_ret, wp_some, wp_tru, wp_fail, wp_noex, wp_guard, isiM, wp_view_d, wp_view_k, wp_viewd_d, wp_viewI_d, wp_viewI_k, wp_viewc_d, l_cons, l_nil, itE, isT, if_pos, itemsD, asgT, testsE, wipeE, List.set_cons_zero, List.set_cons_succ, List.getElem?_cons_zero, List.getElem?_cons_succ, Option.join_some, List.map_cons, List.map_nil, List.cons_append, List.nil_append, List.length_cons, List.length_nil, List.replicate_succ, List.replicate_zero, constD, Option.map_some, mkRes, if_true, if_false, Bool.false_eq_true, Bool.not_true, Bool.not_false, List.any_cons, List.any_nil, Bool.or_false, Bool.false_or, Bool.true_or, optE, dk_l, dk_m, dk_d, put_m, put_d, wp_add, wp_int, wp_mul, wp_mod, wp_fdiv]
    have lc : ∀ {x : Int}, 0 < x ∧ x < 2 ^ 40 → x.natAbs.log2 ≤ 1000 := fun {x} h => log_small (by omega) h.2 (by decide)
    have lm : ∀ {x y : Int}, 0 < y ∧ y < 2 ^ 40 → (x % y).natAbs.log2 ≤ 1000 := fun {x y} h => log_small (Int.emod_nonneg _ (by omega)) (Int.lt_trans (Int.emod_lt_of_pos x h.1) h.2) (by decide)
    have e1 := lc cE
    have e2 := lc cG
    have e3 := lc cJ
    have e4 := lm (x := m + E' * (d + 1)) cF
    have e5 := lm (x := (m + E' * (d + 1)) % F * ((m + E' * (d + 1)) % F) + G * (d + 1) + H) cI
    refine ⟨by omega, cF.1, by omega, by omega, cI.1, by omega, cM.1, ⟨by decide, by decide +kernel⟩, by omega, _, rfl, Int.emod_nonneg _ (by omega), Int.emod_lt_of_pos _ (by omega), ls, m, d + 1, rfl, hl, m0, m1, by omega, by omega⟩
  unfold drawT
  generalize draw3 κ E' F G H I J K M = rest at fin ⊢
  simp only [draw1, draw2, bodyFuel, wp_seq, wp_seq0, x_asg, x_rtn, x_if, x_ex, x_sub, x_for, e_var, e_c, e_g, e_tup, e_lst, e_dnil, e_dnew, e_dct, e_bin, e_neg, e_cmp, e_chn, e_and, e_or, e_not, e_ite, e_idx, e_sl, e_rev, e_call, e_bi, e_rep, e_isi, e_me, e_comp, andE, orE, startE, wp_bnd, wp_ret, wp_some, wp_tru, wp_fail, wp_noex, wp_guard, isiM, wp_view_d, wp_view_k, wp_viewd_d, wp_viewI_d, wp_viewI_k, wp_viewc_d, l_cons, l_nil, itE, isT, if_pos, itemsD, asgT, testsE, wipeE, List.set_cons_zero, List.set_cons_succ, List.getElem?_cons_zero, List.getElem?_cons_succ, Option.join_some, List.map_cons, List.map_nil, List.cons_append, List.nil_append, List.length_cons, List.length_nil, List.replicate_succ, List.replicate_zero, constD, Option.map_some, mkRes, if_true, if_false, Bool.false_eq_true, Bool.not_true, Bool.not_false, List.any_cons, List.any_nil, Bool.or_false, Bool.false_or, Bool.true_or, optE, dk_l, dk_m, dk_d, put_m, put_d, wp_add, wp_int, wp_lst0, ne_nil_l, wp_ite]
  rcases List.eq_nil_or_concat ls with rfl | ⟨l', c, rfl⟩
  · refine ⟨fun z => (by cases z), fun _ => fin [] m none (by decide) m0 m1⟩
  · refine ⟨fun _ => ?_, fun z => absurd (show (!(l'.concat c).isEmpty) = true by simp) z⟩
    rw [List.concat_eq_append] at hl ⊢
    rw [List.length_append, List.length_singleton] at hl
    show wp (tyM .list (.r 0)) _ _ E
    rw [ty_l, pop_l, wp_pow]
    refine ⟨⟨by decide, by decide, by decide⟩, ?_⟩
    rw [wp_ge]
    refine ⟨fun _ => ?_, fun _ => ?_⟩
    · rw [dk_l]
      show wp (tyM .list (.r 0)) _ _ E
      rw [ty_l, wp_max2, wp_fdiv]
      have hmx : 0 < (if many > 2 then many else 2) ∧ (if many > 2 then many else 2) < 2 ^ 200 := by
        by_cases h2 : many > 2
        · rw [if_pos h2]; omega
        · rw [if_neg h2]; omega
      refine ⟨⟨hmx.1, by have := log_small (by omega) hmx.2 (by decide); omega⟩, ?_⟩
      rw [app_l (by omega), wp_int, wp_mod]
      exact ⟨by omega, _, rfl, Int.emod_nonneg _ (by omega), Int.emod_lt_of_pos _ (by omega), _, m, d + 1, rfl, by rw [List.length_append, List.length_singleton]; omega, m0, m1, by omega, by omega⟩
    · rw [dk_m, wp_mul]
      have e1 : m.natAbs.log2 ≤ 1000 := log_small m0 m1 (by decide)
      have e2 : A.natAbs.log2 ≤ 1000 := log_small (by omega) cA.2 (by decide)
      refine ⟨by omega, ?_⟩
      rw [wp_int, wp_mod]
      refine ⟨cB.1, ?_⟩
      rw [wp_add, wp_add, wp_int, wp_mod]
      refine ⟨cD.1, ?_⟩
      rw [put_m]
      exact fin l' _ _ (by omega) (Int.emod_nonneg _ (by omega)) (Int.lt_trans (Int.emod_lt_of_pos _ cD.1) cD.2)
theorem trim_deck {κ : DeckK} {U : List Cell} {ls : List Int} {m d : Int} (v : Val) : trim (U.length + 2) v (deckS κ U ls m d) = deckS κ U ls m d := by
  unfold trim
  have : (deckS κ U ls m d).take (U.length + 2) = deckS κ U ls m d := by
    show _ :: _ :: U.take U.length = _
    rw [List.take_length]
    rfl
  rw [this]
  split <;> rfl
theorem Deck.len {κ : DeckK} {U : List Cell} {b : Nat} {S : List Cell} (h : Deck κ U b S) : S.length = U.length + 2 := by
  obtain ⟨ls, m, d, rfl, _⟩ := h
  rfl
theorem Deck.trim {κ : DeckK} {U : List Cell} {b : Nat} {S : List Cell} (h : Deck κ U b S) (v : Val) : Ev.trim (U.length + 2) v S = S := by
  obtain ⟨ls, m, d, rfl, _⟩ := h
  exact trim_deck v
theorem Deck.less {κ : DeckK} {U : List Cell} {b c : Nat} {S : List Cell} (h : Deck κ U b S) (l : c ≤ b) : Deck κ U c S := by
  obtain ⟨ls, m, d, rfl, h1, h2, h3, h4, h5⟩ := h
  exact ⟨ls, m, d, rfl, h1, h2, h3, h4, by omega⟩
/-- a call that draws: its post from the body's -/
theorem call_deck {Γ : Tab} {G : List (Str × Val)} {n : Nat} {f : Str} {fd : Fn} {vs : List Val} {κ : DeckK} {U : List Cell} {b c : Nat} {S : List Cell} {P : Val → Prop} {E : Exn → List Cell → Prop} (h : lookF Γ f = some fd) (hs : fd.shared = true) (hn : vs.length = fd.np) (hD : Deck κ U b S)
    (hb : wp (seqL (fun s ρ => ex ⟨callF Γ G n, kwF Γ, G, lowF Γ G n⟩ bodyFuel s ρ) fd.body (startE fd.nslots vs)) S (fun f S' => ∃ v, f = .rt v ∧ P v ∧ Deck κ U c S') E) :
    wp (callF Γ G (n + 1) f vs) S (fun v S' => P v ∧ Deck κ U c S') E := by
  rw [wp_shared h hs hn, wp_run, hD.len]
  refine wp_mono hb (fun f S' hq => ?_) fun _ _ h => h
  obtain ⟨v, rfl, p, q⟩ := hq
  exact ⟨p, by rw [q.trim]; exact q⟩
def IntIn (many : Int) (v : Val) : Prop := ∃ i, v = .d (.int i) ∧ 0 ≤ i ∧ i < many
theorem wp_compI {body : Val → M (Option Val)} (I : Nat → List Cell → Prop) (P : Val → Prop) {E : Exn → List Cell → Prop} : ∀ {vs : List Val} {S : List Cell} {Q : List Val → List Cell → Prop}, (∀ i v S, v ∈ vs → I (i + 1) S → wp (body v) S (fun o S' => (∀ x, o = some x → P x) ∧ I i S') fun _ _ => False) → I vs.length S →
    (∀ xs S', (∀ x ∈ xs, P x) → xs.length ≤ vs.length → I 0 S' → Q xs S') → wp (compL body vs) S Q E
  | [], S, Q, _, h0, q => q [] S (fun x h => by cases h) (Nat.le_refl _) h0
  | v :: vs, S, Q, hb, h0, q => by
    show wp (bnd (body v) fun o => bnd (compL body vs) fun r => Ev.ret (o.toList ++ r)) S Q E
    rw [wp_bnd]
    refine wp_mono (hb vs.length v S (by simp) h0) (fun o S1 ⟨p, h1⟩ => ?_) fun _ _ h => h.elim
    rw [wp_bnd]
    refine wp_compI I P (fun i u S hu => hb i u S (by simp [hu])) h1 fun xs S2 px hl h2 => ?_
    rw [wp_ret]
    refine q _ S2 (fun x hx => ?_) ?_ h2
    · rcases List.mem_append.mp hx with hx | hx
      · cases o with
        | none => cases hx
        | some y =>
          have : x = y := by simpa using hx
          exact p x (by rw [this])
      · exact px x hx
    · rw [List.length_append, List.length_cons]
      have : o.toList.length ≤ 1 := by cases o <;> simp
      omega
end Ev
end
section
set_option Elab.async false
set_option linter.all false
set_option maxRecDepth 100000
set_option maxHeartbeats 0
namespace Ev
open PySem PySem.Spec L2
theorem sz (n : Nat) (h : n ≤ 10000) : n ≤ sizeLine := by rw [sizeLine_eq]; omega
theorem sz1 (n : Nat) (h : n ≤ 1000000) : n ≤ sizeLine := by rw [sizeLine_eq]; omega
theorem wp_ex {α : Type} {m : M α} {S : List Cell} {a : α} (h : wp m S (fun b _ => b = a) fun _ _ => False) : ∃ T, m S = .ok a T := by
  unfold wp at h
  cases e : m S with
  | ok b T => rw [e] at h; exact ⟨T, by rw [h]⟩
  | ex x T => rw [e] at h; exact h.elim
  | no => rw [e] at h; exact h.elim
section
variable {C : Cfg} {n : Nat} {ρ : Env} {S : List Cell}
theorem e_callk (f : Str) (es : List X) (ks : List (Str × X)) : ev C (n + 1) (.callk f es ks) ρ = bnd (mapE (fun e => ev C n e ρ) es) fun vs => bnd (mapE (fun e => ev C n e ρ) (ks.map (·.2))) fun ws => (match C.kw f (ks.map (·.1)) es.length with
      | some is => (match kwOrder es.length ks.length is vs ws with
        | some us => C.call f us
        | none => fail)
      | none => fail) := noRfl rfl
theorem x_par (is : List Nat) (es : List X) : ex C (n + 1) (.par is es) ρ = bnd (mapE (fun e => ev C n e ρ) es) (parM is ρ) := noRfl rfl
theorem x_raise (c f : Str) (e : X) : ex C (n + 1) (.raise_ c f e) ρ = bnd (ev C n e ρ) fun v => bnd (lift (dataV v)) fun d => fun S => .ex ⟨c, f, d⟩ S := noRfl rfl
theorem x_while (t : X) (b : List T) : ex C (n + 1) (.while_ t b) ρ = whileL (fun ρ => bnd (ev C n t ρ) truB) (fun ρ => seqL (fun s ρ => ex C n s ρ) b ρ) whileFuel ρ := noRfl rfl
theorem x_cnt : ex C (n + 1) .cnt ρ = ret (.ct ρ) := noRfl rfl
theorem x_brk : ex C (n + 1) .brk ρ = ret (.bk ρ) := noRfl rfl
theorem x_pass : ex C (n + 1) .pass ρ = ret (.nx ρ) := noRfl rfl
theorem x_aug (i : Nat) (o : BOp) (e : X) : ex C (n + 1) (.aug i o e) ρ = bnd (lift (ρ[i]?.join)) fun v => bnd (ev C n e ρ) fun w => bnd (augM o v w) fun x => ret (.nx (ρ.set i (some x))) := noRfl rfl
theorem e_tried (f : Str) (ns i : Nat) (w : HX) (hs : List (Str × Str)) (h : HT) (cf : Str) (as : List Nat) (ks : List (Str × Nat)) : ev C (n + 1) (.tried f ns i w hs h cf as ks) ρ = bnd (lift (slotsV ρ as)) fun vs => bnd (lift (slotsV ρ (ks.map (·.2)))) fun ws => bnd (lift (argsOf C.kw cf as.length (ks.map (·.1)) vs ws)) fun us => (match C.low with
      | some cl => fun S => triedM ns i w hs h (cl cf us S)
      | none => fail) := noRfl rfl
end
section
variable {S : List Cell} {E : Exn → List Cell → Prop}
theorem wp_raise {e : Exn} {Q : Fl → List Cell → Prop} : wp (fun S => Res.ex e S : M Fl) S Q E = E e S := noRfl rfl
theorem wp_par2 {i j : Nat} {ρ : Env} {v w : Val} {Q : Fl → List Cell → Prop} : wp (parM [i, j] ρ [v, w]) S Q E = Q (.nx ((ρ.set i (some v)).set j (some w))) S := noRfl rfl
theorem wp_par3 {i j l : Nat} {ρ : Env} {u v w : Val} {Q : Fl → List Cell → Prop} : wp (parM [i, j, l] ρ [u, v, w]) S Q E = Q (.nx (((ρ.set i (some u)).set j (some v)).set l (some w))) S := noRfl rfl
theorem wp_part {i : Int} {Q : Int → List Cell → Prop} : wp (partI (.d (.int i))) S Q E = Q i S := noRfl rfl
section
variable {Q : Bool → List Cell → Prop}
theorem wp_eqI {i j : Int} : wp (cmpM .eq (.d (.int i)) (.d (.int j))) S Q E = Q (i == j) S := noRfl rfl
theorem wp_neI {i j : Int} : wp (cmpM .ne (.d (.int i)) (.d (.int j))) S Q E = Q (!(i == j)) S := noRfl rfl
theorem wp_gt {i j : Int} : wp (cmpM .gt (.d (.int i)) (.d (.int j))) S Q E = Q (decide (j < i)) S := noRfl rfl
theorem wp_lt {i j : Int} : wp (cmpM .lt (.d (.int i)) (.d (.int j))) S Q E = Q (decide (i < j)) S := noRfl rfl
theorem wp_le {i j : Int} : wp (cmpM .le (.d (.int i)) (.d (.int j))) S Q E = Q (decide (i ≤ j)) S := noRfl rfl
theorem wp_eqS {x y : Str} : wp (cmpM .eq (.d (.str x)) (.d (.str y))) S Q E = Q (x == y) S := noRfl rfl
theorem wp_neS2 {x y : Str} : wp (cmpM .ne (.d (.str x)) (.d (.str y))) S Q E = Q (!(x == y)) S := noRfl rfl
theorem wp_neS {z : Str} : wp (cmpM .ne (.d (.str z)) (.d (.str z))) S Q E = Q false S := by
  rw [wp_ne_d, eq_str, wp_some]
  simp
end
section
variable {Q : Val → List Cell → Prop}
theorem wp_negI {i : Int} : wp (negM (.d (.int i))) S Q E = Q (.d (.int (-i))) S := noRfl rfl
theorem wp_lstD {xs : List PyData} (h : xs.length ≤ 10000) : wp (mkList false (xs.map .d)) S Q E = Q (.d (.list xs)) S := by
  rw [wp_list, allD_d]
  simp [sz _ h]
theorem wp_lst1 {x : PyData} : wp (mkList false [.d x]) S Q E = Q (.d (.list [x])) S := wp_lstD (xs := [x]) (by simp)
theorem wp_tup {xs : List PyData} (h : xs.length ≤ 10000) : wp (mkTup (xs.map .d)) S Q E = Q (.d (.tuple xs)) S := by
  unfold mkTup
  rw [if_pos (by rw [List.length_map]; exact sz _ h), allD_d]
  rfl
theorem wp_tup0 : wp (mkTup []) S Q E = Q (.d (.tuple [])) S := wp_tup (xs := []) (by simp)
theorem wp_tup1 {x : PyData} : wp (mkTup [.d x]) S Q E = Q (.d (.tuple [x])) S := wp_tup (xs := [x]) (by simp)
theorem wp_tup2 {x y : PyData} : wp (mkTup [.d x, .d y]) S Q E = Q (.d (.tuple [x, y])) S := wp_tup (xs := [x, y]) (by simp)
theorem wp_tup3 {x y z : PyData} : wp (mkTup [.d x, .d y, .d z]) S Q E = Q (.d (.tuple [x, y, z])) S := wp_tup (xs := [x, y, z]) (by simp)
theorem wp_addS {a b : Str} (h : a.length + b.length ≤ 1000000) : wp (binM false .add (.d (.str a)) (.d (.str b))) S Q E = Q (.d (.str (a ++ b))) S := by
  rw [wp_bin]
  show wp (lift (if a.length + b.length ≤ sizeLine then some (PyData.str (a ++ b)) else none)) _ _ _ = _
  rw [if_pos (sz1 _ h)]; rfl
theorem wp_addT {a b : List PyData} (h : a.length + b.length ≤ 1000000) : wp (binM false .add (.d (.tuple a)) (.d (.tuple b))) S Q E = Q (.d (.tuple (a ++ b))) S := by
  rw [wp_bin]
  show wp (lift (if a.length + b.length ≤ sizeLine then some (PyData.tuple (a ++ b)) else none)) _ _ _ = _
  rw [if_pos (sz1 _ h)]; rfl
theorem wp_addL {a b : List PyData} (h : a.length + b.length ≤ 1000000) : wp (binM false .add (.d (.list a)) (.d (.list b))) S Q E = Q (.d (.list (a ++ b))) S := by
  rw [wp_bin]
  show wp (lift (if a.length + b.length ≤ sizeLine then some (PyData.list (a ++ b)) else none)) _ _ _ = _
  rw [if_pos (sz1 _ h)]; rfl
theorem wp_lenT {xs : List PyData} : wp (biM false .len [.d (.tuple xs)]) S Q E = Q (.d (.int xs.length)) S := by rw [wp_bi1]; rfl
theorem wp_lenL {xs : List PyData} : wp (biM false .len [.d (.list xs)]) S Q E = Q (.d (.int xs.length)) S := by rw [wp_bi1]; rfl
theorem wp_lenS {z : Str} (h : z.length ≤ 1000000) : wp (biM false .len [.d (.str z)]) S Q E = Q (.d (.int z.length)) S := by
  rw [wp_bi1]
  show wp (lift (if z.length ≤ sizeLine then some (PyData.int z.length) else none)) _ _ _ = _
  rw [if_pos (sz1 _ h)]; rfl
theorem wp_idxT {xs : List PyData} {i : Int} {y : PyData} (h : atI xs i = some y) : wp (idxM (.d (.tuple xs)) (.d (.int i))) S Q E = Q (.d y) S := by
  have : idxM (.d (.tuple xs)) (.d (.int i)) S = .ok (.d y) S := by
    show lift ((atI xs i).map Val.d) S = _
    rw [h]; rfl
  rw [wp_of this]
theorem wp_rep {x : PyData} {y : PyData} (h : reprD x = some y) : wp (reprM (.d x)) S Q E = Q (.d y) S := by
  show wp (bnd (viewd (.d x)) fun x => bnd (lift (reprD x)) fun y => Ev.ret (.d y)) S Q E = _
  rw [wp_bnd, wp_viewd_d, wp_bnd, h]
  rfl
end
theorem wp_cutS {z : Str} {lo hi : Option Int} {Q : PyData → List Cell → Prop} (h : z.length ≤ 1000000) : wp (lift (cutD (.str z) lo hi)) S Q E = Q (.str (cutS z lo hi)) S := by
  show wp (lift (if z.length ≤ sizeLine then some (PyData.str (cutS z lo hi)) else none)) _ _ _ = _
  rw [if_pos (sz1 _ h)]; rfl
theorem wp_cutT {z : List PyData} {lo hi : Option Int} {Q : PyData → List Cell → Prop} : wp (lift (cutD (.tuple z) lo hi)) S Q E = Q (.tuple (cutL z lo hi)) S := noRfl rfl
theorem wp_mkd {x : PyData} {Q : Val → List Cell → Prop} : wp (mkRes false x) S Q E = Q (.d x) S := noRfl rfl
theorem wp_rng1 {m : Int} {Q : List Val → List Cell → Prop} (h : 0 ≤ m) (h2 : m < 2 ^ 62) : wp (rngM [.d (.int m)]) S Q E = Q (rangeL 0 m.toNat) S := by
  show wp (guardM (okR m) (Ev.ret (rangeL 0 m.toNat))) S Q E = _
  rw [wp_guard, wp_ret]
  have : okR m = true := by unfold okR; simp; omega
  simp [this]
theorem wp_tys {z : Str} {Q : Unit → List Cell → Prop} : wp (tyM .str (.d (.str z))) S Q E = Q () S := noRfl rfl
theorem wp_tyt {xs : List PyData} {Q : Unit → List Cell → Prop} : wp (tyM .tuple (.k (.tuple xs))) S Q E = Q () S := noRfl rfl
end
theorem rangeL_len : ∀ (m : Nat) (lo : Int), (rangeL lo m).length = m
  | 0, _ => rfl
  | m + 1, lo => congrArg (· + 1) (rangeL_len m (lo + 1))
theorem atI_nat {α : Type} {xs : List α} {i : Int} (h0 : 0 ≤ i) (h1 : i < xs.length) : ∃ x ∈ xs, atI xs i = some x := by
  have hi : i.toNat < xs.length := by omega
  refine ⟨xs[i.toNat], List.getElem_mem hi, ?_⟩
  unfold atI ixN
  rw [if_pos h0, if_pos h1]
  exact List.getElem?_eq_getElem hi
theorem len_app (a b : Str) : (a ++ b).length = a.length + b.length := by
  show (a.cps ++ b.cps).size = _
  rw [Array.size_append]; rfl
theorem len_join : ∀ ts : List Str, (Str.join "" ts).length = (ts.map (·.length)).sum
  | [] => rfl
  | [t] => by simp [Str.join]
  | t :: u :: r => by
    have ih := len_join (u :: r)
    show (t ++ "" ++ Str.join "" (u :: r)).length = _
    rw [len_app, len_app, ih]
    simp
    rfl
theorem strsL_map : ∀ ys : List Str, strsL (ys.map .str) = some ys
  | [] => rfl
  | y :: ys => by rw [List.map_cons]; unfold strsL; rw [strsL_map ys]; rfl
theorem wp_forS {body : Val → Env → M Fl} (I : List Val → Env → List Cell → Prop) {E : Exn → List Cell → Prop} {Q : Fl → List Cell → Prop} : ∀ {vs : List Val} {ρ : Env} {S : List Cell}, (∀ v vs ρ S, I (v :: vs) ρ S → wp (body v ρ) S (fun f S' => (match f with
      | .nx ρ' => I vs ρ' S'
      | .ct ρ' => I vs ρ' S'
      | .bk ρ' => Q (.nx ρ') S'
      | .rt w => Q (.rt w) S')) E) → I vs ρ S → (∀ ρ S, I [] ρ S → Q (.nx ρ) S) → wp (forL body vs ρ) S Q E
  | [], ρ, S, _, h0, q => q ρ S h0
  | v :: vs, ρ, S, hb, h0, q => by
    show wp (bnd (body v ρ) _) S Q E
    rw [wp_bnd]
    refine wp_mono (hb v vs ρ S h0) (fun f S1 h1 => ?_) fun _ _ h => h
    cases f with
    | nx ρ' => exact wp_forS I hb h1 q
    | ct ρ' => exact wp_forS I hb h1 q
    | bk ρ' => exact h1
    | rt w => exact h1
/-- a loop that is gone through i times more -/
theorem wp_forN {body : Val → Env → M Fl} (I : Nat → Env → List Cell → Prop) {E : Exn → List Cell → Prop} {Q : Fl → List Cell → Prop} {vs : List Val} {ρ : Env} {S : List Cell} (hb : ∀ i v ρ S, v ∈ vs → I (i + 1) ρ S → wp (body v ρ) S (fun f S' => (match f with
      | .nx ρ' => I i ρ' S'
      | .ct ρ' => I i ρ' S'
      | _ => False)) E) (h0 : I vs.length ρ S) (q : ∀ ρ S, I 0 ρ S → Q (.nx ρ) S) : wp (forL body vs ρ) S Q E := by
  refine wp_forS (fun us ρ S => (∀ u ∈ us, u ∈ vs) ∧ I us.length ρ S) (fun v us ρ S h => ?_) ⟨fun _ h => h, h0⟩ fun ρ S h => q ρ S h.2
  refine wp_mono (hb us.length v ρ S (h.1 v (by simp)) h.2) (fun f S1 h1 => ?_) fun _ _ h => h
  cases f with
  | nx ρ' => exact ⟨fun u hu => h.1 u (by simp [hu]), h1⟩
  | ct ρ' => exact ⟨fun u hu => h.1 u (by simp [hu]), h1⟩
  | bk ρ' => exact h1.elim
  | rt w => exact h1.elim
/-- a while, with a measure -/
theorem wp_whileN {test : Env → M Bool} {body : Env → M Fl} (I : Nat → Env → List Cell → Prop) {E : Exn → List Cell → Prop} {Q : Fl → List Cell → Prop} : ∀ (m f : Nat) {ρ : Env} {S : List Cell}, (∀ i ρ S, I i ρ S → wp (test ρ) S (fun b S1 => if b = true then wp (body ρ) S1 (fun g S2 => (match g with
      | .nx ρ' => ∃ j, j < i ∧ I j ρ' S2
      | .ct ρ' => ∃ j, j < i ∧ I j ρ' S2
      | .bk ρ' => Q (.nx ρ') S2
      | .rt w => Q (.rt w) S2)) E else Q (.nx ρ) S1) E) → I m ρ S → m < f → wp (whileL test body f ρ) S Q E := by
  intro m
  induction m using Nat.strongRecOn with
  | ind m ih =>
    intro f ρ S hb h0 hf
    cases f with
    | zero => omega
    | succ f =>
      show wp (bnd (test ρ) _) S Q E
      rw [wp_bnd]
      refine wp_mono (hb m ρ S h0) (fun b S1 h1 => ?_) fun _ _ h => h
      cases b with
      | false => exact h1
      | true =>
        show wp (bnd (body ρ) _) S1 Q E
        rw [wp_bnd]
        rw [if_pos rfl] at h1
        refine wp_mono h1 (fun g S2 h2 => ?_) fun _ _ h => h
        cases g with
        | nx ρ' => obtain ⟨j, hj, h3⟩ := h2; exact ih j hj f hb h3 (by omega)
        | ct ρ' => obtain ⟨j, hj, h3⟩ := h2; exact ih j hj f hb h3 (by omega)
        | bk ρ' => exact h2
        | rt w => exact h2
def pickB : List T := [.rtn (some (.idx (.var 1) (.call ("_law_draw" : PySem.Str) [(.var 0), (.bi false .len [(.var 1)])])))]
structure Lw (Γ : Tab) (κ : DeckK) : Prop where
  draw : ∃ A B C' D E F G' H I J K M ps, Cs [A, B, C', D, E, F, G', H, I, J, K, M] ∧ lookF Γ "_law_draw" = some ⟨2, 4, drawT κ A B C' D E F G' H I J K M, true, ps⟩
  pick : ∃ ps, lookF Γ "_law_pick" = some ⟨2, 2, pickB, true, ps⟩
section
variable {Γ : Tab} {G : List (Str × Val)} {κ : DeckK} {U : List Cell}
theorem Lw.drawE (L : Lw Γ κ) {n : Nat} (b : Nat) {S : List Cell} {many : Int} {E : Exn → List Cell → Prop} (h1 : 1 ≤ many) (h2 : many < 2 ^ 200) (h : Deck κ U (b + 1) S) : wp (callF Γ G (n + 1) "_law_draw" [.r 1, .d (.int many)]) S (fun v S' => IntIn many v ∧ Deck κ U b S') E := by
  obtain ⟨A, B, C', D, E', F, G', H, I, J, K, M, ps, hc, lk⟩ := L.draw
  refine call_deck lk rfl rfl h (wp_mono (draw_spec hc h1 h2 h) (fun f S' q => ?_) fun _ _ h => h)
  obtain ⟨v, rfl, a, c, q⟩ := q
  exact ⟨_, rfl, ⟨v, rfl, a, c⟩, q⟩
/-- a draw, to be followed -/
theorem Lw.drawQ (L : Lw Γ κ) {n : Nat} (b : Nat) {S : List Cell} {many : Int} {Q : Val → List Cell → Prop} {E : Exn → List Cell → Prop} (h1 : 1 ≤ many) (h2 : many < 2 ^ 200) (h : Deck κ U (b + 1) S) (q : ∀ i S', 0 ≤ i → i < many → Deck κ U b S' → Q (.d (.int i)) S') : wp (callF Γ G (n + 1) "_law_draw" [.r 1, .d (.int many)]) S Q E :=
  wp_mono (L.drawE b h1 h2 h) (fun v S' ⟨⟨i, e, a, c⟩, d⟩ => e ▸ q i S' a c d) fun _ _ h => h
theorem Lw.pickQ (L : Lw Γ κ) {n : Nat} (b : Nat) {S : List Cell} {xs : List PyData} {Q : Val → List Cell → Prop} {E : Exn → List Cell → Prop} (h1 : xs ≠ []) (h2 : xs.length ≤ 1000000) (h : Deck κ U (b + 1) S) (q : ∀ x S', x ∈ xs → Deck κ U b S' → Q (.d x) S') : wp (callF Γ G (n + 2) "_law_pick" [.r 1, .d (.list xs)]) S Q E := by
  obtain ⟨ps, lk⟩ := L.pick
  have hl : 1 ≤ xs.length := List.length_pos_iff.mpr h1
  refine wp_mono (Q := fun v S' => (∃ x ∈ xs, v = .d x) ∧ Deck κ U b S') (call_deck lk rfl rfl h ?_) (fun v S' ⟨⟨x, hx, e⟩, d⟩ => e ▸ q x S' hx d) fun _ _ h => h
  simp only [pickB, bodyFuel, wp_seq, wp_seq0, x_asg, x_rtn, x_if, x_ex, x_sub, x_for, e_var, e_c, e_g, e_tup, e_lst, e_dnil, e_dnew, e_dct, e_bin, e_neg, e_cmp, e_chn, e_and, e_or, e_not, e_ite, e_idx, e_sl, e_rev, e_call, e_bi, e_rep, e_isi, e_me, e_comp, andE, orE, startE, wp_bnd, wp_ret, wp_some, wp_tru, wp_fail, wp_noex, wp_guard, isiM, wp_view_d, wp_view_k, wp_viewd_d, wp_viewI_d, wp_viewI_k, wp_viewc_d, l_cons, l_nil, itE, isT, if_pos, itemsD, asgT, testsE, wipeE, List.set_cons_zero, List.set_cons_succ, List.getElem?_cons_zero, List.getElem?_cons_succ, Option.join_some, List.map_cons, List.map_nil, List.cons_append, List.nil_append, List.length_cons, List.length_nil, List.replicate_succ, List.replicate_zero, constD, Option.map_some, mkRes, if_true, if_false, Bool.false_eq_true, Bool.not_true, Bool.not_false, List.any_cons, List.any_nil, Bool.or_false, Bool.false_or, Bool.true_or, optE, wp_lenL]
  refine L.drawQ b (by omega) (Int.lt_of_le_of_lt (show ((xs.length : Nat) : Int) ≤ 1000000 by omega) (by decide)) h fun i S' i0 i1 h' => ?_
  obtain ⟨x, hx, e⟩ := atI_nat i0 i1
  have e : idxM (.d (.list xs)) (.d (.int i)) S' = .ok (.d x) S' := by
    show lift ((atI xs i).map Val.d) S' = _
    rw [e]; rfl
  rw [wp_of e]
  exact ⟨_, rfl, ⟨_, hx, rfl⟩, h'⟩
theorem Lw.pickTQ (L : Lw Γ κ) {n : Nat} (b : Nat) {S : List Cell} {xs : List PyData} {Q : Val → List Cell → Prop} {E : Exn → List Cell → Prop} (h1 : xs ≠ []) (h2 : xs.length ≤ 1000000) (h : Deck κ U (b + 1) S) (q : ∀ x S', x ∈ xs → Deck κ U b S' → Q (.d x) S') : wp (callF Γ G (n + 2) "_law_pick" [.r 1, .d (.tuple xs)]) S Q E := by
  obtain ⟨ps, lk⟩ := L.pick
  have hl : 1 ≤ xs.length := List.length_pos_iff.mpr h1
  refine wp_mono (Q := fun v S' => (∃ x ∈ xs, v = .d x) ∧ Deck κ U b S') (call_deck lk rfl rfl h ?_) (fun v S' ⟨⟨x, hx, e⟩, d⟩ => e ▸ q x S' hx d) fun _ _ h => h
  simp only [pickB, bodyFuel, wp_seq, wp_seq0, x_asg, x_rtn, x_if, x_ex, x_sub, x_for, e_var, e_c, e_g, e_tup, e_lst, e_dnil, e_dnew, e_dct, e_bin, e_neg, e_cmp, e_chn, e_and, e_or, e_not, e_ite, e_idx, e_sl, e_rev, e_call, e_bi, e_rep, e_isi, e_me, e_comp, andE, orE, startE, wp_bnd, wp_ret, wp_some, wp_tru, wp_fail, wp_noex, wp_guard, isiM, wp_view_d, wp_view_k, wp_viewd_d, wp_viewI_d, wp_viewI_k, wp_viewc_d, l_cons, l_nil, itE, isT, if_pos, itemsD, asgT, testsE, wipeE, List.set_cons_zero, List.set_cons_succ, List.getElem?_cons_zero, List.getElem?_cons_succ, Option.join_some, List.map_cons, List.map_nil, List.cons_append, List.nil_append, List.length_cons, List.length_nil, List.replicate_succ, List.replicate_zero, constD, Option.map_some, mkRes, if_true, if_false, Bool.false_eq_true, Bool.not_true, Bool.not_false, List.any_cons, List.any_nil, Bool.or_false, Bool.false_or, Bool.true_or, optE, wp_lenT]
  refine L.drawQ b (by omega) (Int.lt_of_le_of_lt (show ((xs.length : Nat) : Int) ≤ 1000000 by omega) (by decide)) h fun i S' i0 i1 h' => ?_
  obtain ⟨x, hx, e⟩ := atI_nat i0 i1
  rw [wp_idxT e]
  exact ⟨_, rfl, ⟨_, hx, rfl⟩, h'⟩
theorem wp_allocU {b : Nat} {S : List Cell} {c : Cell} {Q : Val → List Cell → Prop} {E : Exn → List Cell → Prop} (h : Deck κ U b S) (q : ∀ S', Deck κ (U ++ [c]) b S' → Q (.r (U.length + 2)) S') : wp (alloc c) S Q E := by
  rw [wp_alloc, h.len]
  refine q _ ?_
  obtain ⟨ls, m, d, rfl, h⟩ := h
  exact ⟨ls, m, d, rfl, h⟩
theorem Deck.at {b j : Nat} {S : List Cell} (h : Deck κ U b S) : S[j + 2]? = U[j]? := by
  obtain ⟨ls, m, d, rfl, h⟩ := h
  rfl
theorem Deck.put {b j : Nat} {S : List Cell} {c : Cell} (h : Deck κ U b S) : Deck κ (U.set j c) b (S.set (j + 2) c) := by
  obtain ⟨ls, m, d, rfl, h⟩ := h
  exact ⟨ls, m, d, rfl, h⟩
theorem wp_tyU {b j : Nat} {S : List Cell} {xs : List Val} {Q : Unit → List Cell → Prop} {E : Exn → List Cell → Prop} (h : Deck κ U b S) (hj : U[j]? = some (.lst xs)) (q : Q () S) : wp (tyM .list (.r (j + 2))) S Q E := by
  have : tyM .list (.r (j + 2)) S = .ok () S := by
    unfold tyM tyOk
    simp only [h.at, hj, if_true]
  rw [wp_of this]; exact q
theorem wp_appU {b j : Nat} {S : List Cell} {xs : List Val} {v : Val} {Q : Val → List Cell → Prop} {E : Exn → List Cell → Prop} (h : Deck κ U b S) (hj : U[j]? = some (.lst xs)) (hl : xs.length < 10000) (q : ∀ S', Deck κ (U.set j (.lst (xs ++ [v]))) b S' → Q (.d .none) S') : wp (meM .append (.r (j + 2)) [v]) S Q E := by
  have e : meM .append (.r (j + 2)) [v] S = .ok (.d .none) (S.set (j + 2) (.lst (xs ++ [v]))) := by
    unfold meM
    simp only [h.at, hj]
    rw [if_pos (by rw [sizeLine_eq]; omega)]
  rw [wp_of e]
  exact q _ h.put
theorem wp_putU {b j k : Nat} {i : Int} {S : List Cell} {xs : List Val} {v : Val} {Q : Unit → List Cell → Prop} {E : Exn → List Cell → Prop} (h : Deck κ U b S) (hj : U[j]? = some (.lst xs)) (hi : ixN xs.length i = some k) (q : ∀ S', Deck κ (U.set j (.lst (xs.set k v))) b S' → Q () S') : wp (putM (.r (j + 2)) (.d (.int i)) v) S Q E := by
  have e : putM (.r (j + 2)) (.d (.int i)) v S = .ok () (S.set (j + 2) (.lst (xs.set k v))) := by
    unfold putM
    simp only [h.at, hj, hi]
  rw [wp_of e]
  exact q _ h.put
theorem wp_idxU {b j : Nat} {i : Int} {S : List Cell} {xs : List Val} {v : Val} {Q : Val → List Cell → Prop} {E : Exn → List Cell → Prop} (h : Deck κ U b S) (hj : U[j]? = some (.lst xs)) (hi : atI xs i = some v) (q : Q v S) : wp (idxM (.r (j + 2)) (.d (.int i))) S Q E := by
  have e : idxM (.r (j + 2)) (.d (.int i)) S = .ok v S := by
    unfold idxM
    simp only [h.at, hj, hi]
    rfl
  rw [wp_of e]
  exact q
theorem vwU {b j : Nat} {S : List Cell} {xs : List PyData} (h : Deck κ U b S) (hj : U[j]? = some (.lst (xs.map .d))) : vw S (.r (j + 2)) = some (.list xs) := by
  unfold vw
  simp only [h.at, hj, allD_d]
  rfl
theorem wp_tupU {b j : Nat} {S : List Cell} {xs : List PyData} {Q : Val → List Cell → Prop} {E : Exn → List Cell → Prop} (h : Deck κ U b S) (hj : U[j]? = some (.lst (xs.map .d))) (q : Q (.d (.tuple xs)) S) : wp (biM false .tuple_ [.r (j + 2)]) S Q E := by
  have e : biM false .tuple_ [.r (j + 2)] S = .ok (.d (.tuple xs)) S := by
    show bnd (bnd (view (.r (j + 2))) fun x => bnd (Ev.ret []) fun xs => Ev.ret (x :: xs)) (fun xs => bnd (lift (biD .tuple_ xs)) (mkRes false)) S = _
    have hv : view (.r (j + 2)) S = .ok (.list xs) S := by
      unfold view
      rw [vwU h hj]
    unfold bnd
    rw [hv]
    rfl
  rw [wp_of e]; exact q
/-- a call that draws, lists of its own being let go; its result is data -/
theorem call_deckA {n : Nat} {f : Str} {fd : Fn} {vs : List Val} {b c : Nat} {S : List Cell} {Q : Val → List Cell → Prop} {E : Exn → List Cell → Prop} (h : lookF Γ f = some fd) (hs : fd.shared = true) (hn : vs.length = fd.np) (hD : Deck κ [] b S)
    (hb : wp (seqL (fun s ρ => ex ⟨callF Γ G n, kwF Γ, G, lowF Γ G n⟩ bodyFuel s ρ) fd.body (startE fd.nslots vs)) S (fun f S' => ∃ x U, f = .rt (.d x) ∧ Deck κ U c S' ∧ ∀ S'', Deck κ [] c S'' → Q (.d x) S'') E) :
    wp (callF Γ G (n + 1) f vs) S Q E := by
  rw [wp_shared h hs hn, wp_run, hD.len]
  refine wp_mono hb (fun f S' hq => ?_) fun _ _ h => h
  obtain ⟨x, U, rfl, ⟨ls, m, d, rfl, h1⟩, q⟩ := hq
  refine q _ ⟨ls, m, d, ?_, h1⟩
  unfold trim
  rw [if_pos]
  · rfl
  · show (true && List.all [_, _] (belowC (([] : List Cell).length + 2))) = true
    have : belowL 2 (ls.map fun i => .d (.int i)) = true := by
      clear h1
      induction ls with
      | nil => rfl
      | cons i ls ih => exact ih
    simp only [List.all_cons, List.all_nil, Bool.and_true, Bool.true_and]
    show (belowL 2 (ls.map fun i => .d (.int i)) && _) = true
    rw [this]
    rfl
/-- a call that draws and makes no objects -/
theorem call_deckD {n : Nat} {f : Str} {fd : Fn} {vs : List Val} {b c : Nat} {S : List Cell} {Q : Val → List Cell → Prop} {E : Exn → List Cell → Prop} (h : lookF Γ f = some fd) (hs : fd.shared = true) (hn : vs.length = fd.np) (hD : Deck κ U b S)
    (hb : wp (seqL (fun s ρ => ex ⟨callF Γ G n, kwF Γ, G, lowF Γ G n⟩ bodyFuel s ρ) fd.body (startE fd.nslots vs)) S (fun f S' => ∃ v, f = .rt v ∧ Deck κ U c S' ∧ Q v S') E) :
    wp (callF Γ G (n + 1) f vs) S Q E := by
  rw [wp_shared h hs hn, wp_run, hD.len]
  refine wp_mono hb (fun f S' hq => ?_) fun _ _ h => h
  obtain ⟨v, rfl, p, q⟩ := hq
  show Q v (trim (U.length + 2) v S')
  rw [p.trim]
  exact q
end
end Ev
end
section
set_option Elab.async false
set_option linter.all false
set_option maxRecDepth 100000
set_option maxHeartbeats 0
namespace Ev
open PySem PySem.Spec L2
structure Sm (d w : Nat) (x : PyData) : Prop where
  s : x.showable = true
  l : x.leavesShort 60 = true
  dp : x.depth ≤ d
  wt : x.weight ≤ w
structure SmL (d w : Nat) (xs : List PyData) : Prop where
  s : PyData.showableAll xs = true
  l : PyData.leavesShortAll 60 xs = true
  dp : PyData.depthAll xs ≤ d
  wt : PyData.weightAll xs ≤ w
theorem Sm.mono {d w d' w' : Nat} {x : PyData} (h : Sm d w x) (a : d ≤ d') (b : w ≤ w') : Sm d' w' x := ⟨h.s, h.l, Nat.le_trans h.dp a, Nat.le_trans h.wt b⟩
theorem SmL.mono {d w d' w' : Nat} {x : List PyData} (h : SmL d w x) (a : d ≤ d') (b : w ≤ w') : SmL d' w' x := ⟨h.s, h.l, Nat.le_trans h.dp a, Nat.le_trans h.wt b⟩
def smB (d w : Nat) (x : PyData) : Bool := x.showable && x.leavesShort 60 && decide (x.depth ≤ d) && decide (x.weight ≤ w)
theorem smB_ok {d w : Nat} {x : PyData} (h : smB d w x = true) : Sm d w x := by
  unfold smB at h
  simp only [Bool.and_eq_true, decide_eq_true_eq] at h
  exact ⟨h.1.1.1, h.1.1.2, h.1.2, h.2⟩
theorem smB_all {d w : Nat} {xs : List PyData} (h : xs.all (smB d w) = true) : ∀ x ∈ xs, Sm d w x := fun x hx => smB_ok (List.all_eq_true.mp h x hx)
theorem Sm.repr {d w : Nat} {x : PyData} (h : Sm d w x) (hd : d ≤ 100) (hw : w ≤ 200000) : reprD x = some (.str x.shown) := by
  unfold reprD
  rw [if_pos]
  refine ⟨h.s, Nat.le_trans h.dp hd, ?_⟩
  have h1 := PyData.shown_le 60 (by decide) x h.l
  have h2 := h.wt
  rw [sizeLine_eq]
  omega
theorem SmL.nil {d w : Nat} : SmL d w [] := ⟨by simp only [PyData.showableAll], by simp only [PyData.leavesShortAll], by simp only [PyData.depthAll]; omega, by simp only [PyData.weightAll]; omega⟩
theorem SmL.cons {d w w' : Nat} {x : PyData} {xs : List PyData} (a : Sm d w x) (b : SmL d w' xs) : SmL d (w + 1 + w') (x :: xs) := by
  refine ⟨?_, ?_, ?_, ?_⟩
  · simp only [PyData.showableAll, a.s, b.s, Bool.and_self]
  · simp only [PyData.leavesShortAll, a.l, b.l, Bool.and_self]
  · have := a.dp; have := b.dp; simp only [PyData.depthAll]; omega
  · have := a.wt; have := b.wt; simp only [PyData.weightAll]; omega
theorem SmL.uncons {d w : Nat} {x : PyData} {xs : List PyData} (h : SmL d w (x :: xs)) : Sm d x.weight x ∧ SmL d (PyData.weightAll xs) xs ∧ x.weight + 1 + PyData.weightAll xs ≤ w := by
  obtain ⟨h1, h2, h3, h4⟩ := h
  simp only [PyData.showableAll, Bool.and_eq_true] at h1
  simp only [PyData.leavesShortAll, Bool.and_eq_true] at h2
  simp only [PyData.depthAll] at h3
  simp only [PyData.weightAll] at h4
  exact ⟨⟨h1.1, h2.1, by omega, Nat.le_refl _⟩, ⟨h1.2, h2.2, by omega, Nat.le_refl _⟩, h4⟩
theorem Sm.tuple {d w : Nat} {xs : List PyData} (h : SmL d w xs) : Sm (d + 1) w (.tuple xs) :=
  ⟨by simp only [PyData.showable]; exact h.s, by simp only [PyData.leavesShort]; exact h.l, by simp only [PyData.depth]; have := h.dp; omega, by simp only [PyData.weight]; exact h.wt⟩
theorem Sm.list {d w : Nat} {xs : List PyData} (h : SmL d w xs) : Sm (d + 1) w (.list xs) :=
  ⟨by simp only [PyData.showable]; exact h.s, by simp only [PyData.leavesShort]; exact h.l, by simp only [PyData.depth]; have := h.dp; omega, by simp only [PyData.weight]; exact h.wt⟩
theorem Sm.untuple {d w : Nat} {xs : List PyData} (h : Sm d w (.tuple xs)) : 1 ≤ d ∧ SmL (d - 1) w xs := by
  obtain ⟨h1, h2, h3, h4⟩ := h
  simp only [PyData.showable] at h1
  simp only [PyData.leavesShort] at h2
  simp only [PyData.depth] at h3
  simp only [PyData.weight] at h4
  exact ⟨by omega, h1, h2, by omega, h4⟩
theorem SmL.len {d w : Nat} {xs : List PyData} (h : SmL d w xs) : xs.length ≤ w := by
  refine Nat.le_trans ?_ h.wt
  clear h
  induction xs with
  | nil => exact Nat.zero_le _
  | cons x xs ih => rw [List.length_cons]; simp only [PyData.weightAll]; omega
theorem SmL.mem {d w : Nat} {xs : List PyData} {x : PyData} (h : SmL d w xs) (hx : x ∈ xs) : Sm d w x := by
  induction xs generalizing w with
  | nil => cases hx
  | cons y ys ih =>
    obtain ⟨a, b, c⟩ := h.uncons
    rcases List.mem_cons.mp hx with rfl | hx
    · exact a.mono (Nat.le_refl _) (by omega)
    · exact (ih b hx).mono (Nat.le_refl _) (by omega)
theorem SmL.append {d : Nat} : ∀ {xs : List PyData} {w w' : Nat} {ys : List PyData}, SmL d w xs → SmL d w' ys → SmL d (w + w') (xs ++ ys)
  | [], w, w', ys, _, h => h.mono (Nat.le_refl _) (by omega)
  | x :: xs, w, w', ys, h, g => by
    obtain ⟨a, b, c⟩ := h.uncons
    exact (SmL.cons a (SmL.append b g)).mono (Nat.le_refl _) (by omega)
theorem weight_split (i : Nat) : ∀ xs : List PyData, PyData.weightAll (xs.take i) + PyData.weightAll (xs.drop i) = PyData.weightAll xs := by
  induction i with
  | zero => intro xs; simp only [List.take_zero, List.drop_zero, PyData.weightAll]; omega
  | succ i ih =>
    intro xs
    cases xs with
    | nil => simp only [List.take_nil, List.drop_nil, PyData.weightAll]
    | cons x xs =>
      simp only [List.take_succ_cons, List.drop_succ_cons, PyData.weightAll]
      have := ih xs
      omega
theorem SmL.split (i : Nat) : ∀ {xs : List PyData} {d w : Nat}, SmL d w xs → SmL d (PyData.weightAll (xs.take i)) (xs.take i) ∧ SmL d (PyData.weightAll (xs.drop i)) (xs.drop i) := by
  induction i with
  | zero => intro xs d w h; exact ⟨SmL.nil.mono (Nat.le_refl _) (Nat.zero_le _), ⟨h.s, h.l, h.dp, Nat.le_refl _⟩⟩
  | succ i ih =>
    intro xs d w h
    cases xs with
    | nil => exact ⟨SmL.nil, SmL.nil⟩
    | cons x xs =>
      obtain ⟨a, b, c⟩ := h.uncons
      obtain ⟨p, q⟩ := ih b
      refine ⟨?_, by rw [List.drop_succ_cons]; exact q⟩
      rw [List.take_succ_cons]
      refine (SmL.cons a p).mono (Nat.le_refl _) ?_
      simp only [PyData.weightAll]; omega
theorem SmL.take {d w : Nat} {xs : List PyData} (i : Nat) (h : SmL d w xs) : SmL d w (xs.take i) := (h.split i).1.mono (Nat.le_refl _) (by have := weight_split i xs; have := h.wt; omega)
theorem SmL.drop {d w : Nat} {xs : List PyData} (i : Nat) (h : SmL d w xs) : SmL d w (xs.drop i) := (h.split i).2.mono (Nat.le_refl _) (by have := weight_split i xs; have := h.wt; omega)
/-- one item of a list in the place of another -/
theorem SmL.swap {d w D W : Nat} {xs : List PyData} {i : Nat} {x y : PyData} (h : SmL d w xs) (hi : xs[i]? = some x) (hy : Sm D (x.weight + W) y) : SmL (max d D) (w + W) (xs.take i ++ [y] ++ xs.drop (i + 1)) := by
  obtain ⟨p, _⟩ := h.split i
  obtain ⟨_, q⟩ := h.split (i + 1)
  have hw := h.wt
  have e1 := weight_split i xs
  have e2 : xs.drop i = x :: xs.drop (i + 1) := by
    obtain ⟨hl, rfl⟩ := List.getElem?_eq_some_iff.mp hi
    exact List.drop_eq_getElem_cons hl
  have e3 : PyData.weightAll (xs.drop i) = x.weight + 1 + PyData.weightAll (xs.drop (i + 1)) := by rw [e2]; simp only [PyData.weightAll]
  refine ((p.mono (Nat.le_max_left d D) (Nat.le_refl _)).append (SmL.cons (hy.mono (Nat.le_max_right d D) (Nat.le_refl _)) (SmL.nil (w := 0))) |>.append (q.mono (Nat.le_max_left d D) (Nat.le_refl _))).mono (Nat.le_refl _) ?_
  omega
theorem SmL.all {d w : Nat} : ∀ {xs : List PyData}, (∀ x ∈ xs, Sm d w x) → SmL d (xs.length * (w + 1)) xs
  | [], _ => SmL.nil
  | x :: xs, h => (SmL.cons (h x (by simp)) (SmL.all fun y hy => h y (by simp [hy]))).mono (Nat.le_refl _) (by rw [List.length_cons, Nat.add_mul]; omega)
theorem sm_none {d w : Nat} : Sm d w .none := ⟨by simp only [PyData.showable], by simp only [PyData.leavesShort], by simp only [PyData.depth]; omega, by simp only [PyData.weight]; omega⟩
theorem sm_bool {d w : Nat} (b : Bool) : Sm d w (.bool b) := ⟨by simp only [PyData.showable], by simp only [PyData.leavesShort], by simp only [PyData.depth]; omega, by simp only [PyData.weight]; omega⟩
theorem sm_int {i : Int} (h0 : 0 ≤ i) (h1 : i ≤ 300) : Sm 0 9 (.int i) := by
  have : ∀ n : Nat, n ≤ 300 → smB 0 9 (.int n) = true := by
    have h : (List.range 301).all (fun n => smB 0 9 (.int (n : Nat))) = true := by decide +kernel
    intro n hn
    exact List.all_eq_true.mp h n (List.mem_range.mpr (by omega))
  have h := this i.toNat (by omega)
  rw [Int.toNat_of_nonneg h0] at h
  exact smB_ok h
theorem sm_str {z : Str} {d w : Nat} (hz : z.length ≤ w) (hc : ∀ c ∈ z.cps.toList, c < 16 ^ 8) : Sm d w (.str z) :=
  ⟨by simp only [PyData.showable], by simp only [PyData.leavesShort]; exact List.all_eq_true.mpr fun c h => decide_eq_true (hc c h), by simp only [PyData.depth]; omega, by simp only [PyData.weight]; exact hz⟩
theorem cutL_pre {α : Type} {xs : List α} {i : Int} (h : 0 ≤ i) : cutL xs none (some i) = xs.take i.toNat := by
  unfold cutL
  rw [HT.sIx_none]
  obtain ⟨k, rfl⟩ : ∃ k : Nat, i = k := ⟨i.toNat, by omega⟩
  rw [HT.sIx_nat, Int.toNat_natCast, Nat.sub_zero, List.drop_zero]
  by_cases h : k ≤ xs.length
  · rw [Nat.min_eq_left h]
  · rw [Nat.min_eq_right (by omega), List.take_length, List.take_of_length_le (by omega)]
theorem cutL_post {α : Type} {xs : List α} {i : Int} (h : 0 ≤ i) : cutL xs (some i) none = xs.drop i.toNat := by
  unfold cutL
  rw [HT.sIx_none]
  obtain ⟨k, rfl⟩ : ∃ k : Nat, i = k := ⟨i.toNat, by omega⟩
  rw [HT.sIx_nat, Int.toNat_natCast]
  by_cases h : k ≤ xs.length
  · rw [Nat.min_eq_left h]
    exact List.take_of_length_le (by rw [List.length_drop]; omega)
  · rw [Nat.min_eq_right (by omega), Nat.sub_self, List.take_zero, List.drop_of_length_le (by omega)]
theorem idx_get {α : Type} {xs : List α} {i : Int} (h0 : 0 ≤ i) (h1 : i < xs.length) : ∃ x, xs[i.toNat]? = some x ∧ x ∈ xs ∧ atI xs i = some x := by
  have hi : i.toNat < xs.length := by omega
  refine ⟨xs[i.toNat], List.getElem?_eq_getElem hi, List.getElem_mem hi, ?_⟩
  unfold atI ixN
  rw [if_pos h0, if_pos h1]
  exact List.getElem?_eq_getElem hi
end Ev
end
section
set_option Elab.async false
set_option linter.all false
set_option maxRecDepth 100000
set_option maxHeartbeats 400000
namespace Ev
open PySem PySem.Spec L2
theorem p_nil {f : X → M Val} : prsE f [] = ret [] := noRfl rfl
theorem p_cons {f : X → M Val} (p : X × X) (r : List (X × X)) : prsE f (p :: r) = bnd (f p.1) fun x => bnd (f p.2) fun v => bnd (keyM x) fun k => bnd (prsE f r) fun kvs => ret ((k, v) :: kvs) := noRfl rfl
theorem wp_keyS {z : Str} {S : List Cell} {Q : Key → List Cell → Prop} {E : Exn → List Cell → Prop} : wp (keyM (.d (.str z))) S Q E = Q (.inr z) S := noRfl rfl
theorem wp_keyI {z : Int} {S : List Cell} {Q : Key → List Cell → Prop} {E : Exn → List Cell → Prop} : wp (keyM (.d (.int z))) S Q E = Q (.inl z) S := noRfl rfl
theorem cutL_map {α β : Type} (f : α → β) (xs : List α) (lo hi : Option Int) : cutL (xs.map f) lo hi = (cutL xs lo hi).map f := by
  unfold cutL
  rw [List.length_map, List.map_take, List.map_drop]
theorem cutL_len {α : Type} (xs : List α) (lo hi : Option Int) : (cutL xs lo hi).length ≤ xs.length := by
  unfold cutL
  rw [List.length_take, List.length_drop]
  omega
theorem wp_viewc_kl {xs : List PyData} {S : List Cell} {Q : PyData → List Cell → Prop} {E : Exn → List Cell → Prop} : wp (viewc (.k (.list xs))) S Q E = Q (.list xs) S := noRfl rfl
theorem wp_dctD {κ : DeckK} {a b c : Val} {S : List Cell} {Q : Val → List Cell → Prop} {E : Exn → List Cell → Prop} : wp (mkDict true [(.inr κ.kl, a), (.inr κ.km, b), (.inr κ.kd, c)]) S Q E = Q (.r S.length) (S ++ [.dk [(.inr κ.kl, a), (.inr κ.km, b), (.inr κ.kd, c)]]) := by
  have e : mkDict true [(.inr κ.kl, a), (.inr κ.km, b), (.inr κ.kd, c)] S = .ok (.r S.length) (S ++ [.dk [(.inr κ.kl, a), (.inr κ.km, b), (.inr κ.kd, c)]]) := by
    simp [mkDict, mergeD, storeK, κ.ne1, κ.ne2, κ.ne3, Ev.alloc]
  rw [wp_of e]
theorem rangeL_mem : ∀ {m : Nat} {lo : Int} {v : Val}, v ∈ rangeL lo m → ∃ i : Int, v = .d (.int i) ∧ lo ≤ i ∧ i < lo + m
  | 0, _, _, h => by cases h
  | m + 1, lo, v, h => by
    rcases List.mem_cons.mp h with rfl | h
    · exact ⟨lo, rfl, by omega, by omega⟩
    · obtain ⟨i, e, a, b⟩ := rangeL_mem h
      exact ⟨i, e, by omega, by omega⟩
/-- the commonest _law_deck(script) -/
def deckB (κ : DeckK) (s A B C D : Int) : List T := [.asg (.var 1) (.c (.int s)), .for_ (.var 2) (.ex (.sl false (.var 0) none (some (.c (.int 63))))) [.asg (.var 1) (.bin false .mod (.bi false .int_ [(.bin false .add (.bin false .add (.bin false .mul (.var 1) (.c (.int A))) (.bin false .mod (.bi false .int_ [(.var 2)]) (.c (.int B)))) (.c (.int C)))]) (.c (.int D)))], .rtn (some (.dct true [((.c (.str κ.kl)), (.rev true (.bi false .list_ [(.sl false (.var 0) none (some (.c (.int 63))))]))), ((.c (.str κ.km)), (.var 1)), ((.c (.str κ.kd)), (.c (.int 0)))]))]
theorem l_deck {Γ : Tab} {G : List (Str × Val)} {n : Nat} {κ : DeckK} {s A B C D : Int} {ps : List Str} {ns : List Int} {Q : Val → List Cell → Prop} {E : Exn → List Cell → Prop} (lk : lookF Γ "_law_deck" = some ⟨1, 3, deckB κ s A B C D, true, ps⟩) (hc : Cs [s, A, B, C, D]) (h : ns.length ≤ 63) (q : ∀ S, Deck κ [] (2 ^ 90) S → Q (.r 1) S) : wp (callF Γ G (n + 1) "_law_deck" [.k (.list (ns.map .int))]) [] Q E := by
  have cs := hc s (by simp)
  have cA := hc A (by simp)
  have cB := hc B (by simp)
  have cC := hc C (by simp)
  have cD := hc D (by simp)
  have hcl := cutL_len ns none (some 63)
  rw [wp_shared lk rfl rfl, wp_run]
  simp only [deckB, bodyFuel, wp_seq, wp_seq0, x_asg, x_rtn, x_if, x_ex, x_sub, x_for, e_var, e_c, e_g, e_tup, e_lst, e_dnil, e_dnew, e_dct, e_bin, e_neg, e_cmp, e_chn, e_and, e_or, e_not, e_ite, e_idx, e_sl, e_rev, e_call, e_bi, e_rep, e_isi, e_me, e_comp, andE, orE, startE, wp_bnd, wp_ret, wp_some, wp_tru, wp_fail, wp_noex, wp_guard, isiM, wp_view_d, wp_view_k, wp_viewd_d, wp_viewI_d, wp_viewI_k, wp_viewc_d, l_cons, l_nil, itE, isT, if_pos, itemsD, asgT, testsE, wipeE, List.set_cons_zero, List.set_cons_succ, List.getElem?_cons_zero, List.getElem?_cons_succ, Option.join_some, List.map_cons, List.map_nil, List.cons_append, List.nil_append, List.length_cons, List.length_nil, List.replicate_succ, List.replicate_zero, constD, Option.map_some, mkRes, if_true, if_false, Bool.false_eq_true, Bool.not_true, Bool.not_false, List.any_cons, List.any_nil, Bool.or_false, Bool.false_or, Bool.true_or, optE, wp_part, wp_viewc_kl]
  show wp (lift (some (PyData.list (cutL (ns.map .int) none (some 63))))) _ _ _
  rw [wp_some, cutL_map]
  generalize cutL ns none (some 63) = ms at hcl
  simp only [bodyFuel, wp_seq, wp_seq0, x_asg, x_rtn, x_if, x_ex, x_sub, x_for, e_var, e_c, e_g, e_tup, e_lst, e_dnil, e_dnew, e_dct, e_bin, e_neg, e_cmp, e_chn, e_and, e_or, e_not, e_ite, e_idx, e_sl, e_rev, e_call, e_bi, e_rep, e_isi, e_me, e_comp, andE, orE, startE, wp_bnd, wp_ret, wp_some, wp_tru, wp_fail, wp_noex, wp_guard, isiM, wp_view_d, wp_view_k, wp_viewd_d, wp_viewI_d, wp_viewI_k, wp_viewc_d, l_cons, l_nil, itE, isT, if_pos, itemsD, asgT, testsE, wipeE, List.set_cons_zero, List.set_cons_succ, List.getElem?_cons_zero, List.getElem?_cons_succ, Option.join_some, List.map_cons, List.map_nil, List.cons_append, List.nil_append, List.length_cons, List.length_nil, List.replicate_succ, List.replicate_zero, constD, Option.map_some, mkRes, if_true, if_false, Bool.false_eq_true, Bool.not_true, Bool.not_false, List.any_cons, List.any_nil, Bool.or_false, Bool.false_or, Bool.true_or, optE]
  refine wp_forN (fun i ρ S => S = [] ∧ ∃ (m : Int) (o : Option Val), ρ = [some (.k (.list (ns.map .int))), some (.d (.int m)), o] ∧ 0 ≤ m ∧ m < 2 ^ 40) (fun i v ρ S hv hI => ?_) ⟨rfl, s, none, rfl, by omega, cs.2⟩ fun ρ S hI => ?_
  · obtain ⟨rfl, m, o, rfl, m0, m1⟩ := hI
    obtain ⟨x, hx, rfl⟩ := List.mem_map.mp hv
    obtain ⟨c, _, rfl⟩ := List.mem_map.mp hx
    simp only [bodyFuel, wp_seq, wp_seq0, x_asg, x_rtn, x_if, x_ex, x_sub, x_for, e_var, e_c, e_g, e_tup, e_lst, e_dnil, e_dnew, e_dct, e_bin, e_neg, e_cmp, e_chn, e_and, e_or, e_not, e_ite, e_idx, e_sl, e_rev, e_call, e_bi, e_rep, e_isi, e_me, e_comp, andE, orE, startE, wp_bnd, wp_ret, wp_some, wp_tru, wp_fail, wp_noex, wp_guard, isiM, wp_view_d, wp_view_k, wp_viewd_d, wp_viewI_d, wp_viewI_k, wp_viewc_d, l_cons, l_nil, itE, isT, if_pos, itemsD, asgT, testsE, wipeE, List.set_cons_zero, List.set_cons_succ, List.getElem?_cons_zero, List.getElem?_cons_succ, Option.join_some, List.map_cons, List.map_nil, List.cons_append, List.nil_append, List.length_cons, List.length_nil, List.replicate_succ, List.replicate_zero, constD, Option.map_some, mkRes, if_true, if_false, Bool.false_eq_true, Bool.not_true, Bool.not_false, List.any_cons, List.any_nil, Bool.or_false, Bool.false_or, Bool.true_or, optE, wp_int, wp_mod, wp_add, wp_mul]
    have e1 : m.natAbs.log2 ≤ 1000 := log_small m0 m1 (by decide)
    have e2 : A.natAbs.log2 ≤ 1000 := log_small (by omega) cA.2 (by decide)
    exact ⟨by omega, cB.1, cD.1, trivial, _, _, rfl, Int.emod_nonneg _ (by omega), Int.lt_trans (Int.emod_lt_of_pos _ cD.1) cD.2⟩
  · obtain ⟨rfl, m, o, rfl, m0, m1⟩ := hI
    simp only [bodyFuel, wp_seq, wp_seq0, x_asg, x_rtn, x_if, x_ex, x_sub, x_for, e_var, e_c, e_g, e_tup, e_lst, e_dnil, e_dnew, e_dct, e_bin, e_neg, e_cmp, e_chn, e_and, e_or, e_not, e_ite, e_idx, e_sl, e_rev, e_call, e_bi, e_rep, e_isi, e_me, e_comp, andE, orE, startE, wp_bnd, wp_ret, wp_some, wp_tru, wp_fail, wp_noex, wp_guard, isiM, wp_view_d, wp_view_k, wp_viewd_d, wp_viewI_d, wp_viewI_k, wp_viewc_d, l_cons, l_nil, itE, isT, if_pos, itemsD, asgT, testsE, wipeE, List.set_cons_zero, List.set_cons_succ, List.getElem?_cons_zero, List.getElem?_cons_succ, Option.join_some, List.map_cons, List.map_nil, List.cons_append, List.nil_append, List.length_cons, List.length_nil, List.replicate_succ, List.replicate_zero, constD, Option.map_some, mkRes, if_true, if_false, Bool.false_eq_true, Bool.not_true, Bool.not_false, List.any_cons, List.any_nil, Bool.or_false, Bool.false_or, Bool.true_or, optE, wp_part, wp_viewc_kl, p_nil, p_cons, wp_keyS]
    show wp (lift (some (PyData.list (cutL (ns.map .int) none (some 63))))) _ _ _
    rw [wp_some, cutL_map, wp_bi1]
    have hd := cutL_len ns none (some 63)
    generalize cutL ns none (some 63) = qs at hd
    show wp (lift (some (PyData.list (qs.map .int)))) _ _ _
    rw [wp_some, wp_viewc_d]
    show wp (lift (some (PyData.list (qs.map .int).reverse))) _ _ _
    rw [wp_some]
    show wp (Ev.alloc (.lst ((qs.map PyData.int).reverse.map .d))) _ _ _
    rw [wp_alloc]
    show wp (mkDict true [(.inr κ.kl, .r 0), (.inr κ.km, .d (.int m)), (.inr κ.kd, .d (.int 0))]) [.lst ((qs.map PyData.int).reverse.map .d)] _ _
    rw [wp_dctD]
    have et : ∀ S, trim 0 (.r 1) S = S := fun S => by simp [trim, below]
    show Q (.r 1) (trim 0 (.r 1) _)
    rw [et]
    refine q _ ⟨qs.reverse, m, 0, ?_, by rw [List.length_reverse]; omega, m0, m1, by decide, by decide⟩
    unfold deckS
    rw [List.map_reverse, List.map_reverse, List.map_map]
    rfl
end Ev
end
section
set_option Elab.async false
set_option linter.all false
set_option maxRecDepth 100000
set_option maxHeartbeats 0
namespace Lk89
open PySem PySem.Spec PyProof.Rows L2
def top (i : Nat) : Stmt := PySem.Challenge.pw_samequick_k89_standings_after_many_steps.main.body.getD i (.Pass ⟨0, 0, 0, 0⟩)
def ershs : List (PySem.Str × PySem.Str) := [(("BadWord" : PySem.Str), ("thing" : PySem.Str)), (("BadNumber" : PySem.Str), ("thing" : PySem.Str)), (("BadStanding" : PySem.Str), ("thing" : PySem.Str)), (("BadMachine" : PySem.Str), ("thing" : PySem.Str))]
def b_is_integer : List Ev.T := [.rtn (some (.and_ [(.isi [.int] (.var 0)), (.not_ (.isi [.bool] (.var 0)))]))]
def f_is_integer : Ev.Fn := ⟨1, 1, b_is_integer, false, [("thing" : PySem.Str)]⟩
def d_is_integer : Ev.Dfn := ⟨("is_integer" : PySem.Str), f_is_integer, ⟨defArgs (top 8), defBody (top 8), defScope (top 8), [("thing" : PySem.Str)], [("thing" : PySem.Str)], false⟩⟩
def b_is_between : List Ev.T := [.rtn (some (.and_ [(.call ("is_integer" : PySem.Str) [(.var 0)]), (.chn .le .le (.var 1) (.var 0) (.var 2))]))]
def f_is_between : Ev.Fn := ⟨3, 3, b_is_between, false, [("thing" : PySem.Str), ("least" : PySem.Str), ("most" : PySem.Str)]⟩
def d_is_between : Ev.Dfn := ⟨("is_between" : PySem.Str), f_is_between, ⟨defArgs (top 9), defBody (top 9), defScope (top 9), [("thing" : PySem.Str), ("least" : PySem.Str), ("most" : PySem.Str)], [("thing" : PySem.Str), ("least" : PySem.Str), ("most" : PySem.Str)], false⟩⟩
def b_is_word_value : List Ev.T := [.rtn (some (.and_ [(.isi [.str] (.var 0)), (.bi false .all_ [(.comp false (.cmp .in_ (.var 1) (.g 0)) (.var 1) (.ex (.var 0)) [] [1])])]))]
def f_is_word_value : Ev.Fn := ⟨1, 2, b_is_word_value, false, [("thing" : PySem.Str)]⟩
def d_is_word_value : Ev.Dfn := ⟨("is_word_value" : PySem.Str), f_is_word_value, ⟨defArgs (top 10), defBody (top 10), defScope (top 10), [("thing" : PySem.Str), ("letter" : PySem.Str)], [("thing" : PySem.Str)], false⟩⟩
def b_need_word : List Ev.T := [.if_ (.not_ (.call ("is_word_value" : PySem.Str) [(.var 0)])) [.raise_ ("BadWord" : PySem.Str) ("thing" : PySem.Str) (.var 0)] []]
def f_need_word : Ev.Fn := ⟨1, 1, b_need_word, false, [("word" : PySem.Str)]⟩
def d_need_word : Ev.Dfn := ⟨("need_word" : PySem.Str), f_need_word, ⟨defArgs (top 11), defBody (top 11), defScope (top 11), [("word" : PySem.Str)], [("word" : PySem.Str)], false⟩⟩
def b_is_rule : List Ev.T := [.if_ (.or_ [(.not_ (.isi [.tuple] (.var 0))), (.cmp .ne (.bi false .len [(.var 0)]) (.c (.int 2)))]) [.rtn (some (.c (.bool false)))] [], .rtn (some (.and_ [(.call ("is_between" : PySem.Str) [(.idx (.var 0) (.c (.int 0))), (.c (.int 0)), (.var 1)]), (.cmp .in_ (.idx (.var 0) (.c (.int 1))) (.g 1))]))]
def f_is_rule : Ev.Fn := ⟨2, 2, b_is_rule, false, [("thing" : PySem.Str), ("many" : PySem.Str)]⟩
def d_is_rule : Ev.Dfn := ⟨("is_rule" : PySem.Str), f_is_rule, ⟨defArgs (top 15), defBody (top 15), defScope (top 15), [("thing" : PySem.Str), ("many" : PySem.Str)], [("thing" : PySem.Str), ("many" : PySem.Str)], false⟩⟩
def b_is_state : List Ev.T := [.rtn (some (.and_ [(.isi [.tuple] (.var 0)), (.cmp .eq (.bi false .len [(.var 0)]) (.bi false .len [(.g 2)])), (.bi false .all_ [(.comp false (.call ("is_rule" : PySem.Str) [(.var 2), (.var 1)]) (.var 2) (.ex (.var 0)) [] [2])])]))]
def f_is_state : Ev.Fn := ⟨2, 3, b_is_state, false, [("thing" : PySem.Str), ("many" : PySem.Str)]⟩
def d_is_state : Ev.Dfn := ⟨("is_state" : PySem.Str), f_is_state, ⟨defArgs (top 16), defBody (top 16), defScope (top 16), [("thing" : PySem.Str), ("many" : PySem.Str), ("rule" : PySem.Str)], [("thing" : PySem.Str), ("many" : PySem.Str)], false⟩⟩
def b_is_machine : List Ev.T := [.rtn (some (.and_ [(.isi [.tuple] (.var 0)), (.cmp .gt (.bi false .len [(.var 0)]) (.c (.int 0))), (.bi false .all_ [(.comp false (.call ("is_state" : PySem.Str) [(.var 1), (.bi false .len [(.var 0)])]) (.var 1) (.ex (.var 0)) [] [1])])]))]
def f_is_machine : Ev.Fn := ⟨1, 2, b_is_machine, false, [("thing" : PySem.Str)]⟩
def d_is_machine : Ev.Dfn := ⟨("is_machine" : PySem.Str), f_is_machine, ⟨defArgs (top 17), defBody (top 17), defScope (top 17), [("thing" : PySem.Str), ("state" : PySem.Str)], [("thing" : PySem.Str)], false⟩⟩
def b_need_machine : List Ev.T := [.if_ (.not_ (.call ("is_machine" : PySem.Str) [(.var 0)])) [.raise_ ("BadMachine" : PySem.Str) ("thing" : PySem.Str) (.var 0)] []]
def f_need_machine : Ev.Fn := ⟨1, 1, b_need_machine, false, [("machine" : PySem.Str)]⟩
def d_need_machine : Ev.Dfn := ⟨("need_machine" : PySem.Str), f_need_machine, ⟨defArgs (top 18), defBody (top 18), defScope (top 18), [("machine" : PySem.Str)], [("machine" : PySem.Str)], false⟩⟩
def b_need_count : List Ev.T := [.if_ (.or_ [(.not_ (.call ("is_integer" : PySem.Str) [(.var 0)])), (.cmp .lt (.var 0) (.c (.int 0)))]) [.raise_ ("BadNumber" : PySem.Str) ("thing" : PySem.Str) (.var 0)] []]
def f_need_count : Ev.Fn := ⟨1, 1, b_need_count, false, [("thing" : PySem.Str)]⟩
def d_need_count : Ev.Dfn := ⟨("need_count" : PySem.Str), f_need_count, ⟨defArgs (top 19), defBody (top 19), defScope (top 19), [("thing" : PySem.Str)], [("thing" : PySem.Str)], false⟩⟩
def b_is_standing_value : List Ev.T := [.if_ (.or_ [(.not_ (.isi [.tuple] (.var 1))), (.cmp .ne (.bi false .len [(.var 1)]) (.c (.int 3))), (.not_ (.call ("is_between" : PySem.Str) [(.idx (.var 1) (.c (.int 0))), (.c (.int 0)), (.bi false .len [(.var 0)])]))]) [.rtn (some (.c (.bool false)))] [], .rtn (some (.and_ [(.call ("is_word_value" : PySem.Str) [(.idx (.var 1) (.c (.int 1)))]), (.call ("is_word_value" : PySem.Str) [(.idx (.var 1) (.c (.int 2)))])]))]
def f_is_standing_value : Ev.Fn := ⟨2, 2, b_is_standing_value, false, [("machine" : PySem.Str), ("thing" : PySem.Str)]⟩
def d_is_standing_value : Ev.Dfn := ⟨("is_standing_value" : PySem.Str), f_is_standing_value, ⟨defArgs (top 20), defBody (top 20), defScope (top 20), [("machine" : PySem.Str), ("thing" : PySem.Str)], [("machine" : PySem.Str), ("thing" : PySem.Str)], false⟩⟩
def b_done : List Ev.T := [.if_ (.cmp .eq (.var 0) (.c (.str ("put0" : PySem.Str)))) [.rtn (some (.tup [(.bin false .add (.var 1) (.c (.str ("0" : PySem.Str)))), (.var 2)]))] [], .if_ (.cmp .eq (.var 0) (.c (.str ("put1" : PySem.Str)))) [.rtn (some (.tup [(.bin false .add (.var 1) (.c (.str ("1" : PySem.Str)))), (.var 2)]))] [], .if_ (.cmp .eq (.var 0) (.c (.str ("cut" : PySem.Str)))) [.rtn (some (.tup [(.sl false (.var 1) none (some (.neg (.c (.int 1))))), (.var 2)]))] [], .if_ (.cmp .eq (.var 0) (.c (.str ("over" : PySem.Str)))) [.rtn (some (.tup [(.sl false (.var 1) none (some (.neg (.c (.int 1))))), (.bin false .add (.var 2) (.sl false (.var 1) (some (.neg (.c (.int 1)))) none))]))] [], .if_ (.cmp .eq (.var 0) (.c (.str ("back" : PySem.Str)))) [.rtn (some (.tup [(.bin false .add (.var 1) (.sl false (.var 2) (some (.neg (.c (.int 1)))) none)), (.sl false (.var 2) none (some (.neg (.c (.int 1)))))]))] [], .rtn (some (.tup [(.var 1), (.var 2)]))]
def f_done : Ev.Fn := ⟨3, 3, b_done, false, [("deed" : PySem.Str), ("left" : PySem.Str), ("right" : PySem.Str)]⟩
def d_done : Ev.Dfn := ⟨("done" : PySem.Str), f_done, ⟨defArgs (top 21), defBody (top 21), defScope (top 21), [("deed" : PySem.Str), ("left" : PySem.Str), ("right" : PySem.Str)], [("deed" : PySem.Str), ("left" : PySem.Str), ("right" : PySem.Str)], false⟩⟩
def b_standing_behind : List Ev.T := [.asg (.tup [(.var 2), (.var 3), (.var 4)]) (.var 1), .if_ (.cmp .eq (.var 2) (.bi false .len [(.var 0)])) [.rtn (some (.var 1))] [], .asg (.tup [(.var 5), (.var 6)]) (.idx (.idx (.var 0) (.var 2)) (.me .index (.g 2) [(.sl false (.var 3) (some (.neg (.c (.int 1)))) none)])), .asg (.tup [(.var 7), (.var 8)]) (.call ("done" : PySem.Str) [(.var 6), (.var 3), (.var 4)]), .rtn (some (.tup [(.var 5), (.var 7), (.var 8)]))]
def f_standing_behind : Ev.Fn := ⟨2, 9, b_standing_behind, false, [("machine" : PySem.Str), ("standing" : PySem.Str)]⟩
def d_standing_behind : Ev.Dfn := ⟨("standing_behind" : PySem.Str), f_standing_behind, ⟨defArgs (top 22), defBody (top 22), defScope (top 22), [("machine" : PySem.Str), ("standing" : PySem.Str), ("state" : PySem.Str), ("left" : PySem.Str), ("right" : PySem.Str), ("follower" : PySem.Str), ("deed" : PySem.Str), ("new_left" : PySem.Str), ("new_right" : PySem.Str)], [("machine" : PySem.Str), ("standing" : PySem.Str)], false⟩⟩
def b_last_standing : List Ev.T := [.asg (.var 3) (.tup [(.c (.int 0)), (.var 1), (.c (.str ("" : PySem.Str)))]), .while_ (.and_ [(.cmp .gt (.var 2) (.c (.int 0))), (.cmp .lt (.idx (.var 3) (.c (.int 0))) (.bi false .len [(.var 0)]))]) [.asg (.var 3) (.call ("standing_behind" : PySem.Str) [(.var 0), (.var 3)]), .aug 2 .sub (.c (.int 1))], .rtn (some (.var 3))]
def f_last_standing : Ev.Fn := ⟨3, 4, b_last_standing, false, [("machine" : PySem.Str), ("word" : PySem.Str), ("many" : PySem.Str)]⟩
def d_last_standing : Ev.Dfn := ⟨("last_standing" : PySem.Str), f_last_standing, ⟨defArgs (top 23), defBody (top 23), defScope (top 23), [("machine" : PySem.Str), ("word" : PySem.Str), ("many" : PySem.Str), ("standing" : PySem.Str)], [("machine" : PySem.Str), ("word" : PySem.Str), ("many" : PySem.Str)], false⟩⟩
def b_pile_step : List Ev.T := [.ex (.call ("need_machine" : PySem.Str) [(.var 0)]), .if_ (.not_ (.call ("is_standing_value" : PySem.Str) [(.var 0), (.var 1)])) [.raise_ ("BadStanding" : PySem.Str) ("thing" : PySem.Str) (.var 1)] [], .rtn (some (.call ("standing_behind" : PySem.Str) [(.var 0), (.var 1)]))]
def f_pile_step : Ev.Fn := ⟨2, 2, b_pile_step, false, [("machine" : PySem.Str), ("standing" : PySem.Str)]⟩
def d_pile_step : Ev.Dfn := ⟨("pile_step" : PySem.Str), f_pile_step, ⟨defArgs (top 24), defBody (top 24), defScope (top 24), [("machine" : PySem.Str), ("standing" : PySem.Str)], [("machine" : PySem.Str), ("standing" : PySem.Str)], false⟩⟩
def b_standing_after : List Ev.T := [.ex (.call ("need_machine" : PySem.Str) [(.var 0)]), .ex (.call ("need_word" : PySem.Str) [(.var 1)]), .ex (.call ("need_count" : PySem.Str) [(.var 2)]), .rtn (some (.call ("last_standing" : PySem.Str) [(.var 0), (.var 1), (.var 2)]))]
def f_standing_after : Ev.Fn := ⟨3, 3, b_standing_after, false, [("machine" : PySem.Str), ("word" : PySem.Str), ("many" : PySem.Str)]⟩
def d_standing_after : Ev.Dfn := ⟨("standing_after" : PySem.Str), f_standing_after, ⟨defArgs (top 25), defBody (top 25), defScope (top 25), [("machine" : PySem.Str), ("word" : PySem.Str), ("many" : PySem.Str)], [("machine" : PySem.Str), ("word" : PySem.Str), ("many" : PySem.Str)], false⟩⟩
def b__law_deck : List Ev.T := [.asg (.var 1) (.c (.int 13745089)), .for_ (.var 2) (.ex (.sl false (.var 0) none (some (.c (.int 63))))) [.asg (.var 1) (.bin false .mod (.bi false .int_ [(.bin false .add (.bin false .add (.bin false .mul (.var 1) (.c (.int 39373))) (.bin false .mod (.bi false .int_ [(.var 2)]) (.c (.int 2147483629)))) (.c (.int 11)))]) (.c (.int 2147483563)))], .rtn (some (.dct true [((.c (.str ("left" : PySem.Str))), (.rev true (.bi false .list_ [(.sl false (.var 0) none (some (.c (.int 63))))]))), ((.c (.str ("mixed" : PySem.Str))), (.var 1)), ((.c (.str ("draws" : PySem.Str))), (.c (.int 0)))]))]
def f__law_deck : Ev.Fn := ⟨1, 3, b__law_deck, true, [("script" : PySem.Str)]⟩
def d__law_deck : Ev.Dfn := ⟨("_law_deck" : PySem.Str), f__law_deck, ⟨defArgs (top 27), defBody (top 27), defScope (top 27), [("script" : PySem.Str), ("mixed" : PySem.Str), ("cell" : PySem.Str)], [("script" : PySem.Str)], false⟩⟩
def b__law_draw : List Ev.T := [.sub (.var 0) (.c (.str ("draws" : PySem.Str))) (.bin false .add (.idx (.var 0) (.c (.str ("draws" : PySem.Str)))) (.c (.int 1))), .if_ (.cmp .ne (.idx (.var 0) (.c (.str ("left" : PySem.Str)))) (.lst false [])) [.asg (.var 3) (.me .pop0 (.idx (.var 0) (.c (.str ("left" : PySem.Str)))) []), .if_ (.cmp .ge (.var 3) (.bin false .pow (.c (.int 10)) (.c (.int 18)))) [.ex (.me .append (.idx (.var 0) (.c (.str ("left" : PySem.Str)))) [(.bin false .fdiv (.var 3) (.bi false .max2 [(.c (.int 2)), (.var 1)]))]), .rtn (some (.bin false .mod (.bi false .int_ [(.var 3)]) (.var 1)))] [], .sub (.var 0) (.c (.str ("mixed" : PySem.Str))) (.bin false .mod (.bi false .int_ [(.bin false .add (.bin false .add (.bin false .mul (.idx (.var 0) (.c (.str ("mixed" : PySem.Str)))) (.c (.int 48271))) (.bin false .mod (.bi false .int_ [(.var 3)]) (.c (.int 2147483587)))) (.c (.int 5)))]) (.c (.int 2147483629)))] [], .asg (.var 2) (.bin false .mod (.bi false .int_ [(.bin false .add (.idx (.var 0) (.c (.str ("mixed" : PySem.Str)))) (.bin false .mul (.c (.int 69621)) (.idx (.var 0) (.c (.str ("draws" : PySem.Str))))))]) (.c (.int 2147483647))), .asg (.var 2) (.bin false .mod (.bi false .int_ [(.bin false .add (.bin false .add (.bin false .mul (.var 2) (.var 2)) (.bin false .mul (.c (.int 40014)) (.idx (.var 0) (.c (.str ("draws" : PySem.Str)))))) (.c (.int 7)))]) (.c (.int 2147483563))), .asg (.var 2) (.bin false .mod (.bi false .int_ [(.bin false .add (.bin false .mul (.var 2) (.c (.int 30269))) (.c (.int 101)))]) (.c (.int 2147483587))), .rtn (some (.bin false .mod (.bi false .int_ [(.bin false .fdiv (.var 2) (.c (.int 64)))]) (.var 1)))]
def f__law_draw : Ev.Fn := ⟨2, 4, b__law_draw, true, [("deck" : PySem.Str), ("many" : PySem.Str)]⟩
def d__law_draw : Ev.Dfn := ⟨("_law_draw" : PySem.Str), f__law_draw, ⟨defArgs (top 28), defBody (top 28), defScope (top 28), [("deck" : PySem.Str), ("many" : PySem.Str), ("figure" : PySem.Str), ("cell" : PySem.Str)], [("deck" : PySem.Str), ("many" : PySem.Str)], false⟩⟩
def b__law_pick : List Ev.T := [.rtn (some (.idx (.var 1) (.call ("_law_draw" : PySem.Str) [(.var 0), (.bi false .len [(.var 1)])])))]
def f__law_pick : Ev.Fn := ⟨2, 2, b__law_pick, true, [("deck" : PySem.Str), ("some" : PySem.Str)]⟩
def d__law_pick : Ev.Dfn := ⟨("_law_pick" : PySem.Str), f__law_pick, ⟨defArgs (top 29), defBody (top 29), defScope (top 29), [("deck" : PySem.Str), ("some" : PySem.Str)], [("deck" : PySem.Str), ("some" : PySem.Str)], false⟩⟩
def b__law_word : List Ev.T := [.rtn (some (.me .join (.c (.str ("" : PySem.Str))) [(.comp false (.call ("_law_pick" : PySem.Str) [(.var 0), (.lst false [(.c (.str ("0" : PySem.Str))), (.c (.str ("1" : PySem.Str)))])]) (.var 2) (.rng [(.call ("_law_draw" : PySem.Str) [(.var 0), (.bin false .add (.var 1) (.c (.int 1)))])]) [] [2])]))]
def f__law_word : Ev.Fn := ⟨2, 3, b__law_word, true, [("deck" : PySem.Str), ("most" : PySem.Str)]⟩
def d__law_word : Ev.Dfn := ⟨("_law_word" : PySem.Str), f__law_word, ⟨defArgs (top 30), defBody (top 30), defScope (top 30), [("deck" : PySem.Str), ("most" : PySem.Str), ("place" : PySem.Str)], [("deck" : PySem.Str), ("most" : PySem.Str)], false⟩⟩
def b__law_same : List Ev.T := [.rtn (some (.cmp .eq (.rep (.var 0)) (.rep (.var 1))))]
def f__law_same : Ev.Fn := ⟨2, 2, b__law_same, false, [("told" : PySem.Str), ("due" : PySem.Str)]⟩
def d__law_same : Ev.Dfn := ⟨("_law_same" : PySem.Str), f__law_same, ⟨defArgs (top 31), defBody (top 31), defScope (top 31), [("told" : PySem.Str), ("due" : PySem.Str)], [("told" : PySem.Str), ("due" : PySem.Str)], false⟩⟩
def b__law_is_integer : List Ev.T := [.rtn (some (.and_ [(.isi [.int] (.var 0)), (.not_ (.isi [.bool] (.var 0)))]))]
def f__law_is_integer : Ev.Fn := ⟨1, 1, b__law_is_integer, false, [("thing" : PySem.Str)]⟩
def d__law_is_integer : Ev.Dfn := ⟨("_law_is_integer" : PySem.Str), f__law_is_integer, ⟨defArgs (top 32), defBody (top 32), defScope (top 32), [("thing" : PySem.Str)], [("thing" : PySem.Str)], false⟩⟩
def b__law_is_number : List Ev.T := [.rtn (some (.and_ [(.call ("_law_is_integer" : PySem.Str) [(.var 0)]), (.cmp .ge (.var 0) (.c (.int 0)))]))]
def f__law_is_number : Ev.Fn := ⟨1, 1, b__law_is_number, false, [("thing" : PySem.Str)]⟩
def d__law_is_number : Ev.Dfn := ⟨("_law_is_number" : PySem.Str), f__law_is_number, ⟨defArgs (top 33), defBody (top 33), defScope (top 33), [("thing" : PySem.Str)], [("thing" : PySem.Str)], false⟩⟩
def b__law_is_word : List Ev.T := [.rtn (some (.and_ [(.isi [.str] (.var 0)), (.cmp .eq (.comp false (.var 1) (.var 1) (.ex (.var 0)) [(.cmp .nin (.var 1) (.tup [(.c (.str ("0" : PySem.Str))), (.c (.str ("1" : PySem.Str)))]))] [1]) (.lst false []))]))]
def f__law_is_word : Ev.Fn := ⟨1, 2, b__law_is_word, false, [("thing" : PySem.Str)]⟩
def d__law_is_word : Ev.Dfn := ⟨("_law_is_word" : PySem.Str), f__law_is_word, ⟨defArgs (top 34), defBody (top 34), defScope (top 34), [("thing" : PySem.Str), ("sign" : PySem.Str)], [("thing" : PySem.Str)], false⟩⟩
def b__law_machine : List Ev.T := [.par [4, 5, 6] [(.bin false .add (.c (.int 1)) (.call ("_law_draw" : PySem.Str) [(.var 0), (.var 1)])), (.lst true []), (.call ("_law_pick" : PySem.Str) [(.var 0), (.lst false [(.c (.int 6)), (.c (.int 3)), (.c (.int 40))])])], .asg (.var 2) (.lst false [(.c (.str ("over" : PySem.Str))), (.c (.str ("put1" : PySem.Str))), (.c (.str ("stay" : PySem.Str))), (.c (.str ("cut" : PySem.Str))), (.c (.str ("back" : PySem.Str))), (.c (.str ("put0" : PySem.Str)))]), .if_ (.cmp .eq (.call ("_law_draw" : PySem.Str) [(.var 0), (.c (.int 2))]) (.c (.int 0))) [.asg (.var 2) (.call ("_law_pick" : PySem.Str) [(.var 0), (.lst false [(.lst false [(.c (.str ("over" : PySem.Str))), (.c (.str ("back" : PySem.Str))), (.c (.str ("put1" : PySem.Str))), (.c (.str ("over" : PySem.Str))), (.c (.str ("back" : PySem.Str)))]), (.lst false [(.c (.str ("put0" : PySem.Str))), (.c (.str ("over" : PySem.Str))), (.c (.str ("put1" : PySem.Str))), (.c (.str ("back" : PySem.Str))), (.c (.str ("over" : PySem.Str)))])])])] [], .for_ (.var 3) (.rng [(.var 4)]) [.asg (.var 7) (.lst true []), .for_ (.var 8) (.rng [(.c (.int 3))]) [.asg (.var 9) (.ite (.cmp .eq (.call ("_law_draw" : PySem.Str) [(.var 0), (.var 6)]) (.c (.int 0))) (.var 4) (.call ("_law_draw" : PySem.Str) [(.var 0), (.var 4)])), .ex (.me .append (.var 7) [(.tup [(.var 9), (.call ("_law_pick" : PySem.Str) [(.var 0), (.var 2)])])])], .ex (.me .append (.var 5) [(.bi false .tuple_ [(.var 7)])])], .if_ (.and_ [(.cmp .gt (.var 4) (.c (.int 1))), (.cmp .eq (.call ("_law_draw" : PySem.Str) [(.var 0), (.c (.int 3))]) (.c (.int 0)))]) [.sub (.var 5) (.c (.int 0)) (.tup [(.tup [(.c (.int 1)), (.call ("_law_pick" : PySem.Str) [(.var 0), (.lst false [(.c (.str ("stay" : PySem.Str))), (.c (.str ("put1" : PySem.Str))), (.c (.str ("stay" : PySem.Str))), (.c (.str ("put0" : PySem.Str)))])])]), (.tup [(.c (.int 0)), (.c (.str ("over" : PySem.Str)))]), (.tup [(.c (.int 0)), (.c (.str ("over" : PySem.Str)))])]), .sub (.var 5) (.c (.int 1)) (.tup [(.idx (.idx (.var 5) (.c (.int 1))) (.c (.int 0))), (.tup [(.c (.int 1)), (.c (.str ("back" : PySem.Str)))]), (.tup [(.c (.int 1)), (.c (.str ("back" : PySem.Str)))])])] [], .rtn (some (.bi false .tuple_ [(.var 5)]))]
def f__law_machine : Ev.Fn := ⟨2, 10, b__law_machine, true, [("deck" : PySem.Str), ("most" : PySem.Str)]⟩
def d__law_machine : Ev.Dfn := ⟨("_law_machine" : PySem.Str), f__law_machine, ⟨defArgs (top 35), defBody (top 35), defScope (top 35), [("deck" : PySem.Str), ("most" : PySem.Str), ("deeds" : PySem.Str), ("state" : PySem.Str), ("many" : PySem.Str), ("machine" : PySem.Str), ("rare" : PySem.Str), ("rules" : PySem.Str), ("letter" : PySem.Str), ("to" : PySem.Str)], [("deck" : PySem.Str), ("most" : PySem.Str)], false⟩⟩
def b__law_is_machine : List Ev.T := [.if_ (.or_ [(.not_ (.isi [.tuple] (.var 0))), (.cmp .eq (.var 0) (.tup []))]) [.rtn (some (.c (.bool false)))] [], .for_ (.var 1) (.ex (.var 0)) [.if_ (.or_ [(.not_ (.isi [.tuple] (.var 1))), (.cmp .ne (.bi false .len [(.var 1)]) (.c (.int 3)))]) [.rtn (some (.c (.bool false)))] [], .for_ (.var 2) (.ex (.var 1)) [.if_ (.or_ [(.not_ (.isi [.tuple] (.var 2))), (.cmp .ne (.bi false .len [(.var 2)]) (.c (.int 2)))]) [.rtn (some (.c (.bool false)))] [], .if_ (.or_ [(.not_ (.call ("_law_is_number" : PySem.Str) [(.idx (.var 2) (.c (.int 0)))])), (.cmp .gt (.idx (.var 2) (.c (.int 0))) (.bi false .len [(.var 0)]))]) [.rtn (some (.c (.bool false)))] [], .if_ (.or_ [(.not_ (.isi [.str] (.idx (.var 2) (.c (.int 1))))), (.cmp .nin (.idx (.var 2) (.c (.int 1))) (.tup [(.c (.str ("stay" : PySem.Str))), (.c (.str ("put0" : PySem.Str))), (.c (.str ("put1" : PySem.Str))), (.c (.str ("cut" : PySem.Str))), (.c (.str ("over" : PySem.Str))), (.c (.str ("back" : PySem.Str)))]))]) [.rtn (some (.c (.bool false)))] []]], .rtn (some (.c (.bool true)))]
def f__law_is_machine : Ev.Fn := ⟨1, 3, b__law_is_machine, false, [("thing" : PySem.Str)]⟩
def d__law_is_machine : Ev.Dfn := ⟨("_law_is_machine" : PySem.Str), f__law_is_machine, ⟨defArgs (top 36), defBody (top 36), defScope (top 36), [("thing" : PySem.Str), ("state" : PySem.Str), ("rule" : PySem.Str)], [("thing" : PySem.Str)], false⟩⟩
def b__law_bent : List Ev.T := [.if_ (.or_ [(.not_ (.isi [.tuple] (.var 1))), (.cmp .eq (.var 1) (.tup [])), (.cmp .eq (.call ("_law_draw" : PySem.Str) [(.var 0), (.c (.int 9))]) (.c (.int 0)))]) [.rtn (some (.ite (.and_ [(.cmp .in_ (.var 1) (.tup [(.c (.int 0)), (.c (.int 1))])), (.cmp .eq (.call ("_law_draw" : PySem.Str) [(.var 0), (.c (.int 2))]) (.c (.int 0)))]) (.cmp .eq (.var 1) (.c (.int 1))) (.call ("_law_pick" : PySem.Str) [(.var 0), (.var 2)])))] [], .par [3, 4] [(.call ("_law_draw" : PySem.Str) [(.var 0), (.bi false .len [(.var 1)])]), (.call ("_law_draw" : PySem.Str) [(.var 0), (.c (.int 10))])], .if_ (.cmp .eq (.var 4) (.c (.int 0))) [.rtn (some (.bin false .add (.sl false (.var 1) none (some (.var 3))) (.sl false (.var 1) (some (.bin false .add (.var 3) (.c (.int 1)))) none)))] [], .if_ (.cmp .eq (.var 4) (.c (.int 1))) [.rtn (some (.bin false .add (.sl false (.var 1) none (some (.bin false .add (.var 3) (.c (.int 1))))) (.sl false (.var 1) (some (.var 3)) none)))] [], .if_ (.cmp .eq (.var 4) (.c (.int 2))) [.rtn (some (.bi false .list_ [(.var 1)]))] [], .if_ (.cmp .eq (.var 4) (.c (.int 3))) [.rtn (some (.bin false .add (.sl false (.var 1) (some (.var 3)) none) (.sl false (.var 1) none (some (.var 3)))))] [], .rtn (some (.bin false .add (.bin false .add (.sl false (.var 1) none (some (.var 3))) (.tup [(.call ("_law_bent" : PySem.Str) [(.var 0), (.idx (.var 1) (.var 3)), (.var 2)])])) (.sl false (.var 1) (some (.bin false .add (.var 3) (.c (.int 1)))) none)))]
def f__law_bent : Ev.Fn := ⟨3, 5, b__law_bent, true, [("deck" : PySem.Str), ("thing" : PySem.Str), ("odd" : PySem.Str)]⟩
def d__law_bent : Ev.Dfn := ⟨("_law_bent" : PySem.Str), f__law_bent, ⟨defArgs (top 37), defBody (top 37), defScope (top 37), [("deck" : PySem.Str), ("thing" : PySem.Str), ("odd" : PySem.Str), ("at" : PySem.Str), ("way" : PySem.Str)], [("deck" : PySem.Str), ("thing" : PySem.Str), ("odd" : PySem.Str)], false⟩⟩
def b__law_pile_step : List Ev.T := [.asg (.tup [(.var 2), (.var 3), (.var 4)]) (.var 1), .if_ (.cmp .eq (.var 2) (.bi false .len [(.var 0)])) [.rtn (some (.var 1))] [], .asg (.tup [(.var 5), (.var 6)]) (.idx (.idx (.var 0) (.var 2)) (.ite (.cmp .eq (.var 3) (.c (.str ("" : PySem.Str)))) (.c (.int 0)) (.bin false .add (.c (.int 1)) (.bi false .int_ [(.idx (.var 3) (.neg (.c (.int 1))))])))), .if_ (.cmp .eq (.var 6) (.c (.str ("put0" : PySem.Str)))) [.asg (.var 3) (.bin false .add (.var 3) (.c (.str ("0" : PySem.Str))))] [.if_ (.cmp .eq (.var 6) (.c (.str ("put1" : PySem.Str)))) [.asg (.var 3) (.bin false .add (.var 3) (.c (.str ("1" : PySem.Str))))] [.if_ (.cmp .eq (.var 6) (.c (.str ("cut" : PySem.Str)))) [.asg (.var 3) (.sl false (.var 3) none (some (.neg (.c (.int 1)))))] [.if_ (.and_ [(.cmp .eq (.var 6) (.c (.str ("over" : PySem.Str)))), (.cmp .ne (.var 3) (.c (.str ("" : PySem.Str))))]) [.par [3, 4] [(.sl false (.var 3) none (some (.neg (.c (.int 1))))), (.bin false .add (.var 4) (.idx (.var 3) (.neg (.c (.int 1)))))]] [.if_ (.and_ [(.cmp .eq (.var 6) (.c (.str ("back" : PySem.Str)))), (.cmp .ne (.var 4) (.c (.str ("" : PySem.Str))))]) [.par [3, 4] [(.bin false .add (.var 3) (.idx (.var 4) (.neg (.c (.int 1))))), (.sl false (.var 4) none (some (.neg (.c (.int 1)))))]] []]]]], .rtn (some (.tup [(.var 5), (.var 3), (.var 4)]))]
def f__law_pile_step : Ev.Fn := ⟨2, 7, b__law_pile_step, false, [("machine" : PySem.Str), ("standing" : PySem.Str)]⟩
def d__law_pile_step : Ev.Dfn := ⟨("_law_pile_step" : PySem.Str), f__law_pile_step, ⟨defArgs (top 38), defBody (top 38), defScope (top 38), [("machine" : PySem.Str), ("standing" : PySem.Str), ("state" : PySem.Str), ("left" : PySem.Str), ("right" : PySem.Str), ("to" : PySem.Str), ("deed" : PySem.Str)], [("machine" : PySem.Str), ("standing" : PySem.Str)], false⟩⟩
def b__law_after : List Ev.T := [.for_ (.var 3) (.rng [(.var 2)]) [.asg (.var 1) (.call ("_law_pile_step" : PySem.Str) [(.var 0), (.var 1)])], .rtn (some (.var 1))]
def f__law_after : Ev.Fn := ⟨3, 4, b__law_after, false, [("machine" : PySem.Str), ("standing" : PySem.Str), ("many" : PySem.Str)]⟩
def d__law_after : Ev.Dfn := ⟨("_law_after" : PySem.Str), f__law_after, ⟨defArgs (top 39), defBody (top 39), defScope (top 39), [("machine" : PySem.Str), ("standing" : PySem.Str), ("many" : PySem.Str), ("turn" : PySem.Str)], [("machine" : PySem.Str), ("standing" : PySem.Str), ("many" : PySem.Str)], false⟩⟩
def b__law_odd : List Ev.T := [.rtn (some (.lst false [(.c .none), (.c (.bool true)), (.c (.bool false)), (.c (.int 0)), (.c (.int 1)), (.c (.int 7)), (.neg (.c (.int 1))), (.c (.str ("" : PySem.Str))), (.c (.str ("0" : PySem.Str))), (.c (.str ("stay" : PySem.Str))), (.c (.str ("go" : PySem.Str))), (.tup []), (.lst false []), .dnil, (.tup [(.c (.int 0)), (.c (.str ("stay" : PySem.Str)))]), (.tup [(.tup [(.c (.int 0)), (.c (.str ("stay" : PySem.Str)))])]), (.bin false .pow (.c (.int 10)) (.c (.int 39))), (.tup [(.tup [(.c (.int 0)), (.c (.str ("cut" : PySem.Str)))]), (.tup [(.c (.int 0)), (.c (.str ("cut" : PySem.Str)))]), (.tup [(.c (.int 0)), (.c (.str ("cut" : PySem.Str)))])])]))]
def f__law_odd : Ev.Fn := ⟨0, 0, b__law_odd, false, []⟩
def d__law_odd : Ev.Dfn := ⟨("_law_odd" : PySem.Str), f__law_odd, ⟨defArgs (top 40), defBody (top 40), defScope (top 40), [], [], false⟩⟩
def b_law : List Ev.T := [.asg (.var 1) (.call ("_law_deck" : PySem.Str) [(.var 0)]), .for_ (.var 2) (.rng [(.c (.int 2))]) [.par [4, 5] [(.call ("_law_machine" : PySem.Str) [(.var 1), (.c (.int 6))]), (.call ("_law_word" : PySem.Str) [(.var 1), (.c (.int 6))])], .for_ (.var 3) (.rng [(.c (.int 4))]) [.asg (.var 6) (.bin false .add (.call ("_law_pick" : PySem.Str) [(.var 1), (.lst false [(.c (.int 0)), (.c (.int 1)), (.c (.int 2)), (.c (.int 3)), (.c (.int 5)), (.c (.int 8)), (.c (.int 13)), (.c (.int 40)), (.c (.int 77)), (.c (.int 199))])]) (.call ("_law_draw" : PySem.Str) [(.var 1), (.c (.int 2))])), .if_ (.cmp .eq (.var 3) (.c (.int 3))) [.asg (.var 6) (.call ("_law_draw" : PySem.Str) [(.var 1), (.c (.int 201))])] [], .asg (.var 7) (.call ("_law_after" : PySem.Str) [(.var 4), (.tup [(.c (.int 0)), (.var 5), (.c (.str ("" : PySem.Str)))]), (.var 6)]), .asg (.var 8) (.ite (.cmp .lt (.var 3) (.c (.int 2))) (.call ("standing_after" : PySem.Str) [(.var 4), (.var 5), (.var 6)]) (.callk ("standing_after" : PySem.Str) [] [(("many" : PySem.Str), (.var 6)), (("machine" : PySem.Str), (.var 4)), (("word" : PySem.Str), (.var 5))])), .if_ (.or_ [(.not_ (.call ("_law_same" : PySem.Str) [(.var 8), (.var 7)])), (.not_ (.call ("_law_same" : PySem.Str) [(.call ("pile_step" : PySem.Str) [(.var 4), (.var 8)]), (.call ("_law_pile_step" : PySem.Str) [(.var 4), (.var 7)])]))]) [.rtn (some (.c (.bool false)))] []]], .for_ (.var 2) (.rng [(.c (.int 8))]) [.asg (.tup [(.var 9), (.var 10), (.var 6)]) (.tup [(.call ("_law_machine" : PySem.Str) [(.var 1), (.c (.int 5))]), (.call ("_law_word" : PySem.Str) [(.var 1), (.c (.int 6))]), (.call ("_law_draw" : PySem.Str) [(.var 1), (.c (.int 30))])]), .if_ (.cmp .eq (.call ("_law_draw" : PySem.Str) [(.var 1), (.c (.int 3))]) (.c (.int 0))) [.asg (.var 9) (.call ("_law_bent" : PySem.Str) [(.var 1), (.var 9), (.call ("_law_odd" : PySem.Str) [])])] [], .if_ (.cmp .eq (.call ("_law_draw" : PySem.Str) [(.var 1), (.c (.int 2))]) (.c (.int 0))) [.asg (.var 10) (.call ("_law_pick" : PySem.Str) [(.var 1), (.lst false [(.c .none), (.c (.int 0)), (.c (.int 1)), (.c (.bool true)), (.c (.str ("2" : PySem.Str))), (.c (.str ("01a" : PySem.Str))), (.c (.str ("0 1" : PySem.Str))), (.c (.str (" " : PySem.Str))), (.tup [(.c (.str ("0" : PySem.Str)))]), (.lst false [(.c (.str ("0" : PySem.Str))), (.c (.str ("1" : PySem.Str)))]), .dnil, (.c (.str ("0\n" : PySem.Str))), (.c (.str ("110" : PySem.Str))), (.c (.str ("" : PySem.Str)))])])] [], .if_ (.cmp .eq (.call ("_law_draw" : PySem.Str) [(.var 1), (.c (.int 2))]) (.c (.int 0))) [.asg (.var 6) (.call ("_law_pick" : PySem.Str) [(.var 1), (.lst false [(.c .none), (.c (.bool true)), (.c (.bool false)), (.neg (.c (.int 1))), (.c (.str ("1" : PySem.Str))), (.c (.str ("" : PySem.Str))), (.tup []), (.tup [(.c (.int 1))]), (.lst false [(.c (.int 1))]), .dnil, (.neg (.bin false .pow (.c (.int 10)) (.c (.int 39)))), (.c (.int 0)), (.c (.int 3))])])] [], .if_ (.not_ (.call ("_law_is_machine" : PySem.Str) [(.var 9)])) [.asg (.var 7) (.tup [(.c (.str ("raised" : PySem.Str))), (.tup [(.c (.bool true)), (.c (.bool false)), (.c (.bool false)), (.c (.bool false))]), (.rep (.var 9))])] [.if_ (.not_ (.call ("_law_is_word" : PySem.Str) [(.var 10)])) [.asg (.var 7) (.tup [(.c (.str ("raised" : PySem.Str))), (.tup [(.c (.bool false)), (.c (.bool false)), (.c (.bool true)), (.c (.bool false))]), (.rep (.var 10))])] [.if_ (.not_ (.call ("_law_is_number" : PySem.Str) [(.var 6)])) [.asg (.var 7) (.tup [(.c (.str ("raised" : PySem.Str))), (.tup [(.c (.bool false)), (.c (.bool false)), (.c (.bool false)), (.c (.bool true))]), (.rep (.var 6))])] [.asg (.var 7) (.tup [(.c (.str ("returned" : PySem.Str))), (.rep (.call ("_law_after" : PySem.Str) [(.var 9), (.tup [(.c (.int 0)), (.var 10), (.c (.str ("" : PySem.Str)))]), (.var 6)]))])]]], .if_ (.cmp .ne (.tried ("_law_tried" : PySem.Str) 4 1 (.tup [(.c (.str ("returned" : PySem.Str))), (.rep (.var 1))]) ershs (.asg 2 (.tup [(.isx ("BadMachine" : PySem.Str)), (.isx ("BadStanding" : PySem.Str)), (.isx ("BadWord" : PySem.Str)), (.isx ("BadNumber" : PySem.Str))]) (.ret (.tup [(.c (.str ("raised" : PySem.Str))), (.var 2), (.ite (.isin (.c (.bool true)) (.var 2)) (.rep (.fld ("thing" : PySem.Str))) (.c .none))]))) ("standing_after" : PySem.Str) [9, 10, 6] []) (.var 7)) [.rtn (some (.c (.bool false)))] []], .rtn (some (.c (.bool true)))]
def f_law : Ev.Fn := ⟨1, 11, b_law, true, [("script" : PySem.Str)]⟩
def d_law : Ev.Dfn := ⟨("law" : PySem.Str), f_law, ⟨defArgs (top 42), defBody (top 42), defScope (top 42), [("script" : PySem.Str), ("deck" : PySem.Str), ("turn" : PySem.Str), ("go" : PySem.Str), ("machine" : PySem.Str), ("word" : PySem.Str), ("many" : PySem.Str), ("due" : PySem.Str), ("told" : PySem.Str), ("thing" : PySem.Str), ("near" : PySem.Str)], [("script" : PySem.Str)], true⟩⟩
def ds0 : List Ev.Dfn := [d_is_integer, d_is_between, d_is_word_value, d_need_word, d_is_rule, d_is_state, d_is_machine, d_need_machine, d_need_count, d_is_standing_value, d_done, d_standing_behind, d_last_standing, d_pile_step, d_standing_after, d__law_deck, d__law_draw, d__law_pick, d__law_word, d__law_same]
def ds1 : List Ev.Dfn := [d__law_is_integer, d__law_is_number, d__law_is_word, d__law_machine, d__law_is_machine, d__law_bent, d__law_pile_step, d__law_after, d__law_odd, d_law]
def ds : List Ev.Dfn := ds0 ++ ds1
def cs0 : List (PySem.Str × Ev.CK) := [(("LETTERS" : PySem.Str), .tup [.str ("0" : PySem.Str), .str ("1" : PySem.Str)]), (("DEEDS" : PySem.Str), .tup [.str ("stay" : PySem.Str), .str ("put0" : PySem.Str), .str ("put1" : PySem.Str), .str ("cut" : PySem.Str), .str ("over" : PySem.Str), .str ("back" : PySem.Str)]), (("ENDS" : PySem.Str), .tup [.str ("" : PySem.Str), .str ("0" : PySem.Str), .str ("1" : PySem.Str)])]
def cs : List (PySem.Str × Ev.CK) := cs0
def bis0 : List PySem.Str := [("all" : PySem.Str), ("bool" : PySem.Str), ("int" : PySem.Str), ("isinstance" : PySem.Str), ("len" : PySem.Str), ("list" : PySem.Str), ("max" : PySem.Str), ("range" : PySem.Str), ("repr" : PySem.Str), ("str" : PySem.Str), ("tuple" : PySem.Str)]
def bis : List PySem.Str := bis0
def kws0 : List (PySem.Str × Nat × List PySem.Str) := [(("standing_after" : PySem.Str), 0, [("many" : PySem.Str), ("machine" : PySem.Str), ("word" : PySem.Str)])]
def kws : List (PySem.Str × Nat × List PySem.Str) := kws0
def er_BadWord : Ev.ErrD := ⟨("BadWord" : PySem.Str), ("thing" : PySem.Str), ("thing" : PySem.Str), defArgs (Ev.clsSt (top 2) 0), defBody (Ev.clsSt (top 2) 0), defScope (Ev.clsSt (top 2) 0)⟩
def er_BadNumber : Ev.ErrD := ⟨("BadNumber" : PySem.Str), ("thing" : PySem.Str), ("thing" : PySem.Str), defArgs (Ev.clsSt (top 3) 0), defBody (Ev.clsSt (top 3) 0), defScope (Ev.clsSt (top 3) 0)⟩
def er_BadStanding : Ev.ErrD := ⟨("BadStanding" : PySem.Str), ("thing" : PySem.Str), ("thing" : PySem.Str), defArgs (Ev.clsSt (top 4) 0), defBody (Ev.clsSt (top 4) 0), defScope (Ev.clsSt (top 4) 0)⟩
def er_BadMachine : Ev.ErrD := ⟨("BadMachine" : PySem.Str), ("thing" : PySem.Str), ("thing" : PySem.Str), defArgs (Ev.clsSt (top 5) 0), defBody (Ev.clsSt (top 5) 0), defScope (Ev.clsSt (top 5) 0)⟩
def ers0 : List Ev.ErrD := [er_BadWord, er_BadNumber, er_BadStanding, er_BadMachine]
def ers : List Ev.ErrD := ers0
def bss0 : List PySem.Str := [("QuickError" : PySem.Str)]
def bss : List PySem.Str := bss0
def t__law_tried : PySem.Str × Ev.DInfo := (("_law_tried" : PySem.Str), ⟨defArgs (top 41), defBody (top 41), defScope (top 41), [("call" : PySem.Str), ("found" : PySem.Str), ("kinds" : PySem.Str), ("e" : PySem.Str)], [("call" : PySem.Str)], false⟩)
def tss0 : List (PySem.Str × Ev.DInfo) := [t__law_tried]
def tss : List (PySem.Str × Ev.DInfo) := tss0
def L : Ev.LawT := ⟨ds, cs, bis, kws, ers, bss, tss⟩
def names0 : List PySem.Str := [("is_integer" : PySem.Str), ("is_between" : PySem.Str), ("is_word_value" : PySem.Str), ("need_word" : PySem.Str), ("is_rule" : PySem.Str), ("is_state" : PySem.Str), ("is_machine" : PySem.Str), ("need_machine" : PySem.Str), ("need_count" : PySem.Str), ("is_standing_value" : PySem.Str), ("done" : PySem.Str), ("standing_behind" : PySem.Str), ("last_standing" : PySem.Str), ("pile_step" : PySem.Str), ("standing_after" : PySem.Str), ("_law_deck" : PySem.Str), ("_law_draw" : PySem.Str), ("_law_pick" : PySem.Str), ("_law_word" : PySem.Str), ("_law_same" : PySem.Str)]
def names1 : List PySem.Str := [("_law_is_integer" : PySem.Str), ("_law_is_number" : PySem.Str), ("_law_is_word" : PySem.Str), ("_law_machine" : PySem.Str), ("_law_is_machine" : PySem.Str), ("_law_bent" : PySem.Str), ("_law_pile_step" : PySem.Str), ("_law_after" : PySem.Str), ("_law_odd" : PySem.Str), ("_law_tried" : PySem.Str), ("QuickError" : PySem.Str), ("BadWord" : PySem.Str), ("BadNumber" : PySem.Str), ("BadStanding" : PySem.Str), ("BadMachine" : PySem.Str), ("DEEDS" : PySem.Str), ("ENDS" : PySem.Str), ("LETTERS" : PySem.Str)]
def names : List PySem.Str := names0 ++ names1
theorem st_is_integer : Ev.Stat L d_is_integer := ⟨by decide +kernel, rfl, rfl, fun kV doc pm an cdv ct us hl => match us, hl with | [_], _ => rfl, fun gv => by kernel_rfl, fun n ks is h _ => absurd h (Ev.no_kw (by decide +kernel) n ks)⟩
theorem st_is_between : Ev.Stat L d_is_between := ⟨by decide +kernel, rfl, rfl, fun kV doc pm an cdv ct us hl => match us, hl with | [_, _, _], _ => rfl, fun gv => by kernel_rfl, fun n ks is h _ => absurd h (Ev.no_kw (by decide +kernel) n ks)⟩
theorem st_is_word_value : Ev.Stat L d_is_word_value := ⟨by decide +kernel, rfl, rfl, fun kV doc pm an cdv ct us hl => match us, hl with | [_], _ => rfl, fun gv => by kernel_rfl, fun n ks is h _ => absurd h (Ev.no_kw (by decide +kernel) n ks)⟩
theorem st_need_word : Ev.Stat L d_need_word := ⟨by decide +kernel, rfl, rfl, fun kV doc pm an cdv ct us hl => match us, hl with | [_], _ => rfl, fun gv => by kernel_rfl, fun n ks is h _ => absurd h (Ev.no_kw (by decide +kernel) n ks)⟩
theorem st_is_rule : Ev.Stat L d_is_rule := ⟨by decide +kernel, rfl, rfl, fun kV doc pm an cdv ct us hl => match us, hl with | [_, _], _ => rfl, fun gv => by kernel_rfl, fun n ks is h _ => absurd h (Ev.no_kw (by decide +kernel) n ks)⟩
theorem st_is_state : Ev.Stat L d_is_state := ⟨by decide +kernel, rfl, rfl, fun kV doc pm an cdv ct us hl => match us, hl with | [_, _], _ => rfl, fun gv => by kernel_rfl, fun n ks is h _ => absurd h (Ev.no_kw (by decide +kernel) n ks)⟩
theorem st_is_machine : Ev.Stat L d_is_machine := ⟨by decide +kernel, rfl, rfl, fun kV doc pm an cdv ct us hl => match us, hl with | [_], _ => rfl, fun gv => by kernel_rfl, fun n ks is h _ => absurd h (Ev.no_kw (by decide +kernel) n ks)⟩
theorem st_need_machine : Ev.Stat L d_need_machine := ⟨by decide +kernel, rfl, rfl, fun kV doc pm an cdv ct us hl => match us, hl with | [_], _ => rfl, fun gv => by kernel_rfl, fun n ks is h _ => absurd h (Ev.no_kw (by decide +kernel) n ks)⟩
theorem st_need_count : Ev.Stat L d_need_count := ⟨by decide +kernel, rfl, rfl, fun kV doc pm an cdv ct us hl => match us, hl with | [_], _ => rfl, fun gv => by kernel_rfl, fun n ks is h _ => absurd h (Ev.no_kw (by decide +kernel) n ks)⟩
theorem st_is_standing_value : Ev.Stat L d_is_standing_value := ⟨by decide +kernel, rfl, rfl, fun kV doc pm an cdv ct us hl => match us, hl with | [_, _], _ => rfl, fun gv => by kernel_rfl, fun n ks is h _ => absurd h (Ev.no_kw (by decide +kernel) n ks)⟩
theorem st_done : Ev.Stat L d_done := ⟨by decide +kernel, rfl, rfl, fun kV doc pm an cdv ct us hl => match us, hl with | [_, _, _], _ => rfl, fun gv => by kernel_rfl, fun n ks is h _ => absurd h (Ev.no_kw (by decide +kernel) n ks)⟩
theorem st_standing_behind : Ev.Stat L d_standing_behind := ⟨by decide +kernel, rfl, rfl, fun kV doc pm an cdv ct us hl => match us, hl with | [_, _], _ => rfl, fun gv => by kernel_rfl, fun n ks is h _ => absurd h (Ev.no_kw (by decide +kernel) n ks)⟩
theorem st_last_standing : Ev.Stat L d_last_standing := ⟨by decide +kernel, rfl, rfl, fun kV doc pm an cdv ct us hl => match us, hl with | [_, _, _], _ => rfl, fun gv => by kernel_rfl, fun n ks is h _ => absurd h (Ev.no_kw (by decide +kernel) n ks)⟩
theorem st_pile_step : Ev.Stat L d_pile_step := ⟨by decide +kernel, rfl, rfl, fun kV doc pm an cdv ct us hl => match us, hl with | [_, _], _ => rfl, fun gv => by kernel_rfl, fun n ks is h _ => absurd h (Ev.no_kw (by decide +kernel) n ks)⟩
theorem kw_standing_after : ∀ n ks is, (d_standing_after.f, n, ks) ∈ L.kws → Ev.kwF L.Γ d_standing_after.f ks n = some is → d_standing_after.d.ps ≠ [] ∧ ∀ (kV doc pm : Value) (an : Option Addr) (cdv ct : Value) (us ws : List Value), us.length = n → ws.length = ks.length →
    bindArgs (PySem.W.fnOf d_standing_after.f d_standing_after.f d_standing_after.d.params d_standing_after.d.body d_standing_after.d.scope .none kV doc pm an cdv ct) ⟨us, ks.zip ws⟩ = pure (d_standing_after.d.ps.zip (Ev.gP n ks.length is us ws)) := by
  intro n ks is h hi
  have h : (n, ks) ∈ [(0, [("many" : PySem.Str), ("machine" : PySem.Str), ("word" : PySem.Str)])] := by
    have e : L.kws.filterMap (fun q => if decide (q.1 = d_standing_after.f) = true then some q.2 else none) = [(0, [("many" : PySem.Str), ("machine" : PySem.Str), ("word" : PySem.Str)])] := by decide +kernel
    rw [← e]
    exact List.mem_filterMap.mpr ⟨_, h, by rw [if_pos (decide_eq_true rfl)]⟩
  simp only [List.mem_cons, List.not_mem_nil, or_false, Prod.mk.injEq] at h
  obtain ⟨rfl, rfl⟩ := h
  · have e : Ev.kwF L.Γ d_standing_after.f [("many" : PySem.Str), ("machine" : PySem.Str), ("word" : PySem.Str)] 0 = some [1, 2, 0] := by decide +kernel
    obtain rfl := Option.some.inj (e.symm.trans hi)
    exact ⟨List.cons_ne_nil _ _, fun kV doc pm an cdv ct us ws h1 h2 => match us, ws, h1, h2 with | [], [_, _, _], _, _ => rfl⟩
theorem st_standing_after : Ev.Stat L d_standing_after := ⟨by decide +kernel, rfl, rfl, fun kV doc pm an cdv ct us hl => match us, hl with | [_, _, _], _ => rfl, fun gv => by kernel_rfl, kw_standing_after⟩
theorem st__law_deck : Ev.Stat L d__law_deck := ⟨by decide +kernel, rfl, rfl, fun kV doc pm an cdv ct us hl => match us, hl with | [_], _ => rfl, fun gv => by kernel_rfl, fun n ks is h _ => absurd h (Ev.no_kw (by decide +kernel) n ks)⟩
theorem st__law_draw : Ev.Stat L d__law_draw := ⟨by decide +kernel, rfl, rfl, fun kV doc pm an cdv ct us hl => match us, hl with | [_, _], _ => rfl, fun gv => by kernel_rfl, fun n ks is h _ => absurd h (Ev.no_kw (by decide +kernel) n ks)⟩
theorem st__law_pick : Ev.Stat L d__law_pick := ⟨by decide +kernel, rfl, rfl, fun kV doc pm an cdv ct us hl => match us, hl with | [_, _], _ => rfl, fun gv => by kernel_rfl, fun n ks is h _ => absurd h (Ev.no_kw (by decide +kernel) n ks)⟩
theorem st__law_word : Ev.Stat L d__law_word := ⟨by decide +kernel, rfl, rfl, fun kV doc pm an cdv ct us hl => match us, hl with | [_, _], _ => rfl, fun gv => by kernel_rfl, fun n ks is h _ => absurd h (Ev.no_kw (by decide +kernel) n ks)⟩
theorem st__law_same : Ev.Stat L d__law_same := ⟨by decide +kernel, rfl, rfl, fun kV doc pm an cdv ct us hl => match us, hl with | [_, _], _ => rfl, fun gv => by kernel_rfl, fun n ks is h _ => absurd h (Ev.no_kw (by decide +kernel) n ks)⟩
theorem st__law_is_integer : Ev.Stat L d__law_is_integer := ⟨by decide +kernel, rfl, rfl, fun kV doc pm an cdv ct us hl => match us, hl with | [_], _ => rfl, fun gv => by kernel_rfl, fun n ks is h _ => absurd h (Ev.no_kw (by decide +kernel) n ks)⟩
theorem st__law_is_number : Ev.Stat L d__law_is_number := ⟨by decide +kernel, rfl, rfl, fun kV doc pm an cdv ct us hl => match us, hl with | [_], _ => rfl, fun gv => by kernel_rfl, fun n ks is h _ => absurd h (Ev.no_kw (by decide +kernel) n ks)⟩
theorem st__law_is_word : Ev.Stat L d__law_is_word := ⟨by decide +kernel, rfl, rfl, fun kV doc pm an cdv ct us hl => match us, hl with | [_], _ => rfl, fun gv => by kernel_rfl, fun n ks is h _ => absurd h (Ev.no_kw (by decide +kernel) n ks)⟩
theorem st__law_machine : Ev.Stat L d__law_machine := ⟨by decide +kernel, rfl, rfl, fun kV doc pm an cdv ct us hl => match us, hl with | [_, _], _ => rfl, fun gv => by kernel_rfl, fun n ks is h _ => absurd h (Ev.no_kw (by decide +kernel) n ks)⟩
theorem st__law_is_machine : Ev.Stat L d__law_is_machine := ⟨by decide +kernel, rfl, rfl, fun kV doc pm an cdv ct us hl => match us, hl with | [_], _ => rfl, fun gv => by kernel_rfl, fun n ks is h _ => absurd h (Ev.no_kw (by decide +kernel) n ks)⟩
theorem st__law_bent : Ev.Stat L d__law_bent := ⟨by decide +kernel, rfl, rfl, fun kV doc pm an cdv ct us hl => match us, hl with | [_, _, _], _ => rfl, fun gv => by kernel_rfl, fun n ks is h _ => absurd h (Ev.no_kw (by decide +kernel) n ks)⟩
theorem st__law_pile_step : Ev.Stat L d__law_pile_step := ⟨by decide +kernel, rfl, rfl, fun kV doc pm an cdv ct us hl => match us, hl with | [_, _], _ => rfl, fun gv => by kernel_rfl, fun n ks is h _ => absurd h (Ev.no_kw (by decide +kernel) n ks)⟩
theorem st__law_after : Ev.Stat L d__law_after := ⟨by decide +kernel, rfl, rfl, fun kV doc pm an cdv ct us hl => match us, hl with | [_, _, _], _ => rfl, fun gv => by kernel_rfl, fun n ks is h _ => absurd h (Ev.no_kw (by decide +kernel) n ks)⟩
theorem st__law_odd : Ev.Stat L d__law_odd := ⟨by decide +kernel, rfl, rfl, fun kV doc pm an cdv ct us hl => match us, hl with | [], _ => rfl, fun gv => by kernel_rfl, fun n ks is h _ => absurd h (Ev.no_kw (by decide +kernel) n ks)⟩
theorem st_law : Ev.Stat L d_law := ⟨by decide +kernel, rfl, rfl, fun kV doc pm an cdv ct us hl => match us, hl with | [_], _ => rfl, fun gv => by kernel_rfl, fun n ks is h _ => absurd h (Ev.no_kw (by decide +kernel) n ks)⟩
theorem st_all : ∀ e ∈ L.ds, Ev.Stat L e := by
  intro e h
  have h : e ∈ [d_is_integer, d_is_between, d_is_word_value, d_need_word, d_is_rule, d_is_state, d_is_machine, d_need_machine, d_need_count, d_is_standing_value, d_done, d_standing_behind, d_last_standing, d_pile_step, d_standing_after, d__law_deck, d__law_draw, d__law_pick, d__law_word, d__law_same, d__law_is_integer, d__law_is_number, d__law_is_word, d__law_machine, d__law_is_machine, d__law_bent, d__law_pile_step, d__law_after, d__law_odd, d_law] := h
  simp only [List.mem_cons, List.not_mem_nil, or_false] at h
  rcases h with rfl | rfl | rfl | rfl | rfl | rfl | rfl | rfl | rfl | rfl | rfl | rfl | rfl | rfl | rfl | rfl | rfl | rfl | rfl | rfl | rfl | rfl | rfl | rfl | rfl | rfl | rfl | rfl | rfl | rfl
  · exact st_is_integer
  · exact st_is_between
  · exact st_is_word_value
  · exact st_need_word
  · exact st_is_rule
  · exact st_is_state
  · exact st_is_machine
  · exact st_need_machine
  · exact st_need_count
  · exact st_is_standing_value
  · exact st_done
  · exact st_standing_behind
  · exact st_last_standing
  · exact st_pile_step
  · exact st_standing_after
  · exact st__law_deck
  · exact st__law_draw
  · exact st__law_pick
  · exact st__law_word
  · exact st__law_same
  · exact st__law_is_integer
  · exact st__law_is_number
  · exact st__law_is_word
  · exact st__law_machine
  · exact st__law_is_machine
  · exact st__law_bent
  · exact st__law_pile_step
  · exact st__law_after
  · exact st__law_odd
  · exact st_law
theorem se_BadWord : Ev.StatE er_BadWord := ⟨by kernel_rfl, by decide +kernel, by decide +kernel, fun kV doc pm an cdv ct us hl => match us, hl with | [_, _], _ => rfl⟩
theorem se_BadNumber : Ev.StatE er_BadNumber := ⟨by kernel_rfl, by decide +kernel, by decide +kernel, fun kV doc pm an cdv ct us hl => match us, hl with | [_, _], _ => rfl⟩
theorem se_BadStanding : Ev.StatE er_BadStanding := ⟨by kernel_rfl, by decide +kernel, by decide +kernel, fun kV doc pm an cdv ct us hl => match us, hl with | [_, _], _ => rfl⟩
theorem se_BadMachine : Ev.StatE er_BadMachine := ⟨by kernel_rfl, by decide +kernel, by decide +kernel, fun kV doc pm an cdv ct us hl => match us, hl with | [_, _], _ => rfl⟩
theorem sr__law_tried : Ev.StatT t__law_tried := ⟨by decide +kernel, fun kV doc pm an cdv ct us hl => match us, hl with | [_], _ => rfl⟩
theorem se_all : ∀ e ∈ L.es, Ev.StatE e := by
  intro e h
  have h : e ∈ [er_BadWord, er_BadNumber, er_BadStanding, er_BadMachine] := h
  simp only [List.mem_cons, List.not_mem_nil, or_false] at h
  rcases h with rfl | rfl | rfl | rfl
  · exact se_BadWord
  · exact se_BadNumber
  · exact se_BadStanding
  · exact se_BadMachine
theorem sr_all : ∀ e ∈ L.ts, Ev.StatT e := by
  intro e h
  have h : e ∈ [t__law_tried] := h
  simp only [List.mem_cons, List.not_mem_nil, or_false] at h
  rcases h with rfl
  · exact sr__law_tried
theorem nf_all : ∀ p ∈ L.es, ∀ q ∈ L.es, p.x = q.x → p.f = q.f := by
  have h : L.es.all (fun p => L.es.all fun q => !decide (p.x = q.x) || decide (p.f = q.f)) = true := by decide +kernel
  intro p hp q hq e
  have := List.all_eq_true.mp (List.all_eq_true.mp h p hp) q hq
  simpa [e] using this
abbrev R : PySem.W.OpenRow := PySem.W.OpenLaw.row PySem.Challenge.rw_samequick_k89_standings_after_many_steps
abbrev hk : PySem.W.Hook := L.hook
def ob (s : PySem.W.SharedT) : He.AlD := Ev.obsVG L.fa L.fn L.cs L.es L.bs L.lm (HandSHeadRun.getT s)
theorem ob_eq (s : PySem.W.SharedT) : ob s = hk.obs s.abs := Ev.obsVG_eq (HandSHeadRun.getT_eq s)
theorem run (w : World) : HandSHeadRun.RunEq R (PySem.W.view R.prog [42]) hk ob 20000 names w := by
  intro os
  kernel_rfl
end Lk89
open PySem PySem.W PySem.Calls PyProof.Rows
theorem Lk89.holds (math : ∀ ns : List Int, ns.length ≤ 63 → (∀ z ∈ ns, Builtin.Int.intBits z ≤ 1048576) → ∃ S, Ev.callF Lk89.L.Γ Lk89.L.G 100 ("law" : PySem.Str) [.k (.list (ns.map .int))] [] = .ok (.d (.bool true)) S) : PySem.Challenge.rw_samequick_k89_standings_after_many_steps.Holds := by
  w_on; o_law
  refine HandSHeadRun.head_any (r := OpenLaw.row PySem.Challenge.rw_samequick_k89_standings_after_many_steps) (q := view (OpenLaw.row PySem.Challenge.rw_samequick_k89_standings_after_many_steps).prog [42]) (H := Lk89.hk) (ob := Lk89.ob) (M := 20000) (loose := Lk89.names) (d := HandSHeadRun.topDef (OpenLaw.row PySem.Challenge.rw_samequick_k89_standings_after_many_steps).prog 42) (kwd := []) Lk89.ob_eq
    (by kernel_rfl) (fun s => by kernel_rfl) Lk89.run (by kernel_rfl) (by kernel_rfl) (by kernel_rfl) (by rfl) (by first | assumption | decide +kernel) (by decide +kernel) ⟨rfl, rfl, rfl, rfl, rfl, by decide +kernel⟩ ?hw ?hc
  case hw => w_witness2
  case hc =>
    exact Ev.law_main (l := PySem.Challenge.rw_samequick_k89_standings_after_many_steps) (L := Lk89.L) (eL := Lk89.d_law) (x := "script") (k := 100) rfl (by kernel_rfl) ⟨rfl, by decide, by decide⟩ (by decide +kernel) Lk89.st_all (by kernel_rfl) rfl (by kernel_rfl)
      (fun e he h => by
        have he : e ∈ [Lk89.d_is_integer, Lk89.d_is_between, Lk89.d_is_word_value, Lk89.d_need_word, Lk89.d_is_rule, Lk89.d_is_state, Lk89.d_is_machine, Lk89.d_need_machine, Lk89.d_need_count, Lk89.d_is_standing_value, Lk89.d_done, Lk89.d_standing_behind, Lk89.d_last_standing, Lk89.d_pile_step, Lk89.d_standing_after, Lk89.d__law_deck, Lk89.d__law_draw, Lk89.d__law_pick, Lk89.d__law_word, Lk89.d__law_same, Lk89.d__law_is_integer, Lk89.d__law_is_number, Lk89.d__law_is_word, Lk89.d__law_machine, Lk89.d__law_is_machine, Lk89.d__law_bent, Lk89.d__law_pile_step, Lk89.d__law_after, Lk89.d__law_odd, Lk89.d_law] := he
        simp only [List.mem_cons, List.not_mem_nil, or_false] at he
        rcases he with rfl | rfl | rfl | rfl | rfl | rfl | rfl | rfl | rfl | rfl | rfl | rfl | rfl | rfl | rfl | rfl | rfl | rfl | rfl | rfl | rfl | rfl | rfl | rfl | rfl | rfl | rfl | rfl | rfl | rfl <;> first | rfl | exact absurd h (by decide +kernel))
      (fun f fd hf e he h => by
        subst h
        have he : e ∈ [Lk89.d_is_integer, Lk89.d_is_between, Lk89.d_is_word_value, Lk89.d_need_word, Lk89.d_is_rule, Lk89.d_is_state, Lk89.d_is_machine, Lk89.d_need_machine, Lk89.d_need_count, Lk89.d_is_standing_value, Lk89.d_done, Lk89.d_standing_behind, Lk89.d_last_standing, Lk89.d_pile_step, Lk89.d_standing_after, Lk89.d__law_deck, Lk89.d__law_draw, Lk89.d__law_pick, Lk89.d__law_word, Lk89.d__law_same, Lk89.d__law_is_integer, Lk89.d__law_is_number, Lk89.d__law_is_word, Lk89.d__law_machine, Lk89.d__law_is_machine, Lk89.d__law_bent, Lk89.d__law_pile_step, Lk89.d__law_after, Lk89.d__law_odd, Lk89.d_law] := he
        simp only [List.mem_cons, List.not_mem_nil, or_false] at he
        rcases he with rfl | rfl | rfl | rfl | rfl | rfl | rfl | rfl | rfl | rfl | rfl | rfl | rfl | rfl | rfl | rfl | rfl | rfl | rfl | rfl | rfl | rfl | rfl | rfl | rfl | rfl | rfl | rfl | rfl | rfl <;> exact Option.some.inj (Eq.trans (by kernel_rfl) hf))
      Lk89.sr_all Lk89.se_all Lk89.nf_all math
end
section
set_option Elab.async false
set_option linter.all false
set_option maxRecDepth 100000
namespace Pm
open PySem PySem.Spec L2 Ev
def b_is_integer : List T := [.rtn (some (.and_ [(.isi [.int] (.var 0)), (.not_ (.isi [.bool] (.var 0)))]))]
def f_is_integer : Fn := ⟨1, 1, b_is_integer, false, [("thing" : PySem.Str)]⟩
def b_is_between : List T := [.rtn (some (.and_ [(.call ("is_integer" : PySem.Str) [(.var 0)]), (.chn .le .le (.var 1) (.var 0) (.var 2))]))]
def f_is_between : Fn := ⟨3, 3, b_is_between, false, [("thing" : PySem.Str), ("least" : PySem.Str), ("most" : PySem.Str)]⟩
def b_is_word_value : List T := [.rtn (some (.and_ [(.isi [.str] (.var 0)), (.bi false .all_ [(.comp false (.cmp .in_ (.var 1) (.g 0)) (.var 1) (.ex (.var 0)) [] [1])])]))]
def f_is_word_value : Fn := ⟨1, 2, b_is_word_value, false, [("thing" : PySem.Str)]⟩
def b_is_rule : List T := [.if_ (.or_ [(.not_ (.isi [.tuple] (.var 0))), (.cmp .ne (.bi false .len [(.var 0)]) (.c (.int 2)))]) [.rtn (some (.c (.bool false)))] [], .rtn (some (.and_ [(.call ("is_between" : PySem.Str) [(.idx (.var 0) (.c (.int 0))), (.c (.int 0)), (.var 1)]), (.cmp .in_ (.idx (.var 0) (.c (.int 1))) (.g 1))]))]
def f_is_rule : Fn := ⟨2, 2, b_is_rule, false, [("thing" : PySem.Str), ("many" : PySem.Str)]⟩
def b_is_state : List T := [.rtn (some (.and_ [(.isi [.tuple] (.var 0)), (.cmp .eq (.bi false .len [(.var 0)]) (.bi false .len [(.g 2)])), (.bi false .all_ [(.comp false (.call ("is_rule" : PySem.Str) [(.var 2), (.var 1)]) (.var 2) (.ex (.var 0)) [] [2])])]))]
def f_is_state : Fn := ⟨2, 3, b_is_state, false, [("thing" : PySem.Str), ("many" : PySem.Str)]⟩
def b_is_machine : List T := [.rtn (some (.and_ [(.isi [.tuple] (.var 0)), (.cmp .gt (.bi false .len [(.var 0)]) (.c (.int 0))), (.bi false .all_ [(.comp false (.call ("is_state" : PySem.Str) [(.var 1), (.bi false .len [(.var 0)])]) (.var 1) (.ex (.var 0)) [] [1])])]))]
def f_is_machine : Fn := ⟨1, 2, b_is_machine, false, [("thing" : PySem.Str)]⟩
def b_need_machine : List T := [.if_ (.not_ (.call ("is_machine" : PySem.Str) [(.var 0)])) [.raise_ ("BadMachine" : PySem.Str) ("thing" : PySem.Str) (.var 0)] []]
def f_need_machine : Fn := ⟨1, 1, b_need_machine, false, [("machine" : PySem.Str)]⟩
def b_is_standing_value : List T := [.if_ (.or_ [(.not_ (.isi [.tuple] (.var 1))), (.cmp .ne (.bi false .len [(.var 1)]) (.c (.int 3))), (.not_ (.call ("is_between" : PySem.Str) [(.idx (.var 1) (.c (.int 0))), (.c (.int 0)), (.bi false .len [(.var 0)])]))]) [.rtn (some (.c (.bool false)))] [], .rtn (some (.and_ [(.call ("is_word_value" : PySem.Str) [(.idx (.var 1) (.c (.int 1)))]), (.call ("is_word_value" : PySem.Str) [(.idx (.var 1) (.c (.int 2)))])]))]
def f_is_standing_value : Fn := ⟨2, 2, b_is_standing_value, false, [("machine" : PySem.Str), ("thing" : PySem.Str)]⟩
def b_done : List T := [.if_ (.cmp .eq (.var 0) (.c (.str ("put0" : PySem.Str)))) [.rtn (some (.tup [(.bin false .add (.var 1) (.c (.str ("0" : PySem.Str)))), (.var 2)]))] [], .if_ (.cmp .eq (.var 0) (.c (.str ("put1" : PySem.Str)))) [.rtn (some (.tup [(.bin false .add (.var 1) (.c (.str ("1" : PySem.Str)))), (.var 2)]))] [], .if_ (.cmp .eq (.var 0) (.c (.str ("cut" : PySem.Str)))) [.rtn (some (.tup [(.sl false (.var 1) none (some (.neg (.c (.int 1))))), (.var 2)]))] [], .if_ (.cmp .eq (.var 0) (.c (.str ("over" : PySem.Str)))) [.rtn (some (.tup [(.sl false (.var 1) none (some (.neg (.c (.int 1))))), (.bin false .add (.var 2) (.sl false (.var 1) (some (.neg (.c (.int 1)))) none))]))] [], .if_ (.cmp .eq (.var 0) (.c (.str ("back" : PySem.Str)))) [.rtn (some (.tup [(.bin false .add (.var 1) (.sl false (.var 2) (some (.neg (.c (.int 1)))) none)), (.sl false (.var 2) none (some (.neg (.c (.int 1)))))]))] [], .rtn (some (.tup [(.var 1), (.var 2)]))]
def f_done : Fn := ⟨3, 3, b_done, false, [("deed" : PySem.Str), ("left" : PySem.Str), ("right" : PySem.Str)]⟩
def b_standing_behind : List T := [.asg (.tup [(.var 2), (.var 3), (.var 4)]) (.var 1), .if_ (.cmp .eq (.var 2) (.bi false .len [(.var 0)])) [.rtn (some (.var 1))] [], .asg (.tup [(.var 5), (.var 6)]) (.idx (.idx (.var 0) (.var 2)) (.me .index (.g 2) [(.sl false (.var 3) (some (.neg (.c (.int 1)))) none)])), .asg (.tup [(.var 7), (.var 8)]) (.call ("done" : PySem.Str) [(.var 6), (.var 3), (.var 4)]), .rtn (some (.tup [(.var 5), (.var 7), (.var 8)]))]
def f_standing_behind : Fn := ⟨2, 9, b_standing_behind, false, [("machine" : PySem.Str), ("standing" : PySem.Str)]⟩
def b_pile_step : List T := [.ex (.call ("need_machine" : PySem.Str) [(.var 0)]), .if_ (.not_ (.call ("is_standing_value" : PySem.Str) [(.var 0), (.var 1)])) [.raise_ ("BadStanding" : PySem.Str) ("thing" : PySem.Str) (.var 1)] [], .rtn (some (.call ("standing_behind" : PySem.Str) [(.var 0), (.var 1)]))]
def f_pile_step : Fn := ⟨2, 2, b_pile_step, false, [("machine" : PySem.Str), ("standing" : PySem.Str)]⟩
def b__law_word : List T := [.rtn (some (.me .join (.c (.str ("" : PySem.Str))) [(.comp false (.call ("_law_pick" : PySem.Str) [(.var 0), (.lst false [(.c (.str ("0" : PySem.Str))), (.c (.str ("1" : PySem.Str)))])]) (.var 2) (.rng [(.call ("_law_draw" : PySem.Str) [(.var 0), (.bin false .add (.var 1) (.c (.int 1)))])]) [] [2])]))]
def f__law_word : Fn := ⟨2, 3, b__law_word, true, [("deck" : PySem.Str), ("most" : PySem.Str)]⟩
def b__law_same : List T := [.rtn (some (.cmp .eq (.rep (.var 0)) (.rep (.var 1))))]
def f__law_same : Fn := ⟨2, 2, b__law_same, false, [("told" : PySem.Str), ("due" : PySem.Str)]⟩
def b__law_is_integer : List T := [.rtn (some (.and_ [(.isi [.int] (.var 0)), (.not_ (.isi [.bool] (.var 0)))]))]
def f__law_is_integer : Fn := ⟨1, 1, b__law_is_integer, false, [("thing" : PySem.Str)]⟩
def b__law_is_number : List T := [.rtn (some (.and_ [(.call ("_law_is_integer" : PySem.Str) [(.var 0)]), (.cmp .ge (.var 0) (.c (.int 0)))]))]
def f__law_is_number : Fn := ⟨1, 1, b__law_is_number, false, [("thing" : PySem.Str)]⟩
def b__law_machine : List T := [.par [4, 5, 6] [(.bin false .add (.c (.int 1)) (.call ("_law_draw" : PySem.Str) [(.var 0), (.var 1)])), (.lst true []), (.call ("_law_pick" : PySem.Str) [(.var 0), (.lst false [(.c (.int 6)), (.c (.int 3)), (.c (.int 40))])])], .asg (.var 2) (.lst false [(.c (.str ("over" : PySem.Str))), (.c (.str ("put1" : PySem.Str))), (.c (.str ("stay" : PySem.Str))), (.c (.str ("cut" : PySem.Str))), (.c (.str ("back" : PySem.Str))), (.c (.str ("put0" : PySem.Str)))]), .if_ (.cmp .eq (.call ("_law_draw" : PySem.Str) [(.var 0), (.c (.int 2))]) (.c (.int 0))) [.asg (.var 2) (.call ("_law_pick" : PySem.Str) [(.var 0), (.lst false [(.lst false [(.c (.str ("over" : PySem.Str))), (.c (.str ("back" : PySem.Str))), (.c (.str ("put1" : PySem.Str))), (.c (.str ("over" : PySem.Str))), (.c (.str ("back" : PySem.Str)))]), (.lst false [(.c (.str ("put0" : PySem.Str))), (.c (.str ("over" : PySem.Str))), (.c (.str ("put1" : PySem.Str))), (.c (.str ("back" : PySem.Str))), (.c (.str ("over" : PySem.Str)))])])])] [], .for_ (.var 3) (.rng [(.var 4)]) [.asg (.var 7) (.lst true []), .for_ (.var 8) (.rng [(.c (.int 3))]) [.asg (.var 9) (.ite (.cmp .eq (.call ("_law_draw" : PySem.Str) [(.var 0), (.var 6)]) (.c (.int 0))) (.var 4) (.call ("_law_draw" : PySem.Str) [(.var 0), (.var 4)])), .ex (.me .append (.var 7) [(.tup [(.var 9), (.call ("_law_pick" : PySem.Str) [(.var 0), (.var 2)])])])], .ex (.me .append (.var 5) [(.bi false .tuple_ [(.var 7)])])], .if_ (.and_ [(.cmp .gt (.var 4) (.c (.int 1))), (.cmp .eq (.call ("_law_draw" : PySem.Str) [(.var 0), (.c (.int 3))]) (.c (.int 0)))]) [.sub (.var 5) (.c (.int 0)) (.tup [(.tup [(.c (.int 1)), (.call ("_law_pick" : PySem.Str) [(.var 0), (.lst false [(.c (.str ("stay" : PySem.Str))), (.c (.str ("put1" : PySem.Str))), (.c (.str ("stay" : PySem.Str))), (.c (.str ("put0" : PySem.Str)))])])]), (.tup [(.c (.int 0)), (.c (.str ("over" : PySem.Str)))]), (.tup [(.c (.int 0)), (.c (.str ("over" : PySem.Str)))])]), .sub (.var 5) (.c (.int 1)) (.tup [(.idx (.idx (.var 5) (.c (.int 1))) (.c (.int 0))), (.tup [(.c (.int 1)), (.c (.str ("back" : PySem.Str)))]), (.tup [(.c (.int 1)), (.c (.str ("back" : PySem.Str)))])])] [], .rtn (some (.bi false .tuple_ [(.var 5)]))]
def f__law_machine : Fn := ⟨2, 10, b__law_machine, true, [("deck" : PySem.Str), ("most" : PySem.Str)]⟩
def b__law_is_machine : List T := [.if_ (.or_ [(.not_ (.isi [.tuple] (.var 0))), (.cmp .eq (.var 0) (.tup []))]) [.rtn (some (.c (.bool false)))] [], .for_ (.var 1) (.ex (.var 0)) [.if_ (.or_ [(.not_ (.isi [.tuple] (.var 1))), (.cmp .ne (.bi false .len [(.var 1)]) (.c (.int 3)))]) [.rtn (some (.c (.bool false)))] [], .for_ (.var 2) (.ex (.var 1)) [.if_ (.or_ [(.not_ (.isi [.tuple] (.var 2))), (.cmp .ne (.bi false .len [(.var 2)]) (.c (.int 2)))]) [.rtn (some (.c (.bool false)))] [], .if_ (.or_ [(.not_ (.call ("_law_is_number" : PySem.Str) [(.idx (.var 2) (.c (.int 0)))])), (.cmp .gt (.idx (.var 2) (.c (.int 0))) (.bi false .len [(.var 0)]))]) [.rtn (some (.c (.bool false)))] [], .if_ (.or_ [(.not_ (.isi [.str] (.idx (.var 2) (.c (.int 1))))), (.cmp .nin (.idx (.var 2) (.c (.int 1))) (.tup [(.c (.str ("stay" : PySem.Str))), (.c (.str ("put0" : PySem.Str))), (.c (.str ("put1" : PySem.Str))), (.c (.str ("cut" : PySem.Str))), (.c (.str ("over" : PySem.Str))), (.c (.str ("back" : PySem.Str)))]))]) [.rtn (some (.c (.bool false)))] []]], .rtn (some (.c (.bool true)))]
def f__law_is_machine : Fn := ⟨1, 3, b__law_is_machine, false, [("thing" : PySem.Str)]⟩
def b__law_bent : List T := [.if_ (.or_ [(.not_ (.isi [.tuple] (.var 1))), (.cmp .eq (.var 1) (.tup [])), (.cmp .eq (.call ("_law_draw" : PySem.Str) [(.var 0), (.c (.int 9))]) (.c (.int 0)))]) [.rtn (some (.ite (.and_ [(.cmp .in_ (.var 1) (.tup [(.c (.int 0)), (.c (.int 1))])), (.cmp .eq (.call ("_law_draw" : PySem.Str) [(.var 0), (.c (.int 2))]) (.c (.int 0)))]) (.cmp .eq (.var 1) (.c (.int 1))) (.call ("_law_pick" : PySem.Str) [(.var 0), (.var 2)])))] [], .par [3, 4] [(.call ("_law_draw" : PySem.Str) [(.var 0), (.bi false .len [(.var 1)])]), (.call ("_law_draw" : PySem.Str) [(.var 0), (.c (.int 10))])], .if_ (.cmp .eq (.var 4) (.c (.int 0))) [.rtn (some (.bin false .add (.sl false (.var 1) none (some (.var 3))) (.sl false (.var 1) (some (.bin false .add (.var 3) (.c (.int 1)))) none)))] [], .if_ (.cmp .eq (.var 4) (.c (.int 1))) [.rtn (some (.bin false .add (.sl false (.var 1) none (some (.bin false .add (.var 3) (.c (.int 1))))) (.sl false (.var 1) (some (.var 3)) none)))] [], .if_ (.cmp .eq (.var 4) (.c (.int 2))) [.rtn (some (.bi false .list_ [(.var 1)]))] [], .if_ (.cmp .eq (.var 4) (.c (.int 3))) [.rtn (some (.bin false .add (.sl false (.var 1) (some (.var 3)) none) (.sl false (.var 1) none (some (.var 3)))))] [], .rtn (some (.bin false .add (.bin false .add (.sl false (.var 1) none (some (.var 3))) (.tup [(.call ("_law_bent" : PySem.Str) [(.var 0), (.idx (.var 1) (.var 3)), (.var 2)])])) (.sl false (.var 1) (some (.bin false .add (.var 3) (.c (.int 1)))) none)))]
def f__law_bent : Fn := ⟨3, 5, b__law_bent, true, [("deck" : PySem.Str), ("thing" : PySem.Str), ("odd" : PySem.Str)]⟩
def b__law_pile_step : List T := [.asg (.tup [(.var 2), (.var 3), (.var 4)]) (.var 1), .if_ (.cmp .eq (.var 2) (.bi false .len [(.var 0)])) [.rtn (some (.var 1))] [], .asg (.tup [(.var 5), (.var 6)]) (.idx (.idx (.var 0) (.var 2)) (.ite (.cmp .eq (.var 3) (.c (.str ("" : PySem.Str)))) (.c (.int 0)) (.bin false .add (.c (.int 1)) (.bi false .int_ [(.idx (.var 3) (.neg (.c (.int 1))))])))), .if_ (.cmp .eq (.var 6) (.c (.str ("put0" : PySem.Str)))) [.asg (.var 3) (.bin false .add (.var 3) (.c (.str ("0" : PySem.Str))))] [.if_ (.cmp .eq (.var 6) (.c (.str ("put1" : PySem.Str)))) [.asg (.var 3) (.bin false .add (.var 3) (.c (.str ("1" : PySem.Str))))] [.if_ (.cmp .eq (.var 6) (.c (.str ("cut" : PySem.Str)))) [.asg (.var 3) (.sl false (.var 3) none (some (.neg (.c (.int 1)))))] [.if_ (.and_ [(.cmp .eq (.var 6) (.c (.str ("over" : PySem.Str)))), (.cmp .ne (.var 3) (.c (.str ("" : PySem.Str))))]) [.par [3, 4] [(.sl false (.var 3) none (some (.neg (.c (.int 1))))), (.bin false .add (.var 4) (.idx (.var 3) (.neg (.c (.int 1)))))]] [.if_ (.and_ [(.cmp .eq (.var 6) (.c (.str ("back" : PySem.Str)))), (.cmp .ne (.var 4) (.c (.str ("" : PySem.Str))))]) [.par [3, 4] [(.bin false .add (.var 3) (.idx (.var 4) (.neg (.c (.int 1))))), (.sl false (.var 4) none (some (.neg (.c (.int 1)))))]] []]]]], .rtn (some (.tup [(.var 5), (.var 3), (.var 4)]))]
def f__law_pile_step : Fn := ⟨2, 7, b__law_pile_step, false, [("machine" : PySem.Str), ("standing" : PySem.Str)]⟩
structure Pl (Γ : Tab) (G : List (Str × Val)) : Prop where
  k_is_integer : lookF Γ ("is_integer" : PySem.Str) = some f_is_integer
  k_is_between : lookF Γ ("is_between" : PySem.Str) = some f_is_between
  k_is_word_value : lookF Γ ("is_word_value" : PySem.Str) = some f_is_word_value
  k_is_rule : lookF Γ ("is_rule" : PySem.Str) = some f_is_rule
  k_is_state : lookF Γ ("is_state" : PySem.Str) = some f_is_state
  k_is_machine : lookF Γ ("is_machine" : PySem.Str) = some f_is_machine
  k_need_machine : lookF Γ ("need_machine" : PySem.Str) = some f_need_machine
  k_is_standing_value : lookF Γ ("is_standing_value" : PySem.Str) = some f_is_standing_value
  k_done : lookF Γ ("done" : PySem.Str) = some f_done
  k_standing_behind : lookF Γ ("standing_behind" : PySem.Str) = some f_standing_behind
  k_pile_step : lookF Γ ("pile_step" : PySem.Str) = some f_pile_step
  k__law_word : lookF Γ ("_law_word" : PySem.Str) = some f__law_word
  k__law_same : lookF Γ ("_law_same" : PySem.Str) = some f__law_same
  k__law_is_integer : lookF Γ ("_law_is_integer" : PySem.Str) = some f__law_is_integer
  k__law_is_number : lookF Γ ("_law_is_number" : PySem.Str) = some f__law_is_number
  k__law_machine : lookF Γ ("_law_machine" : PySem.Str) = some f__law_machine
  k__law_is_machine : lookF Γ ("_law_is_machine" : PySem.Str) = some f__law_is_machine
  k__law_bent : lookF Γ ("_law_bent" : PySem.Str) = some f__law_bent
  k__law_pile_step : lookF Γ ("_law_pile_step" : PySem.Str) = some f__law_pile_step
  g0 : G[0]? = some (("LETTERS" : PySem.Str), .k (.tuple [.str "0", .str "1"]))
  g1 : G[1]? = some (("DEEDS" : PySem.Str), .k (.tuple [.str "stay", .str "put0", .str "put1", .str "cut", .str "over", .str "back"]))
  g2 : G[2]? = some (("ENDS" : PySem.Str), .k (.tuple [.str "", .str "0", .str "1"]))
end Pm
end
section
set_option Elab.async false
set_option linter.all false
set_option maxRecDepth 100000
set_option maxHeartbeats 0
namespace Pm
open PySem PySem.Spec L2 Ev
def wS (cs : List Nat) : Str := ⟨cs.toArray⟩
theorem wS_of (z : Str) : z = wS z.cps.toList := by
  show z = ⟨z.cps.toList.toArray⟩
  rw [Array.toArray_toList]
theorem wS_l (cs : List Nat) : (wS cs).cps.toList = cs := by show cs.toArray.toList = cs; simp
theorem wS_len (cs : List Nat) : (wS cs).length = cs.length := by show cs.toArray.size = _; simp
theorem wS_app (a b : List Nat) : wS a ++ wS b = wS (a ++ b) := by
  show (⟨a.toArray ++ b.toArray⟩ : Str) = ⟨(a ++ b).toArray⟩
  congr 1
  simp
theorem wS_inj {a b : List Nat} (h : wS a = wS b) : a = b := by
  have := congrArg (fun z : Str => z.cps.toList) h
  simpa [wS_l] using this
theorem wS_beq (a b : List Nat) : (wS a == wS b) = decide (a = b) := by
  by_cases h : a = b
  · subst h; simp
  · rw [decide_eq_false h]
    exact beq_eq_false_iff_ne.mpr fun q => h (wS_inj q)
theorem sw_nil : ("" : Str) = wS [] := by decide +kernel
theorem s_0 : ("0" : Str) = wS [48] := by decide +kernel
theorem s_1 : ("1" : Str) = wS [49] := by decide +kernel
theorem sIx_neg (n d : Nat) : HT.sIx n d (some (-1)) = n - 1 := by
  show (if (-1 : Int) < 0 then ((-1 : Int) + (n : Int)).toNat else min (-1 : Int).toNat n) = _
  rw [if_pos (by decide)]
  omega
theorem cut_init (cs : List Nat) : cutS (wS cs) none (some (-1)) = wS cs.dropLast := by
  unfold cutS
  rw [HT.sIx_none, sIx_neg, wS_l, wS_len, List.drop_zero, Nat.sub_zero, List.dropLast_eq_take]
  rfl
theorem cut_last (cs : List Nat) : cutS (wS cs) (some (-1)) none = wS cs.getLast?.toList := by
  unfold cutS
  rw [HT.sIx_none, sIx_neg, wS_l, wS_len]
  rcases List.eq_nil_or_concat cs with rfl | ⟨l, c, rfl⟩
  · rfl
  · rw [List.concat_eq_append]
    simp
    rfl
theorem at_last (l : List Nat) (c : Nat) : atI (l ++ [c]) (-1) = some c := by
  unfold atI ixN
  rw [if_neg (by decide), if_pos (by rw [List.length_append, List.length_singleton]; omega)]
  have : (-1 + (((l ++ [c]).length : Nat) : Int)).toNat = l.length := by rw [List.length_append, List.length_singleton]; omega
  rw [this]
  simp
def Wd (cs : List Nat) : Prop := (∀ c ∈ cs, c = 48 ∨ c = 49) ∧ cs.length ≤ 10000
theorem Wd.str {cs : List Nat} (h : Wd cs) {d : Nat} {w : Nat} (hw : cs.length ≤ w) : Sm d w (.str (wS cs)) := sm_str (by rw [wS_len]; exact hw) (by rw [wS_l]; intro c hc; rcases h.1 c hc with rfl | rfl <;> decide)
def isInt : PyData → Bool
  | .int _ => true
  | _ => false
def isBtw (x : PyData) (a b : Int) : Bool := match x with
  | .int i => decide (a ≤ i) && decide (i ≤ b)
  | _ => false
def wordD (z : Str) : Bool := z.cps.toList.all fun c => decide (c = 48 ∨ c = 49)
def isWd : PyData → Bool
  | .str z => wordD z
  | _ => false
theorem wordD_wS {cs : List Nat} (h : Wd cs) : wordD (wS cs) = true := by
  unfold wordD
  rw [wS_l]
  exact List.all_eq_true.mpr fun c hc => decide_eq_true (h.1 c hc)
theorem wordD_of {z : Str} (h : wordD z = true) (hl : z.length ≤ 10000) : ∃ cs, z = wS cs ∧ Wd cs := by
  refine ⟨_, wS_of z, fun c hc => of_decide_eq_true (List.all_eq_true.mp h c hc), ?_⟩
  rw [Array.length_toList]; exact hl
def deeds : List Str := ["stay", "put0", "put1", "cut", "over", "back"]
def inDeeds : PyData → Bool
  | .str z => deeds.any fun y => y == z
  | _ => false
def ruleD (m : Nat) : PyData → Bool
  | .tuple [a, b] => isBtw a 0 m && inDeeds b
  | _ => false
def stateD (m : Nat) : PyData → Bool
  | .tuple xs => decide (xs.length = 3) && xs.all (ruleD m)
  | _ => false
def machD : PyData → Bool
  | .tuple xs => decide (0 < xs.length) && xs.all (stateD xs.length)
  | _ => false
def standD (m : Nat) : PyData → Bool
  | .tuple [a, b, c] => isBtw a 0 m && (isWd b && isWd c)
  | _ => false
def lenOk : PyData → Prop
  | .str z => z.length ≤ 1000000
  | .tuple xs => xs.length ≤ 1000000
  | _ => True
theorem sm_lenOk {d w : Nat} {x : PyData} (h : Sm d w x) (hw : w ≤ 1000000) : lenOk x := by
  cases x with
  | str z => have := h.wt; simp only [PyData.weight] at this; exact Nat.le_trans this hw
  | tuple xs => exact Nat.le_trans (h.untuple.2.len) hw
  | _ => trivial
section
variable {Γ : Tab} {G : List (Str × Val)} (P : Pl Γ G) {S : List Cell} {Q : Val → List Cell → Prop} {E : Exn → List Cell → Prop} {n : Nat}
include P
theorem c_is_integer {x : PyData} : wp (callF Γ G (n + 1) "is_integer" [.d x]) S Q E = Q (.d (.bool (isInt x))) S := by
  refine wp_of (wp_to ?_)
  rw [wp_pure P.k_is_integer rfl rfl rfl, wp_run]
  cases x <;> (simp only [f_is_integer, b_is_integer, bodyFuel, wp_seq, wp_seq0, x_asg, x_rtn, x_if, x_ex, x_sub, x_for, e_var, e_c, e_g, e_tup, e_lst, e_dnil, e_dnew, e_dct, e_bin, e_neg, e_cmp, e_chn, e_and, e_or, e_not, e_ite, e_idx, e_sl, e_rev, e_call, e_bi, e_rep, e_isi, e_me, e_comp, andE, orE, startE, wp_bnd, wp_ret, wp_some, wp_tru, wp_fail, wp_noex, wp_guard, isiM, wp_view_d, wp_view_k, wp_viewd_d, wp_viewI_d, wp_viewI_k, wp_viewc_d, l_cons, l_nil, itE, isT, if_pos, itemsD, asgT, testsE, wipeE, List.set_cons_zero, List.set_cons_succ, List.getElem?_cons_zero, List.getElem?_cons_succ, Option.join_some, List.map_cons, List.map_nil, List.cons_append, List.nil_append, List.length_cons, List.length_nil, List.replicate_succ, List.replicate_zero, constD, Option.map_some, mkRes, if_true, if_false, Bool.false_eq_true, Bool.not_true, Bool.not_false, List.any_cons, List.any_nil, Bool.or_false, Bool.false_or, Bool.true_or, optE]; exact ⟨_, rfl, rfl, trivial⟩)
theorem c_law_is_integer {x : PyData} : wp (callF Γ G (n + 1) "_law_is_integer" [.d x]) S Q E = Q (.d (.bool (isInt x))) S := by
  refine wp_of (wp_to ?_)
  rw [wp_pure P.k__law_is_integer rfl rfl rfl, wp_run]
  cases x <;> (simp only [f__law_is_integer, b__law_is_integer, bodyFuel, wp_seq, wp_seq0, x_asg, x_rtn, x_if, x_ex, x_sub, x_for, e_var, e_c, e_g, e_tup, e_lst, e_dnil, e_dnew, e_dct, e_bin, e_neg, e_cmp, e_chn, e_and, e_or, e_not, e_ite, e_idx, e_sl, e_rev, e_call, e_bi, e_rep, e_isi, e_me, e_comp, andE, orE, startE, wp_bnd, wp_ret, wp_some, wp_tru, wp_fail, wp_noex, wp_guard, isiM, wp_view_d, wp_view_k, wp_viewd_d, wp_viewI_d, wp_viewI_k, wp_viewc_d, l_cons, l_nil, itE, isT, if_pos, itemsD, asgT, testsE, wipeE, List.set_cons_zero, List.set_cons_succ, List.getElem?_cons_zero, List.getElem?_cons_succ, Option.join_some, List.map_cons, List.map_nil, List.cons_append, List.nil_append, List.length_cons, List.length_nil, List.replicate_succ, List.replicate_zero, constD, Option.map_some, mkRes, if_true, if_false, Bool.false_eq_true, Bool.not_true, Bool.not_false, List.any_cons, List.any_nil, Bool.or_false, Bool.false_or, Bool.true_or, optE]; exact ⟨_, rfl, rfl, trivial⟩)
def isNum : PyData → Bool
  | .int i => decide (0 ≤ i)
  | _ => false
theorem c_law_is_number {x : PyData} : wp (callF Γ G (n + 2) "_law_is_number" [.d x]) S Q E = Q (.d (.bool (isNum x))) S := by
  refine wp_of (wp_to ?_)
  rw [wp_pure P.k__law_is_number rfl rfl rfl, wp_run]
  simp only [f__law_is_number, b__law_is_number, bodyFuel, wp_seq, wp_seq0, x_asg, x_rtn, x_if, x_ex, x_sub, x_for, e_var, e_c, e_g, e_tup, e_lst, e_dnil, e_dnew, e_dct, e_bin, e_neg, e_cmp, e_chn, e_and, e_or, e_not, e_ite, e_idx, e_sl, e_rev, e_call, e_bi, e_rep, e_isi, e_me, e_comp, andE, orE, startE, wp_bnd, wp_ret, wp_some, wp_tru, wp_fail, wp_noex, wp_guard, isiM, wp_view_d, wp_view_k, wp_viewd_d, wp_viewI_d, wp_viewI_k, wp_viewc_d, l_cons, l_nil, itE, isT, if_pos, itemsD, asgT, testsE, wipeE, List.set_cons_zero, List.set_cons_succ, List.getElem?_cons_zero, List.getElem?_cons_succ, Option.join_some, List.map_cons, List.map_nil, List.cons_append, List.nil_append, List.length_cons, List.length_nil, List.replicate_succ, List.replicate_zero, constD, Option.map_some, mkRes, if_true, if_false, Bool.false_eq_true, Bool.not_true, Bool.not_false, List.any_cons, List.any_nil, Bool.or_false, Bool.false_or, Bool.true_or, optE, c_law_is_integer P]
  cases x <;> (simp only [isInt, bodyFuel, wp_seq, wp_seq0, x_asg, x_rtn, x_if, x_ex, x_sub, x_for, e_var, e_c, e_g, e_tup, e_lst, e_dnil, e_dnew, e_dct, e_bin, e_neg, e_cmp, e_chn, e_and, e_or, e_not, e_ite, e_idx, e_sl, e_rev, e_call, e_bi, e_rep, e_isi, e_me, e_comp, andE, orE, startE, wp_bnd, wp_ret, wp_some, wp_tru, wp_fail, wp_noex, wp_guard, isiM, wp_view_d, wp_view_k, wp_viewd_d, wp_viewI_d, wp_viewI_k, wp_viewc_d, l_cons, l_nil, itE, isT, if_pos, itemsD, asgT, testsE, wipeE, List.set_cons_zero, List.set_cons_succ, List.getElem?_cons_zero, List.getElem?_cons_succ, Option.join_some, List.map_cons, List.map_nil, List.cons_append, List.nil_append, List.length_cons, List.length_nil, List.replicate_succ, List.replicate_zero, constD, Option.map_some, mkRes, if_true, if_false, Bool.false_eq_true, Bool.not_true, Bool.not_false, List.any_cons, List.any_nil, Bool.or_false, Bool.false_or, Bool.true_or, optE, wp_ge]; exact ⟨_, rfl, rfl, trivial⟩)
theorem c_is_between {x : PyData} {a b : Int} : wp (callF Γ G (n + 2) "is_between" [.d x, .d (.int a), .d (.int b)]) S Q E = Q (.d (.bool (isBtw x a b))) S := by
  refine wp_of (wp_to ?_)
  rw [wp_pure P.k_is_between rfl rfl rfl, wp_run]
  simp only [f_is_between, b_is_between, bodyFuel, wp_seq, wp_seq0, x_asg, x_rtn, x_if, x_ex, x_sub, x_for, e_var, e_c, e_g, e_tup, e_lst, e_dnil, e_dnew, e_dct, e_bin, e_neg, e_cmp, e_chn, e_and, e_or, e_not, e_ite, e_idx, e_sl, e_rev, e_call, e_bi, e_rep, e_isi, e_me, e_comp, andE, orE, startE, wp_bnd, wp_ret, wp_some, wp_tru, wp_fail, wp_noex, wp_guard, isiM, wp_view_d, wp_view_k, wp_viewd_d, wp_viewI_d, wp_viewI_k, wp_viewc_d, l_cons, l_nil, itE, isT, if_pos, itemsD, asgT, testsE, wipeE, List.set_cons_zero, List.set_cons_succ, List.getElem?_cons_zero, List.getElem?_cons_succ, Option.join_some, List.map_cons, List.map_nil, List.cons_append, List.nil_append, List.length_cons, List.length_nil, List.replicate_succ, List.replicate_zero, constD, Option.map_some, mkRes, if_true, if_false, Bool.false_eq_true, Bool.not_true, Bool.not_false, List.any_cons, List.any_nil, Bool.or_false, Bool.false_or, Bool.true_or, optE, c_is_integer P]
  cases x with
  | int i =>
    simp only [isInt, bodyFuel, wp_seq, wp_seq0, x_asg, x_rtn, x_if, x_ex, x_sub, x_for, e_var, e_c, e_g, e_tup, e_lst, e_dnil, e_dnew, e_dct, e_bin, e_neg, e_cmp, e_chn, e_and, e_or, e_not, e_ite, e_idx, e_sl, e_rev, e_call, e_bi, e_rep, e_isi, e_me, e_comp, andE, orE, startE, wp_bnd, wp_ret, wp_some, wp_tru, wp_fail, wp_noex, wp_guard, isiM, wp_view_d, wp_view_k, wp_viewd_d, wp_viewI_d, wp_viewI_k, wp_viewc_d, l_cons, l_nil, itE, isT, if_pos, itemsD, asgT, testsE, wipeE, List.set_cons_zero, List.set_cons_succ, List.getElem?_cons_zero, List.getElem?_cons_succ, Option.join_some, List.map_cons, List.map_nil, List.cons_append, List.nil_append, List.length_cons, List.length_nil, List.replicate_succ, List.replicate_zero, constD, Option.map_some, mkRes, if_true, if_false, Bool.false_eq_true, Bool.not_true, Bool.not_false, List.any_cons, List.any_nil, Bool.or_false, Bool.false_or, Bool.true_or, optE, wp_le, wp_ite, isBtw]
    by_cases h : a ≤ i
    · exact ⟨fun _ => ⟨_, rfl, by simp [h], trivial⟩, fun k => absurd (decide_eq_true h) k⟩
    · exact ⟨fun k => absurd (of_decide_eq_true k) h, fun _ => ⟨_, rfl, by simp [h], trivial⟩⟩
  | _ => simp only [isInt, bodyFuel, wp_seq, wp_seq0, x_asg, x_rtn, x_if, x_ex, x_sub, x_for, e_var, e_c, e_g, e_tup, e_lst, e_dnil, e_dnew, e_dct, e_bin, e_neg, e_cmp, e_chn, e_and, e_or, e_not, e_ite, e_idx, e_sl, e_rev, e_call, e_bi, e_rep, e_isi, e_me, e_comp, andE, orE, startE, wp_bnd, wp_ret, wp_some, wp_tru, wp_fail, wp_noex, wp_guard, isiM, wp_view_d, wp_view_k, wp_viewd_d, wp_viewI_d, wp_viewI_k, wp_viewc_d, l_cons, l_nil, itE, isT, if_pos, itemsD, asgT, testsE, wipeE, List.set_cons_zero, List.set_cons_succ, List.getElem?_cons_zero, List.getElem?_cons_succ, Option.join_some, List.map_cons, List.map_nil, List.cons_append, List.nil_append, List.length_cons, List.length_nil, List.replicate_succ, List.replicate_zero, constD, Option.map_some, mkRes, if_true, if_false, Bool.false_eq_true, Bool.not_true, Bool.not_false, List.any_cons, List.any_nil, Bool.or_false, Bool.false_or, Bool.true_or, optE]; exact ⟨_, rfl, rfl, trivial⟩
theorem c_is_word_value {x : PyData} (hx : lenOk x) : wp (callF Γ G (n + 1) "is_word_value" [.d x]) S Q E = Q (.d (.bool (isWd x))) S := by
  refine wp_of (wp_to ?_)
  rw [wp_pure P.k_is_word_value rfl rfl rfl, wp_run]
  simp only [f_is_word_value, b_is_word_value, bodyFuel, wp_seq, wp_seq0, x_asg, x_rtn, x_if, x_ex, x_sub, x_for, e_var, e_c, e_g, e_tup, e_lst, e_dnil, e_dnew, e_dct, e_bin, e_neg, e_cmp, e_chn, e_and, e_or, e_not, e_ite, e_idx, e_sl, e_rev, e_call, e_bi, e_rep, e_isi, e_me, e_comp, andE, orE, startE, wp_bnd, wp_ret, wp_some, wp_tru, wp_fail, wp_noex, wp_guard, isiM, wp_view_d, wp_view_k, wp_viewd_d, wp_viewI_d, wp_viewI_k, wp_viewc_d, l_cons, l_nil, itE, isT, if_pos, itemsD, asgT, testsE, wipeE, List.set_cons_zero, List.set_cons_succ, List.getElem?_cons_zero, List.getElem?_cons_succ, Option.join_some, List.map_cons, List.map_nil, List.cons_append, List.nil_append, List.length_cons, List.length_nil, List.replicate_succ, List.replicate_zero, constD, Option.map_some, mkRes, if_true, if_false, Bool.false_eq_true, Bool.not_true, Bool.not_false, List.any_cons, List.any_nil, Bool.or_false, Bool.false_or, Bool.true_or, optE]
  cases x with
  | str z =>
    have hl : z.cps.toList.length ≤ sizeLine := sz1 _ (by simpa using (show z.cps.size ≤ 1000000 from hx))
    simp only [bodyFuel, wp_seq, wp_seq0, x_asg, x_rtn, x_if, x_ex, x_sub, x_for, e_var, e_c, e_g, e_tup, e_lst, e_dnil, e_dnew, e_dct, e_bin, e_neg, e_cmp, e_chn, e_and, e_or, e_not, e_ite, e_idx, e_sl, e_rev, e_call, e_bi, e_rep, e_isi, e_me, e_comp, andE, orE, startE, wp_bnd, wp_ret, wp_some, wp_tru, wp_fail, wp_noex, wp_guard, isiM, wp_view_d, wp_view_k, wp_viewd_d, wp_viewI_d, wp_viewI_k, wp_viewc_d, l_cons, l_nil, itE, isT, if_pos, itemsD, asgT, testsE, wipeE, List.set_cons_zero, List.set_cons_succ, List.getElem?_cons_zero, List.getElem?_cons_succ, Option.join_some, List.map_cons, List.map_nil, List.cons_append, List.nil_append, List.length_cons, List.length_nil, List.replicate_succ, List.replicate_zero, constD, Option.map_some, mkRes, if_true, if_false, Bool.false_eq_true, Bool.not_true, Bool.not_false, List.any_cons, List.any_nil, Bool.or_false, Bool.false_or, Bool.true_or, optE]
    refine wp_comp (fun v => some (match v with
      | .d (.str s) => .d (.bool (("0" : Str) == s || ("1" : Str) == s))
      | _ => .d .none)) (fun v hv => ?_) ?_
    · simp only [List.mem_map] at hv
      obtain ⟨c, ⟨d, hd, rfl⟩, rfl⟩ := hv
      simp only [bodyFuel, wp_seq, wp_seq0, x_asg, x_rtn, x_if, x_ex, x_sub, x_for, e_var, e_c, e_g, e_tup, e_lst, e_dnil, e_dnew, e_dct, e_bin, e_neg, e_cmp, e_chn, e_and, e_or, e_not, e_ite, e_idx, e_sl, e_rev, e_call, e_bi, e_rep, e_isi, e_me, e_comp, andE, orE, startE, wp_bnd, wp_ret, wp_some, wp_tru, wp_fail, wp_noex, wp_guard, isiM, wp_view_d, wp_view_k, wp_viewd_d, wp_viewI_d, wp_viewI_k, wp_viewc_d, l_cons, l_nil, itE, isT, if_pos, itemsD, asgT, testsE, wipeE, List.set_cons_zero, List.set_cons_succ, List.getElem?_cons_zero, List.getElem?_cons_succ, Option.join_some, List.map_cons, List.map_nil, List.cons_append, List.nil_append, List.length_cons, List.length_nil, List.replicate_succ, List.replicate_zero, constD, Option.map_some, mkRes, if_true, if_false, Bool.false_eq_true, Bool.not_true, Bool.not_false, List.any_cons, List.any_nil, Bool.or_false, Bool.false_or, Bool.true_or, optE]
      rw [show (Option.map (fun x => x.snd) G[0]?) = some (Val.k (.tuple (([("0" : Str), ("1" : Str)] : List Str).map .str))) by rw [P.g0]; rfl, wp_some]
      rw [wp_in_k]
      show wp (lift (anyEq (.str (sign d)) (([("0" : Str), ("1" : Str)] : List Str).map .str))) [] _ _
      rw [anyEq_strs, wp_some]
      simp only [List.any_cons, List.any_nil, Bool.or_false]
      exact ⟨trivial, trivial⟩
    · rw [fm_some, List.map_map, wp_list]
      refine ⟨by simpa using hl, _, allD_map (fun c => .bool (("0" : Str) == sign c || ("1" : Str) == sign c)) _, ?_⟩
      rw [show (z.cps.toList.map fun c => PyData.bool (("0" : Str) == sign c || ("1" : Str) == sign c)) = (z.cps.toList.map fun c => (("0" : Str) == sign c || ("1" : Str) == sign c)).map .bool by rw [List.map_map]; rfl, biM_all]
      refine ⟨_, rfl, ?_, trivial⟩
      congr 2
      show _ = wordD z
      unfold wordD
      rw [List.all_map]
      congr 1
      funext c
      have e0 : ("0" : Str) = sign 48 := by decide +kernel
      have e1 : ("1" : Str) = sign 49 := by decide +kernel
      simp only [Function.comp, List.any_cons, List.any_nil, Bool.or_false, id, e0, e1]
      have e : ∀ a b : Nat, (sign a == sign b) = decide (b = a) := fun a b => by
        by_cases h : b = a
        · subst h; simp
        · rw [decide_eq_false h]
          exact beq_eq_false_iff_ne.mpr fun q => h ((sign_eq a b).mp q).symm
      rw [e, e]
      by_cases h1 : c = 48 <;> by_cases h2 : c = 49 <;> simp [h1, h2]
  | _ => simp only [bodyFuel, wp_seq, wp_seq0, x_asg, x_rtn, x_if, x_ex, x_sub, x_for, e_var, e_c, e_g, e_tup, e_lst, e_dnil, e_dnew, e_dct, e_bin, e_neg, e_cmp, e_chn, e_and, e_or, e_not, e_ite, e_idx, e_sl, e_rev, e_call, e_bi, e_rep, e_isi, e_me, e_comp, andE, orE, startE, wp_bnd, wp_ret, wp_some, wp_tru, wp_fail, wp_noex, wp_guard, isiM, wp_view_d, wp_view_k, wp_viewd_d, wp_viewI_d, wp_viewI_k, wp_viewc_d, l_cons, l_nil, itE, isT, if_pos, itemsD, asgT, testsE, wipeE, List.set_cons_zero, List.set_cons_succ, List.getElem?_cons_zero, List.getElem?_cons_succ, Option.join_some, List.map_cons, List.map_nil, List.cons_append, List.nil_append, List.length_cons, List.length_nil, List.replicate_succ, List.replicate_zero, constD, Option.map_some, mkRes, if_true, if_false, Bool.false_eq_true, Bool.not_true, Bool.not_false, List.any_cons, List.any_nil, Bool.or_false, Bool.false_or, Bool.true_or, optE]; exact ⟨_, rfl, rfl, trivial⟩
end
theorem anyEq_other {x : PyData} (hx : ∀ z, x ≠ .str z) : ∀ ys : List Str, anyEq x (ys.map .str) = some false
  | [] => rfl
  | y :: ys => by
    rw [List.map_cons]
    unfold anyEq
    rw [anyEq_other hx ys]
    cases x <;> first | rfl | exact absurd rfl (hx _)
theorem in_deeds (b : PyData) : inD b (.tuple [.str "stay", .str "put0", .str "put1", .str "cut", .str "over", .str "back"]) = some (inDeeds b) := by
  show anyEq b (deeds.map .str) = _
  cases b with
  | str z => rw [anyEq_strs]; rfl
  | _ => exact anyEq_other (fun z e => by cases e) _
theorem is3 : ∀ xs : List PyData, xs.length = 3 → ∃ a b c, xs = [a, b, c]
  | [a, b, c], _ => ⟨a, b, c, rfl⟩
theorem is2 : ∀ xs : List PyData, xs.length = 2 → ∃ a b, xs = [a, b]
  | [a, b], _ => ⟨a, b, rfl⟩
theorem ruleD_len {m : Nat} {xs : List PyData} (h : xs.length ≠ 2) : ruleD m (.tuple xs) = false := by
  match xs with
  | [] => rfl
  | [_] => rfl
  | [_, _] => exact absurd rfl h
  | _ :: _ :: _ :: _ => rfl
theorem standD_len {m : Nat} {xs : List PyData} (h : xs.length ≠ 3) : standD m (.tuple xs) = false := by
  match xs with
  | [] => rfl
  | [_] => rfl
  | [_, _] => rfl
  | [_, _, _] => exact absurd rfl h
  | _ :: _ :: _ :: _ :: _ => rfl
/-- a comprehension of looks -/
theorem wp_allC {f : PyData → Bool} {xs : List PyData} {body : Val → M (Option Val)} {S : List Cell} {Q : Val → List Cell → Prop} {E : Exn → List Cell → Prop} (hl : xs.length ≤ 1000000) (hb : ∀ x ∈ xs, wp (body (.d x)) S (fun o S' => o = some (.d (.bool (f x))) ∧ S' = S) fun _ _ => False)
    (q : Q (.d (.bool (xs.all f))) S) : wp (compL body (xs.map .d)) S (fun vs S1 => wp (mkList false vs) S1 (fun v S2 => wp (biM false .all_ [v]) S2 Q E) E) E := by
  refine wp_comp (fun v => some (match v with
      | .d x => .d (.bool (f x))
      | _ => .d .none)) (fun v hv => ?_) ?_
  · obtain ⟨x, hx, rfl⟩ := List.mem_map.mp hv
    exact hb x hx
  · rw [fm_some, wp_list]
    refine ⟨by rw [List.length_map]; exact sz1 _ hl, _, allD_map (fun x => .bool (f x)) _, ?_⟩
    rw [show (xs.map fun x => PyData.bool (f x)) = (xs.map f).map .bool by rw [List.map_map]; rfl, biM_all, List.all_map]
    exact q
section
variable {Γ : Tab} {G : List (Str × Val)} (P : Pl Γ G) {S : List Cell} {Q : Val → List Cell → Prop} {E : Exn → List Cell → Prop} {n : Nat}
include P
theorem c_is_rule {x : PyData} {m : Nat} : wp (callF Γ G (n + 3) "is_rule" [.d x, .d (.int m)]) S Q E = Q (.d (.bool (ruleD m x))) S := by
  refine wp_of (wp_to ?_)
  rw [wp_pure P.k_is_rule rfl rfl rfl, wp_run]
  simp only [f_is_rule, b_is_rule, bodyFuel, wp_seq, wp_seq0, x_asg, x_rtn, x_if, x_ex, x_sub, x_for, e_var, e_c, e_g, e_tup, e_lst, e_dnil, e_dnew, e_dct, e_bin, e_neg, e_cmp, e_chn, e_and, e_or, e_not, e_ite, e_idx, e_sl, e_rev, e_call, e_bi, e_rep, e_isi, e_me, e_comp, andE, orE, startE, wp_bnd, wp_ret, wp_some, wp_tru, wp_fail, wp_noex, wp_guard, isiM, wp_view_d, wp_view_k, wp_viewd_d, wp_viewI_d, wp_viewI_k, wp_viewc_d, l_cons, l_nil, itE, isT, if_pos, itemsD, asgT, testsE, wipeE, List.set_cons_zero, List.set_cons_succ, List.getElem?_cons_zero, List.getElem?_cons_succ, Option.join_some, List.map_cons, List.map_nil, List.cons_append, List.nil_append, List.length_cons, List.length_nil, List.replicate_succ, List.replicate_zero, constD, Option.map_some, mkRes, if_true, if_false, Bool.false_eq_true, Bool.not_true, Bool.not_false, List.any_cons, List.any_nil, Bool.or_false, Bool.false_or, Bool.true_or, optE]
  cases x with
  | tuple xs =>
    simp only [bodyFuel, wp_seq, wp_seq0, x_asg, x_rtn, x_if, x_ex, x_sub, x_for, e_var, e_c, e_g, e_tup, e_lst, e_dnil, e_dnew, e_dct, e_bin, e_neg, e_cmp, e_chn, e_and, e_or, e_not, e_ite, e_idx, e_sl, e_rev, e_call, e_bi, e_rep, e_isi, e_me, e_comp, andE, orE, startE, wp_bnd, wp_ret, wp_some, wp_tru, wp_fail, wp_noex, wp_guard, isiM, wp_view_d, wp_view_k, wp_viewd_d, wp_viewI_d, wp_viewI_k, wp_viewc_d, l_cons, l_nil, itE, isT, if_pos, itemsD, asgT, testsE, wipeE, List.set_cons_zero, List.set_cons_succ, List.getElem?_cons_zero, List.getElem?_cons_succ, Option.join_some, List.map_cons, List.map_nil, List.cons_append, List.nil_append, List.length_cons, List.length_nil, List.replicate_succ, List.replicate_zero, constD, Option.map_some, mkRes, if_true, if_false, Bool.false_eq_true, Bool.not_true, Bool.not_false, List.any_cons, List.any_nil, Bool.or_false, Bool.false_or, Bool.true_or, optE, wp_lenT, wp_neI, wp_ite]
    by_cases h : xs.length = 2
    · obtain ⟨a, b, rfl⟩ := is2 xs h
      refine ⟨fun k => absurd k (by simp), fun _ => ?_⟩
      rw [wp_idxT (y := a) rfl, c_is_between P]
      simp only [bodyFuel, wp_seq, wp_seq0, x_asg, x_rtn, x_if, x_ex, x_sub, x_for, e_var, e_c, e_g, e_tup, e_lst, e_dnil, e_dnew, e_dct, e_bin, e_neg, e_cmp, e_chn, e_and, e_or, e_not, e_ite, e_idx, e_sl, e_rev, e_call, e_bi, e_rep, e_isi, e_me, e_comp, andE, orE, startE, wp_bnd, wp_ret, wp_some, wp_tru, wp_fail, wp_noex, wp_guard, isiM, wp_view_d, wp_view_k, wp_viewd_d, wp_viewI_d, wp_viewI_k, wp_viewc_d, l_cons, l_nil, itE, isT, if_pos, itemsD, asgT, testsE, wipeE, List.set_cons_zero, List.set_cons_succ, List.getElem?_cons_zero, List.getElem?_cons_succ, Option.join_some, List.map_cons, List.map_nil, List.cons_append, List.nil_append, List.length_cons, List.length_nil, List.replicate_succ, List.replicate_zero, constD, Option.map_some, mkRes, if_true, if_false, Bool.false_eq_true, Bool.not_true, Bool.not_false, List.any_cons, List.any_nil, Bool.or_false, Bool.false_or, Bool.true_or, optE, wp_ite]
      refine ⟨fun hb => ?_, fun hb => ⟨_, rfl, ?_, trivial⟩⟩
      · rw [wp_idxT (y := b) rfl, P.g1]
        show wp (cmpM .in_ (.d b) (.k (.tuple [.str "stay", .str "put0", .str "put1", .str "cut", .str "over", .str "back"]))) _ _ _
        rw [wp_in_k, in_deeds, wp_some]
        refine ⟨_, rfl, ?_, trivial⟩
        simp only [ruleD, hb, Bool.true_and]
      · simp only [ruleD, hb, Bool.false_and]
    · refine ⟨fun _ => ⟨_, rfl, by rw [ruleD_len h], trivial⟩, fun k => absurd ?_ k⟩
      simp; omega
  | _ => simp only [bodyFuel, wp_seq, wp_seq0, x_asg, x_rtn, x_if, x_ex, x_sub, x_for, e_var, e_c, e_g, e_tup, e_lst, e_dnil, e_dnew, e_dct, e_bin, e_neg, e_cmp, e_chn, e_and, e_or, e_not, e_ite, e_idx, e_sl, e_rev, e_call, e_bi, e_rep, e_isi, e_me, e_comp, andE, orE, startE, wp_bnd, wp_ret, wp_some, wp_tru, wp_fail, wp_noex, wp_guard, isiM, wp_view_d, wp_view_k, wp_viewd_d, wp_viewI_d, wp_viewI_k, wp_viewc_d, l_cons, l_nil, itE, isT, if_pos, itemsD, asgT, testsE, wipeE, List.set_cons_zero, List.set_cons_succ, List.getElem?_cons_zero, List.getElem?_cons_succ, Option.join_some, List.map_cons, List.map_nil, List.cons_append, List.nil_append, List.length_cons, List.length_nil, List.replicate_succ, List.replicate_zero, constD, Option.map_some, mkRes, if_true, if_false, Bool.false_eq_true, Bool.not_true, Bool.not_false, List.any_cons, List.any_nil, Bool.or_false, Bool.false_or, Bool.true_or, optE]; exact ⟨_, rfl, rfl, trivial⟩
theorem c_is_state {x : PyData} {m : Nat} (hx : lenOk x) : wp (callF Γ G (n + 4) "is_state" [.d x, .d (.int m)]) S Q E = Q (.d (.bool (stateD m x))) S := by
  refine wp_of (wp_to ?_)
  rw [wp_pure P.k_is_state rfl rfl rfl, wp_run]
  simp only [f_is_state, b_is_state, bodyFuel, wp_seq, wp_seq0, x_asg, x_rtn, x_if, x_ex, x_sub, x_for, e_var, e_c, e_g, e_tup, e_lst, e_dnil, e_dnew, e_dct, e_bin, e_neg, e_cmp, e_chn, e_and, e_or, e_not, e_ite, e_idx, e_sl, e_rev, e_call, e_bi, e_rep, e_isi, e_me, e_comp, andE, orE, startE, wp_bnd, wp_ret, wp_some, wp_tru, wp_fail, wp_noex, wp_guard, isiM, wp_view_d, wp_view_k, wp_viewd_d, wp_viewI_d, wp_viewI_k, wp_viewc_d, l_cons, l_nil, itE, isT, if_pos, itemsD, asgT, testsE, wipeE, List.set_cons_zero, List.set_cons_succ, List.getElem?_cons_zero, List.getElem?_cons_succ, Option.join_some, List.map_cons, List.map_nil, List.cons_append, List.nil_append, List.length_cons, List.length_nil, List.replicate_succ, List.replicate_zero, constD, Option.map_some, mkRes, if_true, if_false, Bool.false_eq_true, Bool.not_true, Bool.not_false, List.any_cons, List.any_nil, Bool.or_false, Bool.false_or, Bool.true_or, optE]
  cases x with
  | tuple xs =>
    simp only [bodyFuel, wp_seq, wp_seq0, x_asg, x_rtn, x_if, x_ex, x_sub, x_for, e_var, e_c, e_g, e_tup, e_lst, e_dnil, e_dnew, e_dct, e_bin, e_neg, e_cmp, e_chn, e_and, e_or, e_not, e_ite, e_idx, e_sl, e_rev, e_call, e_bi, e_rep, e_isi, e_me, e_comp, andE, orE, startE, wp_bnd, wp_ret, wp_some, wp_tru, wp_fail, wp_noex, wp_guard, isiM, wp_view_d, wp_view_k, wp_viewd_d, wp_viewI_d, wp_viewI_k, wp_viewc_d, l_cons, l_nil, itE, isT, if_pos, itemsD, asgT, testsE, wipeE, List.set_cons_zero, List.set_cons_succ, List.getElem?_cons_zero, List.getElem?_cons_succ, Option.join_some, List.map_cons, List.map_nil, List.cons_append, List.nil_append, List.length_cons, List.length_nil, List.replicate_succ, List.replicate_zero, constD, Option.map_some, mkRes, if_true, if_false, Bool.false_eq_true, Bool.not_true, Bool.not_false, List.any_cons, List.any_nil, Bool.or_false, Bool.false_or, Bool.true_or, optE, wp_lenT, P.g2, wp_eqI, wp_ite]
    rw [show wp (biM false .len [.k (.tuple [.str "", .str "0", .str "1"])]) = wp (biM false .len [.d (.tuple [.str "", .str "0", .str "1"])]) from rfl, wp_lenT, wp_eqI]
    simp only [bodyFuel, wp_seq, wp_seq0, x_asg, x_rtn, x_if, x_ex, x_sub, x_for, e_var, e_c, e_g, e_tup, e_lst, e_dnil, e_dnew, e_dct, e_bin, e_neg, e_cmp, e_chn, e_and, e_or, e_not, e_ite, e_idx, e_sl, e_rev, e_call, e_bi, e_rep, e_isi, e_me, e_comp, andE, orE, startE, wp_bnd, wp_ret, wp_some, wp_tru, wp_fail, wp_noex, wp_guard, isiM, wp_view_d, wp_view_k, wp_viewd_d, wp_viewI_d, wp_viewI_k, wp_viewc_d, l_cons, l_nil, itE, isT, if_pos, itemsD, asgT, testsE, wipeE, List.set_cons_zero, List.set_cons_succ, List.getElem?_cons_zero, List.getElem?_cons_succ, Option.join_some, List.map_cons, List.map_nil, List.cons_append, List.nil_append, List.length_cons, List.length_nil, List.replicate_succ, List.replicate_zero, constD, Option.map_some, mkRes, if_true, if_false, Bool.false_eq_true, Bool.not_true, Bool.not_false, List.any_cons, List.any_nil, Bool.or_false, Bool.false_or, Bool.true_or, optE, wp_ite]
    refine ⟨fun h => ?_, fun h => ⟨_, rfl, ?_, trivial⟩⟩
    · refine wp_allC (f := ruleD m) (by have := eq_of_beq h; simp at this; omega) (fun x hx => ?_) ?_
      · simp only [bodyFuel, wp_seq, wp_seq0, x_asg, x_rtn, x_if, x_ex, x_sub, x_for, e_var, e_c, e_g, e_tup, e_lst, e_dnil, e_dnew, e_dct, e_bin, e_neg, e_cmp, e_chn, e_and, e_or, e_not, e_ite, e_idx, e_sl, e_rev, e_call, e_bi, e_rep, e_isi, e_me, e_comp, andE, orE, startE, wp_bnd, wp_ret, wp_some, wp_tru, wp_fail, wp_noex, wp_guard, isiM, wp_view_d, wp_view_k, wp_viewd_d, wp_viewI_d, wp_viewI_k, wp_viewc_d, l_cons, l_nil, itE, isT, if_pos, itemsD, asgT, testsE, wipeE, List.set_cons_zero, List.set_cons_succ, List.getElem?_cons_zero, List.getElem?_cons_succ, Option.join_some, List.map_cons, List.map_nil, List.cons_append, List.nil_append, List.length_cons, List.length_nil, List.replicate_succ, List.replicate_zero, constD, Option.map_some, mkRes, if_true, if_false, Bool.false_eq_true, Bool.not_true, Bool.not_false, List.any_cons, List.any_nil, Bool.or_false, Bool.false_or, Bool.true_or, optE, c_is_rule P]
        exact ⟨trivial, trivial⟩
      · refine ⟨_, rfl, ?_, trivial⟩
        have : xs.length = 3 := by have := eq_of_beq h; simp at this; omega
        simp only [stateD, this, decide_true, Bool.true_and]
    · have : ¬ xs.length = 3 := fun k => h (by simp [k])
      simp only [stateD, this, decide_false, Bool.false_and]
  | _ => simp only [bodyFuel, wp_seq, wp_seq0, x_asg, x_rtn, x_if, x_ex, x_sub, x_for, e_var, e_c, e_g, e_tup, e_lst, e_dnil, e_dnew, e_dct, e_bin, e_neg, e_cmp, e_chn, e_and, e_or, e_not, e_ite, e_idx, e_sl, e_rev, e_call, e_bi, e_rep, e_isi, e_me, e_comp, andE, orE, startE, wp_bnd, wp_ret, wp_some, wp_tru, wp_fail, wp_noex, wp_guard, isiM, wp_view_d, wp_view_k, wp_viewd_d, wp_viewI_d, wp_viewI_k, wp_viewc_d, l_cons, l_nil, itE, isT, if_pos, itemsD, asgT, testsE, wipeE, List.set_cons_zero, List.set_cons_succ, List.getElem?_cons_zero, List.getElem?_cons_succ, Option.join_some, List.map_cons, List.map_nil, List.cons_append, List.nil_append, List.length_cons, List.length_nil, List.replicate_succ, List.replicate_zero, constD, Option.map_some, mkRes, if_true, if_false, Bool.false_eq_true, Bool.not_true, Bool.not_false, List.any_cons, List.any_nil, Bool.or_false, Bool.false_or, Bool.true_or, optE]; exact ⟨_, rfl, rfl, trivial⟩
theorem c_is_machine {x : PyData} {d w : Nat} (hx : Sm d w x) (hw : w ≤ 1000000) : wp (callF Γ G (n + 5) "is_machine" [.d x]) S Q E = Q (.d (.bool (machD x))) S := by
  refine wp_of (wp_to ?_)
  rw [wp_pure P.k_is_machine rfl rfl rfl, wp_run]
  simp only [f_is_machine, b_is_machine, bodyFuel, wp_seq, wp_seq0, x_asg, x_rtn, x_if, x_ex, x_sub, x_for, e_var, e_c, e_g, e_tup, e_lst, e_dnil, e_dnew, e_dct, e_bin, e_neg, e_cmp, e_chn, e_and, e_or, e_not, e_ite, e_idx, e_sl, e_rev, e_call, e_bi, e_rep, e_isi, e_me, e_comp, andE, orE, startE, wp_bnd, wp_ret, wp_some, wp_tru, wp_fail, wp_noex, wp_guard, isiM, wp_view_d, wp_view_k, wp_viewd_d, wp_viewI_d, wp_viewI_k, wp_viewc_d, l_cons, l_nil, itE, isT, if_pos, itemsD, asgT, testsE, wipeE, List.set_cons_zero, List.set_cons_succ, List.getElem?_cons_zero, List.getElem?_cons_succ, Option.join_some, List.map_cons, List.map_nil, List.cons_append, List.nil_append, List.length_cons, List.length_nil, List.replicate_succ, List.replicate_zero, constD, Option.map_some, mkRes, if_true, if_false, Bool.false_eq_true, Bool.not_true, Bool.not_false, List.any_cons, List.any_nil, Bool.or_false, Bool.false_or, Bool.true_or, optE]
  cases x with
  | tuple xs =>
    simp only [bodyFuel, wp_seq, wp_seq0, x_asg, x_rtn, x_if, x_ex, x_sub, x_for, e_var, e_c, e_g, e_tup, e_lst, e_dnil, e_dnew, e_dct, e_bin, e_neg, e_cmp, e_chn, e_and, e_or, e_not, e_ite, e_idx, e_sl, e_rev, e_call, e_bi, e_rep, e_isi, e_me, e_comp, andE, orE, startE, wp_bnd, wp_ret, wp_some, wp_tru, wp_fail, wp_noex, wp_guard, isiM, wp_view_d, wp_view_k, wp_viewd_d, wp_viewI_d, wp_viewI_k, wp_viewc_d, l_cons, l_nil, itE, isT, if_pos, itemsD, asgT, testsE, wipeE, List.set_cons_zero, List.set_cons_succ, List.getElem?_cons_zero, List.getElem?_cons_succ, Option.join_some, List.map_cons, List.map_nil, List.cons_append, List.nil_append, List.length_cons, List.length_nil, List.replicate_succ, List.replicate_zero, constD, Option.map_some, mkRes, if_true, if_false, Bool.false_eq_true, Bool.not_true, Bool.not_false, List.any_cons, List.any_nil, Bool.or_false, Bool.false_or, Bool.true_or, optE, wp_lenT, wp_gt, wp_ite]
    refine ⟨fun h => ?_, fun h => ⟨_, rfl, ?_, trivial⟩⟩
    · have hl := hx.untuple.2
      refine wp_allC (f := stateD xs.length) (by have := hl.len; omega) (fun x hx => ?_) ?_
      · simp only [bodyFuel, wp_seq, wp_seq0, x_asg, x_rtn, x_if, x_ex, x_sub, x_for, e_var, e_c, e_g, e_tup, e_lst, e_dnil, e_dnew, e_dct, e_bin, e_neg, e_cmp, e_chn, e_and, e_or, e_not, e_ite, e_idx, e_sl, e_rev, e_call, e_bi, e_rep, e_isi, e_me, e_comp, andE, orE, startE, wp_bnd, wp_ret, wp_some, wp_tru, wp_fail, wp_noex, wp_guard, isiM, wp_view_d, wp_view_k, wp_viewd_d, wp_viewI_d, wp_viewI_k, wp_viewc_d, l_cons, l_nil, itE, isT, if_pos, itemsD, asgT, testsE, wipeE, List.set_cons_zero, List.set_cons_succ, List.getElem?_cons_zero, List.getElem?_cons_succ, Option.join_some, List.map_cons, List.map_nil, List.cons_append, List.nil_append, List.length_cons, List.length_nil, List.replicate_succ, List.replicate_zero, constD, Option.map_some, mkRes, if_true, if_false, Bool.false_eq_true, Bool.not_true, Bool.not_false, List.any_cons, List.any_nil, Bool.or_false, Bool.false_or, Bool.true_or, optE, wp_lenT, c_is_state P (sm_lenOk (hl.mem hx) hw)]
        exact ⟨trivial, trivial⟩
      · refine ⟨_, rfl, ?_, trivial⟩
        have : 0 < xs.length := by have := of_decide_eq_true h; omega
        simp only [machD, this, decide_true, Bool.true_and]
    · have : ¬ 0 < xs.length := fun k => h (decide_eq_true (by omega))
      simp only [machD, this, decide_false, Bool.false_and]
  | _ => simp only [bodyFuel, wp_seq, wp_seq0, x_asg, x_rtn, x_if, x_ex, x_sub, x_for, e_var, e_c, e_g, e_tup, e_lst, e_dnil, e_dnew, e_dct, e_bin, e_neg, e_cmp, e_chn, e_and, e_or, e_not, e_ite, e_idx, e_sl, e_rev, e_call, e_bi, e_rep, e_isi, e_me, e_comp, andE, orE, startE, wp_bnd, wp_ret, wp_some, wp_tru, wp_fail, wp_noex, wp_guard, isiM, wp_view_d, wp_view_k, wp_viewd_d, wp_viewI_d, wp_viewI_k, wp_viewc_d, l_cons, l_nil, itE, isT, if_pos, itemsD, asgT, testsE, wipeE, List.set_cons_zero, List.set_cons_succ, List.getElem?_cons_zero, List.getElem?_cons_succ, Option.join_some, List.map_cons, List.map_nil, List.cons_append, List.nil_append, List.length_cons, List.length_nil, List.replicate_succ, List.replicate_zero, constD, Option.map_some, mkRes, if_true, if_false, Bool.false_eq_true, Bool.not_true, Bool.not_false, List.any_cons, List.any_nil, Bool.or_false, Bool.false_or, Bool.true_or, optE]; exact ⟨_, rfl, rfl, trivial⟩
end
end Pm
end
section
set_option Elab.async false
set_option linter.all false
set_option maxRecDepth 100000
set_option maxHeartbeats 0
namespace Pm
open PySem PySem.Spec L2 Ev
/-- what a deed does to two piles -/
def doneL (d : Str) (l r : List Nat) : List Nat × List Nat :=
  if d == "put0" then (l ++ [48], r) else if d == "put1" then (l ++ [49], r) else if d == "cut" then (l.dropLast, r) else if d == "over" then (l.dropLast, r ++ l.getLast?.toList) else if d == "back" then (l ++ r.getLast?.toList, r.dropLast) else (l, r)
def st3 (s : Int) (l r : List Nat) : PyData := .tuple [.int s, .str (wS l), .str (wS r)]
/-- the place of a pile's last letter -/
def endN (l : List Nat) : Nat := match l.getLast? with
  | none => 0
  | some c => if c = 48 then 1 else 2
/-- one step: what the rule of a state says -/
def stepR (r3 : PyData) (l r : List Nat) : PyData := match r3 with
  | .tuple rs => (match rs[endN l]? with
    | some (.tuple [.int t, .str d]) => st3 t (doneL d l r).1 (doneL d l r).2
    | _ => .none)
  | _ => .none
def stepD (xs : List PyData) (s : Int) (l r : List Nat) : PyData := if s = xs.length then st3 s l r else (match atI xs s with
  | some r3 => stepR r3 l r
  | none => .none)
theorem doneL_len (d : Str) (l r : List Nat) : (doneL d l r).1.length ≤ l.length + 1 ∧ (doneL d l r).2.length ≤ r.length + 1 := by
  have h : ∀ l : List Nat, l.getLast?.toList.length ≤ 1 := fun l => by cases l.getLast? <;> simp
  have := h l
  have := h r
  unfold doneL
  repeat' split
  all_goals simp only [List.length_append, List.length_cons, List.length_nil, List.length_dropLast]
  all_goals omega
theorem doneL_wd {d : Str} {l r : List Nat} (hl : ∀ c ∈ l, c = 48 ∨ c = 49) (hr : ∀ c ∈ r, c = 48 ∨ c = 49) : (∀ c ∈ (doneL d l r).1, c = 48 ∨ c = 49) ∧ ∀ c ∈ (doneL d l r).2, c = 48 ∨ c = 49 := by
  have h : ∀ (l : List Nat), (∀ c ∈ l, c = 48 ∨ c = 49) → ∀ c ∈ l.getLast?.toList, c = 48 ∨ c = 49 := fun l hl c hc => by
    have : l.getLast? = some c := by simpa using hc
    exact hl c (List.mem_of_getLast? this)
  have hd : ∀ (l : List Nat), (∀ c ∈ l, c = 48 ∨ c = 49) → ∀ c ∈ l.dropLast, c = 48 ∨ c = 49 := fun l hl c hc => hl c (List.dropLast_subset l hc)
  have ha : ∀ (l r : List Nat), (∀ c ∈ l, c = 48 ∨ c = 49) → (∀ c ∈ r, c = 48 ∨ c = 49) → ∀ c ∈ l ++ r, c = 48 ∨ c = 49 := fun l r hl hr c hc => (List.mem_append.mp hc).elim (hl c) (hr c)
  unfold doneL
  repeat' split
  · exact ⟨ha _ _ hl (by simp), hr⟩
  · exact ⟨ha _ _ hl (by simp), hr⟩
  · exact ⟨hd _ hl, hr⟩
  · exact ⟨hd _ hl, ha _ _ hr (h _ hl)⟩
  · exact ⟨ha _ _ hl (h _ hr), hd _ hr⟩
  · exact ⟨hl, hr⟩
/-- a state of a machine, taken apart -/
theorem state_parts {m : Nat} {x : PyData} (h : stateD m x = true) : ∃ t0 t1 t2 d0 d1 d2, x = .tuple [.tuple [.int t0, .str d0], .tuple [.int t1, .str d1], .tuple [.int t2, .str d2]] ∧ (0 ≤ t0 ∧ t0 ≤ m) ∧ (0 ≤ t1 ∧ t1 ≤ m) ∧ (0 ≤ t2 ∧ t2 ≤ m) := by
  have hr : ∀ {x : PyData}, ruleD m x = true → ∃ t d, x = .tuple [.int t, .str d] ∧ 0 ≤ t ∧ t ≤ m := fun {x} h => by
    match x with
    | .tuple [a, b] =>
      simp only [ruleD, Bool.and_eq_true] at h
      cases a <;> first | (cases h.1; done) | skip
      cases b <;> first | (cases h.2; done) | skip
      rename_i i z
      have h1 : (decide (0 ≤ i) && decide (i ≤ (m : Int))) = true := h.1
      simp only [Bool.and_eq_true, decide_eq_true_eq] at h1
      exact ⟨i, z, rfl, h1⟩
    | .none => cases h
    | .bool _ => cases h
    | .int _ => cases h
    | .str _ => cases h
    | .list _ => cases h
    | .dict _ => cases h
    | .tuple [] => cases h
    | .tuple [_] => cases h
    | .tuple (_ :: _ :: _ :: _) => cases h
  cases x with
  | tuple xs =>
    simp only [stateD, Bool.and_eq_true, decide_eq_true_eq] at h
    obtain ⟨a, b, c, rfl⟩ := is3 xs h.1
    have h2 := List.all_eq_true.mp h.2
    obtain ⟨t0, d0, rfl, r0⟩ := hr (h2 a (by simp))
    obtain ⟨t1, d1, rfl, r1⟩ := hr (h2 b (by simp))
    obtain ⟨t2, d2, rfl, r2⟩ := hr (h2 c (by simp))
    exact ⟨t0, t1, t2, d0, d1, d2, rfl, r0, r1, r2⟩
  | _ => cases h
theorem endN_lt {l : List Nat} : endN l < 3 := by
  unfold endN
  split
  · decide
  · split <;> decide
/-- the rule of a state for a pile -/
theorem state_rule {m : Nat} {x : PyData} (h : stateD m x = true) (l : List Nat) : ∃ rs t d, x = .tuple rs ∧ rs[endN l]? = some (.tuple [.int t, .str d]) ∧ atI rs (endN l : Nat) = some (.tuple [.int t, .str d]) ∧ 0 ≤ t ∧ t ≤ m := by
  obtain ⟨t0, t1, t2, d0, d1, d2, rfl, r0, r1, r2⟩ := state_parts h
  have := @endN_lt l
  match e : endN l, this with
  | 0, _ => exact ⟨_, t0, d0, rfl, rfl, rfl, r0⟩
  | 1, _ => exact ⟨_, t1, d1, rfl, rfl, rfl, r1⟩
  | 2, _ => exact ⟨_, t2, d2, rfl, rfl, rfl, r2⟩
section
variable {Γ : Tab} {G : List (Str × Val)} (P : Pl Γ G) {S : List Cell} {Q : Val → List Cell → Prop} {E : Exn → List Cell → Prop} {n : Nat}
include P
theorem c_done {d : Str} {l r : List Nat} (hl : l.length ≤ 100000) (hr : r.length ≤ 100000) : wp (callF Γ G (n + 1) "done" [.d (.str d), .d (.str (wS l)), .d (.str (wS r))]) S Q E = Q (.d (.tuple [.str (wS (doneL d l r).1), .str (wS (doneL d l r).2)])) S := by
  refine wp_of (wp_to ?_)
  rw [wp_pure P.k_done rfl rfl rfl, wp_run]
  have ll := wS_len l
  have lr := wS_len r
  have l0 : ("0" : Str).length = 1 := by decide +kernel
  have l1 : ("1" : Str).length = 1 := by decide +kernel
  have h1 : ∀ l : List Nat, l.getLast?.toList.length ≤ 1 := fun l => by cases l.getLast? <;> simp
  have gl := h1 l
  have gr := h1 r
  have wl := wS_len l.getLast?.toList
  have wr := wS_len r.getLast?.toList
  simp only [f_done, b_done, bodyFuel, wp_seq, wp_seq0, x_asg, x_rtn, x_if, x_ex, x_sub, x_for, e_var, e_c, e_g, e_tup, e_lst, e_dnil, e_dnew, e_dct, e_bin, e_neg, e_cmp, e_chn, e_and, e_or, e_not, e_ite, e_idx, e_sl, e_rev, e_call, e_bi, e_rep, e_isi, e_me, e_comp, andE, orE, startE, wp_bnd, wp_ret, wp_some, wp_tru, wp_fail, wp_noex, wp_guard, isiM, wp_view_d, wp_view_k, wp_viewd_d, wp_viewI_d, wp_viewI_k, wp_viewc_d, l_cons, l_nil, itE, isT, if_pos, itemsD, asgT, testsE, wipeE, List.set_cons_zero, List.set_cons_succ, List.getElem?_cons_zero, List.getElem?_cons_succ, Option.join_some, List.map_cons, List.map_nil, List.cons_append, List.nil_append, List.length_cons, List.length_nil, List.replicate_succ, List.replicate_zero, constD, Option.map_some, mkRes, if_true, if_false, Bool.false_eq_true, Bool.not_true, Bool.not_false, List.any_cons, List.any_nil, Bool.or_false, Bool.false_or, Bool.true_or, optE, wp_eqS, wp_ite]
  have a0 : ∀ {S : List Cell} {Q : Val → List Cell → Prop} {E : Exn → List Cell → Prop}, wp (binM false .add (.d (.str (wS l))) (.d (.str "0"))) S Q E = Q (.d (.str (wS (l ++ [48])))) S := fun {S Q E} => by rw [wp_addS (by omega), s_0, wS_app]
  have a1 : ∀ {S : List Cell} {Q : Val → List Cell → Prop} {E : Exn → List Cell → Prop}, wp (binM false .add (.d (.str (wS l))) (.d (.str "1"))) S Q E = Q (.d (.str (wS (l ++ [49])))) S := fun {S Q E} => by rw [wp_addS (by omega), s_1, wS_app]
  unfold doneL
  refine ⟨fun h => ?_, fun h => ⟨fun h' => ?_, fun h' => ⟨fun h2 => ?_, fun h2 => ⟨fun h3 => ?_, fun h3 => ⟨fun h4 => ?_, fun h4 => ?_⟩⟩⟩⟩⟩
  · rw [if_pos h, a0, wp_tup2]; exact ⟨_, rfl, rfl, trivial⟩
  · rw [if_neg h, if_pos h', a1, wp_tup2]; exact ⟨_, rfl, rfl, trivial⟩
  · rw [if_neg h, if_neg h', if_pos h2]
    simp only [wp_negI, wp_part, wp_ret, wp_cutS (show (wS l).length ≤ 1000000 by omega), wp_mkd, cut_init, wp_tup2]
    exact ⟨_, rfl, rfl, trivial⟩
  · rw [if_neg h, if_neg h', if_neg h2, if_pos h3]
    simp only [wp_negI, wp_part, wp_ret, wp_cutS (show (wS l).length ≤ 1000000 by omega), wp_mkd, cut_init, cut_last, wp_viewc_d, wp_addS (show (wS r).length + (wS l.getLast?.toList).length ≤ 1000000 by omega), wS_app, wp_tup2]
    exact ⟨_, rfl, rfl, trivial⟩
  · rw [if_neg h, if_neg h', if_neg h2, if_neg h3, if_pos h4]
    simp only [wp_negI, wp_part, wp_ret, wp_cutS (show (wS r).length ≤ 1000000 by omega), wp_mkd, cut_init, cut_last, wp_viewc_d, wp_addS (show (wS l).length + (wS r.getLast?.toList).length ≤ 1000000 by omega), wS_app, wp_tup2]
    exact ⟨_, rfl, rfl, trivial⟩
  · rw [if_neg h, if_neg h', if_neg h2, if_neg h3, if_neg h4, wp_tup2]; exact ⟨_, rfl, rfl, trivial⟩
theorem end_pos (l : List Nat) (h : ∀ c ∈ l, c = 48 ∨ c = 49) : strPos (wS l.getLast?.toList) [("" : Str), "0", "1"] = some (endN l) := by
  have e : ∀ a b : List Nat, (wS a = wS b) = (a = b) := fun a b => propext ⟨wS_inj, fun h => h ▸ rfl⟩
  unfold endN
  rw [sw_nil, s_0, s_1]
  cases hl : l.getLast? with
  | none => simp [strPos]
  | some c =>
    rcases h c (List.mem_of_getLast? hl) with rfl | rfl
    · simp [strPos, e]
    · simp [strPos, e]
/-- the piece of machine[state][..] -/
theorem c_standing_behind {xs : List PyData} {s : Int} {l r : List Nat} (hm : xs.all (stateD xs.length) = true) (h0 : 0 ≤ s) (h1 : s ≤ xs.length) (hl : Wd l) (hr : Wd r) : wp (callF Γ G (n + 2) "standing_behind" [.d (.tuple xs), .d (st3 s l r)]) S Q E = Q (.d (stepD xs s l r)) S := by
  refine wp_of (wp_to ?_)
  rw [wp_pure P.k_standing_behind rfl rfl rfl, wp_run]
  simp only [f_standing_behind, b_standing_behind, bodyFuel, wp_seq, wp_seq0, x_asg, x_rtn, x_if, x_ex, x_sub, x_for, e_var, e_c, e_g, e_tup, e_lst, e_dnil, e_dnew, e_dct, e_bin, e_neg, e_cmp, e_chn, e_and, e_or, e_not, e_ite, e_idx, e_sl, e_rev, e_call, e_bi, e_rep, e_isi, e_me, e_comp, andE, orE, startE, wp_bnd, wp_ret, wp_some, wp_tru, wp_fail, wp_noex, wp_guard, isiM, wp_view_d, wp_view_k, wp_viewd_d, wp_viewI_d, wp_viewI_k, wp_viewc_d, l_cons, l_nil, itE, isT, if_pos, itemsD, asgT, testsE, wipeE, List.set_cons_zero, List.set_cons_succ, List.getElem?_cons_zero, List.getElem?_cons_succ, Option.join_some, List.map_cons, List.map_nil, List.cons_append, List.nil_append, List.length_cons, List.length_nil, List.replicate_succ, List.replicate_zero, constD, Option.map_some, mkRes, if_true, if_false, Bool.false_eq_true, Bool.not_true, Bool.not_false, List.any_cons, List.any_nil, Bool.or_false, Bool.false_or, Bool.true_or, optE, st3, asgTs, wp_lenT, wp_eqI, wp_ite]
  unfold stepD
  refine ⟨fun h => ?_, fun h => ?_⟩
  · rw [if_pos (eq_of_beq h)]; exact ⟨_, rfl, rfl, trivial⟩
  · have hne : ¬ s = xs.length := fun k => h (by simp [k])
    rw [if_neg hne]
    obtain ⟨x, _, hx, ex⟩ := idx_get h0 (show s < xs.length by omega)
    obtain ⟨rs, t, d, rfl, e1, e2, t0, t1⟩ := state_rule (List.all_eq_true.mp hm x hx) l
    rw [wp_idxT ex, ex]
    simp only [bodyFuel, wp_seq, wp_seq0, x_asg, x_rtn, x_if, x_ex, x_sub, x_for, e_var, e_c, e_g, e_tup, e_lst, e_dnil, e_dnew, e_dct, e_bin, e_neg, e_cmp, e_chn, e_and, e_or, e_not, e_ite, e_idx, e_sl, e_rev, e_call, e_bi, e_rep, e_isi, e_me, e_comp, andE, orE, startE, wp_bnd, wp_ret, wp_some, wp_tru, wp_fail, wp_noex, wp_guard, isiM, wp_view_d, wp_view_k, wp_viewd_d, wp_viewI_d, wp_viewI_k, wp_viewc_d, l_cons, l_nil, itE, isT, if_pos, itemsD, asgT, testsE, wipeE, List.set_cons_zero, List.set_cons_succ, List.getElem?_cons_zero, List.getElem?_cons_succ, Option.join_some, List.map_cons, List.map_nil, List.cons_append, List.nil_append, List.length_cons, List.length_nil, List.replicate_succ, List.replicate_zero, constD, Option.map_some, mkRes, if_true, if_false, Bool.false_eq_true, Bool.not_true, Bool.not_false, List.any_cons, List.any_nil, Bool.or_false, Bool.false_or, Bool.true_or, optE, P.g2]
    rw [show ME.index.ty = MTy.tuple from rfl, wp_tyt]
    have ll := wS_len l
    have h2 := hl.2
    simp only [bodyFuel, wp_seq, wp_seq0, x_asg, x_rtn, x_if, x_ex, x_sub, x_for, e_var, e_c, e_g, e_tup, e_lst, e_dnil, e_dnew, e_dct, e_bin, e_neg, e_cmp, e_chn, e_and, e_or, e_not, e_ite, e_idx, e_sl, e_rev, e_call, e_bi, e_rep, e_isi, e_me, e_comp, andE, orE, startE, wp_bnd, wp_ret, wp_some, wp_tru, wp_fail, wp_noex, wp_guard, isiM, wp_view_d, wp_view_k, wp_viewd_d, wp_viewI_d, wp_viewI_k, wp_viewc_d, l_cons, l_nil, itE, isT, if_pos, itemsD, asgT, testsE, wipeE, List.set_cons_zero, List.set_cons_succ, List.getElem?_cons_zero, List.getElem?_cons_succ, Option.join_some, List.map_cons, List.map_nil, List.cons_append, List.nil_append, List.length_cons, List.length_nil, List.replicate_succ, List.replicate_zero, constD, Option.map_some, mkRes, if_true, if_false, Bool.false_eq_true, Bool.not_true, Bool.not_false, List.any_cons, List.any_nil, Bool.or_false, Bool.false_or, Bool.true_or, optE, wp_negI, wp_part, wp_cutS (show (wS l).length ≤ 1000000 by omega), wp_mkd, cut_last]
    have em : ∀ S, meM .index (.k (.tuple [.str "", .str "0", .str "1"])) [.d (.str (wS l.getLast?.toList))] S = .ok (.d (.int (endN l : Nat))) S := fun S => by
      show lift (((some [("" : Str), "0", "1"]).bind (strPos (wS l.getLast?.toList))).map fun j => Val.d (.int (j : Nat))) S = _
      rw [show (some [("" : Str), "0", "1"]).bind (strPos (wS l.getLast?.toList)) = some (endN l) from end_pos P l hl.1]
      rfl
    rw [wp_of (em _), wp_idxT e2]
    simp only [bodyFuel, wp_seq, wp_seq0, x_asg, x_rtn, x_if, x_ex, x_sub, x_for, e_var, e_c, e_g, e_tup, e_lst, e_dnil, e_dnew, e_dct, e_bin, e_neg, e_cmp, e_chn, e_and, e_or, e_not, e_ite, e_idx, e_sl, e_rev, e_call, e_bi, e_rep, e_isi, e_me, e_comp, andE, orE, startE, wp_bnd, wp_ret, wp_some, wp_tru, wp_fail, wp_noex, wp_guard, isiM, wp_view_d, wp_view_k, wp_viewd_d, wp_viewI_d, wp_viewI_k, wp_viewc_d, l_cons, l_nil, itE, isT, if_pos, itemsD, asgT, testsE, wipeE, List.set_cons_zero, List.set_cons_succ, List.getElem?_cons_zero, List.getElem?_cons_succ, Option.join_some, List.map_cons, List.map_nil, List.cons_append, List.nil_append, List.length_cons, List.length_nil, List.replicate_succ, List.replicate_zero, constD, Option.map_some, mkRes, if_true, if_false, Bool.false_eq_true, Bool.not_true, Bool.not_false, List.any_cons, List.any_nil, Bool.or_false, Bool.false_or, Bool.true_or, optE, asgTs]
    rw [c_done P (by omega) (by have := hr.2; omega)]
    simp only [bodyFuel, wp_seq, wp_seq0, x_asg, x_rtn, x_if, x_ex, x_sub, x_for, e_var, e_c, e_g, e_tup, e_lst, e_dnil, e_dnew, e_dct, e_bin, e_neg, e_cmp, e_chn, e_and, e_or, e_not, e_ite, e_idx, e_sl, e_rev, e_call, e_bi, e_rep, e_isi, e_me, e_comp, andE, orE, startE, wp_bnd, wp_ret, wp_some, wp_tru, wp_fail, wp_noex, wp_guard, isiM, wp_view_d, wp_view_k, wp_viewd_d, wp_viewI_d, wp_viewI_k, wp_viewc_d, l_cons, l_nil, itE, isT, if_pos, itemsD, asgT, testsE, wipeE, List.set_cons_zero, List.set_cons_succ, List.getElem?_cons_zero, List.getElem?_cons_succ, Option.join_some, List.map_cons, List.map_nil, List.cons_append, List.nil_append, List.length_cons, List.length_nil, List.replicate_succ, List.replicate_zero, constD, Option.map_some, mkRes, if_true, if_false, Bool.false_eq_true, Bool.not_true, Bool.not_false, List.any_cons, List.any_nil, Bool.or_false, Bool.false_or, Bool.true_or, optE, asgTs]
    rw [wp_tup3]
    refine ⟨_, rfl, ?_, trivial⟩
    unfold stepR
    simp only [e1, st3]
end
end Pm
end
section
set_option Elab.async false
set_option linter.all false
set_option maxRecDepth 100000
set_option maxHeartbeats 0
namespace Pm
open PySem PySem.Spec L2 Ev
def eMach (x : PyData) : Exn := ⟨"BadMachine", "thing", x⟩
def eStand (x : PyData) : Exn := ⟨"BadStanding", "thing", x⟩
theorem stand_parts {m : Nat} {x : PyData} (h : standD m x = true) (hx : ∀ z, x.depth < z → Sm z 10000 x) : ∃ s l r, x = st3 s l r ∧ 0 ≤ s ∧ s ≤ m ∧ Wd l ∧ Wd r := by
  match x, h with
  | .tuple [a, b, c], h =>
    simp only [standD, Bool.and_eq_true] at h
    obtain ⟨ha, hb, hc⟩ := h
    have hs := (hx _ (Nat.lt_succ_self _)).untuple.2
    cases a <;> first | (cases ha; done) | skip
    cases b <;> first | (cases hb; done) | skip
    cases c <;> first | (cases hc; done) | skip
    rename_i i z y
    have h1 : (decide (0 ≤ i) && decide (i ≤ (m : Int))) = true := ha
    simp only [Bool.and_eq_true, decide_eq_true_eq] at h1
    have lz := (hs.mem (x := .str z) (by simp)).wt
    have ly := (hs.mem (x := .str y) (by simp)).wt
    simp only [PyData.weight] at lz ly
    obtain ⟨l, rfl, hl⟩ := wordD_of hb lz
    obtain ⟨r, rfl, hr⟩ := wordD_of hc ly
    exact ⟨i, l, r, rfl, h1.1, h1.2, hl, hr⟩
section
variable {Γ : Tab} {G : List (Str × Val)} (P : Pl Γ G) {S : List Cell} {Q : Val → List Cell → Prop} {E : Exn → List Cell → Prop} {n : Nat}
include P
theorem c_need_machine {x : PyData} {d w : Nat} (hx : Sm d w x) (hw : w ≤ 1000000) : wp (callF Γ G (n + 6) "need_machine" [.d x]) S Q E = (if machD x = true then Q (.d .none) S else E (eMach x) S) := by
  rw [wp_pure P.k_need_machine rfl rfl rfl, wp_run]
  simp only [f_need_machine, b_need_machine, bodyFuel, wp_seq, wp_seq0, x_asg, x_rtn, x_if, x_ex, x_sub, x_for, e_var, e_c, e_g, e_tup, e_lst, e_dnil, e_dnew, e_dct, e_bin, e_neg, e_cmp, e_chn, e_and, e_or, e_not, e_ite, e_idx, e_sl, e_rev, e_call, e_bi, e_rep, e_isi, e_me, e_comp, andE, orE, startE, wp_bnd, wp_ret, wp_some, wp_tru, wp_fail, wp_noex, wp_guard, isiM, wp_view_d, wp_view_k, wp_viewd_d, wp_viewI_d, wp_viewI_k, wp_viewc_d, l_cons, l_nil, itE, isT, if_pos, itemsD, asgT, testsE, wipeE, List.set_cons_zero, List.set_cons_succ, List.getElem?_cons_zero, List.getElem?_cons_succ, Option.join_some, List.map_cons, List.map_nil, List.cons_append, List.nil_append, List.length_cons, List.length_nil, List.replicate_succ, List.replicate_zero, constD, Option.map_some, mkRes, if_true, if_false, Bool.false_eq_true, Bool.not_true, Bool.not_false, List.any_cons, List.any_nil, Bool.or_false, Bool.false_or, Bool.true_or, optE, c_is_machine P hx hw, x_raise, dataV, wp_raise]
  cases machD x
  · simp only [bodyFuel, wp_seq, wp_seq0, x_asg, x_rtn, x_if, x_ex, x_sub, x_for, e_var, e_c, e_g, e_tup, e_lst, e_dnil, e_dnew, e_dct, e_bin, e_neg, e_cmp, e_chn, e_and, e_or, e_not, e_ite, e_idx, e_sl, e_rev, e_call, e_bi, e_rep, e_isi, e_me, e_comp, andE, orE, startE, wp_bnd, wp_ret, wp_some, wp_tru, wp_fail, wp_noex, wp_guard, isiM, wp_view_d, wp_view_k, wp_viewd_d, wp_viewI_d, wp_viewI_k, wp_viewc_d, l_cons, l_nil, itE, isT, if_pos, itemsD, asgT, testsE, wipeE, List.set_cons_zero, List.set_cons_succ, List.getElem?_cons_zero, List.getElem?_cons_succ, Option.join_some, List.map_cons, List.map_nil, List.cons_append, List.nil_append, List.length_cons, List.length_nil, List.replicate_succ, List.replicate_zero, constD, Option.map_some, mkRes, if_true, if_false, Bool.false_eq_true, Bool.not_true, Bool.not_false, List.any_cons, List.any_nil, Bool.or_false, Bool.false_or, Bool.true_or, optE, wp_raise]; rfl
  · simp only [bodyFuel, wp_seq, wp_seq0, x_asg, x_rtn, x_if, x_ex, x_sub, x_for, e_var, e_c, e_g, e_tup, e_lst, e_dnil, e_dnew, e_dct, e_bin, e_neg, e_cmp, e_chn, e_and, e_or, e_not, e_ite, e_idx, e_sl, e_rev, e_call, e_bi, e_rep, e_isi, e_me, e_comp, andE, orE, startE, wp_bnd, wp_ret, wp_some, wp_tru, wp_fail, wp_noex, wp_guard, isiM, wp_view_d, wp_view_k, wp_viewd_d, wp_viewI_d, wp_viewI_k, wp_viewc_d, l_cons, l_nil, itE, isT, if_pos, itemsD, asgT, testsE, wipeE, List.set_cons_zero, List.set_cons_succ, List.getElem?_cons_zero, List.getElem?_cons_succ, Option.join_some, List.map_cons, List.map_nil, List.cons_append, List.nil_append, List.length_cons, List.length_nil, List.replicate_succ, List.replicate_zero, constD, Option.map_some, mkRes, if_true, if_false, Bool.false_eq_true, Bool.not_true, Bool.not_false, List.any_cons, List.any_nil, Bool.or_false, Bool.false_or, Bool.true_or, optE, freeze]; simp
theorem c_is_standing_value {xs : List PyData} {x : PyData} (hx : ∀ ys, x = .tuple ys → ∀ y ∈ ys, lenOk y) : wp (callF Γ G (n + 3) "is_standing_value" [.d (.tuple xs), .d x]) S Q E = Q (.d (.bool (standD xs.length x))) S := by
  refine wp_of (wp_to ?_)
  rw [wp_pure P.k_is_standing_value rfl rfl rfl, wp_run]
  simp only [f_is_standing_value, b_is_standing_value, bodyFuel, wp_seq, wp_seq0, x_asg, x_rtn, x_if, x_ex, x_sub, x_for, e_var, e_c, e_g, e_tup, e_lst, e_dnil, e_dnew, e_dct, e_bin, e_neg, e_cmp, e_chn, e_and, e_or, e_not, e_ite, e_idx, e_sl, e_rev, e_call, e_bi, e_rep, e_isi, e_me, e_comp, andE, orE, startE, wp_bnd, wp_ret, wp_some, wp_tru, wp_fail, wp_noex, wp_guard, isiM, wp_view_d, wp_view_k, wp_viewd_d, wp_viewI_d, wp_viewI_k, wp_viewc_d, l_cons, l_nil, itE, isT, if_pos, itemsD, asgT, testsE, wipeE, List.set_cons_zero, List.set_cons_succ, List.getElem?_cons_zero, List.getElem?_cons_succ, Option.join_some, List.map_cons, List.map_nil, List.cons_append, List.nil_append, List.length_cons, List.length_nil, List.replicate_succ, List.replicate_zero, constD, Option.map_some, mkRes, if_true, if_false, Bool.false_eq_true, Bool.not_true, Bool.not_false, List.any_cons, List.any_nil, Bool.or_false, Bool.false_or, Bool.true_or, optE]
  cases x with
  | tuple ys =>
    simp only [bodyFuel, wp_seq, wp_seq0, x_asg, x_rtn, x_if, x_ex, x_sub, x_for, e_var, e_c, e_g, e_tup, e_lst, e_dnil, e_dnew, e_dct, e_bin, e_neg, e_cmp, e_chn, e_and, e_or, e_not, e_ite, e_idx, e_sl, e_rev, e_call, e_bi, e_rep, e_isi, e_me, e_comp, andE, orE, startE, wp_bnd, wp_ret, wp_some, wp_tru, wp_fail, wp_noex, wp_guard, isiM, wp_view_d, wp_view_k, wp_viewd_d, wp_viewI_d, wp_viewI_k, wp_viewc_d, l_cons, l_nil, itE, isT, if_pos, itemsD, asgT, testsE, wipeE, List.set_cons_zero, List.set_cons_succ, List.getElem?_cons_zero, List.getElem?_cons_succ, Option.join_some, List.map_cons, List.map_nil, List.cons_append, List.nil_append, List.length_cons, List.length_nil, List.replicate_succ, List.replicate_zero, constD, Option.map_some, mkRes, if_true, if_false, Bool.false_eq_true, Bool.not_true, Bool.not_false, List.any_cons, List.any_nil, Bool.or_false, Bool.false_or, Bool.true_or, optE, wp_lenT, wp_neI, wp_ite]
    by_cases h : ys.length = 3
    · have hl := hx _ rfl
      obtain ⟨a, b, c, rfl⟩ := is3 ys h
      refine ⟨fun k => absurd k (by simp), fun _ => ?_⟩
      rw [wp_idxT (y := a) rfl, c_is_between P]
      have hb' := hl b (by simp)
      have hc' := hl c (by simp)
      simp only [standD]
      cases hb : isBtw a 0 xs.length
      · simp only [bodyFuel, wp_seq, wp_seq0, x_asg, x_rtn, x_if, x_ex, x_sub, x_for, e_var, e_c, e_g, e_tup, e_lst, e_dnil, e_dnew, e_dct, e_bin, e_neg, e_cmp, e_chn, e_and, e_or, e_not, e_ite, e_idx, e_sl, e_rev, e_call, e_bi, e_rep, e_isi, e_me, e_comp, andE, orE, startE, wp_bnd, wp_ret, wp_some, wp_tru, wp_fail, wp_noex, wp_guard, isiM, wp_view_d, wp_view_k, wp_viewd_d, wp_viewI_d, wp_viewI_k, wp_viewc_d, l_cons, l_nil, itE, isT, if_pos, itemsD, asgT, testsE, wipeE, List.set_cons_zero, List.set_cons_succ, List.getElem?_cons_zero, List.getElem?_cons_succ, Option.join_some, List.map_cons, List.map_nil, List.cons_append, List.nil_append, List.length_cons, List.length_nil, List.replicate_succ, List.replicate_zero, constD, Option.map_some, mkRes, if_true, if_false, Bool.false_eq_true, Bool.not_true, Bool.not_false, List.any_cons, List.any_nil, Bool.or_false, Bool.false_or, Bool.true_or, optE, wp_ite, true_implies, false_implies, not_true_eq_false, not_false_eq_true, and_true, true_and, x_par, wp_par2, wp_par3, x_cnt, x_raise, x_pass, x_brk, x_aug, e_callk, dataV, wp_raise, wp_eqI, wp_neI, wp_gt, wp_lt, wp_le, wp_ge, wp_eqS, wp_neS2, wp_negI, wp_part, wp_tup0, wp_tup1, wp_tup2, wp_tup3, wp_lenT, wp_lenL, wp_mkd, wp_add, wp_sub, wp_int, wp_cutT, asgTs]
        exact ⟨_, rfl, rfl⟩
      · simp only [bodyFuel, wp_seq, wp_seq0, x_asg, x_rtn, x_if, x_ex, x_sub, x_for, e_var, e_c, e_g, e_tup, e_lst, e_dnil, e_dnew, e_dct, e_bin, e_neg, e_cmp, e_chn, e_and, e_or, e_not, e_ite, e_idx, e_sl, e_rev, e_call, e_bi, e_rep, e_isi, e_me, e_comp, andE, orE, startE, wp_bnd, wp_ret, wp_some, wp_tru, wp_fail, wp_noex, wp_guard, isiM, wp_view_d, wp_view_k, wp_viewd_d, wp_viewI_d, wp_viewI_k, wp_viewc_d, l_cons, l_nil, itE, isT, if_pos, itemsD, asgT, testsE, wipeE, List.set_cons_zero, List.set_cons_succ, List.getElem?_cons_zero, List.getElem?_cons_succ, Option.join_some, List.map_cons, List.map_nil, List.cons_append, List.nil_append, List.length_cons, List.length_nil, List.replicate_succ, List.replicate_zero, constD, Option.map_some, mkRes, if_true, if_false, Bool.false_eq_true, Bool.not_true, Bool.not_false, List.any_cons, List.any_nil, Bool.or_false, Bool.false_or, Bool.true_or, optE, wp_ite, true_implies, false_implies, not_true_eq_false, not_false_eq_true, and_true, true_and, x_par, wp_par2, wp_par3, x_cnt, x_raise, x_pass, x_brk, x_aug, e_callk, dataV, wp_raise, wp_eqI, wp_neI, wp_gt, wp_lt, wp_le, wp_ge, wp_eqS, wp_neS2, wp_negI, wp_part, wp_tup0, wp_tup1, wp_tup2, wp_tup3, wp_lenT, wp_lenL, wp_mkd, wp_add, wp_sub, wp_int, wp_cutT, asgTs, wp_idxT (show atI [a, b, c] 1 = some b from rfl)]
        rw [c_is_word_value P hb']
        cases hc : isWd b
        · simp only [bodyFuel, wp_seq, wp_seq0, x_asg, x_rtn, x_if, x_ex, x_sub, x_for, e_var, e_c, e_g, e_tup, e_lst, e_dnil, e_dnew, e_dct, e_bin, e_neg, e_cmp, e_chn, e_and, e_or, e_not, e_ite, e_idx, e_sl, e_rev, e_call, e_bi, e_rep, e_isi, e_me, e_comp, andE, orE, startE, wp_bnd, wp_ret, wp_some, wp_tru, wp_fail, wp_noex, wp_guard, isiM, wp_view_d, wp_view_k, wp_viewd_d, wp_viewI_d, wp_viewI_k, wp_viewc_d, l_cons, l_nil, itE, isT, if_pos, itemsD, asgT, testsE, wipeE, List.set_cons_zero, List.set_cons_succ, List.getElem?_cons_zero, List.getElem?_cons_succ, Option.join_some, List.map_cons, List.map_nil, List.cons_append, List.nil_append, List.length_cons, List.length_nil, List.replicate_succ, List.replicate_zero, constD, Option.map_some, mkRes, if_true, if_false, Bool.false_eq_true, Bool.not_true, Bool.not_false, List.any_cons, List.any_nil, Bool.or_false, Bool.false_or, Bool.true_or, optE, wp_ite, true_implies, false_implies, not_true_eq_false, not_false_eq_true, and_true, true_and, x_par, wp_par2, wp_par3, x_cnt, x_raise, x_pass, x_brk, x_aug, e_callk, dataV, wp_raise, wp_eqI, wp_neI, wp_gt, wp_lt, wp_le, wp_ge, wp_eqS, wp_neS2, wp_negI, wp_part, wp_tup0, wp_tup1, wp_tup2, wp_tup3, wp_lenT, wp_lenL, wp_mkd, wp_add, wp_sub, wp_int, wp_cutT, asgTs]
          exact ⟨_, rfl, rfl⟩
        · simp only [bodyFuel, wp_seq, wp_seq0, x_asg, x_rtn, x_if, x_ex, x_sub, x_for, e_var, e_c, e_g, e_tup, e_lst, e_dnil, e_dnew, e_dct, e_bin, e_neg, e_cmp, e_chn, e_and, e_or, e_not, e_ite, e_idx, e_sl, e_rev, e_call, e_bi, e_rep, e_isi, e_me, e_comp, andE, orE, startE, wp_bnd, wp_ret, wp_some, wp_tru, wp_fail, wp_noex, wp_guard, isiM, wp_view_d, wp_view_k, wp_viewd_d, wp_viewI_d, wp_viewI_k, wp_viewc_d, l_cons, l_nil, itE, isT, if_pos, itemsD, asgT, testsE, wipeE, List.set_cons_zero, List.set_cons_succ, List.getElem?_cons_zero, List.getElem?_cons_succ, Option.join_some, List.map_cons, List.map_nil, List.cons_append, List.nil_append, List.length_cons, List.length_nil, List.replicate_succ, List.replicate_zero, constD, Option.map_some, mkRes, if_true, if_false, Bool.false_eq_true, Bool.not_true, Bool.not_false, List.any_cons, List.any_nil, Bool.or_false, Bool.false_or, Bool.true_or, optE, wp_ite, true_implies, false_implies, not_true_eq_false, not_false_eq_true, and_true, true_and, x_par, wp_par2, wp_par3, x_cnt, x_raise, x_pass, x_brk, x_aug, e_callk, dataV, wp_raise, wp_eqI, wp_neI, wp_gt, wp_lt, wp_le, wp_ge, wp_eqS, wp_neS2, wp_negI, wp_part, wp_tup0, wp_tup1, wp_tup2, wp_tup3, wp_lenT, wp_lenL, wp_mkd, wp_add, wp_sub, wp_int, wp_cutT, asgTs, wp_idxT (show atI [a, b, c] 2 = some c from rfl)]
          rw [c_is_word_value P hc']
          exact ⟨_, rfl, rfl⟩
    · refine ⟨fun _ => ⟨fun _ => ⟨_, rfl, by rw [standD_len h], trivial⟩, fun k => absurd trivial k⟩, fun k => absurd ?_ k⟩
      simp; omega
  | _ => simp only [bodyFuel, wp_seq, wp_seq0, x_asg, x_rtn, x_if, x_ex, x_sub, x_for, e_var, e_c, e_g, e_tup, e_lst, e_dnil, e_dnew, e_dct, e_bin, e_neg, e_cmp, e_chn, e_and, e_or, e_not, e_ite, e_idx, e_sl, e_rev, e_call, e_bi, e_rep, e_isi, e_me, e_comp, andE, orE, startE, wp_bnd, wp_ret, wp_some, wp_tru, wp_fail, wp_noex, wp_guard, isiM, wp_view_d, wp_view_k, wp_viewd_d, wp_viewI_d, wp_viewI_k, wp_viewc_d, l_cons, l_nil, itE, isT, if_pos, itemsD, asgT, testsE, wipeE, List.set_cons_zero, List.set_cons_succ, List.getElem?_cons_zero, List.getElem?_cons_succ, Option.join_some, List.map_cons, List.map_nil, List.cons_append, List.nil_append, List.length_cons, List.length_nil, List.replicate_succ, List.replicate_zero, constD, Option.map_some, mkRes, if_true, if_false, Bool.false_eq_true, Bool.not_true, Bool.not_false, List.any_cons, List.any_nil, Bool.or_false, Bool.false_or, Bool.true_or, optE]; exact ⟨_, rfl, rfl, trivial⟩
theorem c_pile_step_bad {x y : PyData} {d w : Nat} (hx : Sm d w x) (hw : w ≤ 1000000) (hm : machD x = false) : wp (callF Γ G (n + 7) "pile_step" [.d x, .d y]) S Q E = E (eMach x) S := by
  rw [wp_pure P.k_pile_step rfl rfl rfl, wp_run]
  simp only [f_pile_step, b_pile_step, bodyFuel, wp_seq, wp_seq0, x_asg, x_rtn, x_if, x_ex, x_sub, x_for, e_var, e_c, e_g, e_tup, e_lst, e_dnil, e_dnew, e_dct, e_bin, e_neg, e_cmp, e_chn, e_and, e_or, e_not, e_ite, e_idx, e_sl, e_rev, e_call, e_bi, e_rep, e_isi, e_me, e_comp, andE, orE, startE, wp_bnd, wp_ret, wp_some, wp_tru, wp_fail, wp_noex, wp_guard, isiM, wp_view_d, wp_view_k, wp_viewd_d, wp_viewI_d, wp_viewI_k, wp_viewc_d, l_cons, l_nil, itE, isT, if_pos, itemsD, asgT, testsE, wipeE, List.set_cons_zero, List.set_cons_succ, List.getElem?_cons_zero, List.getElem?_cons_succ, Option.join_some, List.map_cons, List.map_nil, List.cons_append, List.nil_append, List.length_cons, List.length_nil, List.replicate_succ, List.replicate_zero, constD, Option.map_some, mkRes, if_true, if_false, Bool.false_eq_true, Bool.not_true, Bool.not_false, List.any_cons, List.any_nil, Bool.or_false, Bool.false_or, Bool.true_or, optE, c_need_machine P hx hw, hm]
theorem mach_tuple {x : PyData} (h : machD x = true) : ∃ xs, x = .tuple xs ∧ 0 < xs.length ∧ xs.all (stateD xs.length) = true := by
  cases x with
  | tuple xs =>
    simp only [machD, Bool.and_eq_true, decide_eq_true_eq] at h
    exact ⟨xs, rfl, h⟩
  | _ => cases h
theorem c_pile_step_badS {x y : PyData} {xs : List PyData} {d w d' w' : Nat} (hx : Sm d w (.tuple xs)) (hw : w ≤ 1000000) (hm : machD (.tuple xs) = true) (hy : Sm d' w' y) (hw' : w' ≤ 1000000) (hs : standD xs.length y = false) : wp (callF Γ G (n + 7) "pile_step" [.d (.tuple xs), .d y]) S Q E = E (eStand y) S := by
  have hy' : ∀ ys, y = .tuple ys → ∀ y ∈ ys, lenOk y := fun ys e z hz => by
    subst e
    exact sm_lenOk (hy.untuple.2.mem hz) hw'
  rw [wp_pure P.k_pile_step rfl rfl rfl, wp_run]
  simp only [f_pile_step, b_pile_step, bodyFuel, wp_seq, wp_seq0, x_asg, x_rtn, x_if, x_ex, x_sub, x_for, e_var, e_c, e_g, e_tup, e_lst, e_dnil, e_dnew, e_dct, e_bin, e_neg, e_cmp, e_chn, e_and, e_or, e_not, e_ite, e_idx, e_sl, e_rev, e_call, e_bi, e_rep, e_isi, e_me, e_comp, andE, orE, startE, wp_bnd, wp_ret, wp_some, wp_tru, wp_fail, wp_noex, wp_guard, isiM, wp_view_d, wp_view_k, wp_viewd_d, wp_viewI_d, wp_viewI_k, wp_viewc_d, l_cons, l_nil, itE, isT, if_pos, itemsD, asgT, testsE, wipeE, List.set_cons_zero, List.set_cons_succ, List.getElem?_cons_zero, List.getElem?_cons_succ, Option.join_some, List.map_cons, List.map_nil, List.cons_append, List.nil_append, List.length_cons, List.length_nil, List.replicate_succ, List.replicate_zero, constD, Option.map_some, mkRes, if_true, if_false, Bool.false_eq_true, Bool.not_true, Bool.not_false, List.any_cons, List.any_nil, Bool.or_false, Bool.false_or, Bool.true_or, optE, c_need_machine P hx hw, hm, c_is_standing_value P hy', hs, x_raise, dataV, wp_raise]
  rfl
theorem c_pile_step {xs : List PyData} {d w : Nat} {s : Int} {l r : List Nat} (hx : Sm d w (.tuple xs)) (hw : w ≤ 1000000) (hm : machD (.tuple xs) = true) (h0 : 0 ≤ s) (h1 : s ≤ xs.length) (hl : Wd l) (hr : Wd r) : wp (callF Γ G (n + 7) "pile_step" [.d (.tuple xs), .d (st3 s l r)]) S Q E = Q (.d (stepD xs s l r)) S := by
  have hs : standD xs.length (st3 s l r) = true := by
    show (decide (0 ≤ s) && decide (s ≤ (xs.length : Int)) && (wordD (wS l) && wordD (wS r))) = true
    rw [wordD_wS hl, wordD_wS hr, decide_eq_true h0, decide_eq_true h1]; rfl
  have hy : ∀ ys, st3 s l r = .tuple ys → ∀ y ∈ ys, lenOk y := fun ys e => by
    cases e
    intro y hy
    simp only [List.mem_cons, List.mem_nil_iff, or_false] at hy
    rcases hy with rfl | rfl | rfl
    · trivial
    · show (wS l).length ≤ 1000000
      rw [wS_len]; have := hl.2; omega
    · show (wS r).length ≤ 1000000
      rw [wS_len]; have := hr.2; omega
  rw [wp_pure P.k_pile_step rfl rfl rfl, wp_run]
  simp only [f_pile_step, b_pile_step, bodyFuel, wp_seq, wp_seq0, x_asg, x_rtn, x_if, x_ex, x_sub, x_for, e_var, e_c, e_g, e_tup, e_lst, e_dnil, e_dnew, e_dct, e_bin, e_neg, e_cmp, e_chn, e_and, e_or, e_not, e_ite, e_idx, e_sl, e_rev, e_call, e_bi, e_rep, e_isi, e_me, e_comp, andE, orE, startE, wp_bnd, wp_ret, wp_some, wp_tru, wp_fail, wp_noex, wp_guard, isiM, wp_view_d, wp_view_k, wp_viewd_d, wp_viewI_d, wp_viewI_k, wp_viewc_d, l_cons, l_nil, itE, isT, if_pos, itemsD, asgT, testsE, wipeE, List.set_cons_zero, List.set_cons_succ, List.getElem?_cons_zero, List.getElem?_cons_succ, Option.join_some, List.map_cons, List.map_nil, List.cons_append, List.nil_append, List.length_cons, List.length_nil, List.replicate_succ, List.replicate_zero, constD, Option.map_some, mkRes, if_true, if_false, Bool.false_eq_true, Bool.not_true, Bool.not_false, List.any_cons, List.any_nil, Bool.or_false, Bool.false_or, Bool.true_or, optE, c_need_machine P hx hw, hm, c_is_standing_value P hy, hs, x_raise, dataV, wp_raise]
  simp only [machD, Bool.and_eq_true] at hm
  rw [c_standing_behind P hm.2 h0 h1 hl hr]
  simp [freeze]
theorem e_int1 (c : Nat) (h : c = 48 ∨ c = 49) : biD .int_ [.str (sign c)] = some (.int (if c = 48 then 0 else 1)) := by
  rcases h with rfl | rfl <;> kernel_rfl
theorem c_law_pile_step {xs : List PyData} {s : Int} {l r : List Nat} (hm : xs.all (stateD xs.length) = true) (h0 : 0 ≤ s) (h1 : s ≤ xs.length) (hl : Wd l) (hr : Wd r) : wp (callF Γ G (n + 1) "_law_pile_step" [.d (.tuple xs), .d (st3 s l r)]) S Q E = Q (.d (stepD xs s l r)) S := by
  refine wp_of (wp_to ?_)
  rw [wp_pure P.k__law_pile_step rfl rfl rfl, wp_run]
  unfold f__law_pile_step b__law_pile_step
  have ll := wS_len l
  have lr := wS_len r
  have hl2 := hl.2
  have hr2 := hr.2
  have en0 : (!(wS [] == ("" : Str))) = false := by rw [sw_nil, wS_beq]; rfl
  have en1 : ∀ (a : List Nat) (c : Nat), (!(wS (a ++ [c]) == ("" : Str))) = true := fun a c => by rw [sw_nil, wS_beq, decide_eq_false (by simp)]; rfl
  have last : ∀ {a b : List Nat} {c : Nat} {S : List Cell} {Q : Val → List Cell → Prop} {E : Exn → List Cell → Prop}, (a ++ [c]).length ≤ 10000 → wp (idxM (.d (.str (wS (a ++ [c])))) (.d (.int (-1)))) S Q E = Q (.d (.str (wS [c]))) S := fun {a b c S Q E} h => by
    refine wp_of ?_
    show lift ((if (wS (a ++ [c])).length ≤ sizeLine then (atI (wS (a ++ [c])).cps.toList (-1)).map fun c => PyData.str (sign c) else none).map Val.d) S = _
    rw [if_pos (by rw [wS_len]; exact sz _ h), wS_l, at_last]
    rfl
  have tail : ∀ (t : Int) (d : Str) (o2 : Option Val), wp (seqL (fun s ρ => ex ⟨callF Γ G n, kwF Γ, G, lowF Γ G n⟩ 60 s ρ) [.if_ (.cmp .eq (.var 6) (.c (.str ("put0" : PySem.Str)))) [.asg (.var 3) (.bin false .add (.var 3) (.c (.str ("0" : PySem.Str))))] [.if_ (.cmp .eq (.var 6) (.c (.str ("put1" : PySem.Str)))) [.asg (.var 3) (.bin false .add (.var 3) (.c (.str ("1" : PySem.Str))))] [.if_ (.cmp .eq (.var 6) (.c (.str ("cut" : PySem.Str)))) [.asg (.var 3) (.sl false (.var 3) none (some (.neg (.c (.int 1)))))] [.if_ (.and_ [(.cmp .eq (.var 6) (.c (.str ("over" : PySem.Str)))), (.cmp .ne (.var 3) (.c (.str ("" : PySem.Str))))]) [.par [3, 4] [(.sl false (.var 3) none (some (.neg (.c (.int 1))))), (.bin false .add (.var 4) (.idx (.var 3) (.neg (.c (.int 1)))))]] [.if_ (.and_ [(.cmp .eq (.var 6) (.c (.str ("back" : PySem.Str)))), (.cmp .ne (.var 4) (.c (.str ("" : PySem.Str))))]) [.par [3, 4] [(.bin false .add (.var 3) (.idx (.var 4) (.neg (.c (.int 1))))), (.sl false (.var 4) none (some (.neg (.c (.int 1)))))]] []]]]], .rtn (some (.tup [(.var 5), (.var 3), (.var 4)]))] [some (.d (.tuple xs)), some (.d (st3 s l r)), o2, some (.d (.str (wS l))), some (.d (.str (wS r))), some (.d (.int t)), some (.d (.str d))]) [] (fun f S' => f = .rt (.d (st3 t (doneL d l r).1 (doneL d l r).2)) ∧ S' = []) (fun _ _ => False) := fun t d o2 => by
    have l0 : ("0" : Str).length = 1 := by decide +kernel
    have l1 : ("1" : Str).length = 1 := by decide +kernel
    have a0 : ∀ {S : List Cell} {Q : Val → List Cell → Prop} {E : Exn → List Cell → Prop}, wp (binM false .add (.d (.str (wS l))) (.d (.str "0"))) S Q E = Q (.d (.str (wS (l ++ [48])))) S := fun {S Q E} => by rw [wp_addS (by omega), s_0, wS_app]
    have a1 : ∀ {S : List Cell} {Q : Val → List Cell → Prop} {E : Exn → List Cell → Prop}, wp (binM false .add (.d (.str (wS l))) (.d (.str "1"))) S Q E = Q (.d (.str (wS (l ++ [49])))) S := fun {S Q E} => by rw [wp_addS (by omega), s_1, wS_app]
    unfold doneL
    by_cases h0 : (d == "put0") = true
    · simp only [bodyFuel, wp_seq, wp_seq0, x_asg, x_rtn, x_if, x_ex, x_sub, x_for, e_var, e_c, e_g, e_tup, e_lst, e_dnil, e_dnew, e_dct, e_bin, e_neg, e_cmp, e_chn, e_and, e_or, e_not, e_ite, e_idx, e_sl, e_rev, e_call, e_bi, e_rep, e_isi, e_me, e_comp, andE, orE, startE, wp_bnd, wp_ret, wp_some, wp_tru, wp_fail, wp_noex, wp_guard, isiM, wp_view_d, wp_view_k, wp_viewd_d, wp_viewI_d, wp_viewI_k, wp_viewc_d, l_cons, l_nil, itE, isT, if_pos, itemsD, asgT, testsE, wipeE, List.set_cons_zero, List.set_cons_succ, List.getElem?_cons_zero, List.getElem?_cons_succ, Option.join_some, List.map_cons, List.map_nil, List.cons_append, List.nil_append, List.length_cons, List.length_nil, List.replicate_succ, List.replicate_zero, constD, Option.map_some, mkRes, if_true, if_false, Bool.false_eq_true, Bool.not_true, Bool.not_false, List.any_cons, List.any_nil, Bool.or_false, Bool.false_or, Bool.true_or, optE, wp_ite, true_implies, false_implies, not_true_eq_false, not_false_eq_true, and_true, true_and, x_par, wp_par2, wp_par3, x_cnt, x_raise, x_pass, x_brk, x_aug, e_callk, dataV, wp_raise, wp_eqI, wp_neI, wp_gt, wp_lt, wp_le, wp_ge, wp_eqS, wp_neS2, wp_negI, wp_part, wp_tup0, wp_tup1, wp_tup2, wp_tup3, wp_lenT, wp_lenL, wp_mkd, wp_add, wp_sub, wp_int, wp_cutT, asgTs, wp_eqS, h0, a0, wp_tup3, st3]
    by_cases h1 : (d == "put1") = true
    · simp only [bodyFuel, wp_seq, wp_seq0, x_asg, x_rtn, x_if, x_ex, x_sub, x_for, e_var, e_c, e_g, e_tup, e_lst, e_dnil, e_dnew, e_dct, e_bin, e_neg, e_cmp, e_chn, e_and, e_or, e_not, e_ite, e_idx, e_sl, e_rev, e_call, e_bi, e_rep, e_isi, e_me, e_comp, andE, orE, startE, wp_bnd, wp_ret, wp_some, wp_tru, wp_fail, wp_noex, wp_guard, isiM, wp_view_d, wp_view_k, wp_viewd_d, wp_viewI_d, wp_viewI_k, wp_viewc_d, l_cons, l_nil, itE, isT, if_pos, itemsD, asgT, testsE, wipeE, List.set_cons_zero, List.set_cons_succ, List.getElem?_cons_zero, List.getElem?_cons_succ, Option.join_some, List.map_cons, List.map_nil, List.cons_append, List.nil_append, List.length_cons, List.length_nil, List.replicate_succ, List.replicate_zero, constD, Option.map_some, mkRes, if_true, if_false, Bool.false_eq_true, Bool.not_true, Bool.not_false, List.any_cons, List.any_nil, Bool.or_false, Bool.false_or, Bool.true_or, optE, wp_ite, true_implies, false_implies, not_true_eq_false, not_false_eq_true, and_true, true_and, x_par, wp_par2, wp_par3, x_cnt, x_raise, x_pass, x_brk, x_aug, e_callk, dataV, wp_raise, wp_eqI, wp_neI, wp_gt, wp_lt, wp_le, wp_ge, wp_eqS, wp_neS2, wp_negI, wp_part, wp_tup0, wp_tup1, wp_tup2, wp_tup3, wp_lenT, wp_lenL, wp_mkd, wp_add, wp_sub, wp_int, wp_cutT, asgTs, wp_eqS, h0, h1, a1, wp_tup3, st3]
    by_cases h2 : (d == "cut") = true
    · simp only [bodyFuel, wp_seq, wp_seq0, x_asg, x_rtn, x_if, x_ex, x_sub, x_for, e_var, e_c, e_g, e_tup, e_lst, e_dnil, e_dnew, e_dct, e_bin, e_neg, e_cmp, e_chn, e_and, e_or, e_not, e_ite, e_idx, e_sl, e_rev, e_call, e_bi, e_rep, e_isi, e_me, e_comp, andE, orE, startE, wp_bnd, wp_ret, wp_some, wp_tru, wp_fail, wp_noex, wp_guard, isiM, wp_view_d, wp_view_k, wp_viewd_d, wp_viewI_d, wp_viewI_k, wp_viewc_d, l_cons, l_nil, itE, isT, if_pos, itemsD, asgT, testsE, wipeE, List.set_cons_zero, List.set_cons_succ, List.getElem?_cons_zero, List.getElem?_cons_succ, Option.join_some, List.map_cons, List.map_nil, List.cons_append, List.nil_append, List.length_cons, List.length_nil, List.replicate_succ, List.replicate_zero, constD, Option.map_some, mkRes, if_true, if_false, Bool.false_eq_true, Bool.not_true, Bool.not_false, List.any_cons, List.any_nil, Bool.or_false, Bool.false_or, Bool.true_or, optE, wp_ite, true_implies, false_implies, not_true_eq_false, not_false_eq_true, and_true, true_and, x_par, wp_par2, wp_par3, x_cnt, x_raise, x_pass, x_brk, x_aug, e_callk, dataV, wp_raise, wp_eqI, wp_neI, wp_gt, wp_lt, wp_le, wp_ge, wp_eqS, wp_neS2, wp_negI, wp_part, wp_tup0, wp_tup1, wp_tup2, wp_tup3, wp_lenT, wp_lenL, wp_mkd, wp_add, wp_sub, wp_int, wp_cutT, asgTs, wp_eqS, h0, h1, h2, wp_negI, wp_part, wp_cutS (show (wS l).length ≤ 1000000 by omega), wp_mkd, cut_init, wp_tup3, st3]
    by_cases h3 : (d == "over") = true
    · have h4 : (d == "back") = false := by
        obtain rfl := eq_of_beq h3
        decide +kernel
      rcases List.eq_nil_or_concat l with rfl | ⟨l', c, rfl⟩
      · simp only [bodyFuel, wp_seq, wp_seq0, x_asg, x_rtn, x_if, x_ex, x_sub, x_for, e_var, e_c, e_g, e_tup, e_lst, e_dnil, e_dnew, e_dct, e_bin, e_neg, e_cmp, e_chn, e_and, e_or, e_not, e_ite, e_idx, e_sl, e_rev, e_call, e_bi, e_rep, e_isi, e_me, e_comp, andE, orE, startE, wp_bnd, wp_ret, wp_some, wp_tru, wp_fail, wp_noex, wp_guard, isiM, wp_view_d, wp_view_k, wp_viewd_d, wp_viewI_d, wp_viewI_k, wp_viewc_d, l_cons, l_nil, itE, isT, if_pos, itemsD, asgT, testsE, wipeE, List.set_cons_zero, List.set_cons_succ, List.getElem?_cons_zero, List.getElem?_cons_succ, Option.join_some, List.map_cons, List.map_nil, List.cons_append, List.nil_append, List.length_cons, List.length_nil, List.replicate_succ, List.replicate_zero, constD, Option.map_some, mkRes, if_true, if_false, Bool.false_eq_true, Bool.not_true, Bool.not_false, List.any_cons, List.any_nil, Bool.or_false, Bool.false_or, Bool.true_or, optE, wp_ite, true_implies, false_implies, not_true_eq_false, not_false_eq_true, and_true, true_and, x_par, wp_par2, wp_par3, x_cnt, x_raise, x_pass, x_brk, x_aug, e_callk, dataV, wp_raise, wp_eqI, wp_neI, wp_gt, wp_lt, wp_le, wp_ge, wp_eqS, wp_neS2, wp_negI, wp_part, wp_tup0, wp_tup1, wp_tup2, wp_tup3, wp_lenT, wp_lenL, wp_mkd, wp_add, wp_sub, wp_int, wp_cutT, asgTs, wp_eqS, h0, h1, h2, h3, h4, wp_neS2, en0, wp_tup3, st3, List.dropLast_nil, List.getLast?_nil, Option.toList_none, List.append_nil]
      · rw [List.concat_eq_append] at *
        simp only [bodyFuel, wp_seq, wp_seq0, x_asg, x_rtn, x_if, x_ex, x_sub, x_for, e_var, e_c, e_g, e_tup, e_lst, e_dnil, e_dnew, e_dct, e_bin, e_neg, e_cmp, e_chn, e_and, e_or, e_not, e_ite, e_idx, e_sl, e_rev, e_call, e_bi, e_rep, e_isi, e_me, e_comp, andE, orE, startE, wp_bnd, wp_ret, wp_some, wp_tru, wp_fail, wp_noex, wp_guard, isiM, wp_view_d, wp_view_k, wp_viewd_d, wp_viewI_d, wp_viewI_k, wp_viewc_d, l_cons, l_nil, itE, isT, if_pos, itemsD, asgT, testsE, wipeE, List.set_cons_zero, List.set_cons_succ, List.getElem?_cons_zero, List.getElem?_cons_succ, Option.join_some, List.map_cons, List.map_nil, List.cons_append, List.nil_append, List.length_cons, List.length_nil, List.replicate_succ, List.replicate_zero, constD, Option.map_some, mkRes, if_true, if_false, Bool.false_eq_true, Bool.not_true, Bool.not_false, List.any_cons, List.any_nil, Bool.or_false, Bool.false_or, Bool.true_or, optE, wp_ite, true_implies, false_implies, not_true_eq_false, not_false_eq_true, and_true, true_and, x_par, wp_par2, wp_par3, x_cnt, x_raise, x_pass, x_brk, x_aug, e_callk, dataV, wp_raise, wp_eqI, wp_neI, wp_gt, wp_lt, wp_le, wp_ge, wp_eqS, wp_neS2, wp_negI, wp_part, wp_tup0, wp_tup1, wp_tup2, wp_tup3, wp_lenT, wp_lenL, wp_mkd, wp_add, wp_sub, wp_int, wp_cutT, asgTs, wp_eqS, h0, h1, h2, h3, wp_neS2, en1, wp_negI, wp_part, wp_cutS (show (wS (l' ++ [c])).length ≤ 1000000 by omega), wp_mkd, cut_init, l_cons, l_nil]
        rw [last (b := []) hl2, wp_addS (by rw [wS_len, wS_len, List.length_singleton]; omega), wS_app]
        simp only [wp_par2, bodyFuel, wp_seq, wp_seq0, x_asg, x_rtn, x_if, x_ex, x_sub, x_for, e_var, e_c, e_g, e_tup, e_lst, e_dnil, e_dnew, e_dct, e_bin, e_neg, e_cmp, e_chn, e_and, e_or, e_not, e_ite, e_idx, e_sl, e_rev, e_call, e_bi, e_rep, e_isi, e_me, e_comp, andE, orE, startE, wp_bnd, wp_ret, wp_some, wp_tru, wp_fail, wp_noex, wp_guard, isiM, wp_view_d, wp_view_k, wp_viewd_d, wp_viewI_d, wp_viewI_k, wp_viewc_d, l_cons, l_nil, itE, isT, if_pos, itemsD, asgT, testsE, wipeE, List.set_cons_zero, List.set_cons_succ, List.getElem?_cons_zero, List.getElem?_cons_succ, Option.join_some, List.map_cons, List.map_nil, List.cons_append, List.nil_append, List.length_cons, List.length_nil, List.replicate_succ, List.replicate_zero, constD, Option.map_some, mkRes, if_true, if_false, Bool.false_eq_true, Bool.not_true, Bool.not_false, List.any_cons, List.any_nil, Bool.or_false, Bool.false_or, Bool.true_or, optE, wp_ite, true_implies, false_implies, not_true_eq_false, not_false_eq_true, and_true, true_and, x_par, wp_par2, wp_par3, x_cnt, x_raise, x_pass, x_brk, x_aug, e_callk, dataV, wp_raise, wp_eqI, wp_neI, wp_gt, wp_lt, wp_le, wp_ge, wp_eqS, wp_neS2, wp_negI, wp_part, wp_tup0, wp_tup1, wp_tup2, wp_tup3, wp_lenT, wp_lenL, wp_mkd, wp_add, wp_sub, wp_int, wp_cutT, asgTs, wp_tup3, st3]
        simp
    by_cases h4 : (d == "back") = true
    · rcases List.eq_nil_or_concat r with rfl | ⟨r', c, rfl⟩
      · simp only [bodyFuel, wp_seq, wp_seq0, x_asg, x_rtn, x_if, x_ex, x_sub, x_for, e_var, e_c, e_g, e_tup, e_lst, e_dnil, e_dnew, e_dct, e_bin, e_neg, e_cmp, e_chn, e_and, e_or, e_not, e_ite, e_idx, e_sl, e_rev, e_call, e_bi, e_rep, e_isi, e_me, e_comp, andE, orE, startE, wp_bnd, wp_ret, wp_some, wp_tru, wp_fail, wp_noex, wp_guard, isiM, wp_view_d, wp_view_k, wp_viewd_d, wp_viewI_d, wp_viewI_k, wp_viewc_d, l_cons, l_nil, itE, isT, if_pos, itemsD, asgT, testsE, wipeE, List.set_cons_zero, List.set_cons_succ, List.getElem?_cons_zero, List.getElem?_cons_succ, Option.join_some, List.map_cons, List.map_nil, List.cons_append, List.nil_append, List.length_cons, List.length_nil, List.replicate_succ, List.replicate_zero, constD, Option.map_some, mkRes, if_true, if_false, Bool.false_eq_true, Bool.not_true, Bool.not_false, List.any_cons, List.any_nil, Bool.or_false, Bool.false_or, Bool.true_or, optE, wp_ite, true_implies, false_implies, not_true_eq_false, not_false_eq_true, and_true, true_and, x_par, wp_par2, wp_par3, x_cnt, x_raise, x_pass, x_brk, x_aug, e_callk, dataV, wp_raise, wp_eqI, wp_neI, wp_gt, wp_lt, wp_le, wp_ge, wp_eqS, wp_neS2, wp_negI, wp_part, wp_tup0, wp_tup1, wp_tup2, wp_tup3, wp_lenT, wp_lenL, wp_mkd, wp_add, wp_sub, wp_int, wp_cutT, asgTs, wp_eqS, h0, h1, h2, h3, h4, wp_neS2, en0, wp_tup3, st3, List.dropLast_nil, List.getLast?_nil, Option.toList_none, List.append_nil]
      · rw [List.concat_eq_append] at *
        simp only [bodyFuel, wp_seq, wp_seq0, x_asg, x_rtn, x_if, x_ex, x_sub, x_for, e_var, e_c, e_g, e_tup, e_lst, e_dnil, e_dnew, e_dct, e_bin, e_neg, e_cmp, e_chn, e_and, e_or, e_not, e_ite, e_idx, e_sl, e_rev, e_call, e_bi, e_rep, e_isi, e_me, e_comp, andE, orE, startE, wp_bnd, wp_ret, wp_some, wp_tru, wp_fail, wp_noex, wp_guard, isiM, wp_view_d, wp_view_k, wp_viewd_d, wp_viewI_d, wp_viewI_k, wp_viewc_d, l_cons, l_nil, itE, isT, if_pos, itemsD, asgT, testsE, wipeE, List.set_cons_zero, List.set_cons_succ, List.getElem?_cons_zero, List.getElem?_cons_succ, Option.join_some, List.map_cons, List.map_nil, List.cons_append, List.nil_append, List.length_cons, List.length_nil, List.replicate_succ, List.replicate_zero, constD, Option.map_some, mkRes, if_true, if_false, Bool.false_eq_true, Bool.not_true, Bool.not_false, List.any_cons, List.any_nil, Bool.or_false, Bool.false_or, Bool.true_or, optE, wp_ite, true_implies, false_implies, not_true_eq_false, not_false_eq_true, and_true, true_and, x_par, wp_par2, wp_par3, x_cnt, x_raise, x_pass, x_brk, x_aug, e_callk, dataV, wp_raise, wp_eqI, wp_neI, wp_gt, wp_lt, wp_le, wp_ge, wp_eqS, wp_neS2, wp_negI, wp_part, wp_tup0, wp_tup1, wp_tup2, wp_tup3, wp_lenT, wp_lenL, wp_mkd, wp_add, wp_sub, wp_int, wp_cutT, asgTs, wp_eqS, h0, h1, h2, h3, h4, wp_neS2, en1, wp_negI, wp_part]
        rw [last (b := []) hr2, wp_addS (by rw [wS_len, wS_len, List.length_singleton]; omega), wS_app]
        simp only [wp_par2, bodyFuel, wp_seq, wp_seq0, x_asg, x_rtn, x_if, x_ex, x_sub, x_for, e_var, e_c, e_g, e_tup, e_lst, e_dnil, e_dnew, e_dct, e_bin, e_neg, e_cmp, e_chn, e_and, e_or, e_not, e_ite, e_idx, e_sl, e_rev, e_call, e_bi, e_rep, e_isi, e_me, e_comp, andE, orE, startE, wp_bnd, wp_ret, wp_some, wp_tru, wp_fail, wp_noex, wp_guard, isiM, wp_view_d, wp_view_k, wp_viewd_d, wp_viewI_d, wp_viewI_k, wp_viewc_d, l_cons, l_nil, itE, isT, if_pos, itemsD, asgT, testsE, wipeE, List.set_cons_zero, List.set_cons_succ, List.getElem?_cons_zero, List.getElem?_cons_succ, Option.join_some, List.map_cons, List.map_nil, List.cons_append, List.nil_append, List.length_cons, List.length_nil, List.replicate_succ, List.replicate_zero, constD, Option.map_some, mkRes, if_true, if_false, Bool.false_eq_true, Bool.not_true, Bool.not_false, List.any_cons, List.any_nil, Bool.or_false, Bool.false_or, Bool.true_or, optE, wp_ite, true_implies, false_implies, not_true_eq_false, not_false_eq_true, and_true, true_and, x_par, wp_par2, wp_par3, x_cnt, x_raise, x_pass, x_brk, x_aug, e_callk, dataV, wp_raise, wp_eqI, wp_neI, wp_gt, wp_lt, wp_le, wp_ge, wp_eqS, wp_neS2, wp_negI, wp_part, wp_tup0, wp_tup1, wp_tup2, wp_tup3, wp_lenT, wp_lenL, wp_mkd, wp_add, wp_sub, wp_int, wp_cutT, asgTs, wp_tup3, st3, wp_cutS (show (wS (r' ++ [c])).length ≤ 1000000 by omega), wp_mkd, cut_init]
        simp
    · simp only [bodyFuel, wp_seq, wp_seq0, x_asg, x_rtn, x_if, x_ex, x_sub, x_for, e_var, e_c, e_g, e_tup, e_lst, e_dnil, e_dnew, e_dct, e_bin, e_neg, e_cmp, e_chn, e_and, e_or, e_not, e_ite, e_idx, e_sl, e_rev, e_call, e_bi, e_rep, e_isi, e_me, e_comp, andE, orE, startE, wp_bnd, wp_ret, wp_some, wp_tru, wp_fail, wp_noex, wp_guard, isiM, wp_view_d, wp_view_k, wp_viewd_d, wp_viewI_d, wp_viewI_k, wp_viewc_d, l_cons, l_nil, itE, isT, if_pos, itemsD, asgT, testsE, wipeE, List.set_cons_zero, List.set_cons_succ, List.getElem?_cons_zero, List.getElem?_cons_succ, Option.join_some, List.map_cons, List.map_nil, List.cons_append, List.nil_append, List.length_cons, List.length_nil, List.replicate_succ, List.replicate_zero, constD, Option.map_some, mkRes, if_true, if_false, Bool.false_eq_true, Bool.not_true, Bool.not_false, List.any_cons, List.any_nil, Bool.or_false, Bool.false_or, Bool.true_or, optE, wp_ite, true_implies, false_implies, not_true_eq_false, not_false_eq_true, and_true, true_and, x_par, wp_par2, wp_par3, x_cnt, x_raise, x_pass, x_brk, x_aug, e_callk, dataV, wp_raise, wp_eqI, wp_neI, wp_gt, wp_lt, wp_le, wp_ge, wp_eqS, wp_neS2, wp_negI, wp_part, wp_tup0, wp_tup1, wp_tup2, wp_tup3, wp_lenT, wp_lenL, wp_mkd, wp_add, wp_sub, wp_int, wp_cutT, asgTs, wp_eqS, h0, h1, h2, h3, h4, wp_tup3, st3]
  generalize hT : ([.if_ (.cmp .eq (.var 6) (.c (.str ("put0" : PySem.Str)))) _ _, _] : List T) = T at tail ⊢
  simp only [bodyFuel, wp_seq, wp_seq0, x_asg, x_rtn, x_if, x_ex, x_sub, x_for, e_var, e_c, e_g, e_tup, e_lst, e_dnil, e_dnew, e_dct, e_bin, e_neg, e_cmp, e_chn, e_and, e_or, e_not, e_ite, e_idx, e_sl, e_rev, e_call, e_bi, e_rep, e_isi, e_me, e_comp, andE, orE, startE, wp_bnd, wp_ret, wp_some, wp_tru, wp_fail, wp_noex, wp_guard, isiM, wp_view_d, wp_view_k, wp_viewd_d, wp_viewI_d, wp_viewI_k, wp_viewc_d, l_cons, l_nil, itE, isT, if_pos, itemsD, asgT, testsE, wipeE, List.set_cons_zero, List.set_cons_succ, List.getElem?_cons_zero, List.getElem?_cons_succ, Option.join_some, List.map_cons, List.map_nil, List.cons_append, List.nil_append, List.length_cons, List.length_nil, List.replicate_succ, List.replicate_zero, constD, Option.map_some, mkRes, if_true, if_false, Bool.false_eq_true, Bool.not_true, Bool.not_false, List.any_cons, List.any_nil, Bool.or_false, Bool.false_or, Bool.true_or, optE, wp_ite, true_implies, false_implies, not_true_eq_false, not_false_eq_true, and_true, true_and, x_par, wp_par2, wp_par3, x_cnt, x_raise, x_pass, x_brk, x_aug, e_callk, dataV, wp_raise, wp_eqI, wp_neI, wp_gt, wp_lt, wp_le, wp_ge, wp_eqS, wp_neS2, wp_negI, wp_part, wp_tup0, wp_tup1, wp_tup2, wp_tup3, wp_lenT, wp_lenL, wp_mkd, wp_add, wp_sub, wp_int, wp_cutT, asgTs, st3]
  unfold stepD
  refine ⟨fun h => ?_, fun h => ?_⟩
  · rw [if_pos (eq_of_beq h)]; exact ⟨_, rfl, rfl⟩
  · have hne : ¬ s = xs.length := fun k => h (by simp [k])
    rw [if_neg hne]
    obtain ⟨x, _, hx, eX⟩ := idx_get h0 (show s < xs.length by omega)
    obtain ⟨rs, t, d, rfl, e1, e2, t0, t1⟩ := state_rule (List.all_eq_true.mp hm x hx) l
    rw [wp_idxT eX, eX]
    have fin : ∀ o2, wp (seqL (fun s ρ => ex ⟨callF Γ G n, kwF Γ, G, lowF Γ G n⟩ 60 s ρ) T [some (.d (.tuple xs)), some (.d (st3 s l r)), o2, some (.d (.str (wS l))), some (.d (.str (wS r))), some (.d (.int t)), some (.d (.str d))]) [] (fun f S' => (match f with
      | .rt v => ∃ x, freeze S' v = some x ∧ Val.d x = Val.d (stepR (.tuple rs) l r)
      | .nx _ => ∃ x, freeze S' (.d .none) = some x ∧ Val.d x = Val.d (stepR (.tuple rs) l r)
      | _ => False)) (fun _ _ => False) := fun o2 => by
      refine wp_mono (tail t d o2) (fun f S' q => ?_) fun _ _ h => h
      obtain ⟨rfl, rfl⟩ := q
      refine ⟨_, rfl, ?_⟩
      simp only [stepR, e1]
    rcases List.eq_nil_or_concat l with rfl | ⟨l', c, rfl⟩
    · have e0 : (wS [] == ("" : Str)) = true := by rw [sw_nil, wS_beq]; rfl
      simp only [bodyFuel, wp_seq, wp_seq0, x_asg, x_rtn, x_if, x_ex, x_sub, x_for, e_var, e_c, e_g, e_tup, e_lst, e_dnil, e_dnew, e_dct, e_bin, e_neg, e_cmp, e_chn, e_and, e_or, e_not, e_ite, e_idx, e_sl, e_rev, e_call, e_bi, e_rep, e_isi, e_me, e_comp, andE, orE, startE, wp_bnd, wp_ret, wp_some, wp_tru, wp_fail, wp_noex, wp_guard, isiM, wp_view_d, wp_view_k, wp_viewd_d, wp_viewI_d, wp_viewI_k, wp_viewc_d, l_cons, l_nil, itE, isT, if_pos, itemsD, asgT, testsE, wipeE, List.set_cons_zero, List.set_cons_succ, List.getElem?_cons_zero, List.getElem?_cons_succ, Option.join_some, List.map_cons, List.map_nil, List.cons_append, List.nil_append, List.length_cons, List.length_nil, List.replicate_succ, List.replicate_zero, constD, Option.map_some, mkRes, if_true, if_false, Bool.false_eq_true, Bool.not_true, Bool.not_false, List.any_cons, List.any_nil, Bool.or_false, Bool.false_or, Bool.true_or, optE, wp_ite, true_implies, false_implies, not_true_eq_false, not_false_eq_true, and_true, true_and, x_par, wp_par2, wp_par3, x_cnt, x_raise, x_pass, x_brk, x_aug, e_callk, dataV, wp_raise, wp_eqI, wp_neI, wp_gt, wp_lt, wp_le, wp_ge, wp_eqS, wp_neS2, wp_negI, wp_part, wp_tup0, wp_tup1, wp_tup2, wp_tup3, wp_lenT, wp_lenL, wp_mkd, wp_add, wp_sub, wp_int, wp_cutT, asgTs, e0]
      rw [wp_idxT (show atI rs 0 = some _ from e2)]
      simp only [bodyFuel, wp_seq, wp_seq0, x_asg, x_rtn, x_if, x_ex, x_sub, x_for, e_var, e_c, e_g, e_tup, e_lst, e_dnil, e_dnew, e_dct, e_bin, e_neg, e_cmp, e_chn, e_and, e_or, e_not, e_ite, e_idx, e_sl, e_rev, e_call, e_bi, e_rep, e_isi, e_me, e_comp, andE, orE, startE, wp_bnd, wp_ret, wp_some, wp_tru, wp_fail, wp_noex, wp_guard, isiM, wp_view_d, wp_view_k, wp_viewd_d, wp_viewI_d, wp_viewI_k, wp_viewc_d, l_cons, l_nil, itE, isT, if_pos, itemsD, asgT, testsE, wipeE, List.set_cons_zero, List.set_cons_succ, List.getElem?_cons_zero, List.getElem?_cons_succ, Option.join_some, List.map_cons, List.map_nil, List.cons_append, List.nil_append, List.length_cons, List.length_nil, List.replicate_succ, List.replicate_zero, constD, Option.map_some, mkRes, if_true, if_false, Bool.false_eq_true, Bool.not_true, Bool.not_false, List.any_cons, List.any_nil, Bool.or_false, Bool.false_or, Bool.true_or, optE, wp_ite, true_implies, false_implies, not_true_eq_false, not_false_eq_true, and_true, true_and, x_par, wp_par2, wp_par3, x_cnt, x_raise, x_pass, x_brk, x_aug, e_callk, dataV, wp_raise, wp_eqI, wp_neI, wp_gt, wp_lt, wp_le, wp_ge, wp_eqS, wp_neS2, wp_negI, wp_part, wp_tup0, wp_tup1, wp_tup2, wp_tup3, wp_lenT, wp_lenL, wp_mkd, wp_add, wp_sub, wp_int, wp_cutT, asgTs]
      exact fin _
    · rw [List.concat_eq_append] at *
      have e0 : (wS (l' ++ [c]) == ("" : Str)) = false := by rw [sw_nil, wS_beq, decide_eq_false (by simp)]
      have hc := hl.1 c (by simp)
      simp only [bodyFuel, wp_seq, wp_seq0, x_asg, x_rtn, x_if, x_ex, x_sub, x_for, e_var, e_c, e_g, e_tup, e_lst, e_dnil, e_dnew, e_dct, e_bin, e_neg, e_cmp, e_chn, e_and, e_or, e_not, e_ite, e_idx, e_sl, e_rev, e_call, e_bi, e_rep, e_isi, e_me, e_comp, andE, orE, startE, wp_bnd, wp_ret, wp_some, wp_tru, wp_fail, wp_noex, wp_guard, isiM, wp_view_d, wp_view_k, wp_viewd_d, wp_viewI_d, wp_viewI_k, wp_viewc_d, l_cons, l_nil, itE, isT, if_pos, itemsD, asgT, testsE, wipeE, List.set_cons_zero, List.set_cons_succ, List.getElem?_cons_zero, List.getElem?_cons_succ, Option.join_some, List.map_cons, List.map_nil, List.cons_append, List.nil_append, List.length_cons, List.length_nil, List.replicate_succ, List.replicate_zero, constD, Option.map_some, mkRes, if_true, if_false, Bool.false_eq_true, Bool.not_true, Bool.not_false, List.any_cons, List.any_nil, Bool.or_false, Bool.false_or, Bool.true_or, optE, wp_ite, true_implies, false_implies, not_true_eq_false, not_false_eq_true, and_true, true_and, x_par, wp_par2, wp_par3, x_cnt, x_raise, x_pass, x_brk, x_aug, e_callk, dataV, wp_raise, wp_eqI, wp_neI, wp_gt, wp_lt, wp_le, wp_ge, wp_eqS, wp_neS2, wp_negI, wp_part, wp_tup0, wp_tup1, wp_tup2, wp_tup3, wp_lenT, wp_lenL, wp_mkd, wp_add, wp_sub, wp_int, wp_cutT, asgTs, e0]
      rw [last (b := []) hl2, wp_bi1, show (wS [c]) = sign c from rfl, e_int1 P c hc]
      simp only [bodyFuel, wp_seq, wp_seq0, x_asg, x_rtn, x_if, x_ex, x_sub, x_for, e_var, e_c, e_g, e_tup, e_lst, e_dnil, e_dnew, e_dct, e_bin, e_neg, e_cmp, e_chn, e_and, e_or, e_not, e_ite, e_idx, e_sl, e_rev, e_call, e_bi, e_rep, e_isi, e_me, e_comp, andE, orE, startE, wp_bnd, wp_ret, wp_some, wp_tru, wp_fail, wp_noex, wp_guard, isiM, wp_view_d, wp_view_k, wp_viewd_d, wp_viewI_d, wp_viewI_k, wp_viewc_d, l_cons, l_nil, itE, isT, if_pos, itemsD, asgT, testsE, wipeE, List.set_cons_zero, List.set_cons_succ, List.getElem?_cons_zero, List.getElem?_cons_succ, Option.join_some, List.map_cons, List.map_nil, List.cons_append, List.nil_append, List.length_cons, List.length_nil, List.replicate_succ, List.replicate_zero, constD, Option.map_some, mkRes, if_true, if_false, Bool.false_eq_true, Bool.not_true, Bool.not_false, List.any_cons, List.any_nil, Bool.or_false, Bool.false_or, Bool.true_or, optE, wp_ite, true_implies, false_implies, not_true_eq_false, not_false_eq_true, and_true, true_and, x_par, wp_par2, wp_par3, x_cnt, x_raise, x_pass, x_brk, x_aug, e_callk, dataV, wp_raise, wp_eqI, wp_neI, wp_gt, wp_lt, wp_le, wp_ge, wp_eqS, wp_neS2, wp_negI, wp_part, wp_tup0, wp_tup1, wp_tup2, wp_tup3, wp_lenT, wp_lenL, wp_mkd, wp_add, wp_sub, wp_int, wp_cutT, asgTs]
      rw [wp_idxT (show atI rs _ = some _ from by
        rw [← e2]
        congr 1
        unfold endN
        rw [List.getLast?_append]
        show (1 : Int) + (if c = 48 then 0 else 1) = ((if c = 48 then 1 else 2 : Nat) : Int)
        split <;> rfl)]
      simp only [bodyFuel, wp_seq, wp_seq0, x_asg, x_rtn, x_if, x_ex, x_sub, x_for, e_var, e_c, e_g, e_tup, e_lst, e_dnil, e_dnew, e_dct, e_bin, e_neg, e_cmp, e_chn, e_and, e_or, e_not, e_ite, e_idx, e_sl, e_rev, e_call, e_bi, e_rep, e_isi, e_me, e_comp, andE, orE, startE, wp_bnd, wp_ret, wp_some, wp_tru, wp_fail, wp_noex, wp_guard, isiM, wp_view_d, wp_view_k, wp_viewd_d, wp_viewI_d, wp_viewI_k, wp_viewc_d, l_cons, l_nil, itE, isT, if_pos, itemsD, asgT, testsE, wipeE, List.set_cons_zero, List.set_cons_succ, List.getElem?_cons_zero, List.getElem?_cons_succ, Option.join_some, List.map_cons, List.map_nil, List.cons_append, List.nil_append, List.length_cons, List.length_nil, List.replicate_succ, List.replicate_zero, constD, Option.map_some, mkRes, if_true, if_false, Bool.false_eq_true, Bool.not_true, Bool.not_false, List.any_cons, List.any_nil, Bool.or_false, Bool.false_or, Bool.true_or, optE, wp_ite, true_implies, false_implies, not_true_eq_false, not_false_eq_true, and_true, true_and, x_par, wp_par2, wp_par3, x_cnt, x_raise, x_pass, x_brk, x_aug, e_callk, dataV, wp_raise, wp_eqI, wp_neI, wp_gt, wp_lt, wp_le, wp_ge, wp_eqS, wp_neS2, wp_negI, wp_part, wp_tup0, wp_tup1, wp_tup2, wp_tup3, wp_lenT, wp_lenL, wp_mkd, wp_add, wp_sub, wp_int, wp_cutT, asgTs]
      exact fin _
end
end Pm
end
section
set_option Elab.async false
set_option linter.all false
set_option maxRecDepth 100000
set_option maxHeartbeats 0
namespace Pm
open PySem PySem.Spec L2 Ev
/-- a look at the items by a loop that gives up at the first that is none -/
theorem wp_forAll {f : PyData → Bool} {body : Val → Ev.Env → M Fl} {E : Exn → List Cell → Prop} {Q : Fl → List Cell → Prop} (I : Ev.Env → Prop) {S : List Cell} : ∀ {xs : List PyData} {ρ : Ev.Env},
    (∀ x ρ, x ∈ xs → I ρ → wp (body (.d x) ρ) S (fun g S' => S' = S ∧ ((f x = true ∧ ∃ ρ', g = .nx ρ' ∧ I ρ') ∨ (f x = false ∧ g = .rt (.d (.bool false))))) E) → I ρ → (∀ ρ, I ρ → xs.all f = true → Q (.nx ρ) S) → (xs.all f = false → Q (.rt (.d (.bool false))) S) → wp (forL body (xs.map .d) ρ) S Q E
  | [], ρ, _, h0, q, _ => q ρ h0 rfl
  | x :: xs, ρ, hb, h0, q, q2 => by
    show wp (bnd (body (.d x) ρ) _) S Q E
    rw [wp_bnd]
    refine wp_mono (hb x ρ (by simp) h0) (fun g S1 ⟨e, h1⟩ => ?_) fun _ _ h => h
    subst e
    rcases h1 with ⟨hx, ρ', rfl, h1⟩ | ⟨hx, rfl⟩
    · exact wp_forAll I (fun y ρ hy => hb y ρ (by simp [hy])) h1 (fun ρ i a => q ρ i (by simp [hx, a])) fun a => q2 (by simp [hx, a])
    · exact q2 (by simp [hx])
section
variable {Γ : Tab} {G : List (Str × Val)} (P : Pl Γ G) {S : List Cell} {Q : Val → List Cell → Prop} {E : Exn → List Cell → Prop} {n : Nat}
include P
theorem c_law_is_machine {x : PyData} : wp (callF Γ G (n + 3) "_law_is_machine" [.d x]) S Q E = Q (.d (.bool (machD x))) S := by
  refine wp_of (wp_to ?_)
  rw [wp_pure P.k__law_is_machine rfl rfl rfl, wp_run]
  unfold f__law_is_machine b__law_is_machine
  cases x with
  | tuple xs =>
    simp only [bodyFuel, wp_seq, wp_seq0, x_asg, x_rtn, x_if, x_ex, x_sub, x_for, e_var, e_c, e_g, e_tup, e_lst, e_dnil, e_dnew, e_dct, e_bin, e_neg, e_cmp, e_chn, e_and, e_or, e_not, e_ite, e_idx, e_sl, e_rev, e_call, e_bi, e_rep, e_isi, e_me, e_comp, andE, orE, startE, wp_bnd, wp_ret, wp_some, wp_tru, wp_fail, wp_noex, wp_guard, isiM, wp_view_d, wp_view_k, wp_viewd_d, wp_viewI_d, wp_viewI_k, wp_viewc_d, l_cons, l_nil, itE, isT, if_pos, itemsD, asgT, testsE, wipeE, List.set_cons_zero, List.set_cons_succ, List.getElem?_cons_zero, List.getElem?_cons_succ, Option.join_some, List.map_cons, List.map_nil, List.cons_append, List.nil_append, List.length_cons, List.length_nil, List.replicate_succ, List.replicate_zero, constD, Option.map_some, mkRes, if_true, if_false, Bool.false_eq_true, Bool.not_true, Bool.not_false, List.any_cons, List.any_nil, Bool.or_false, Bool.false_or, Bool.true_or, optE, wp_ite, true_implies, false_implies, not_true_eq_false, not_false_eq_true, and_true, true_and, x_par, wp_par2, wp_par3, x_cnt, x_raise, x_pass, x_brk, x_aug, e_callk, dataV, wp_raise, wp_eqI, wp_neI, wp_gt, wp_lt, wp_le, wp_ge, wp_eqS, wp_neS2, wp_negI, wp_part, wp_tup0, wp_tup1, wp_tup2, wp_tup3, wp_lenT, wp_lenL, wp_mkd, wp_add, wp_sub, wp_int, wp_cutT, asgTs]
    have e0 : ∀ {S : List Cell} {Q : Bool → List Cell → Prop} {E : Exn → List Cell → Prop}, wp (cmpM .eq (.d (.tuple xs)) (.d (.tuple []))) S Q E = Q xs.isEmpty S := fun {S Q E} => by
      rw [wp_eq_d]
      cases xs <;> rfl
    rw [e0]
    cases xs with
    | nil => exact ⟨fun _ => ⟨_, rfl, rfl⟩, fun k => absurd rfl k⟩
    | cons x0 xs0 =>
      refine ⟨fun k => (by cases k), fun _ => ?_⟩
      generalize hxs : x0 :: xs0 = xs
      have hne : 0 < xs.length := by rw [← hxs]; simp
      refine wp_forAll (f := stateD xs.length) (fun ρ => ∃ o1 o2, ρ = [some (.d (.tuple xs)), o1, o2]) (fun y ρ hy hI => ?_) ⟨_, _, rfl⟩ (fun ρ hI ha => ?_) fun ha => ?_
      · obtain ⟨o1, o2, rfl⟩ := hI
        cases y with
        | tuple ys =>
          simp only [bodyFuel, wp_seq, wp_seq0, x_asg, x_rtn, x_if, x_ex, x_sub, x_for, e_var, e_c, e_g, e_tup, e_lst, e_dnil, e_dnew, e_dct, e_bin, e_neg, e_cmp, e_chn, e_and, e_or, e_not, e_ite, e_idx, e_sl, e_rev, e_call, e_bi, e_rep, e_isi, e_me, e_comp, andE, orE, startE, wp_bnd, wp_ret, wp_some, wp_tru, wp_fail, wp_noex, wp_guard, isiM, wp_view_d, wp_view_k, wp_viewd_d, wp_viewI_d, wp_viewI_k, wp_viewc_d, l_cons, l_nil, itE, isT, if_pos, itemsD, asgT, testsE, wipeE, List.set_cons_zero, List.set_cons_succ, List.getElem?_cons_zero, List.getElem?_cons_succ, Option.join_some, List.map_cons, List.map_nil, List.cons_append, List.nil_append, List.length_cons, List.length_nil, List.replicate_succ, List.replicate_zero, constD, Option.map_some, mkRes, if_true, if_false, Bool.false_eq_true, Bool.not_true, Bool.not_false, List.any_cons, List.any_nil, Bool.or_false, Bool.false_or, Bool.true_or, optE, wp_ite, true_implies, false_implies, not_true_eq_false, not_false_eq_true, and_true, true_and, x_par, wp_par2, wp_par3, x_cnt, x_raise, x_pass, x_brk, x_aug, e_callk, dataV, wp_raise, wp_eqI, wp_neI, wp_gt, wp_lt, wp_le, wp_ge, wp_eqS, wp_neS2, wp_negI, wp_part, wp_tup0, wp_tup1, wp_tup2, wp_tup3, wp_lenT, wp_lenL, wp_mkd, wp_add, wp_sub, wp_int, wp_cutT, asgTs]
          by_cases h3 : ys.length = 3
          · refine ⟨fun k => absurd k (by simp [h3]), fun _ => ?_⟩
            refine wp_forAll (f := ruleD xs.length) (fun ρ => ∃ o2, ρ = [some (.d (.tuple xs)), some (.d (.tuple ys)), o2]) (fun z ρ hz hI => ?_) ⟨_, rfl⟩ (fun ρ hI ha => ?_) fun ha => ?_
            · obtain ⟨o2, rfl⟩ := hI
              cases z with
              | tuple zs =>
                simp only [bodyFuel, wp_seq, wp_seq0, x_asg, x_rtn, x_if, x_ex, x_sub, x_for, e_var, e_c, e_g, e_tup, e_lst, e_dnil, e_dnew, e_dct, e_bin, e_neg, e_cmp, e_chn, e_and, e_or, e_not, e_ite, e_idx, e_sl, e_rev, e_call, e_bi, e_rep, e_isi, e_me, e_comp, andE, orE, startE, wp_bnd, wp_ret, wp_some, wp_tru, wp_fail, wp_noex, wp_guard, isiM, wp_view_d, wp_view_k, wp_viewd_d, wp_viewI_d, wp_viewI_k, wp_viewc_d, l_cons, l_nil, itE, isT, if_pos, itemsD, asgT, testsE, wipeE, List.set_cons_zero, List.set_cons_succ, List.getElem?_cons_zero, List.getElem?_cons_succ, Option.join_some, List.map_cons, List.map_nil, List.cons_append, List.nil_append, List.length_cons, List.length_nil, List.replicate_succ, List.replicate_zero, constD, Option.map_some, mkRes, if_true, if_false, Bool.false_eq_true, Bool.not_true, Bool.not_false, List.any_cons, List.any_nil, Bool.or_false, Bool.false_or, Bool.true_or, optE, wp_ite, true_implies, false_implies, not_true_eq_false, not_false_eq_true, and_true, true_and, x_par, wp_par2, wp_par3, x_cnt, x_raise, x_pass, x_brk, x_aug, e_callk, dataV, wp_raise, wp_eqI, wp_neI, wp_gt, wp_lt, wp_le, wp_ge, wp_eqS, wp_neS2, wp_negI, wp_part, wp_tup0, wp_tup1, wp_tup2, wp_tup3, wp_lenT, wp_lenL, wp_mkd, wp_add, wp_sub, wp_int, wp_cutT, asgTs]
                by_cases h2 : zs.length = 2
                · refine ⟨fun k => absurd k (by simp [h2]), fun _ => ?_⟩
                  obtain ⟨a, b, rfl⟩ := is2 zs h2
                  rw [wp_idxT (y := a) rfl, c_law_is_number P]
                  have ia : atI [a, b] 0 = some a := rfl
                  have ib : atI [a, b] 1 = some b := rfl
                  have key : isBtw a 0 xs.length = true → ∃ i, a = .int i ∧ 0 ≤ i ∧ i ≤ (xs.length : Int) := fun h => by
                    cases a with
                    | int i =>
                      have h1 : (decide (0 ≤ i) && decide (i ≤ (xs.length : Int))) = true := h
                      simp only [Bool.and_eq_true, decide_eq_true_eq] at h1
                      exact ⟨i, rfl, h1⟩
                    | _ => cases h
                  by_cases hb : isBtw a 0 xs.length = true
                  · obtain ⟨i, rfl, i0, i1⟩ := key hb
                    simp only [bodyFuel, wp_seq, wp_seq0, x_asg, x_rtn, x_if, x_ex, x_sub, x_for, e_var, e_c, e_g, e_tup, e_lst, e_dnil, e_dnew, e_dct, e_bin, e_neg, e_cmp, e_chn, e_and, e_or, e_not, e_ite, e_idx, e_sl, e_rev, e_call, e_bi, e_rep, e_isi, e_me, e_comp, andE, orE, startE, wp_bnd, wp_ret, wp_some, wp_tru, wp_fail, wp_noex, wp_guard, isiM, wp_view_d, wp_view_k, wp_viewd_d, wp_viewI_d, wp_viewI_k, wp_viewc_d, l_cons, l_nil, itE, isT, if_pos, itemsD, asgT, testsE, wipeE, List.set_cons_zero, List.set_cons_succ, List.getElem?_cons_zero, List.getElem?_cons_succ, Option.join_some, List.map_cons, List.map_nil, List.cons_append, List.nil_append, List.length_cons, List.length_nil, List.replicate_succ, List.replicate_zero, constD, Option.map_some, mkRes, if_true, if_false, Bool.false_eq_true, Bool.not_true, Bool.not_false, List.any_cons, List.any_nil, Bool.or_false, Bool.false_or, Bool.true_or, optE, wp_ite, true_implies, false_implies, not_true_eq_false, not_false_eq_true, and_true, true_and, x_par, wp_par2, wp_par3, x_cnt, x_raise, x_pass, x_brk, x_aug, e_callk, dataV, wp_raise, wp_eqI, wp_neI, wp_gt, wp_lt, wp_le, wp_ge, wp_eqS, wp_neS2, wp_negI, wp_part, wp_tup0, wp_tup1, wp_tup2, wp_tup3, wp_lenT, wp_lenL, wp_mkd, wp_add, wp_sub, wp_int, wp_cutT, asgTs, isNum, decide_eq_true i0, wp_idxT ia]
                    rw [decide_eq_false (show ¬ (xs.length : Int) < i by omega)]
                    simp only [bodyFuel, wp_seq, wp_seq0, x_asg, x_rtn, x_if, x_ex, x_sub, x_for, e_var, e_c, e_g, e_tup, e_lst, e_dnil, e_dnew, e_dct, e_bin, e_neg, e_cmp, e_chn, e_and, e_or, e_not, e_ite, e_idx, e_sl, e_rev, e_call, e_bi, e_rep, e_isi, e_me, e_comp, andE, orE, startE, wp_bnd, wp_ret, wp_some, wp_tru, wp_fail, wp_noex, wp_guard, isiM, wp_view_d, wp_view_k, wp_viewd_d, wp_viewI_d, wp_viewI_k, wp_viewc_d, l_cons, l_nil, itE, isT, if_pos, itemsD, asgT, testsE, wipeE, List.set_cons_zero, List.set_cons_succ, List.getElem?_cons_zero, List.getElem?_cons_succ, Option.join_some, List.map_cons, List.map_nil, List.cons_append, List.nil_append, List.length_cons, List.length_nil, List.replicate_succ, List.replicate_zero, constD, Option.map_some, mkRes, if_true, if_false, Bool.false_eq_true, Bool.not_true, Bool.not_false, List.any_cons, List.any_nil, Bool.or_false, Bool.false_or, Bool.true_or, optE, wp_ite, true_implies, false_implies, not_true_eq_false, not_false_eq_true, and_true, true_and, x_par, wp_par2, wp_par3, x_cnt, x_raise, x_pass, x_brk, x_aug, e_callk, dataV, wp_raise, wp_eqI, wp_neI, wp_gt, wp_lt, wp_le, wp_ge, wp_eqS, wp_neS2, wp_negI, wp_part, wp_tup0, wp_tup1, wp_tup2, wp_tup3, wp_lenT, wp_lenL, wp_mkd, wp_add, wp_sub, wp_int, wp_cutT, asgTs, wp_idxT ib]
                    cases b with
                    | str z =>
                      simp only [bodyFuel, wp_seq, wp_seq0, x_asg, x_rtn, x_if, x_ex, x_sub, x_for, e_var, e_c, e_g, e_tup, e_lst, e_dnil, e_dnew, e_dct, e_bin, e_neg, e_cmp, e_chn, e_and, e_or, e_not, e_ite, e_idx, e_sl, e_rev, e_call, e_bi, e_rep, e_isi, e_me, e_comp, andE, orE, startE, wp_bnd, wp_ret, wp_some, wp_tru, wp_fail, wp_noex, wp_guard, isiM, wp_view_d, wp_view_k, wp_viewd_d, wp_viewI_d, wp_viewI_k, wp_viewc_d, l_cons, l_nil, itE, isT, if_pos, itemsD, asgT, testsE, wipeE, List.set_cons_zero, List.set_cons_succ, List.getElem?_cons_zero, List.getElem?_cons_succ, Option.join_some, List.map_cons, List.map_nil, List.cons_append, List.nil_append, List.length_cons, List.length_nil, List.replicate_succ, List.replicate_zero, constD, Option.map_some, mkRes, if_true, if_false, Bool.false_eq_true, Bool.not_true, Bool.not_false, List.any_cons, List.any_nil, Bool.or_false, Bool.false_or, Bool.true_or, optE, wp_ite, true_implies, false_implies, not_true_eq_false, not_false_eq_true, and_true, true_and, x_par, wp_par2, wp_par3, x_cnt, x_raise, x_pass, x_brk, x_aug, e_callk, dataV, wp_raise, wp_eqI, wp_neI, wp_gt, wp_lt, wp_le, wp_ge, wp_eqS, wp_neS2, wp_negI, wp_part, wp_tup0, wp_tup1, wp_tup2, wp_tup3, wp_lenT, wp_lenL, wp_mkd, wp_add, wp_sub, wp_int, wp_cutT, asgTs, wp_idxT ib]
                      show wp (mkTup (([PyData.str "stay", .str "put0", .str "put1", .str "cut", .str "over", .str "back"] : List PyData).map .d)) _ _ _
                      rw [wp_tup (by decide), wp_nin_d, in_deeds, wp_some]
                      cases hd : inDeeds (.str z)
                      · simp only [bodyFuel, wp_seq, wp_seq0, x_asg, x_rtn, x_if, x_ex, x_sub, x_for, e_var, e_c, e_g, e_tup, e_lst, e_dnil, e_dnew, e_dct, e_bin, e_neg, e_cmp, e_chn, e_and, e_or, e_not, e_ite, e_idx, e_sl, e_rev, e_call, e_bi, e_rep, e_isi, e_me, e_comp, andE, orE, startE, wp_bnd, wp_ret, wp_some, wp_tru, wp_fail, wp_noex, wp_guard, isiM, wp_view_d, wp_view_k, wp_viewd_d, wp_viewI_d, wp_viewI_k, wp_viewc_d, l_cons, l_nil, itE, isT, if_pos, itemsD, asgT, testsE, wipeE, List.set_cons_zero, List.set_cons_succ, List.getElem?_cons_zero, List.getElem?_cons_succ, Option.join_some, List.map_cons, List.map_nil, List.cons_append, List.nil_append, List.length_cons, List.length_nil, List.replicate_succ, List.replicate_zero, constD, Option.map_some, mkRes, if_true, if_false, Bool.false_eq_true, Bool.not_true, Bool.not_false, List.any_cons, List.any_nil, Bool.or_false, Bool.false_or, Bool.true_or, optE, wp_ite, true_implies, false_implies, not_true_eq_false, not_false_eq_true, and_true, true_and, x_par, wp_par2, wp_par3, x_cnt, x_raise, x_pass, x_brk, x_aug, e_callk, dataV, wp_raise, wp_eqI, wp_neI, wp_gt, wp_lt, wp_le, wp_ge, wp_eqS, wp_neS2, wp_negI, wp_part, wp_tup0, wp_tup1, wp_tup2, wp_tup3, wp_lenT, wp_lenL, wp_mkd, wp_add, wp_sub, wp_int, wp_cutT, asgTs, ruleD, hd, hb, Bool.and_false]
                        exact .inr trivial
                      · simp only [bodyFuel, wp_seq, wp_seq0, x_asg, x_rtn, x_if, x_ex, x_sub, x_for, e_var, e_c, e_g, e_tup, e_lst, e_dnil, e_dnew, e_dct, e_bin, e_neg, e_cmp, e_chn, e_and, e_or, e_not, e_ite, e_idx, e_sl, e_rev, e_call, e_bi, e_rep, e_isi, e_me, e_comp, andE, orE, startE, wp_bnd, wp_ret, wp_some, wp_tru, wp_fail, wp_noex, wp_guard, isiM, wp_view_d, wp_view_k, wp_viewd_d, wp_viewI_d, wp_viewI_k, wp_viewc_d, l_cons, l_nil, itE, isT, if_pos, itemsD, asgT, testsE, wipeE, List.set_cons_zero, List.set_cons_succ, List.getElem?_cons_zero, List.getElem?_cons_succ, Option.join_some, List.map_cons, List.map_nil, List.cons_append, List.nil_append, List.length_cons, List.length_nil, List.replicate_succ, List.replicate_zero, constD, Option.map_some, mkRes, if_true, if_false, Bool.false_eq_true, Bool.not_true, Bool.not_false, List.any_cons, List.any_nil, Bool.or_false, Bool.false_or, Bool.true_or, optE, wp_ite, true_implies, false_implies, not_true_eq_false, not_false_eq_true, and_true, true_and, x_par, wp_par2, wp_par3, x_cnt, x_raise, x_pass, x_brk, x_aug, e_callk, dataV, wp_raise, wp_eqI, wp_neI, wp_gt, wp_lt, wp_le, wp_ge, wp_eqS, wp_neS2, wp_negI, wp_part, wp_tup0, wp_tup1, wp_tup2, wp_tup3, wp_lenT, wp_lenL, wp_mkd, wp_add, wp_sub, wp_int, wp_cutT, asgTs, ruleD, hd, hb, Bool.and_self]
                        exact .inl ⟨_, rfl, _, rfl⟩
                    | _ => simp only [bodyFuel, wp_seq, wp_seq0, x_asg, x_rtn, x_if, x_ex, x_sub, x_for, e_var, e_c, e_g, e_tup, e_lst, e_dnil, e_dnew, e_dct, e_bin, e_neg, e_cmp, e_chn, e_and, e_or, e_not, e_ite, e_idx, e_sl, e_rev, e_call, e_bi, e_rep, e_isi, e_me, e_comp, andE, orE, startE, wp_bnd, wp_ret, wp_some, wp_tru, wp_fail, wp_noex, wp_guard, isiM, wp_view_d, wp_view_k, wp_viewd_d, wp_viewI_d, wp_viewI_k, wp_viewc_d, l_cons, l_nil, itE, isT, if_pos, itemsD, asgT, testsE, wipeE, List.set_cons_zero, List.set_cons_succ, List.getElem?_cons_zero, List.getElem?_cons_succ, Option.join_some, List.map_cons, List.map_nil, List.cons_append, List.nil_append, List.length_cons, List.length_nil, List.replicate_succ, List.replicate_zero, constD, Option.map_some, mkRes, if_true, if_false, Bool.false_eq_true, Bool.not_true, Bool.not_false, List.any_cons, List.any_nil, Bool.or_false, Bool.false_or, Bool.true_or, optE, wp_ite, true_implies, false_implies, not_true_eq_false, not_false_eq_true, and_true, true_and, x_par, wp_par2, wp_par3, x_cnt, x_raise, x_pass, x_brk, x_aug, e_callk, dataV, wp_raise, wp_eqI, wp_neI, wp_gt, wp_lt, wp_le, wp_ge, wp_eqS, wp_neS2, wp_negI, wp_part, wp_tup0, wp_tup1, wp_tup2, wp_tup3, wp_lenT, wp_lenL, wp_mkd, wp_add, wp_sub, wp_int, wp_cutT, asgTs, ruleD, inDeeds, Bool.and_false]; exact .inr trivial
                  · have hf : ruleD xs.length (.tuple [a, b]) = false := by
                      simp only [ruleD, Bool.and_eq_false_iff]
                      exact .inl (by simpa using hb)
                    cases a with
                    | int i =>
                      by_cases i0 : 0 ≤ i
                      · have i1 : (xs.length : Int) < i := by
                          refine Int.not_le.mp fun k => hb ?_
                          show (decide (0 ≤ i) && decide (i ≤ (xs.length : Int))) = true
                          simp [i0, k]
                        simp only [bodyFuel, wp_seq, wp_seq0, x_asg, x_rtn, x_if, x_ex, x_sub, x_for, e_var, e_c, e_g, e_tup, e_lst, e_dnil, e_dnew, e_dct, e_bin, e_neg, e_cmp, e_chn, e_and, e_or, e_not, e_ite, e_idx, e_sl, e_rev, e_call, e_bi, e_rep, e_isi, e_me, e_comp, andE, orE, startE, wp_bnd, wp_ret, wp_some, wp_tru, wp_fail, wp_noex, wp_guard, isiM, wp_view_d, wp_view_k, wp_viewd_d, wp_viewI_d, wp_viewI_k, wp_viewc_d, l_cons, l_nil, itE, isT, if_pos, itemsD, asgT, testsE, wipeE, List.set_cons_zero, List.set_cons_succ, List.getElem?_cons_zero, List.getElem?_cons_succ, Option.join_some, List.map_cons, List.map_nil, List.cons_append, List.nil_append, List.length_cons, List.length_nil, List.replicate_succ, List.replicate_zero, constD, Option.map_some, mkRes, if_true, if_false, Bool.false_eq_true, Bool.not_true, Bool.not_false, List.any_cons, List.any_nil, Bool.or_false, Bool.false_or, Bool.true_or, optE, wp_ite, true_implies, false_implies, not_true_eq_false, not_false_eq_true, and_true, true_and, x_par, wp_par2, wp_par3, x_cnt, x_raise, x_pass, x_brk, x_aug, e_callk, dataV, wp_raise, wp_eqI, wp_neI, wp_gt, wp_lt, wp_le, wp_ge, wp_eqS, wp_neS2, wp_negI, wp_part, wp_tup0, wp_tup1, wp_tup2, wp_tup3, wp_lenT, wp_lenL, wp_mkd, wp_add, wp_sub, wp_int, wp_cutT, asgTs, isNum, decide_eq_true i0, wp_idxT ia, decide_eq_true i1, hf]
                        exact .inr trivial
                      · simp only [bodyFuel, wp_seq, wp_seq0, x_asg, x_rtn, x_if, x_ex, x_sub, x_for, e_var, e_c, e_g, e_tup, e_lst, e_dnil, e_dnew, e_dct, e_bin, e_neg, e_cmp, e_chn, e_and, e_or, e_not, e_ite, e_idx, e_sl, e_rev, e_call, e_bi, e_rep, e_isi, e_me, e_comp, andE, orE, startE, wp_bnd, wp_ret, wp_some, wp_tru, wp_fail, wp_noex, wp_guard, isiM, wp_view_d, wp_view_k, wp_viewd_d, wp_viewI_d, wp_viewI_k, wp_viewc_d, l_cons, l_nil, itE, isT, if_pos, itemsD, asgT, testsE, wipeE, List.set_cons_zero, List.set_cons_succ, List.getElem?_cons_zero, List.getElem?_cons_succ, Option.join_some, List.map_cons, List.map_nil, List.cons_append, List.nil_append, List.length_cons, List.length_nil, List.replicate_succ, List.replicate_zero, constD, Option.map_some, mkRes, if_true, if_false, Bool.false_eq_true, Bool.not_true, Bool.not_false, List.any_cons, List.any_nil, Bool.or_false, Bool.false_or, Bool.true_or, optE, wp_ite, true_implies, false_implies, not_true_eq_false, not_false_eq_true, and_true, true_and, x_par, wp_par2, wp_par3, x_cnt, x_raise, x_pass, x_brk, x_aug, e_callk, dataV, wp_raise, wp_eqI, wp_neI, wp_gt, wp_lt, wp_le, wp_ge, wp_eqS, wp_neS2, wp_negI, wp_part, wp_tup0, wp_tup1, wp_tup2, wp_tup3, wp_lenT, wp_lenL, wp_mkd, wp_add, wp_sub, wp_int, wp_cutT, asgTs, isNum, decide_eq_false i0, hf]
                        exact .inr trivial
                    | _ => simp only [bodyFuel, wp_seq, wp_seq0, x_asg, x_rtn, x_if, x_ex, x_sub, x_for, e_var, e_c, e_g, e_tup, e_lst, e_dnil, e_dnew, e_dct, e_bin, e_neg, e_cmp, e_chn, e_and, e_or, e_not, e_ite, e_idx, e_sl, e_rev, e_call, e_bi, e_rep, e_isi, e_me, e_comp, andE, orE, startE, wp_bnd, wp_ret, wp_some, wp_tru, wp_fail, wp_noex, wp_guard, isiM, wp_view_d, wp_view_k, wp_viewd_d, wp_viewI_d, wp_viewI_k, wp_viewc_d, l_cons, l_nil, itE, isT, if_pos, itemsD, asgT, testsE, wipeE, List.set_cons_zero, List.set_cons_succ, List.getElem?_cons_zero, List.getElem?_cons_succ, Option.join_some, List.map_cons, List.map_nil, List.cons_append, List.nil_append, List.length_cons, List.length_nil, List.replicate_succ, List.replicate_zero, constD, Option.map_some, mkRes, if_true, if_false, Bool.false_eq_true, Bool.not_true, Bool.not_false, List.any_cons, List.any_nil, Bool.or_false, Bool.false_or, Bool.true_or, optE, wp_ite, true_implies, false_implies, not_true_eq_false, not_false_eq_true, and_true, true_and, x_par, wp_par2, wp_par3, x_cnt, x_raise, x_pass, x_brk, x_aug, e_callk, dataV, wp_raise, wp_eqI, wp_neI, wp_gt, wp_lt, wp_le, wp_ge, wp_eqS, wp_neS2, wp_negI, wp_part, wp_tup0, wp_tup1, wp_tup2, wp_tup3, wp_lenT, wp_lenL, wp_mkd, wp_add, wp_sub, wp_int, wp_cutT, asgTs, isNum, hf]; exact .inr trivial
                · refine ⟨fun _ => .inr (ruleD_len h2), fun k => absurd ?_ k⟩
                  simp; omega
              | _ => simp only [bodyFuel, wp_seq, wp_seq0, x_asg, x_rtn, x_if, x_ex, x_sub, x_for, e_var, e_c, e_g, e_tup, e_lst, e_dnil, e_dnew, e_dct, e_bin, e_neg, e_cmp, e_chn, e_and, e_or, e_not, e_ite, e_idx, e_sl, e_rev, e_call, e_bi, e_rep, e_isi, e_me, e_comp, andE, orE, startE, wp_bnd, wp_ret, wp_some, wp_tru, wp_fail, wp_noex, wp_guard, isiM, wp_view_d, wp_view_k, wp_viewd_d, wp_viewI_d, wp_viewI_k, wp_viewc_d, l_cons, l_nil, itE, isT, if_pos, itemsD, asgT, testsE, wipeE, List.set_cons_zero, List.set_cons_succ, List.getElem?_cons_zero, List.getElem?_cons_succ, Option.join_some, List.map_cons, List.map_nil, List.cons_append, List.nil_append, List.length_cons, List.length_nil, List.replicate_succ, List.replicate_zero, constD, Option.map_some, mkRes, if_true, if_false, Bool.false_eq_true, Bool.not_true, Bool.not_false, List.any_cons, List.any_nil, Bool.or_false, Bool.false_or, Bool.true_or, optE, wp_ite, true_implies, false_implies, not_true_eq_false, not_false_eq_true, and_true, true_and, x_par, wp_par2, wp_par3, x_cnt, x_raise, x_pass, x_brk, x_aug, e_callk, dataV, wp_raise, wp_eqI, wp_neI, wp_gt, wp_lt, wp_le, wp_ge, wp_eqS, wp_neS2, wp_negI, wp_part, wp_tup0, wp_tup1, wp_tup2, wp_tup3, wp_lenT, wp_lenL, wp_mkd, wp_add, wp_sub, wp_int, wp_cutT, asgTs]; exact .inr rfl
            · obtain ⟨o2, rfl⟩ := hI
              exact ⟨rfl, .inl ⟨by simp only [stateD, h3, ha, decide_true, Bool.and_self], _, rfl, _, _, rfl⟩⟩
            · exact ⟨rfl, .inr ⟨by simp only [stateD, ha, Bool.and_false], rfl⟩⟩
          · refine ⟨fun _ => .inr (by simp [stateD, h3]), fun k => absurd ?_ k⟩
            simp; omega
        | _ => simp only [bodyFuel, wp_seq, wp_seq0, x_asg, x_rtn, x_if, x_ex, x_sub, x_for, e_var, e_c, e_g, e_tup, e_lst, e_dnil, e_dnew, e_dct, e_bin, e_neg, e_cmp, e_chn, e_and, e_or, e_not, e_ite, e_idx, e_sl, e_rev, e_call, e_bi, e_rep, e_isi, e_me, e_comp, andE, orE, startE, wp_bnd, wp_ret, wp_some, wp_tru, wp_fail, wp_noex, wp_guard, isiM, wp_view_d, wp_view_k, wp_viewd_d, wp_viewI_d, wp_viewI_k, wp_viewc_d, l_cons, l_nil, itE, isT, if_pos, itemsD, asgT, testsE, wipeE, List.set_cons_zero, List.set_cons_succ, List.getElem?_cons_zero, List.getElem?_cons_succ, Option.join_some, List.map_cons, List.map_nil, List.cons_append, List.nil_append, List.length_cons, List.length_nil, List.replicate_succ, List.replicate_zero, constD, Option.map_some, mkRes, if_true, if_false, Bool.false_eq_true, Bool.not_true, Bool.not_false, List.any_cons, List.any_nil, Bool.or_false, Bool.false_or, Bool.true_or, optE, wp_ite, true_implies, false_implies, not_true_eq_false, not_false_eq_true, and_true, true_and, x_par, wp_par2, wp_par3, x_cnt, x_raise, x_pass, x_brk, x_aug, e_callk, dataV, wp_raise, wp_eqI, wp_neI, wp_gt, wp_lt, wp_le, wp_ge, wp_eqS, wp_neS2, wp_negI, wp_part, wp_tup0, wp_tup1, wp_tup2, wp_tup3, wp_lenT, wp_lenL, wp_mkd, wp_add, wp_sub, wp_int, wp_cutT, asgTs]; exact .inr rfl
      · obtain ⟨o1, o2, rfl⟩ := hI
        simp only [bodyFuel, wp_seq, wp_seq0, x_asg, x_rtn, x_if, x_ex, x_sub, x_for, e_var, e_c, e_g, e_tup, e_lst, e_dnil, e_dnew, e_dct, e_bin, e_neg, e_cmp, e_chn, e_and, e_or, e_not, e_ite, e_idx, e_sl, e_rev, e_call, e_bi, e_rep, e_isi, e_me, e_comp, andE, orE, startE, wp_bnd, wp_ret, wp_some, wp_tru, wp_fail, wp_noex, wp_guard, isiM, wp_view_d, wp_view_k, wp_viewd_d, wp_viewI_d, wp_viewI_k, wp_viewc_d, l_cons, l_nil, itE, isT, if_pos, itemsD, asgT, testsE, wipeE, List.set_cons_zero, List.set_cons_succ, List.getElem?_cons_zero, List.getElem?_cons_succ, Option.join_some, List.map_cons, List.map_nil, List.cons_append, List.nil_append, List.length_cons, List.length_nil, List.replicate_succ, List.replicate_zero, constD, Option.map_some, mkRes, if_true, if_false, Bool.false_eq_true, Bool.not_true, Bool.not_false, List.any_cons, List.any_nil, Bool.or_false, Bool.false_or, Bool.true_or, optE, wp_ite, true_implies, false_implies, not_true_eq_false, not_false_eq_true, and_true, true_and, x_par, wp_par2, wp_par3, x_cnt, x_raise, x_pass, x_brk, x_aug, e_callk, dataV, wp_raise, wp_eqI, wp_neI, wp_gt, wp_lt, wp_le, wp_ge, wp_eqS, wp_neS2, wp_negI, wp_part, wp_tup0, wp_tup1, wp_tup2, wp_tup3, wp_lenT, wp_lenL, wp_mkd, wp_add, wp_sub, wp_int, wp_cutT, asgTs]
        exact ⟨_, rfl, by simp only [machD, ha, hne, decide_true, Bool.and_self]⟩
      · exact ⟨_, rfl, by simp only [machD, ha, Bool.and_false]⟩
  | _ => simp only [bodyFuel, wp_seq, wp_seq0, x_asg, x_rtn, x_if, x_ex, x_sub, x_for, e_var, e_c, e_g, e_tup, e_lst, e_dnil, e_dnew, e_dct, e_bin, e_neg, e_cmp, e_chn, e_and, e_or, e_not, e_ite, e_idx, e_sl, e_rev, e_call, e_bi, e_rep, e_isi, e_me, e_comp, andE, orE, startE, wp_bnd, wp_ret, wp_some, wp_tru, wp_fail, wp_noex, wp_guard, isiM, wp_view_d, wp_view_k, wp_viewd_d, wp_viewI_d, wp_viewI_k, wp_viewc_d, l_cons, l_nil, itE, isT, if_pos, itemsD, asgT, testsE, wipeE, List.set_cons_zero, List.set_cons_succ, List.getElem?_cons_zero, List.getElem?_cons_succ, Option.join_some, List.map_cons, List.map_nil, List.cons_append, List.nil_append, List.length_cons, List.length_nil, List.replicate_succ, List.replicate_zero, constD, Option.map_some, mkRes, if_true, if_false, Bool.false_eq_true, Bool.not_true, Bool.not_false, List.any_cons, List.any_nil, Bool.or_false, Bool.false_or, Bool.true_or, optE, wp_ite, true_implies, false_implies, not_true_eq_false, not_false_eq_true, and_true, true_and, x_par, wp_par2, wp_par3, x_cnt, x_raise, x_pass, x_brk, x_aug, e_callk, dataV, wp_raise, wp_eqI, wp_neI, wp_gt, wp_lt, wp_le, wp_ge, wp_eqS, wp_neS2, wp_negI, wp_part, wp_tup0, wp_tup1, wp_tup2, wp_tup3, wp_lenT, wp_lenL, wp_mkd, wp_add, wp_sub, wp_int, wp_cutT, asgTs]; exact ⟨_, rfl, rfl⟩
end
end Pm
end
section
set_option Elab.async false
set_option linter.all false
set_option maxRecDepth 100000
set_option maxHeartbeats 0
namespace Pm
open PySem PySem.Spec L2 Ev
theorem join_signs : ∀ ys : List Nat, Str.join "" (ys.map fun c => wS [c]) = wS ys
  | [] => sw_nil
  | [c] => rfl
  | c :: d :: r => by
    have ih := join_signs (d :: r)
    show wS [c] ++ "" ++ Str.join "" ((d :: r).map fun c => wS [c]) = _
    rw [ih, sw_nil, wS_app, wS_app]
    rfl
def Sg (v : Val) : Prop := ∃ c, (c = 48 ∨ c = 49) ∧ v = .d (.str (wS [c]))
theorem signs_of : ∀ {vs : List Val}, (∀ v ∈ vs, Sg v) → ∃ cs : List Nat, vs = ((cs.map fun c => wS [c]).map PyData.str).map .d ∧ ∀ c ∈ cs, c = 48 ∨ c = 49
  | [], _ => ⟨[], rfl, fun y h => by cases h⟩
  | v :: vs, h => by
    obtain ⟨c, hc, rfl⟩ := h v (by simp)
    obtain ⟨cs, rfl, hy⟩ := signs_of (vs := vs) fun u hu => h u (by simp [hu])
    refine ⟨c :: cs, rfl, fun y hy' => ?_⟩
    rcases List.mem_cons.mp hy' with rfl | h'
    · exact hc
    · exact hy y h'
theorem wp_joinS {cs : List Nat} {S : List Cell} {Q : Val → List Cell → Prop} {E : Exn → List Cell → Prop} (h : cs.length ≤ 10000) : wp (meM .join (.d (.str "")) [.d (.list ((cs.map fun c => wS [c]).map .str))]) S Q E = Q (.d (.str (wS cs))) S := by
  refine wp_of ?_
  show lift (((strsL ((cs.map fun c => wS [c]).map .str)).bind (joinD "")).map Val.d) S = _
  rw [strsL_map]
  have hs : ∀ cs : List Nat, ((cs.map fun c => wS [c]).map (·.length)).sum = cs.length := fun cs => by
    induction cs with
    | nil => rfl
    | cons c cs ih => rw [List.map_cons, List.map_cons, List.sum_cons, ih, List.length_cons]; show 1 + cs.length = _; omega
  show lift ((if ((cs.map fun c => wS [c]).map (·.length)).sum + (cs.map fun c => wS [c]).length * ("" : Str).length ≤ 16777216 then some (PyData.str (Txt.join "" (cs.map fun c => wS [c]))) else none).map Val.d) S = _
  have h0 : ("" : Str).length = 0 := by decide +kernel
  rw [if_pos (by rw [h0, hs]; omega), TL.join_eq, join_signs]
  rfl
theorem wp_lstM0 {S : List Cell} {Q : Val → List Cell → Prop} {E : Exn → List Cell → Prop} : wp (mkList true []) S Q E = wp (alloc (.lst [])) S Q E := noRfl rfl
section
variable {Γ : Tab} {G : List (Str × Val)} (P : Pl Γ G) {κ : DeckK} (L : Lw Γ κ) {U S : List Cell} {Q : Val → List Cell → Prop} {E : Exn → List Cell → Prop} {n : Nat}
include P
theorem c_same {x : PyData} {d w : Nat} (hx : Sm d w x) (hd : d ≤ 100) (hw : w ≤ 200000) : wp (callF Γ G (n + 1) "_law_same" [.d x, .d x]) S Q E = Q (.d (.bool true)) S := by
  refine wp_of (wp_to ?_)
  rw [wp_pure P.k__law_same rfl rfl rfl, wp_run]
  simp only [f__law_same, b__law_same, bodyFuel, wp_seq, wp_seq0, x_asg, x_rtn, x_if, x_ex, x_sub, x_for, e_var, e_c, e_g, e_tup, e_lst, e_dnil, e_dnew, e_dct, e_bin, e_neg, e_cmp, e_chn, e_and, e_or, e_not, e_ite, e_idx, e_sl, e_rev, e_call, e_bi, e_rep, e_isi, e_me, e_comp, andE, orE, startE, wp_bnd, wp_ret, wp_some, wp_tru, wp_fail, wp_noex, wp_guard, isiM, wp_view_d, wp_view_k, wp_viewd_d, wp_viewI_d, wp_viewI_k, wp_viewc_d, l_cons, l_nil, itE, isT, if_pos, itemsD, asgT, testsE, wipeE, List.set_cons_zero, List.set_cons_succ, List.getElem?_cons_zero, List.getElem?_cons_succ, Option.join_some, List.map_cons, List.map_nil, List.cons_append, List.nil_append, List.length_cons, List.length_nil, List.replicate_succ, List.replicate_zero, constD, Option.map_some, mkRes, if_true, if_false, Bool.false_eq_true, Bool.not_true, Bool.not_false, List.any_cons, List.any_nil, Bool.or_false, Bool.false_or, Bool.true_or, optE, wp_ite, true_implies, false_implies, not_true_eq_false, not_false_eq_true, and_true, true_and, x_par, wp_par2, wp_par3, x_cnt, x_raise, x_pass, x_brk, x_aug, e_callk, dataV, wp_raise, wp_eqI, wp_neI, wp_gt, wp_lt, wp_le, wp_ge, wp_eqS, wp_neS2, wp_negI, wp_part, wp_tup0, wp_tup1, wp_tup2, wp_tup3, wp_lenT, wp_lenL, wp_mkd, wp_add, wp_sub, wp_int, wp_cutT, asgTs, wp_rep (hx.repr hd hw)]
  exact ⟨_, rfl, by simp⟩
include L
theorem c_word {most : Nat} (b : Nat) (hm : most ≤ 100) (h : Deck κ U (b + (most + 1)) S) (q : ∀ cs S', Wd cs → cs.length ≤ most → Deck κ U b S' → Q (.d (.str (wS cs))) S') : wp (callF Γ G (n + 3) "_law_word" [.r 1, .d (.int (most : Nat))]) S Q E := by
  refine call_deckD (c := b) P.k__law_word rfl rfl h ?_
  simp only [f__law_word, b__law_word, bodyFuel, wp_seq, wp_seq0, x_asg, x_rtn, x_if, x_ex, x_sub, x_for, e_var, e_c, e_g, e_tup, e_lst, e_dnil, e_dnew, e_dct, e_bin, e_neg, e_cmp, e_chn, e_and, e_or, e_not, e_ite, e_idx, e_sl, e_rev, e_call, e_bi, e_rep, e_isi, e_me, e_comp, andE, orE, startE, wp_bnd, wp_ret, wp_some, wp_tru, wp_fail, wp_noex, wp_guard, isiM, wp_view_d, wp_view_k, wp_viewd_d, wp_viewI_d, wp_viewI_k, wp_viewc_d, l_cons, l_nil, itE, isT, if_pos, itemsD, asgT, testsE, wipeE, List.set_cons_zero, List.set_cons_succ, List.getElem?_cons_zero, List.getElem?_cons_succ, Option.join_some, List.map_cons, List.map_nil, List.cons_append, List.nil_append, List.length_cons, List.length_nil, List.replicate_succ, List.replicate_zero, constD, Option.map_some, mkRes, if_true, if_false, Bool.false_eq_true, Bool.not_true, Bool.not_false, List.any_cons, List.any_nil, Bool.or_false, Bool.false_or, Bool.true_or, optE, wp_ite, true_implies, false_implies, not_true_eq_false, not_false_eq_true, and_true, true_and, x_par, wp_par2, wp_par3, x_cnt, x_raise, x_pass, x_brk, x_aug, e_callk, dataV, wp_raise, wp_eqI, wp_neI, wp_gt, wp_lt, wp_le, wp_ge, wp_eqS, wp_neS2, wp_negI, wp_part, wp_tup0, wp_tup1, wp_tup2, wp_tup3, wp_lenT, wp_lenL, wp_mkd, wp_add, wp_sub, wp_int, wp_cutT, asgTs]
  rw [show ME.join.ty = MTy.str from rfl, wp_tys]
  refine L.drawQ (b + most) (by omega) (Int.lt_of_le_of_lt (show (most : Int) + 1 ≤ 101 by omega) (by decide)) h fun i S1 i0 i1 h1 => ?_
  rw [wp_rng1 i0 (by omega)]
  refine wp_compI (fun i S => Deck κ U (b + i) S) Sg (fun i v S2 hv hD => ?_) (by rw [rangeL_len]; exact h1.less (by omega)) fun xs S3 px hl hD => ?_
  · simp only [bodyFuel, wp_seq, wp_seq0, x_asg, x_rtn, x_if, x_ex, x_sub, x_for, e_var, e_c, e_g, e_tup, e_lst, e_dnil, e_dnew, e_dct, e_bin, e_neg, e_cmp, e_chn, e_and, e_or, e_not, e_ite, e_idx, e_sl, e_rev, e_call, e_bi, e_rep, e_isi, e_me, e_comp, andE, orE, startE, wp_bnd, wp_ret, wp_some, wp_tru, wp_fail, wp_noex, wp_guard, isiM, wp_view_d, wp_view_k, wp_viewd_d, wp_viewI_d, wp_viewI_k, wp_viewc_d, l_cons, l_nil, itE, isT, if_pos, itemsD, asgT, testsE, wipeE, List.set_cons_zero, List.set_cons_succ, List.getElem?_cons_zero, List.getElem?_cons_succ, Option.join_some, List.map_cons, List.map_nil, List.cons_append, List.nil_append, List.length_cons, List.length_nil, List.replicate_succ, List.replicate_zero, constD, Option.map_some, mkRes, if_true, if_false, Bool.false_eq_true, Bool.not_true, Bool.not_false, List.any_cons, List.any_nil, Bool.or_false, Bool.false_or, Bool.true_or, optE, wp_ite, true_implies, false_implies, not_true_eq_false, not_false_eq_true, and_true, true_and, x_par, wp_par2, wp_par3, x_cnt, x_raise, x_pass, x_brk, x_aug, e_callk, dataV, wp_raise, wp_eqI, wp_neI, wp_gt, wp_lt, wp_le, wp_ge, wp_eqS, wp_neS2, wp_negI, wp_part, wp_tup0, wp_tup1, wp_tup2, wp_tup3, wp_lenT, wp_lenL, wp_mkd, wp_add, wp_sub, wp_int, wp_cutT, asgTs]
    show wp (mkList false ((([("0" : Str), "1"] : List Str).map PyData.str).map Val.d)) S2 _ _
    rw [wp_lstD (by decide)]
    refine L.pickQ (b + i) (by decide) (by decide) hD fun x S' hx h' => ?_
    refine ⟨fun v e => ?_, h'⟩
    obtain rfl := Option.some.inj e
    simp only [List.map_cons, List.map_nil, List.mem_cons, List.mem_nil_iff, or_false] at hx
    rcases hx with rfl | rfl
    · exact ⟨48, .inl rfl, by rw [s_0]⟩
    · exact ⟨49, .inr rfl, by rw [s_1]⟩
  · obtain ⟨cs, rfl, hc⟩ := signs_of px
    simp only [List.length_map, rangeL_len] at hl
    rw [wp_lstD (by simp; omega), wp_joinS (by omega)]
    exact ⟨_, rfl, hD, q cs S3 ⟨hc, by omega⟩ (by omega) hD⟩
end
theorem rule_mk {m : Nat} {t : Int} {x : PyData} (h0 : 0 ≤ t) (h1 : t ≤ m) (hx : inDeeds x = true) : ruleD m (.tuple [.int t, x]) = true := by
  show (decide (0 ≤ t) && decide (t ≤ (m : Int)) && inDeeds x) = true
  rw [hx, decide_eq_true h0, decide_eq_true h1]; rfl
theorem deeds_sm (z : Str) (h : inDeeds (.str z) = true) : Sm 0 5 (.str z) := by
  have hd : deeds.all (fun z => smB 0 5 (.str z)) = true := by decide +kernel
  obtain ⟨y, hy, e⟩ := List.any_eq_true.mp (show (deeds.any fun y => y == z) = true from h)
  obtain rfl := eq_of_beq e
  exact smB_ok (List.all_eq_true.mp hd y hy)
theorem rule_parts {m : Nat} {x : PyData} (h : ruleD m x = true) : ∃ t d, x = .tuple [.int t, .str d] ∧ 0 ≤ t ∧ t ≤ m ∧ inDeeds (.str d) = true := by
  cases x with
  | tuple xs =>
    by_cases hl : xs.length = 2
    · obtain ⟨a, b, rfl⟩ := is2 xs hl
      simp only [ruleD, Bool.and_eq_true] at h
      obtain ⟨ha, hb⟩ := h
      cases a with
      | int i =>
        cases b with
        | str z =>
          have h1 : (decide (0 ≤ i) && decide (i ≤ (m : Int))) = true := ha
          simp only [Bool.and_eq_true, decide_eq_true_eq] at h1
          exact ⟨i, z, rfl, h1.1, h1.2, hb⟩
        | _ => cases hb
      | _ => cases ha
    · rw [ruleD_len hl] at h; cases h
  | _ => cases h
theorem rule_sm {m : Nat} {x : PyData} (hm : m ≤ 300) (h : ruleD m x = true) : Sm 1 16 x := by
  obtain ⟨t, d, rfl, h0, h1, hd⟩ := rule_parts h
  exact (Sm.tuple (SmL.cons (sm_int h0 (by omega)) (SmL.cons (deeds_sm d hd) (SmL.nil (w := 0))))).mono (by decide) (by decide)
theorem state_sm {m : Nat} {x : PyData} (hm : m ≤ 300) (h : stateD m x = true) : Sm 2 51 x := by
  cases x with
  | tuple xs =>
    simp only [stateD, Bool.and_eq_true, decide_eq_true_eq] at h
    exact (Sm.tuple (SmL.all fun x hx => rule_sm hm (List.all_eq_true.mp h.2 x hx))).mono (by decide) (by omega)
  | _ => cases h
theorem mach_sm {xs : List PyData} (hm : xs.length ≤ 300) (h : xs.all (stateD xs.length) = true) : Sm 3 (xs.length * 52) (.tuple xs) :=
  Sm.tuple (SmL.all fun x hx => state_sm hm (List.all_eq_true.mp h x hx))
def machTail : List T := [.if_ (.and_ [(.cmp .gt (.var 4) (.c (.int 1))), (.cmp .eq (.call ("_law_draw" : PySem.Str) [(.var 0), (.c (.int 3))]) (.c (.int 0)))]) [.sub (.var 5) (.c (.int 0)) (.tup [(.tup [(.c (.int 1)), (.call ("_law_pick" : PySem.Str) [(.var 0), (.lst false [(.c (.str ("stay" : PySem.Str))), (.c (.str ("put1" : PySem.Str))), (.c (.str ("stay" : PySem.Str))), (.c (.str ("put0" : PySem.Str)))])])]), (.tup [(.c (.int 0)), (.c (.str ("over" : PySem.Str)))]), (.tup [(.c (.int 0)), (.c (.str ("over" : PySem.Str)))])]), .sub (.var 5) (.c (.int 1)) (.tup [(.idx (.idx (.var 5) (.c (.int 1))) (.c (.int 0))), (.tup [(.c (.int 1)), (.c (.str ("back" : PySem.Str)))]), (.tup [(.c (.int 1)), (.c (.str ("back" : PySem.Str)))])])] [], .rtn (some (.bi false .tuple_ [(.var 5)]))]
def machLoop : T := .for_ (.var 3) (.rng [(.var 4)]) [.asg (.var 7) (.lst true []), .for_ (.var 8) (.rng [(.c (.int 3))]) [.asg (.var 9) (.ite (.cmp .eq (.call ("_law_draw" : PySem.Str) [(.var 0), (.var 6)]) (.c (.int 0))) (.var 4) (.call ("_law_draw" : PySem.Str) [(.var 0), (.var 4)])), .ex (.me .append (.var 7) [(.tup [(.var 9), (.call ("_law_pick" : PySem.Str) [(.var 0), (.var 2)])])])], .ex (.me .append (.var 5) [(.bi false .tuple_ [(.var 7)])])]
def machHead : List T := [.par [4, 5, 6] [(.bin false .add (.c (.int 1)) (.call ("_law_draw" : PySem.Str) [(.var 0), (.var 1)])), (.lst true []), (.call ("_law_pick" : PySem.Str) [(.var 0), (.lst false [(.c (.int 6)), (.c (.int 3)), (.c (.int 40))])])], .asg (.var 2) (.lst false [(.c (.str ("over" : PySem.Str))), (.c (.str ("put1" : PySem.Str))), (.c (.str ("stay" : PySem.Str))), (.c (.str ("cut" : PySem.Str))), (.c (.str ("back" : PySem.Str))), (.c (.str ("put0" : PySem.Str)))]), .if_ (.cmp .eq (.call ("_law_draw" : PySem.Str) [(.var 0), (.c (.int 2))]) (.c (.int 0))) [.asg (.var 2) (.call ("_law_pick" : PySem.Str) [(.var 0), (.lst false [(.lst false [(.c (.str ("over" : PySem.Str))), (.c (.str ("back" : PySem.Str))), (.c (.str ("put1" : PySem.Str))), (.c (.str ("over" : PySem.Str))), (.c (.str ("back" : PySem.Str)))]), (.lst false [(.c (.str ("put0" : PySem.Str))), (.c (.str ("over" : PySem.Str))), (.c (.str ("put1" : PySem.Str))), (.c (.str ("back" : PySem.Str))), (.c (.str ("over" : PySem.Str)))])])])] []]
theorem mach_body : b__law_machine = machHead ++ machLoop :: machTail := rfl
section
variable {Γ : Tab} {G : List (Str × Val)} {κ : DeckK} (L : Lw Γ κ) {U S : List Cell} {E : Exn → List Cell → Prop} {n : Nat}
include L
theorem mach_tail {m : Nat} {b : Nat} {ms : List PyData} {o3 o7 o8 o9 : Option Val} {ds : PyData} {rare : Int} {mo : Int} (hl : ms.length = m) (ha : ∀ x ∈ ms, stateD m x = true) (h : Deck κ (.lst (ms.map .d) :: U) (b + 2) S) : wp (seqL (fun s ρ => ex ⟨callF Γ G (n + 2), kwF Γ, G, lowF Γ G (n + 2)⟩ 60 s ρ) machTail [some (.r 1), some (.d (.int mo)), some (.d ds), o3, some (.d (.int m)), some (.r 2), some (.d (.int rare)), o7, o8, o9]) S
    (fun f S' => ∃ xs U', f = .rt (.d (.tuple xs)) ∧ xs.length = m ∧ (∀ x ∈ xs, stateD m x = true) ∧ Deck κ U' b S') E := by
  have fin : ∀ {ms : List PyData} {S : List Cell} {U : List Cell} {c : Nat}, b ≤ c → ms.length = m → (∀ x ∈ ms, stateD m x = true) → Deck κ (.lst (ms.map .d) :: U) c S → wp (biM false .tuple_ [.r 2]) S (fun v S' => ∃ xs U', Fl.rt v = .rt (.d (.tuple xs)) ∧ xs.length = m ∧ (∀ x ∈ xs, stateD m x = true) ∧ Deck κ U' b S') E := fun {ms S U c} hb hl ha h => by
    refine wp_tupU (j := 0) h rfl ⟨ms, _, rfl, hl, ha, h.less hb⟩
  unfold machTail
  try simp only [bodyFuel, wp_seq, wp_seq0, x_asg, x_rtn, x_if, x_ex, x_sub, x_for, e_var, e_c, e_g, e_tup, e_lst, e_dnil, e_dnew, e_dct, e_bin, e_neg, e_cmp, e_chn, e_and, e_or, e_not, e_ite, e_idx, e_sl, e_rev, e_call, e_bi, e_rep, e_isi, e_me, e_comp, andE, orE, startE, wp_bnd, wp_ret, wp_some, wp_tru, wp_fail, wp_noex, wp_guard, isiM, wp_view_d, wp_view_k, wp_viewd_d, wp_viewI_d, wp_viewI_k, wp_viewc_d, l_cons, l_nil, itE, isT, if_pos, itemsD, asgT, testsE, wipeE, List.set_cons_zero, List.set_cons_succ, List.getElem?_cons_zero, List.getElem?_cons_succ, Option.join_some, List.map_cons, List.map_nil, List.cons_append, List.nil_append, List.length_cons, List.length_nil, List.replicate_succ, List.replicate_zero, constD, Option.map_some, mkRes, if_true, if_false, Bool.false_eq_true, Bool.not_true, Bool.not_false, List.any_cons, List.any_nil, Bool.or_false, Bool.false_or, Bool.true_or, optE, wp_ite, true_implies, false_implies, not_true_eq_false, not_false_eq_true, and_true, true_and, x_par, wp_par2, wp_par3, x_cnt, x_raise, x_pass, x_brk, x_aug, e_callk, dataV, wp_raise, wp_eqI, wp_neI, wp_gt, wp_lt, wp_le, wp_ge, wp_eqS, wp_neS2, wp_negI, wp_part, wp_tup0, wp_tup1, wp_tup2, wp_tup3, wp_lenT, wp_lenL, wp_mkd, wp_add, wp_sub, wp_int, wp_cutT, asgTs]
  refine ⟨fun h1 => ?_, fun h1 => fin (by omega) hl ha h⟩
  have hm : 1 < m := by have := of_decide_eq_true h1; omega
  refine L.drawQ (b + 1) (by decide) (by decide) h fun i S1 i0 i1 hD => ?_
  try simp only [bodyFuel, wp_seq, wp_seq0, x_asg, x_rtn, x_if, x_ex, x_sub, x_for, e_var, e_c, e_g, e_tup, e_lst, e_dnil, e_dnew, e_dct, e_bin, e_neg, e_cmp, e_chn, e_and, e_or, e_not, e_ite, e_idx, e_sl, e_rev, e_call, e_bi, e_rep, e_isi, e_me, e_comp, andE, orE, startE, wp_bnd, wp_ret, wp_some, wp_tru, wp_fail, wp_noex, wp_guard, isiM, wp_view_d, wp_view_k, wp_viewd_d, wp_viewI_d, wp_viewI_k, wp_viewc_d, l_cons, l_nil, itE, isT, if_pos, itemsD, asgT, testsE, wipeE, List.set_cons_zero, List.set_cons_succ, List.getElem?_cons_zero, List.getElem?_cons_succ, Option.join_some, List.map_cons, List.map_nil, List.cons_append, List.nil_append, List.length_cons, List.length_nil, List.replicate_succ, List.replicate_zero, constD, Option.map_some, mkRes, if_true, if_false, Bool.false_eq_true, Bool.not_true, Bool.not_false, List.any_cons, List.any_nil, Bool.or_false, Bool.false_or, Bool.true_or, optE, wp_ite, true_implies, false_implies, not_true_eq_false, not_false_eq_true, and_true, true_and, x_par, wp_par2, wp_par3, x_cnt, x_raise, x_pass, x_brk, x_aug, e_callk, dataV, wp_raise, wp_eqI, wp_neI, wp_gt, wp_lt, wp_le, wp_ge, wp_eqS, wp_neS2, wp_negI, wp_part, wp_tup0, wp_tup1, wp_tup2, wp_tup3, wp_lenT, wp_lenL, wp_mkd, wp_add, wp_sub, wp_int, wp_cutT, asgTs]
  refine ⟨fun h2 => ?_, fun h2 => fin (by omega) hl ha hD⟩
  show wp (mkList false ((([.str "stay", .str "put1", .str "stay", .str "put0"] : List PyData)).map Val.d)) S1 _ _
  rw [wp_lstD (by decide)]
  refine L.pickQ b (by decide) (by decide) hD fun x S2 hx hD => ?_
  have hx : inDeeds x = true := by
    simp only [List.mem_cons, List.mem_nil_iff, or_false] at hx
    rcases hx with rfl | rfl | rfl | rfl <;> decide +kernel
  have dv : inDeeds (.str "over") = true := by decide +kernel
  have db : inDeeds (.str "back") = true := by decide +kernel
  refine wp_putU (j := 0) (k := 0) hD rfl (by unfold ixN; rw [if_pos (by decide), if_pos (by rw [List.length_map]; omega)]; rfl) fun S3 hD => ?_
  obtain ⟨x0, x1, r, rfl⟩ : ∃ x0 x1 r, ms = x0 :: x1 :: r := by
    match ms, hl with
    | [], h => exact absurd h (by simp; omega)
    | [_], h => exact absurd h (by simp; omega)
    | x0 :: x1 :: r, _ => exact ⟨x0, x1, r, rfl⟩
  try simp only [bodyFuel, wp_seq, wp_seq0, x_asg, x_rtn, x_if, x_ex, x_sub, x_for, e_var, e_c, e_g, e_tup, e_lst, e_dnil, e_dnew, e_dct, e_bin, e_neg, e_cmp, e_chn, e_and, e_or, e_not, e_ite, e_idx, e_sl, e_rev, e_call, e_bi, e_rep, e_isi, e_me, e_comp, andE, orE, startE, wp_bnd, wp_ret, wp_some, wp_tru, wp_fail, wp_noex, wp_guard, isiM, wp_view_d, wp_view_k, wp_viewd_d, wp_viewI_d, wp_viewI_k, wp_viewc_d, l_cons, l_nil, itE, isT, if_pos, itemsD, asgT, testsE, wipeE, List.set_cons_zero, List.set_cons_succ, List.getElem?_cons_zero, List.getElem?_cons_succ, Option.join_some, List.map_cons, List.map_nil, List.cons_append, List.nil_append, List.length_cons, List.length_nil, List.replicate_succ, List.replicate_zero, constD, Option.map_some, mkRes, if_true, if_false, Bool.false_eq_true, Bool.not_true, Bool.not_false, List.any_cons, List.any_nil, Bool.or_false, Bool.false_or, Bool.true_or, optE, wp_ite, true_implies, false_implies, not_true_eq_false, not_false_eq_true, and_true, true_and, x_par, wp_par2, wp_par3, x_cnt, x_raise, x_pass, x_brk, x_aug, e_callk, dataV, wp_raise, wp_eqI, wp_neI, wp_gt, wp_lt, wp_le, wp_ge, wp_eqS, wp_neS2, wp_negI, wp_part, wp_tup0, wp_tup1, wp_tup2, wp_tup3, wp_lenT, wp_lenL, wp_mkd, wp_add, wp_sub, wp_int, wp_cutT, asgTs]
  refine wp_idxU (j := 0) hD rfl (v := .d x1) (by
    unfold atI ixN
    rw [if_pos (by decide), if_pos (by simp; omega)]
    rfl) ?_
  obtain ⟨t0, t1, t2, d0, d1, d2, rfl, r0, r1, r2⟩ := state_parts (ha x1 (by simp))
  rw [wp_idxT (show atI _ 0 = some _ from rfl)]
  try simp only [bodyFuel, wp_seq, wp_seq0, x_asg, x_rtn, x_if, x_ex, x_sub, x_for, e_var, e_c, e_g, e_tup, e_lst, e_dnil, e_dnew, e_dct, e_bin, e_neg, e_cmp, e_chn, e_and, e_or, e_not, e_ite, e_idx, e_sl, e_rev, e_call, e_bi, e_rep, e_isi, e_me, e_comp, andE, orE, startE, wp_bnd, wp_ret, wp_some, wp_tru, wp_fail, wp_noex, wp_guard, isiM, wp_view_d, wp_view_k, wp_viewd_d, wp_viewI_d, wp_viewI_k, wp_viewc_d, l_cons, l_nil, itE, isT, if_pos, itemsD, asgT, testsE, wipeE, List.set_cons_zero, List.set_cons_succ, List.getElem?_cons_zero, List.getElem?_cons_succ, Option.join_some, List.map_cons, List.map_nil, List.cons_append, List.nil_append, List.length_cons, List.length_nil, List.replicate_succ, List.replicate_zero, constD, Option.map_some, mkRes, if_true, if_false, Bool.false_eq_true, Bool.not_true, Bool.not_false, List.any_cons, List.any_nil, Bool.or_false, Bool.false_or, Bool.true_or, optE, wp_ite, true_implies, false_implies, not_true_eq_false, not_false_eq_true, and_true, true_and, x_par, wp_par2, wp_par3, x_cnt, x_raise, x_pass, x_brk, x_aug, e_callk, dataV, wp_raise, wp_eqI, wp_neI, wp_gt, wp_lt, wp_le, wp_ge, wp_eqS, wp_neS2, wp_negI, wp_part, wp_tup0, wp_tup1, wp_tup2, wp_tup3, wp_lenT, wp_lenL, wp_mkd, wp_add, wp_sub, wp_int, wp_cutT, asgTs]
  refine wp_putU (j := 0) (k := 1) hD rfl (by unfold ixN; rw [if_pos (by decide), if_pos (by simp; omega)]; rfl) fun S4 hD => ?_
  have hr1 := ha _ (show PyData.tuple [.tuple [.int t0, .str d0], .tuple [.int t1, .str d1], .tuple [.int t2, .str d2]] ∈ _ by simp)
  simp only [stateD, List.all_cons, List.all_nil, Bool.and_eq_true] at hr1
  try simp only [bodyFuel, wp_seq, wp_seq0, x_asg, x_rtn, x_if, x_ex, x_sub, x_for, e_var, e_c, e_g, e_tup, e_lst, e_dnil, e_dnew, e_dct, e_bin, e_neg, e_cmp, e_chn, e_and, e_or, e_not, e_ite, e_idx, e_sl, e_rev, e_call, e_bi, e_rep, e_isi, e_me, e_comp, andE, orE, startE, wp_bnd, wp_ret, wp_some, wp_tru, wp_fail, wp_noex, wp_guard, isiM, wp_view_d, wp_view_k, wp_viewd_d, wp_viewI_d, wp_viewI_k, wp_viewc_d, l_cons, l_nil, itE, isT, if_pos, itemsD, asgT, testsE, wipeE, List.set_cons_zero, List.set_cons_succ, List.getElem?_cons_zero, List.getElem?_cons_succ, Option.join_some, List.map_cons, List.map_nil, List.cons_append, List.nil_append, List.length_cons, List.length_nil, List.replicate_succ, List.replicate_zero, constD, Option.map_some, mkRes, if_true, if_false, Bool.false_eq_true, Bool.not_true, Bool.not_false, List.any_cons, List.any_nil, Bool.or_false, Bool.false_or, Bool.true_or, optE, wp_ite, true_implies, false_implies, not_true_eq_false, not_false_eq_true, and_true, true_and, x_par, wp_par2, wp_par3, x_cnt, x_raise, x_pass, x_brk, x_aug, e_callk, dataV, wp_raise, wp_eqI, wp_neI, wp_gt, wp_lt, wp_le, wp_ge, wp_eqS, wp_neS2, wp_negI, wp_part, wp_tup0, wp_tup1, wp_tup2, wp_tup3, wp_lenT, wp_lenL, wp_mkd, wp_add, wp_sub, wp_int, wp_cutT, asgTs]
  refine fin (ms := .tuple [.tuple [.int 1, x], .tuple [.int 0, .str "over"], .tuple [.int 0, .str "over"]] :: .tuple [.tuple [.int t0, .str d0], .tuple [.int 1, .str "back"], .tuple [.int 1, .str "back"]] :: r) (Nat.le_refl _) (by simpa using hl) (fun y hy => ?_) hD
  simp only [List.mem_cons] at hy
  rcases hy with rfl | rfl | hy
  · simp only [stateD, List.all_cons, List.all_nil, rule_mk (m := m) (t := 1) (by decide) (by omega) hx, rule_mk (m := m) (t := 0) (by decide) (by omega) dv]
    rfl
  · simp only [stateD, List.all_cons, List.all_nil, hr1.2.1, rule_mk (m := m) (t := 1) (by decide) (by omega) db]
    rfl
  · exact ha y (by simp [hy])
end
end Pm
end
section
set_option Elab.async false
set_option linter.all false
set_option maxRecDepth 100000
set_option maxHeartbeats 0
namespace Pm
open PySem PySem.Spec L2 Ev
section
variable {Γ : Tab} {G : List (Str × Val)} {κ : DeckK} (L : Lw Γ κ) {U S : List Cell} {E : Exn → List Cell → Prop} {n : Nat}
include L
theorem mach_loop {m b : Nat} {o3 o7 o8 o9 : Option Val} {ds : List PyData} {rare mo : Int} (hm : 1 ≤ m ∧ m ≤ 300) (hr : 1 ≤ rare ∧ rare ≤ 100) (hd : ds ≠ [] ∧ ds.length ≤ 100 ∧ ∀ x ∈ ds, inDeeds x = true) (h : Deck κ [.lst []] (b + m * 9) S) :
    wp (ex ⟨callF Γ G (n + 2), kwF Γ, G, lowF Γ G (n + 2)⟩ 60 machLoop [some (.r 1), some (.d (.int mo)), some (.d (.list ds)), o3, some (.d (.int m)), some (.r 2), some (.d (.int rare)), o7, o8, o9]) S
    (fun f S' => ∃ (ms : List PyData) (U : List Cell) (o3 o7 o8 o9 : Option Val), f = .nx [some (.r 1), some (.d (.int mo)), some (.d (.list ds)), o3, some (.d (.int m)), some (.r 2), some (.d (.int rare)), o7, o8, o9] ∧ ms.length = m ∧ (∀ x ∈ ms, stateD m x = true) ∧ Deck κ (.lst (ms.map .d) :: U) b S') E := by
  unfold machLoop
  simp only [bodyFuel, wp_seq, wp_seq0, x_asg, x_rtn, x_if, x_ex, x_sub, x_for, e_var, e_c, e_g, e_tup, e_lst, e_dnil, e_dnew, e_dct, e_bin, e_neg, e_cmp, e_chn, e_and, e_or, e_not, e_ite, e_idx, e_sl, e_rev, e_call, e_bi, e_rep, e_isi, e_me, e_comp, andE, orE, startE, wp_bnd, wp_ret, wp_some, wp_tru, wp_fail, wp_noex, wp_guard, isiM, wp_view_d, wp_view_k, wp_viewd_d, wp_viewI_d, wp_viewI_k, wp_viewc_d, l_cons, l_nil, itE, isT, if_pos, itemsD, asgT, testsE, wipeE, List.set_cons_zero, List.set_cons_succ, List.getElem?_cons_zero, List.getElem?_cons_succ, Option.join_some, List.map_cons, List.map_nil, List.cons_append, List.nil_append, List.length_cons, List.length_nil, List.replicate_succ, List.replicate_zero, constD, Option.map_some, mkRes, if_true, if_false, Bool.false_eq_true, Bool.not_true, Bool.not_false, List.any_cons, List.any_nil, Bool.or_false, Bool.false_or, Bool.true_or, optE, wp_ite, true_implies, false_implies, not_true_eq_false, not_false_eq_true, and_true, true_and, x_par, wp_par2, wp_par3, x_cnt, x_raise, x_pass, x_brk, x_aug, e_callk, dataV, wp_raise, wp_eqI, wp_neI, wp_gt, wp_lt, wp_le, wp_ge, wp_eqS, wp_neS2, wp_negI, wp_part, wp_tup0, wp_tup1, wp_tup2, wp_tup3, wp_lenT, wp_lenL, wp_mkd, wp_add, wp_sub, wp_int, wp_cutT, asgTs]
  rw [wp_rng1 (by omega) (by omega)]
  refine wp_forN (fun i ρ S => ∃ (ms : List PyData) (U : List Cell) (o3 o7 o8 o9 : Option Val), ρ = [some (.r 1), some (.d (.int mo)), some (.d (.list ds)), o3, some (.d (.int m)), some (.r 2), some (.d (.int rare)), o7, o8, o9] ∧ ms.length + i = m ∧ (∀ x ∈ ms, stateD m x = true) ∧ Deck κ (.lst (ms.map .d) :: U) (b + i * 9) S) (fun i v ρ S1 hv hI => ?_) ⟨[], [], _, _, _, _, rfl, by rw [rangeL_len]; simp, by simp, by rw [rangeL_len, Int.toNat_natCast]; exact h⟩ fun ρ S1 hI => ?_
  · obtain ⟨ms, U, o3, o7, o8, o9, rfl, hl, ha, hD⟩ := hI
    simp only [bodyFuel, wp_seq, wp_seq0, x_asg, x_rtn, x_if, x_ex, x_sub, x_for, e_var, e_c, e_g, e_tup, e_lst, e_dnil, e_dnew, e_dct, e_bin, e_neg, e_cmp, e_chn, e_and, e_or, e_not, e_ite, e_idx, e_sl, e_rev, e_call, e_bi, e_rep, e_isi, e_me, e_comp, andE, orE, startE, wp_bnd, wp_ret, wp_some, wp_tru, wp_fail, wp_noex, wp_guard, isiM, wp_view_d, wp_view_k, wp_viewd_d, wp_viewI_d, wp_viewI_k, wp_viewc_d, l_cons, l_nil, itE, isT, if_pos, itemsD, asgT, testsE, wipeE, List.set_cons_zero, List.set_cons_succ, List.getElem?_cons_zero, List.getElem?_cons_succ, Option.join_some, List.map_cons, List.map_nil, List.cons_append, List.nil_append, List.length_cons, List.length_nil, List.replicate_succ, List.replicate_zero, constD, Option.map_some, mkRes, if_true, if_false, Bool.false_eq_true, Bool.not_true, Bool.not_false, List.any_cons, List.any_nil, Bool.or_false, Bool.false_or, Bool.true_or, optE, wp_ite, true_implies, false_implies, not_true_eq_false, not_false_eq_true, and_true, true_and, x_par, wp_par2, wp_par3, x_cnt, x_raise, x_pass, x_brk, x_aug, e_callk, dataV, wp_raise, wp_eqI, wp_neI, wp_gt, wp_lt, wp_le, wp_ge, wp_eqS, wp_neS2, wp_negI, wp_part, wp_tup0, wp_tup1, wp_tup2, wp_tup3, wp_lenT, wp_lenL, wp_mkd, wp_add, wp_sub, wp_int, wp_cutT, asgTs, wp_lstM0]
    refine wp_allocU hD fun S2 hD => ?_
    simp only [bodyFuel, wp_seq, wp_seq0, x_asg, x_rtn, x_if, x_ex, x_sub, x_for, e_var, e_c, e_g, e_tup, e_lst, e_dnil, e_dnew, e_dct, e_bin, e_neg, e_cmp, e_chn, e_and, e_or, e_not, e_ite, e_idx, e_sl, e_rev, e_call, e_bi, e_rep, e_isi, e_me, e_comp, andE, orE, startE, wp_bnd, wp_ret, wp_some, wp_tru, wp_fail, wp_noex, wp_guard, isiM, wp_view_d, wp_view_k, wp_viewd_d, wp_viewI_d, wp_viewI_k, wp_viewc_d, l_cons, l_nil, itE, isT, if_pos, itemsD, asgT, testsE, wipeE, List.set_cons_zero, List.set_cons_succ, List.getElem?_cons_zero, List.getElem?_cons_succ, Option.join_some, List.map_cons, List.map_nil, List.cons_append, List.nil_append, List.length_cons, List.length_nil, List.replicate_succ, List.replicate_zero, constD, Option.map_some, mkRes, if_true, if_false, Bool.false_eq_true, Bool.not_true, Bool.not_false, List.any_cons, List.any_nil, Bool.or_false, Bool.false_or, Bool.true_or, optE, wp_ite, true_implies, false_implies, not_true_eq_false, not_false_eq_true, and_true, true_and, x_par, wp_par2, wp_par3, x_cnt, x_raise, x_pass, x_brk, x_aug, e_callk, dataV, wp_raise, wp_eqI, wp_neI, wp_gt, wp_lt, wp_le, wp_ge, wp_eqS, wp_neS2, wp_negI, wp_part, wp_tup0, wp_tup1, wp_tup2, wp_tup3, wp_lenT, wp_lenL, wp_mkd, wp_add, wp_sub, wp_int, wp_cutT, asgTs]
    rw [wp_rng1 (by decide) (by decide)]
    refine wp_forN (fun j ρ S => ∃ (rs : List PyData) (o8 o9 : Option Val), ρ = [some (.r 1), some (.d (.int mo)), some (.d (.list ds)), some v, some (.d (.int m)), some (.r 2), some (.d (.int rare)), some (.r (U.length + 1 + 2)), o8, o9] ∧ rs.length + j = 3 ∧ (∀ x ∈ rs, ruleD m x = true) ∧ Deck κ (.lst (ms.map .d) :: (U ++ [.lst (rs.map .d)])) (b + i * 9 + j * 3) S) (fun j u ρ S3 hu hI => ?_) ⟨[], _, _, rfl, by rw [rangeL_len]; rfl, by simp, by rw [rangeL_len]; exact hD.less (by omega)⟩ fun ρ S3 hI => ?_
    · obtain ⟨rs, o8, o9, rfl, hrl, hra, hD⟩ := hI
      simp only [bodyFuel, wp_seq, wp_seq0, x_asg, x_rtn, x_if, x_ex, x_sub, x_for, e_var, e_c, e_g, e_tup, e_lst, e_dnil, e_dnew, e_dct, e_bin, e_neg, e_cmp, e_chn, e_and, e_or, e_not, e_ite, e_idx, e_sl, e_rev, e_call, e_bi, e_rep, e_isi, e_me, e_comp, andE, orE, startE, wp_bnd, wp_ret, wp_some, wp_tru, wp_fail, wp_noex, wp_guard, isiM, wp_view_d, wp_view_k, wp_viewd_d, wp_viewI_d, wp_viewI_k, wp_viewc_d, l_cons, l_nil, itE, isT, if_pos, itemsD, asgT, testsE, wipeE, List.set_cons_zero, List.set_cons_succ, List.getElem?_cons_zero, List.getElem?_cons_succ, Option.join_some, List.map_cons, List.map_nil, List.cons_append, List.nil_append, List.length_cons, List.length_nil, List.replicate_succ, List.replicate_zero, constD, Option.map_some, mkRes, if_true, if_false, Bool.false_eq_true, Bool.not_true, Bool.not_false, List.any_cons, List.any_nil, Bool.or_false, Bool.false_or, Bool.true_or, optE, wp_ite, true_implies, false_implies, not_true_eq_false, not_false_eq_true, and_true, true_and, x_par, wp_par2, wp_par3, x_cnt, x_raise, x_pass, x_brk, x_aug, e_callk, dataV, wp_raise, wp_eqI, wp_neI, wp_gt, wp_lt, wp_le, wp_ge, wp_eqS, wp_neS2, wp_negI, wp_part, wp_tup0, wp_tup1, wp_tup2, wp_tup3, wp_lenT, wp_lenL, wp_mkd, wp_add, wp_sub, wp_int, wp_cutT, asgTs]
      refine L.drawQ (b + i * 9 + j * 3 + 2) (by omega) (Int.lt_of_le_of_lt hr.2 (by decide)) (hD.less (by omega)) fun k S4 k0 k1 hD => ?_
      have fin : ∀ {t : Int} {S : List Cell}, 0 ≤ t → t ≤ m → Deck κ (.lst (ms.map .d) :: (U ++ [.lst (rs.map .d)])) (b + i * 9 + j * 3 + 1) S → wp (tyM ME.append.ty (.r (U.length + 1 + 2))) S (fun _ S => wp (callF Γ G (n + 2) (Str.ofString "_law_pick") [.r 1, .d (.list ds)]) S (fun x S => wp (mkTup [.d (.int t), x]) S (fun a S => wp (meM .append (.r (U.length + 1 + 2)) [a]) S (fun _ S' => ∃ (rs' : List PyData) (o8 o9 : Option Val), ([some (.r 1), some (.d (.int mo)), some (.d (.list ds)), some v, some (.d (.int m)), some (.r 2), some (.d (.int rare)), some (.r (U.length + 1 + 2)), some u, some (.d (.int t))] : Ev.Env) = [some (.r 1), some (.d (.int mo)), some (.d (.list ds)), some v, some (.d (.int m)), some (.r 2), some (.d (.int rare)), some (.r (U.length + 1 + 2)), o8, o9] ∧ rs'.length + j = 3 ∧ (∀ x ∈ rs', ruleD m x = true) ∧ Deck κ (.lst (ms.map .d) :: (U ++ [.lst (rs'.map .d)])) (b + i * 9 + j * 3) S') E) E) E) E := fun {t S} t0 t1 hD => by
        have hj : (Cell.lst (ms.map Val.d) :: (U ++ [.lst (rs.map .d)]))[U.length + 1]? = some (.lst (rs.map .d)) := by simp
        refine wp_tyU hD hj ?_
        refine L.pickQ (b + i * 9 + j * 3) hd.1 (by have := hd.2.1; omega) hD fun x S' hx hD => ?_
        simp only [bodyFuel, wp_seq, wp_seq0, x_asg, x_rtn, x_if, x_ex, x_sub, x_for, e_var, e_c, e_g, e_tup, e_lst, e_dnil, e_dnew, e_dct, e_bin, e_neg, e_cmp, e_chn, e_and, e_or, e_not, e_ite, e_idx, e_sl, e_rev, e_call, e_bi, e_rep, e_isi, e_me, e_comp, andE, orE, startE, wp_bnd, wp_ret, wp_some, wp_tru, wp_fail, wp_noex, wp_guard, isiM, wp_view_d, wp_view_k, wp_viewd_d, wp_viewI_d, wp_viewI_k, wp_viewc_d, l_cons, l_nil, itE, isT, if_pos, itemsD, asgT, testsE, wipeE, List.set_cons_zero, List.set_cons_succ, List.getElem?_cons_zero, List.getElem?_cons_succ, Option.join_some, List.map_cons, List.map_nil, List.cons_append, List.nil_append, List.length_cons, List.length_nil, List.replicate_succ, List.replicate_zero, constD, Option.map_some, mkRes, if_true, if_false, Bool.false_eq_true, Bool.not_true, Bool.not_false, List.any_cons, List.any_nil, Bool.or_false, Bool.false_or, Bool.true_or, optE, wp_ite, true_implies, false_implies, not_true_eq_false, not_false_eq_true, and_true, true_and, x_par, wp_par2, wp_par3, x_cnt, x_raise, x_pass, x_brk, x_aug, e_callk, dataV, wp_raise, wp_eqI, wp_neI, wp_gt, wp_lt, wp_le, wp_ge, wp_eqS, wp_neS2, wp_negI, wp_part, wp_tup0, wp_tup1, wp_tup2, wp_tup3, wp_lenT, wp_lenL, wp_mkd, wp_add, wp_sub, wp_int, wp_cutT, asgTs]
        refine wp_appU hD hj (by rw [List.length_map]; omega) fun S'' hD => ?_
        refine ⟨rs ++ [.tuple [.int t, x]], _, _, rfl, by rw [List.length_append, List.length_singleton]; omega, fun y hy => ?_, ?_⟩
        · rcases List.mem_append.mp hy with hy | hy
          · exact hra y hy
          · obtain rfl := List.mem_singleton.mp hy
            exact rule_mk t0 t1 (hd.2.2 x hx)
        · rw [List.map_append]
          have e : (Cell.lst (ms.map Val.d) :: (U ++ [.lst (rs.map .d)])).set (U.length + 1) (.lst (rs.map .d ++ [.d (.tuple [.int t, x])])) = .lst (ms.map .d) :: (U ++ [.lst (rs.map .d ++ [.d (.tuple [.int t, x])])]) := by simp
          rw [e] at hD
          exact hD
      simp only [bodyFuel, wp_seq, wp_seq0, x_asg, x_rtn, x_if, x_ex, x_sub, x_for, e_var, e_c, e_g, e_tup, e_lst, e_dnil, e_dnew, e_dct, e_bin, e_neg, e_cmp, e_chn, e_and, e_or, e_not, e_ite, e_idx, e_sl, e_rev, e_call, e_bi, e_rep, e_isi, e_me, e_comp, andE, orE, startE, wp_bnd, wp_ret, wp_some, wp_tru, wp_fail, wp_noex, wp_guard, isiM, wp_view_d, wp_view_k, wp_viewd_d, wp_viewI_d, wp_viewI_k, wp_viewc_d, l_cons, l_nil, itE, isT, if_pos, itemsD, asgT, testsE, wipeE, List.set_cons_zero, List.set_cons_succ, List.getElem?_cons_zero, List.getElem?_cons_succ, Option.join_some, List.map_cons, List.map_nil, List.cons_append, List.nil_append, List.length_cons, List.length_nil, List.replicate_succ, List.replicate_zero, constD, Option.map_some, mkRes, if_true, if_false, Bool.false_eq_true, Bool.not_true, Bool.not_false, List.any_cons, List.any_nil, Bool.or_false, Bool.false_or, Bool.true_or, optE, wp_ite, true_implies, false_implies, not_true_eq_false, not_false_eq_true, and_true, true_and, x_par, wp_par2, wp_par3, x_cnt, x_raise, x_pass, x_brk, x_aug, e_callk, dataV, wp_raise, wp_eqI, wp_neI, wp_gt, wp_lt, wp_le, wp_ge, wp_eqS, wp_neS2, wp_negI, wp_part, wp_tup0, wp_tup1, wp_tup2, wp_tup3, wp_lenT, wp_lenL, wp_mkd, wp_add, wp_sub, wp_int, wp_cutT, asgTs]
      refine ⟨fun _ => ?_, fun _ => ?_⟩
      · exact fin (by omega) (by omega) (hD.less (by omega))
      · refine L.drawQ (b + i * 9 + j * 3 + 1) (by omega) (Int.lt_of_le_of_lt (show (m : Int) ≤ 300 by omega) (by decide)) hD fun k S4 k0 k1 hD => ?_
        exact fin k0 (by omega) hD
    · obtain ⟨rs, o8, o9, rfl, hrl, hra, hD⟩ := hI
      simp only [bodyFuel, wp_seq, wp_seq0, x_asg, x_rtn, x_if, x_ex, x_sub, x_for, e_var, e_c, e_g, e_tup, e_lst, e_dnil, e_dnew, e_dct, e_bin, e_neg, e_cmp, e_chn, e_and, e_or, e_not, e_ite, e_idx, e_sl, e_rev, e_call, e_bi, e_rep, e_isi, e_me, e_comp, andE, orE, startE, wp_bnd, wp_ret, wp_some, wp_tru, wp_fail, wp_noex, wp_guard, isiM, wp_view_d, wp_view_k, wp_viewd_d, wp_viewI_d, wp_viewI_k, wp_viewc_d, l_cons, l_nil, itE, isT, if_pos, itemsD, asgT, testsE, wipeE, List.set_cons_zero, List.set_cons_succ, List.getElem?_cons_zero, List.getElem?_cons_succ, Option.join_some, List.map_cons, List.map_nil, List.cons_append, List.nil_append, List.length_cons, List.length_nil, List.replicate_succ, List.replicate_zero, constD, Option.map_some, mkRes, if_true, if_false, Bool.false_eq_true, Bool.not_true, Bool.not_false, List.any_cons, List.any_nil, Bool.or_false, Bool.false_or, Bool.true_or, optE, wp_ite, true_implies, false_implies, not_true_eq_false, not_false_eq_true, and_true, true_and, x_par, wp_par2, wp_par3, x_cnt, x_raise, x_pass, x_brk, x_aug, e_callk, dataV, wp_raise, wp_eqI, wp_neI, wp_gt, wp_lt, wp_le, wp_ge, wp_eqS, wp_neS2, wp_negI, wp_part, wp_tup0, wp_tup1, wp_tup2, wp_tup3, wp_lenT, wp_lenL, wp_mkd, wp_add, wp_sub, wp_int, wp_cutT, asgTs]
      refine wp_tyU (j := 0) hD rfl ?_
      have hj : (Cell.lst (ms.map Val.d) :: (U ++ [.lst (rs.map .d)]))[U.length + 1]? = some (.lst (rs.map .d)) := by simp
      refine wp_tupU hD hj ?_
      refine wp_appU (j := 0) hD rfl (by rw [List.length_map]; omega) fun S4 hD => ?_
      refine ⟨ms ++ [.tuple rs], U ++ [.lst (rs.map .d)], _, _, _, _, rfl, by rw [List.length_append, List.length_singleton]; omega, fun y hy => ?_, ?_⟩
      · rcases List.mem_append.mp hy with hy | hy
        · exact ha y hy
        · obtain rfl := List.mem_singleton.mp hy
          have : rs.length = 3 := by omega
          simp only [stateD, this, decide_true, Bool.true_and]
          exact List.all_eq_true.mpr hra
      · rw [List.map_append]
        exact hD.less (by omega)
  · obtain ⟨ms, U, o3, o7, o8, o9, rfl, hl, ha, hD⟩ := hI
    exact ⟨ms, U, o3, o7, o8, o9, rfl, by omega, ha, hD.less (by omega)⟩
theorem mach_rest {m b : Nat} {o3 o7 o8 o9 : Option Val} {ds : List PyData} {rare mo : Int} (hm : 1 ≤ m ∧ m ≤ 300) (hr : 1 ≤ rare ∧ rare ≤ 100) (hd : ds ≠ [] ∧ ds.length ≤ 100 ∧ ∀ x ∈ ds, inDeeds x = true) (h : Deck κ [.lst []] (b + 2 + m * 9) S) :
    wp (seqL (fun s ρ => ex ⟨callF Γ G (n + 2), kwF Γ, G, lowF Γ G (n + 2)⟩ 60 s ρ) (machLoop :: machTail) [some (.r 1), some (.d (.int mo)), some (.d (.list ds)), o3, some (.d (.int m)), some (.r 2), some (.d (.int rare)), o7, o8, o9]) S
    (fun f S' => ∃ xs U', f = .rt (.d (.tuple xs)) ∧ xs.length = m ∧ xs.all (stateD xs.length) = true ∧ Deck κ U' b S') E := by
  have h1 := @mach_loop Γ G κ L S E n m (b + 2) o3 o7 o8 o9 ds rare mo
  rw [wp_seq]
  generalize machLoop = lo at h1 ⊢
  refine wp_mono (h1 hm hr hd h) (fun f S5 hq => ?_) fun _ _ h => h
  obtain ⟨ms, U, o3, o7, o8, o9, rfl, hl, ha, hD⟩ := hq
  refine wp_mono (mach_tail L (b := b) hl ha hD) (fun f S6 hq => ?_) fun _ _ h => h
  obtain ⟨xs, U', rfl, hl, ha, hD⟩ := hq
  refine ⟨_, _, rfl, hl, ?_, hD⟩
  rw [hl]
  exact List.all_eq_true.mpr ha
theorem c_machine (P : Pl Γ G) {most : Nat} (b : Nat) {Q : Val → List Cell → Prop} (hm : 1 ≤ most ∧ most ≤ 100) (h : Deck κ [] (b + most * 9 + 10) S) (q : ∀ xs S', 1 ≤ xs.length → xs.length ≤ most → xs.all (stateD xs.length) = true → Deck κ [] b S' → Q (.d (.tuple xs)) S') : wp (callF Γ G (n + 3) "_law_machine" [.r 1, .d (.int (most : Nat))]) S Q E := by
  refine call_deckA (c := b) P.k__law_machine rfl rfl h ?_
  unfold f__law_machine
  rw [mach_body]
  unfold machHead
  have rest := @mach_rest Γ G κ L
  show wp (seqL _ (_ :: _ :: _ :: ([machLoop] ++ machTail)) _) _ _ _
  generalize machLoop = lo at rest ⊢
  generalize machTail = ta at rest ⊢
  simp only [bodyFuel, wp_seq, wp_seq0, x_asg, x_rtn, x_if, x_ex, x_sub, x_for, e_var, e_c, e_g, e_tup, e_lst, e_dnil, e_dnew, e_dct, e_bin, e_neg, e_cmp, e_chn, e_and, e_or, e_not, e_ite, e_idx, e_sl, e_rev, e_call, e_bi, e_rep, e_isi, e_me, e_comp, andE, orE, startE, wp_bnd, wp_ret, wp_some, wp_tru, wp_fail, wp_noex, wp_guard, isiM, wp_view_d, wp_view_k, wp_viewd_d, wp_viewI_d, wp_viewI_k, wp_viewc_d, l_cons, l_nil, itE, isT, if_pos, itemsD, asgT, testsE, wipeE, List.set_cons_zero, List.set_cons_succ, List.getElem?_cons_zero, List.getElem?_cons_succ, Option.join_some, List.map_cons, List.map_nil, List.cons_append, List.nil_append, List.length_cons, List.length_nil, List.replicate_succ, List.replicate_zero, constD, Option.map_some, mkRes, if_true, if_false, Bool.false_eq_true, Bool.not_true, Bool.not_false, List.any_cons, List.any_nil, Bool.or_false, Bool.false_or, Bool.true_or, optE, wp_ite, true_implies, false_implies, not_true_eq_false, not_false_eq_true, and_true, true_and, x_par, wp_par2, wp_par3, x_cnt, x_raise, x_pass, x_brk, x_aug, e_callk, dataV, wp_raise, wp_eqI, wp_neI, wp_gt, wp_lt, wp_le, wp_ge, wp_eqS, wp_neS2, wp_negI, wp_part, wp_tup0, wp_tup1, wp_tup2, wp_tup3, wp_lenT, wp_lenL, wp_mkd, wp_add, wp_sub, wp_int, wp_cutT, asgTs, wp_lstM0]
  refine L.drawQ (b + most * 9 + 9) (by omega) (Int.lt_of_le_of_lt (show (most : Int) ≤ 100 by omega) (by decide)) h fun i S1 i0 i1 hD => ?_
  simp only [bodyFuel, wp_seq, wp_seq0, x_asg, x_rtn, x_if, x_ex, x_sub, x_for, e_var, e_c, e_g, e_tup, e_lst, e_dnil, e_dnew, e_dct, e_bin, e_neg, e_cmp, e_chn, e_and, e_or, e_not, e_ite, e_idx, e_sl, e_rev, e_call, e_bi, e_rep, e_isi, e_me, e_comp, andE, orE, startE, wp_bnd, wp_ret, wp_some, wp_tru, wp_fail, wp_noex, wp_guard, isiM, wp_view_d, wp_view_k, wp_viewd_d, wp_viewI_d, wp_viewI_k, wp_viewc_d, l_cons, l_nil, itE, isT, if_pos, itemsD, asgT, testsE, wipeE, List.set_cons_zero, List.set_cons_succ, List.getElem?_cons_zero, List.getElem?_cons_succ, Option.join_some, List.map_cons, List.map_nil, List.cons_append, List.nil_append, List.length_cons, List.length_nil, List.replicate_succ, List.replicate_zero, constD, Option.map_some, mkRes, if_true, if_false, Bool.false_eq_true, Bool.not_true, Bool.not_false, List.any_cons, List.any_nil, Bool.or_false, Bool.false_or, Bool.true_or, optE, wp_ite, true_implies, false_implies, not_true_eq_false, not_false_eq_true, and_true, true_and, x_par, wp_par2, wp_par3, x_cnt, x_raise, x_pass, x_brk, x_aug, e_callk, dataV, wp_raise, wp_eqI, wp_neI, wp_gt, wp_lt, wp_le, wp_ge, wp_eqS, wp_neS2, wp_negI, wp_part, wp_tup0, wp_tup1, wp_tup2, wp_tup3, wp_lenT, wp_lenL, wp_mkd, wp_add, wp_sub, wp_int, wp_cutT, asgTs]
  refine wp_allocU hD fun S2 hD => ?_
  show wp (mkList false ((([.int 6, .int 3, .int 40] : List PyData)).map Val.d)) S2 _ _
  rw [wp_lstD (by decide)]
  refine L.pickQ (b + most * 9 + 8) (by decide) (by decide) hD fun x S3 hx hD => ?_
  obtain ⟨rare, rfl, hr⟩ : ∃ rare : Int, x = .int rare ∧ (1 ≤ rare ∧ rare ≤ 100) := by
    simp only [List.mem_cons, List.mem_nil_iff, or_false] at hx
    rcases hx with rfl | rfl | rfl
    · exact ⟨_, rfl, by decide⟩
    · exact ⟨_, rfl, by decide⟩
    · exact ⟨_, rfl, by decide⟩
  obtain ⟨m, hmi, hm1, hm2⟩ : ∃ m : Nat, 1 + i = (m : Int) ∧ 1 ≤ m ∧ m ≤ most := ⟨(1 + i).toNat, by omega, by omega, by omega⟩
  simp only [bodyFuel, wp_seq, wp_seq0, x_asg, x_rtn, x_if, x_ex, x_sub, x_for, e_var, e_c, e_g, e_tup, e_lst, e_dnil, e_dnew, e_dct, e_bin, e_neg, e_cmp, e_chn, e_and, e_or, e_not, e_ite, e_idx, e_sl, e_rev, e_call, e_bi, e_rep, e_isi, e_me, e_comp, andE, orE, startE, wp_bnd, wp_ret, wp_some, wp_tru, wp_fail, wp_noex, wp_guard, isiM, wp_view_d, wp_view_k, wp_viewd_d, wp_viewI_d, wp_viewI_k, wp_viewc_d, l_cons, l_nil, itE, isT, if_pos, itemsD, asgT, testsE, wipeE, List.set_cons_zero, List.set_cons_succ, List.getElem?_cons_zero, List.getElem?_cons_succ, Option.join_some, List.map_cons, List.map_nil, List.cons_append, List.nil_append, List.length_cons, List.length_nil, List.replicate_succ, List.replicate_zero, constD, Option.map_some, mkRes, if_true, if_false, Bool.false_eq_true, Bool.not_true, Bool.not_false, List.any_cons, List.any_nil, Bool.or_false, Bool.false_or, Bool.true_or, optE, wp_ite, true_implies, false_implies, not_true_eq_false, not_false_eq_true, and_true, true_and, x_par, wp_par2, wp_par3, x_cnt, x_raise, x_pass, x_brk, x_aug, e_callk, dataV, wp_raise, wp_eqI, wp_neI, wp_gt, wp_lt, wp_le, wp_ge, wp_eqS, wp_neS2, wp_negI, wp_part, wp_tup0, wp_tup1, wp_tup2, wp_tup3, wp_lenT, wp_lenL, wp_mkd, wp_add, wp_sub, wp_int, wp_cutT, asgTs, hmi]
  show wp (mkList false ((([.str "over", .str "put1", .str "stay", .str "cut", .str "back", .str "put0"] : List PyData)).map Val.d)) S3 _ _
  rw [wp_lstD (by decide)]
  refine L.drawQ (b + most * 9 + 7) (by decide) (by decide) hD fun k S4 k0 k1 hD => ?_
  have go : ∀ {ds : List PyData} {S : List Cell}, (ds ≠ [] ∧ ds.length ≤ 100 ∧ ∀ x ∈ ds, inDeeds x = true) → Deck κ [.lst []] (b + 2 + m * 9) S → wp (seqL (fun s ρ => ex ⟨callF Γ G (n + 2), kwF Γ, G, lowF Γ G (n + 2)⟩ 60 s ρ) (lo :: ta) [some (.r 1), some (.d (.int most)), some (.d (.list ds)), none, some (.d (.int m)), some (.r 2), some (.d (.int rare)), none, none, none]) S (fun f S' => ∃ x U, f = .rt (.d x) ∧ Deck κ U b S' ∧ ∀ S'', Deck κ [] b S'' → Q (.d x) S'') E := fun {ds S} hd hD => by
    refine wp_mono (rest ⟨hm1, by omega⟩ hr hd hD) (fun f S6 hq => ?_) fun _ _ h => h
    obtain ⟨xs, U', rfl, hl, ha, hD⟩ := hq
    exact ⟨_, _, rfl, hD, fun S'' hD => q xs S'' (by omega) (by omega) ha hD⟩
  simp only [wp_seq] at go
  have dd : ∀ x ∈ ([.str "over", .str "put1", .str "stay", .str "cut", .str "back", .str "put0"] : List PyData), inDeeds x = true := by
    intro x hx
    simp only [List.mem_cons, List.mem_nil_iff, or_false] at hx
    rcases hx with rfl | rfl | rfl | rfl | rfl | rfl <;> decide +kernel
  have hle : m * 9 ≤ most * 9 := Nat.mul_le_mul_right _ hm2
  simp only [bodyFuel, wp_seq, wp_seq0, x_asg, x_rtn, x_if, x_ex, x_sub, x_for, e_var, e_c, e_g, e_tup, e_lst, e_dnil, e_dnew, e_dct, e_bin, e_neg, e_cmp, e_chn, e_and, e_or, e_not, e_ite, e_idx, e_sl, e_rev, e_call, e_bi, e_rep, e_isi, e_me, e_comp, andE, orE, startE, wp_bnd, wp_ret, wp_some, wp_tru, wp_fail, wp_noex, wp_guard, isiM, wp_view_d, wp_view_k, wp_viewd_d, wp_viewI_d, wp_viewI_k, wp_viewc_d, l_cons, l_nil, itE, isT, if_pos, itemsD, asgT, testsE, wipeE, List.set_cons_zero, List.set_cons_succ, List.getElem?_cons_zero, List.getElem?_cons_succ, Option.join_some, List.map_cons, List.map_nil, List.cons_append, List.nil_append, List.length_cons, List.length_nil, List.replicate_succ, List.replicate_zero, constD, Option.map_some, mkRes, if_true, if_false, Bool.false_eq_true, Bool.not_true, Bool.not_false, List.any_cons, List.any_nil, Bool.or_false, Bool.false_or, Bool.true_or, optE, wp_ite, true_implies, false_implies, not_true_eq_false, not_false_eq_true, and_true, true_and, x_par, wp_par2, wp_par3, x_cnt, x_raise, x_pass, x_brk, x_aug, e_callk, dataV, wp_raise, wp_eqI, wp_neI, wp_gt, wp_lt, wp_le, wp_ge, wp_eqS, wp_neS2, wp_negI, wp_part, wp_tup0, wp_tup1, wp_tup2, wp_tup3, wp_lenT, wp_lenL, wp_mkd, wp_add, wp_sub, wp_int, wp_cutT, asgTs]
  refine ⟨fun _ => ?_, fun _ => ?_⟩
  · show wp (mkList false ((([.str "over", .str "back", .str "put1", .str "over", .str "back"] : List PyData)).map Val.d)) S4 _ _
    rw [wp_lstD (by decide)]
    show wp (mkList false ((([.str "put0", .str "over", .str "put1", .str "back", .str "over"] : List PyData)).map Val.d)) S4 _ _
    rw [wp_lstD (by decide)]
    show wp (mkList false ((([.list [.str "over", .str "back", .str "put1", .str "over", .str "back"], .list [.str "put0", .str "over", .str "put1", .str "back", .str "over"]] : List PyData)).map Val.d)) S4 _ _
    rw [wp_lstD (by decide)]
    refine L.pickQ (b + most * 9 + 6) (by simp) (by simp) hD fun x S5 hx hD => ?_
    obtain ⟨ds, rfl, hd⟩ : ∃ ds, x = .list ds ∧ (ds ≠ [] ∧ ds.length ≤ 100 ∧ ∀ x ∈ ds, inDeeds x = true) := by
      simp only [List.mem_cons, List.mem_nil_iff, or_false] at hx
      rcases hx with rfl | rfl
      · refine ⟨_, rfl, by simp, by simp, fun x hx => dd x ?_⟩
        simp only [List.mem_cons, List.mem_nil_iff, or_false] at hx ⊢
        rcases hx with rfl | rfl | rfl | rfl | rfl <;> simp
      · refine ⟨_, rfl, by simp, by simp, fun x hx => dd x ?_⟩
        simp only [List.mem_cons, List.mem_nil_iff, or_false] at hx ⊢
        rcases hx with rfl | rfl | rfl | rfl | rfl <;> simp
    exact go hd (hD.less (by omega))
  · exact go ⟨by simp, by simp, dd⟩ (hD.less (by omega))
end
end Pm
end
section
set_option Elab.async false
set_option linter.all false
set_option maxRecDepth 100000
set_option maxHeartbeats 0
namespace Pm
open PySem PySem.Spec L2 Ev
theorem in01 (x : PyData) : ∃ b, inD x (.tuple [.int 0, .int 1]) = some b ∧ (b = true → ∃ c, eqG eqN x (.int 1) = some c) := by
  cases x with
  | int i => exact ⟨_, rfl, fun _ => ⟨_, rfl⟩⟩
  | bool i => exact ⟨_, rfl, fun _ => ⟨_, rfl⟩⟩
  | _ => exact ⟨false, rfl, fun h => by cases h⟩
def bentRet : T := .rtn (some (.ite (.and_ [(.cmp .in_ (.var 1) (.tup [(.c (.int 0)), (.c (.int 1))])), (.cmp .eq (.call ("_law_draw" : PySem.Str) [(.var 0), (.c (.int 2))]) (.c (.int 0)))]) (.cmp .eq (.var 1) (.c (.int 1))) (.call ("_law_pick" : PySem.Str) [(.var 0), (.var 2)])))
def bentRest : List T := [.par [3, 4] [(.call ("_law_draw" : PySem.Str) [(.var 0), (.bi false .len [(.var 1)])]), (.call ("_law_draw" : PySem.Str) [(.var 0), (.c (.int 10))])], .if_ (.cmp .eq (.var 4) (.c (.int 0))) [.rtn (some (.bin false .add (.sl false (.var 1) none (some (.var 3))) (.sl false (.var 1) (some (.bin false .add (.var 3) (.c (.int 1)))) none)))] [], .if_ (.cmp .eq (.var 4) (.c (.int 1))) [.rtn (some (.bin false .add (.sl false (.var 1) none (some (.bin false .add (.var 3) (.c (.int 1))))) (.sl false (.var 1) (some (.var 3)) none)))] [], .if_ (.cmp .eq (.var 4) (.c (.int 2))) [.rtn (some (.bi false .list_ [(.var 1)]))] [], .if_ (.cmp .eq (.var 4) (.c (.int 3))) [.rtn (some (.bin false .add (.sl false (.var 1) (some (.var 3)) none) (.sl false (.var 1) none (some (.var 3)))))] [], .rtn (some (.bin false .add (.bin false .add (.sl false (.var 1) none (some (.var 3))) (.tup [(.call ("_law_bent" : PySem.Str) [(.var 0), (.idx (.var 1) (.var 3)), (.var 2)])])) (.sl false (.var 1) (some (.bin false .add (.var 3) (.c (.int 1)))) none)))]
def bentHead : X := .or_ [(.not_ (.isi [.tuple] (.var 1))), (.cmp .eq (.var 1) (.tup [])), (.cmp .eq (.call ("_law_draw" : PySem.Str) [(.var 0), (.c (.int 9))]) (.c (.int 0)))]
theorem bent_body : b__law_bent = .if_ bentHead [bentRet] [] :: bentRest := rfl
section
variable {Γ : Tab} {G : List (Str × Val)} {κ : DeckK} (L : Lw Γ κ) {U S : List Cell} {E : Exn → List Cell → Prop} {n : Nat} {odd : List PyData}
include L
theorem bent_ret {d w b : Nat} {x : PyData} {o3 o4 : Option Val} {f : Nat} (hd : odd ≠ [] ∧ odd.length ≤ 1000 ∧ ∀ x ∈ odd, Sm d w x) (h : Deck κ U (b + 2) S) :
    wp (ex ⟨callF Γ G (n + 2), kwF Γ, G, lowF Γ G (n + 2)⟩ (f + 6) bentRet [some (.r 1), some (.d x), some (.d (.list odd)), o3, o4]) S (fun f S' => ∃ y, f = .rt (.d y) ∧ Sm d w y ∧ Deck κ U b S') E := by
  obtain ⟨c, hc, hc1⟩ := in01 x
  have pk : ∀ {S b}, Deck κ U (b + 1) S → wp (callF Γ G (n + 2) (Str.ofString "_law_pick") [.r 1, .d (.list odd)]) S (fun v S' => ∃ y, Fl.rt v = .rt (.d y) ∧ Sm d w y ∧ Deck κ U b S') E := fun {S b} h =>
    L.pickQ b hd.1 (by have := hd.2.1; omega) h fun y S' hy h' => ⟨y, rfl, hd.2.2 y hy, h'⟩
  unfold bentRet
  simp only [bodyFuel, wp_seq, wp_seq0, x_asg, x_rtn, x_if, x_ex, x_sub, x_for, e_var, e_c, e_g, e_tup, e_lst, e_dnil, e_dnew, e_dct, e_bin, e_neg, e_cmp, e_chn, e_and, e_or, e_not, e_ite, e_idx, e_sl, e_rev, e_call, e_bi, e_rep, e_isi, e_me, e_comp, andE, orE, startE, wp_bnd, wp_ret, wp_some, wp_tru, wp_fail, wp_noex, wp_guard, isiM, wp_view_d, wp_view_k, wp_viewd_d, wp_viewI_d, wp_viewI_k, wp_viewc_d, l_cons, l_nil, itE, isT, if_pos, itemsD, asgT, testsE, wipeE, List.set_cons_zero, List.set_cons_succ, List.getElem?_cons_zero, List.getElem?_cons_succ, Option.join_some, List.map_cons, List.map_nil, List.cons_append, List.nil_append, List.length_cons, List.length_nil, List.replicate_succ, List.replicate_zero, constD, Option.map_some, mkRes, if_true, if_false, Bool.false_eq_true, Bool.not_true, Bool.not_false, List.any_cons, List.any_nil, Bool.or_false, Bool.false_or, Bool.true_or, optE, wp_ite, true_implies, false_implies, not_true_eq_false, not_false_eq_true, and_true, true_and, x_par, wp_par2, wp_par3, x_cnt, x_raise, x_pass, x_brk, x_aug, e_callk, dataV, wp_raise, wp_eqI, wp_neI, wp_gt, wp_lt, wp_le, wp_ge, wp_eqS, wp_neS2, wp_negI, wp_part, wp_tup0, wp_tup1, wp_tup2, wp_tup3, wp_lenT, wp_lenL, wp_mkd, wp_add, wp_sub, wp_int, wp_cutT, asgTs]
  rw [wp_in_d, hc, wp_some]
  cases c with
  | false =>
    simp only [bodyFuel, wp_seq, wp_seq0, x_asg, x_rtn, x_if, x_ex, x_sub, x_for, e_var, e_c, e_g, e_tup, e_lst, e_dnil, e_dnew, e_dct, e_bin, e_neg, e_cmp, e_chn, e_and, e_or, e_not, e_ite, e_idx, e_sl, e_rev, e_call, e_bi, e_rep, e_isi, e_me, e_comp, andE, orE, startE, wp_bnd, wp_ret, wp_some, wp_tru, wp_fail, wp_noex, wp_guard, isiM, wp_view_d, wp_view_k, wp_viewd_d, wp_viewI_d, wp_viewI_k, wp_viewc_d, l_cons, l_nil, itE, isT, if_pos, itemsD, asgT, testsE, wipeE, List.set_cons_zero, List.set_cons_succ, List.getElem?_cons_zero, List.getElem?_cons_succ, Option.join_some, List.map_cons, List.map_nil, List.cons_append, List.nil_append, List.length_cons, List.length_nil, List.replicate_succ, List.replicate_zero, constD, Option.map_some, mkRes, if_true, if_false, Bool.false_eq_true, Bool.not_true, Bool.not_false, List.any_cons, List.any_nil, Bool.or_false, Bool.false_or, Bool.true_or, optE, wp_ite, true_implies, false_implies, not_true_eq_false, not_false_eq_true, and_true, true_and, x_par, wp_par2, wp_par3, x_cnt, x_raise, x_pass, x_brk, x_aug, e_callk, dataV, wp_raise, wp_eqI, wp_neI, wp_gt, wp_lt, wp_le, wp_ge, wp_eqS, wp_neS2, wp_negI, wp_part, wp_tup0, wp_tup1, wp_tup2, wp_tup3, wp_lenT, wp_lenL, wp_mkd, wp_add, wp_sub, wp_int, wp_cutT, asgTs]
    exact wp_mono (pk (h.less (show b + 1 ≤ b + 2 by omega))) (fun _ _ h => h) fun _ _ h => h
  | true =>
    simp only [bodyFuel, wp_seq, wp_seq0, x_asg, x_rtn, x_if, x_ex, x_sub, x_for, e_var, e_c, e_g, e_tup, e_lst, e_dnil, e_dnew, e_dct, e_bin, e_neg, e_cmp, e_chn, e_and, e_or, e_not, e_ite, e_idx, e_sl, e_rev, e_call, e_bi, e_rep, e_isi, e_me, e_comp, andE, orE, startE, wp_bnd, wp_ret, wp_some, wp_tru, wp_fail, wp_noex, wp_guard, isiM, wp_view_d, wp_view_k, wp_viewd_d, wp_viewI_d, wp_viewI_k, wp_viewc_d, l_cons, l_nil, itE, isT, if_pos, itemsD, asgT, testsE, wipeE, List.set_cons_zero, List.set_cons_succ, List.getElem?_cons_zero, List.getElem?_cons_succ, Option.join_some, List.map_cons, List.map_nil, List.cons_append, List.nil_append, List.length_cons, List.length_nil, List.replicate_succ, List.replicate_zero, constD, Option.map_some, mkRes, if_true, if_false, Bool.false_eq_true, Bool.not_true, Bool.not_false, List.any_cons, List.any_nil, Bool.or_false, Bool.false_or, Bool.true_or, optE, wp_ite, true_implies, false_implies, not_true_eq_false, not_false_eq_true, and_true, true_and, x_par, wp_par2, wp_par3, x_cnt, x_raise, x_pass, x_brk, x_aug, e_callk, dataV, wp_raise, wp_eqI, wp_neI, wp_gt, wp_lt, wp_le, wp_ge, wp_eqS, wp_neS2, wp_negI, wp_part, wp_tup0, wp_tup1, wp_tup2, wp_tup3, wp_lenT, wp_lenL, wp_mkd, wp_add, wp_sub, wp_int, wp_cutT, asgTs]
    refine L.drawQ (b + 1) (by decide) (by decide) h fun i S1 i0 i1 h' => ?_
    simp only [bodyFuel, wp_seq, wp_seq0, x_asg, x_rtn, x_if, x_ex, x_sub, x_for, e_var, e_c, e_g, e_tup, e_lst, e_dnil, e_dnew, e_dct, e_bin, e_neg, e_cmp, e_chn, e_and, e_or, e_not, e_ite, e_idx, e_sl, e_rev, e_call, e_bi, e_rep, e_isi, e_me, e_comp, andE, orE, startE, wp_bnd, wp_ret, wp_some, wp_tru, wp_fail, wp_noex, wp_guard, isiM, wp_view_d, wp_view_k, wp_viewd_d, wp_viewI_d, wp_viewI_k, wp_viewc_d, l_cons, l_nil, itE, isT, if_pos, itemsD, asgT, testsE, wipeE, List.set_cons_zero, List.set_cons_succ, List.getElem?_cons_zero, List.getElem?_cons_succ, Option.join_some, List.map_cons, List.map_nil, List.cons_append, List.nil_append, List.length_cons, List.length_nil, List.replicate_succ, List.replicate_zero, constD, Option.map_some, mkRes, if_true, if_false, Bool.false_eq_true, Bool.not_true, Bool.not_false, List.any_cons, List.any_nil, Bool.or_false, Bool.false_or, Bool.true_or, optE, wp_ite, true_implies, false_implies, not_true_eq_false, not_false_eq_true, and_true, true_and, x_par, wp_par2, wp_par3, x_cnt, x_raise, x_pass, x_brk, x_aug, e_callk, dataV, wp_raise, wp_eqI, wp_neI, wp_gt, wp_lt, wp_le, wp_ge, wp_eqS, wp_neS2, wp_negI, wp_part, wp_tup0, wp_tup1, wp_tup2, wp_tup3, wp_lenT, wp_lenL, wp_mkd, wp_add, wp_sub, wp_int, wp_cutT, asgTs]
    refine ⟨fun _ => ?_, fun _ => pk h'⟩
    obtain ⟨e, he⟩ := hc1 rfl
    rw [wp_eq_d, he, wp_some]
    exact ⟨_, rfl, sm_bool e, h'.less (by omega)⟩
theorem bent_rest {D W : Nat} {d w b c : Nat} {xs : List PyData} {o3 o4 : Option Val} (hw : w ≤ 100000) (hx : SmL d w xs) (hne : 1 ≤ xs.length) (h : Deck κ U (b + 2) S)
    (rec : ∀ {x : PyData} {S : List Cell} {Q : Val → List Cell → Prop}, x ∈ xs → Deck κ U b S → (∀ y S', Sm (d + D) (2 * x.weight + W) y → Deck κ U c S' → Q (.d y) S') → wp (callF Γ G (n + 2) (Str.ofString "_law_bent") [.r 1, .d x, .d (.list odd)]) S Q E) (hW : W ≤ 100000) (hcb : c ≤ b) :
    wp (seqL (fun s ρ => ex ⟨callF Γ G (n + 2), kwF Γ, G, lowF Γ G (n + 2)⟩ 60 s ρ) bentRest [some (.r 1), some (.d (.tuple xs)), some (.d (.list odd)), o3, o4]) S (fun f S' => ∃ y, f = .rt (.d y) ∧ Sm (d + 1 + D) (2 * w + W) y ∧ Deck κ U c S') E := by
  have hl := hx.len
  unfold bentRest
  simp only [bodyFuel, wp_seq, wp_seq0, x_asg, x_rtn, x_if, x_ex, x_sub, x_for, e_var, e_c, e_g, e_tup, e_lst, e_dnil, e_dnew, e_dct, e_bin, e_neg, e_cmp, e_chn, e_and, e_or, e_not, e_ite, e_idx, e_sl, e_rev, e_call, e_bi, e_rep, e_isi, e_me, e_comp, andE, orE, startE, wp_bnd, wp_ret, wp_some, wp_tru, wp_fail, wp_noex, wp_guard, isiM, wp_view_d, wp_view_k, wp_viewd_d, wp_viewI_d, wp_viewI_k, wp_viewc_d, l_cons, l_nil, itE, isT, if_pos, itemsD, asgT, testsE, wipeE, List.set_cons_zero, List.set_cons_succ, List.getElem?_cons_zero, List.getElem?_cons_succ, Option.join_some, List.map_cons, List.map_nil, List.cons_append, List.nil_append, List.length_cons, List.length_nil, List.replicate_succ, List.replicate_zero, constD, Option.map_some, mkRes, if_true, if_false, Bool.false_eq_true, Bool.not_true, Bool.not_false, List.any_cons, List.any_nil, Bool.or_false, Bool.false_or, Bool.true_or, optE, wp_ite, true_implies, false_implies, not_true_eq_false, not_false_eq_true, and_true, true_and, x_par, wp_par2, wp_par3, x_cnt, x_raise, x_pass, x_brk, x_aug, e_callk, dataV, wp_raise, wp_eqI, wp_neI, wp_gt, wp_lt, wp_le, wp_ge, wp_eqS, wp_neS2, wp_negI, wp_part, wp_tup0, wp_tup1, wp_tup2, wp_tup3, wp_lenT, wp_lenL, wp_mkd, wp_add, wp_sub, wp_int, wp_cutT, asgTs, wp_viewc_d]
  refine L.drawQ (b + 1) (by omega) (Int.lt_of_le_of_lt (show (xs.length : Int) ≤ 100000 by omega) (by decide)) h fun i S1 i0 i1 h1 => ?_
  simp only [bodyFuel, wp_seq, wp_seq0, x_asg, x_rtn, x_if, x_ex, x_sub, x_for, e_var, e_c, e_g, e_tup, e_lst, e_dnil, e_dnew, e_dct, e_bin, e_neg, e_cmp, e_chn, e_and, e_or, e_not, e_ite, e_idx, e_sl, e_rev, e_call, e_bi, e_rep, e_isi, e_me, e_comp, andE, orE, startE, wp_bnd, wp_ret, wp_some, wp_tru, wp_fail, wp_noex, wp_guard, isiM, wp_view_d, wp_view_k, wp_viewd_d, wp_viewI_d, wp_viewI_k, wp_viewc_d, l_cons, l_nil, itE, isT, if_pos, itemsD, asgT, testsE, wipeE, List.set_cons_zero, List.set_cons_succ, List.getElem?_cons_zero, List.getElem?_cons_succ, Option.join_some, List.map_cons, List.map_nil, List.cons_append, List.nil_append, List.length_cons, List.length_nil, List.replicate_succ, List.replicate_zero, constD, Option.map_some, mkRes, if_true, if_false, Bool.false_eq_true, Bool.not_true, Bool.not_false, List.any_cons, List.any_nil, Bool.or_false, Bool.false_or, Bool.true_or, optE, wp_ite, true_implies, false_implies, not_true_eq_false, not_false_eq_true, and_true, true_and, x_par, wp_par2, wp_par3, x_cnt, x_raise, x_pass, x_brk, x_aug, e_callk, dataV, wp_raise, wp_eqI, wp_neI, wp_gt, wp_lt, wp_le, wp_ge, wp_eqS, wp_neS2, wp_negI, wp_part, wp_tup0, wp_tup1, wp_tup2, wp_tup3, wp_lenT, wp_lenL, wp_mkd, wp_add, wp_sub, wp_int, wp_cutT, asgTs, wp_viewc_d]
  refine L.drawQ b (by decide) (by decide) h1 fun j S2 j0 j1 h2 => ?_
  have j1' : 0 ≤ i + 1 := by omega
  have tk : ∀ i, (xs.take i).length ≤ 100000 := fun i => by rw [List.length_take]; omega
  have dp : ∀ i, (xs.drop i).length ≤ 100000 := fun i => by rw [List.length_drop]; omega
  simp only [bodyFuel, wp_seq, wp_seq0, x_asg, x_rtn, x_if, x_ex, x_sub, x_for, e_var, e_c, e_g, e_tup, e_lst, e_dnil, e_dnew, e_dct, e_bin, e_neg, e_cmp, e_chn, e_and, e_or, e_not, e_ite, e_idx, e_sl, e_rev, e_call, e_bi, e_rep, e_isi, e_me, e_comp, andE, orE, startE, wp_bnd, wp_ret, wp_some, wp_tru, wp_fail, wp_noex, wp_guard, isiM, wp_view_d, wp_view_k, wp_viewd_d, wp_viewI_d, wp_viewI_k, wp_viewc_d, l_cons, l_nil, itE, isT, if_pos, itemsD, asgT, testsE, wipeE, List.set_cons_zero, List.set_cons_succ, List.getElem?_cons_zero, List.getElem?_cons_succ, Option.join_some, List.map_cons, List.map_nil, List.cons_append, List.nil_append, List.length_cons, List.length_nil, List.replicate_succ, List.replicate_zero, constD, Option.map_some, mkRes, if_true, if_false, Bool.false_eq_true, Bool.not_true, Bool.not_false, List.any_cons, List.any_nil, Bool.or_false, Bool.false_or, Bool.true_or, optE, wp_ite, true_implies, false_implies, not_true_eq_false, not_false_eq_true, and_true, true_and, x_par, wp_par2, wp_par3, x_cnt, x_raise, x_pass, x_brk, x_aug, e_callk, dataV, wp_raise, wp_eqI, wp_neI, wp_gt, wp_lt, wp_le, wp_ge, wp_eqS, wp_neS2, wp_negI, wp_part, wp_tup0, wp_tup1, wp_tup2, wp_tup3, wp_lenT, wp_lenL, wp_mkd, wp_add, wp_sub, wp_int, wp_cutT, asgTs, wp_viewc_d, cutL_pre i0, cutL_post i0, cutL_pre j1', cutL_post j1']
  have up : ∀ {ys : List PyData}, SmL d (w + w) ys → Sm (d + 1 + D) (2 * w + W) (.tuple ys) := fun h => (Sm.tuple h).mono (by omega) (by omega)
  refine ⟨fun _ => ?_, fun _ => ⟨fun _ => ?_, fun _ => ⟨fun _ => ?_, fun _ => ⟨fun _ => ?_, fun _ => ?_⟩⟩⟩⟩
  · rw [wp_addT (by have := tk i.toNat; have := dp (i + 1).toNat; omega)]
    exact ⟨_, rfl, up ((hx.take _).append (hx.drop _)), h2.less hcb⟩
  · rw [wp_addT (by have := tk (i + 1).toNat; have := dp i.toNat; omega)]
    exact ⟨_, rfl, up ((hx.take _).append (hx.drop _)), h2.less hcb⟩
  · rw [wp_bi1]
    show wp (lift (some (PyData.list xs))) _ _ _
    rw [wp_some]
    exact ⟨_, rfl, (Sm.list hx).mono (by omega) (by omega), h2.less hcb⟩
  · rw [wp_addT (by have := tk i.toNat; have := dp i.toNat; omega)]
    exact ⟨_, rfl, up ((hx.drop _).append (hx.take _)), h2.less hcb⟩
  · obtain ⟨x, e1, e2, e3⟩ := idx_get i0 i1
    rw [wp_idxT e3]
    refine rec e2 h2 fun y S3 hy h3 => ?_
    rw [wp_tup1]
    rw [wp_addT (by have := tk i.toNat; rw [List.length_singleton]; omega)]
    rw [wp_addT (by have := tk i.toNat; have := dp (i + 1).toNat; rw [List.length_append, List.length_singleton]; omega)]
    have e4 : (i + 1).toNat = i.toNat + 1 := by omega
    refine ⟨_, rfl, ?_, h3⟩
    rw [e4]
    have hxw := (hx.mem e2).wt
    refine (Sm.tuple (SmL.swap (D := d + D) (W := x.weight + W) hx e1 (hy.mono (Nat.le_refl _) (by omega)))).mono (by omega) (by omega)
end
end Pm
end
section
set_option Elab.async false
set_option linter.all false
set_option maxRecDepth 100000
set_option maxHeartbeats 400000
namespace Pm
open PySem PySem.Spec L2 Ev
section
variable {Γ : Tab} {G : List (Str × Val)} {κ : DeckK} (L : Lw Γ κ) {U S : List Cell} {E : Exn → List Cell → Prop} {n : Nat} {odd : List PyData}
include L
theorem bent_head {D W b : Nat} {x : PyData} {o3 o4 : Option Val} (hd : odd ≠ [] ∧ odd.length ≤ 1000 ∧ ∀ x ∈ odd, Sm D W x) (h : Deck κ U (b + 3) S) {R : List T} {Q : PyData → List Cell → Prop}
    (q1 : ∀ y S', Sm D W y → Deck κ U b S' → Q y S')
    (q2 : ∀ xs S', x = .tuple xs → 1 ≤ xs.length → Deck κ U (b + 2) S' → wp (seqL (fun s ρ => ex ⟨callF Γ G (n + 2), kwF Γ, G, lowF Γ G (n + 2)⟩ 60 s ρ) R [some (.r 1), some (.d (.tuple xs)), some (.d (.list odd)), o3, o4]) S' (fun f S' => ∃ y, f = .rt (.d y) ∧ Q y S') E) :
    wp (seqL (fun s ρ => ex ⟨callF Γ G (n + 2), kwF Γ, G, lowF Γ G (n + 2)⟩ 60 s ρ) (.if_ bentHead [bentRet] [] :: R) [some (.r 1), some (.d x), some (.d (.list odd)), o3, o4]) S (fun f S' => ∃ y, f = .rt (.d y) ∧ Q y S') E := by
  have rt : ∀ {S}, Deck κ U (b + 2) S → wp (ex ⟨callF Γ G (n + 2), kwF Γ, G, lowF Γ G (n + 2)⟩ 59 bentRet [some (.r 1), some (.d x), some (.d (.list odd)), o3, o4]) S (fun f S' => ∃ y, f = .rt (.d y) ∧ Q y S') E := fun {S} h => by
    refine wp_mono (bent_ret L (f := 53) hd h) (fun f S' hq => ?_) fun _ _ h => h
    obtain ⟨y, rfl, hy, hD⟩ := hq
    exact ⟨y, rfl, q1 y S' hy hD⟩
  unfold bentHead
  generalize hB : bentRet = br at rt ⊢
  cases x with
  | tuple xs =>
    have e0 : ∀ {S : List Cell} {Q : Bool → List Cell → Prop} {E : Exn → List Cell → Prop}, wp (cmpM .eq (.d (.tuple xs)) (.d (.tuple []))) S Q E = Q xs.isEmpty S := fun {S Q E} => by
      rw [wp_eq_d]
      cases xs <;> exact wp_some
    simp only [bodyFuel, wp_seq, wp_seq0, x_asg, x_rtn, x_if, x_ex, x_sub, x_for, e_var, e_c, e_g, e_tup, e_lst, e_dnil, e_dnew, e_dct, e_bin, e_neg, e_cmp, e_chn, e_and, e_or, e_not, e_ite, e_idx, e_sl, e_rev, e_call, e_bi, e_rep, e_isi, e_me, e_comp, andE, orE, startE, wp_bnd, wp_ret, wp_some, wp_tru, wp_fail, wp_noex, wp_guard, isiM, wp_view_d, wp_view_k, wp_viewd_d, wp_viewI_d, wp_viewI_k, wp_viewc_d, l_cons, l_nil, itE, isT, if_pos, itemsD, asgT, testsE, wipeE, List.set_cons_zero, List.set_cons_succ, List.getElem?_cons_zero, List.getElem?_cons_succ, Option.join_some, List.map_cons, List.map_nil, List.cons_append, List.nil_append, List.length_cons, List.length_nil, List.replicate_succ, List.replicate_zero, constD, Option.map_some, mkRes, if_true, if_false, Bool.false_eq_true, Bool.not_true, Bool.not_false, List.any_cons, List.any_nil, Bool.or_false, Bool.false_or, Bool.true_or, optE, wp_ite, true_implies, false_implies, not_true_eq_false, not_false_eq_true, and_true, true_and, x_par, wp_par2, wp_par3, x_cnt, x_raise, x_pass, x_brk, x_aug, e_callk, dataV, wp_raise, wp_eqI, wp_neI, wp_gt, wp_lt, wp_le, wp_ge, wp_eqS, wp_neS2, wp_negI, wp_part, wp_tup0, wp_tup1, wp_tup2, wp_tup3, wp_lenT, wp_lenL, wp_mkd, wp_add, wp_sub, wp_int, wp_cutT, asgTs]
    rw [e0]
    cases xs with
    | nil =>
      refine ⟨fun _ => ?_, fun k => absurd rfl k⟩
      refine wp_mono (rt (h.less (show b + 2 ≤ b + 3 by omega))) (fun f S' hq => ?_) fun _ _ h => h
      obtain ⟨y, rfl, hq⟩ := hq
      exact ⟨y, rfl, hq⟩
    | cons x0 xs0 =>
      refine ⟨fun k => (by cases k), fun _ => ?_⟩
      refine L.drawQ (b + 2) (by decide) (by decide) h fun i S1 i0 i1 h' => ?_
      simp only [bodyFuel, wp_seq, wp_seq0, x_asg, x_rtn, x_if, x_ex, x_sub, x_for, e_var, e_c, e_g, e_tup, e_lst, e_dnil, e_dnew, e_dct, e_bin, e_neg, e_cmp, e_chn, e_and, e_or, e_not, e_ite, e_idx, e_sl, e_rev, e_call, e_bi, e_rep, e_isi, e_me, e_comp, andE, orE, startE, wp_bnd, wp_ret, wp_some, wp_tru, wp_fail, wp_noex, wp_guard, isiM, wp_view_d, wp_view_k, wp_viewd_d, wp_viewI_d, wp_viewI_k, wp_viewc_d, l_cons, l_nil, itE, isT, if_pos, itemsD, asgT, testsE, wipeE, List.set_cons_zero, List.set_cons_succ, List.getElem?_cons_zero, List.getElem?_cons_succ, Option.join_some, List.map_cons, List.map_nil, List.cons_append, List.nil_append, List.length_cons, List.length_nil, List.replicate_succ, List.replicate_zero, constD, Option.map_some, mkRes, if_true, if_false, Bool.false_eq_true, Bool.not_true, Bool.not_false, List.any_cons, List.any_nil, Bool.or_false, Bool.false_or, Bool.true_or, optE, wp_ite, true_implies, false_implies, not_true_eq_false, not_false_eq_true, and_true, true_and, x_par, wp_par2, wp_par3, x_cnt, x_raise, x_pass, x_brk, x_aug, e_callk, dataV, wp_raise, wp_eqI, wp_neI, wp_gt, wp_lt, wp_le, wp_ge, wp_eqS, wp_neS2, wp_negI, wp_part, wp_tup0, wp_tup1, wp_tup2, wp_tup3, wp_lenT, wp_lenL, wp_mkd, wp_add, wp_sub, wp_int, wp_cutT, asgTs]
      refine ⟨fun _ => ?_, fun _ => q2 _ _ rfl (by simp) h'⟩
      refine wp_mono (rt h') (fun f S' hq => ?_) fun _ _ h => h
      obtain ⟨y, rfl, hq⟩ := hq
      exact ⟨y, rfl, hq⟩
  | _ =>
    simp only [bodyFuel, wp_seq, wp_seq0, x_asg, x_rtn, x_if, x_ex, x_sub, x_for, e_var, e_c, e_g, e_tup, e_lst, e_dnil, e_dnew, e_dct, e_bin, e_neg, e_cmp, e_chn, e_and, e_or, e_not, e_ite, e_idx, e_sl, e_rev, e_call, e_bi, e_rep, e_isi, e_me, e_comp, andE, orE, startE, wp_bnd, wp_ret, wp_some, wp_tru, wp_fail, wp_noex, wp_guard, isiM, wp_view_d, wp_view_k, wp_viewd_d, wp_viewI_d, wp_viewI_k, wp_viewc_d, l_cons, l_nil, itE, isT, if_pos, itemsD, asgT, testsE, wipeE, List.set_cons_zero, List.set_cons_succ, List.getElem?_cons_zero, List.getElem?_cons_succ, Option.join_some, List.map_cons, List.map_nil, List.cons_append, List.nil_append, List.length_cons, List.length_nil, List.replicate_succ, List.replicate_zero, constD, Option.map_some, mkRes, if_true, if_false, Bool.false_eq_true, Bool.not_true, Bool.not_false, List.any_cons, List.any_nil, Bool.or_false, Bool.false_or, Bool.true_or, optE, wp_ite, true_implies, false_implies, not_true_eq_false, not_false_eq_true, and_true, true_and, x_par, wp_par2, wp_par3, x_cnt, x_raise, x_pass, x_brk, x_aug, e_callk, dataV, wp_raise, wp_eqI, wp_neI, wp_gt, wp_lt, wp_le, wp_ge, wp_eqS, wp_neS2, wp_negI, wp_part, wp_tup0, wp_tup1, wp_tup2, wp_tup3, wp_lenT, wp_lenL, wp_mkd, wp_add, wp_sub, wp_int, wp_cutT, asgTs]
    refine wp_mono (rt (h.less (show b + 2 ≤ b + 3 by omega))) (fun f S' hq => ?_) fun _ _ h => h
    obtain ⟨y, rfl, hq⟩ := hq
    exact ⟨y, rfl, hq⟩
end
end Pm
end
section
set_option Elab.async false
set_option linter.all false
set_option maxRecDepth 100000
set_option maxHeartbeats 400000
namespace Pm
open PySem PySem.Spec L2 Ev
section
variable {Γ : Tab} {G : List (Str × Val)} {κ : DeckK} (L : Lw Γ κ) {U S : List Cell} {E : Exn → List Cell → Prop} {n : Nat} {odd : List PyData}
include L
theorem c_bent (P : Pl Γ G) {D W : Nat} (hd : odd ≠ [] ∧ odd.length ≤ 1000 ∧ ∀ x ∈ odd, Sm D W x) (hW : W ≤ 100000) : ∀ (d : Nat) {n w b : Nat} {x : PyData} {S : List Cell} {Q : Val → List Cell → Prop}, Sm d w x → w ≤ 100000 → Deck κ U (b + 4 * (d + 1)) S → (∀ y S', Sm (d + D) (2 * w + W) y → Deck κ U b S' → Q (.d y) S') → wp (callF Γ G (n + d + 3) "_law_bent" [.r 1, .d x, .d (.list odd)]) S Q E := by
  intro d
  induction d with
  | zero =>
    intro n w b x S Q hx hw h q
    refine call_deckD (c := b) P.k__law_bent rfl rfl h ?_
    unfold f__law_bent
    rw [bent_body]
    refine wp_mono (bent_head L (b := b) (Q := fun y S' => Deck κ U b S' ∧ Q (.d y) S') hd (h.less (by omega)) (fun y S' hy hD => ⟨hD, q y S' (hy.mono (by omega) (by omega)) hD⟩) fun xs S' e _ _ => ?_) (fun f S' hq => ?_) fun _ _ h => h
    · subst e; exact absurd hx.untuple.1 (by omega)
    · obtain ⟨y, rfl, a, b⟩ := hq
      exact ⟨_, rfl, a, b⟩
  | succ d ih =>
    intro n w b x S Q hx hw h q
    refine call_deckD (c := b) P.k__law_bent rfl rfl h ?_
    unfold f__law_bent
    rw [bent_body]
    refine wp_mono (bent_head L (b := b + 4 * (d + 1)) (Q := fun y S' => Deck κ U b S' ∧ Q (.d y) S') hd (h.less (by omega)) (fun y S' hy hD => ⟨hD.less (by omega), q y S' (hy.mono (by omega) (by omega)) (hD.less (by omega))⟩) fun xs S' e hne hD => ?_) (fun f S' hq => ?_) fun _ _ h => h
    · subst e
      have hl := hx.untuple.2
      refine wp_mono (bent_rest L (D := D) (W := W) (d := d) (w := w) (c := b) (b := b + 4 * (d + 1)) hw hl hne hD (fun {x S Q} hxm hD q => ?_) hW (by omega)) (fun f S' hq => ?_) fun _ _ h => h
      · have hxs := hl.mem hxm
        exact ih (n := n) ⟨hxs.s, hxs.l, hxs.dp, Nat.le_refl _⟩ (Nat.le_trans hxs.wt hw) hD q
      · obtain ⟨y, rfl, hy, hD⟩ := hq
        exact ⟨y, rfl, hD, q y S' hy hD⟩
    · obtain ⟨y, rfl, a, b⟩ := hq
      exact ⟨_, rfl, a, b⟩
end
end Pm
end
section
set_option Elab.async false
set_option linter.all false
set_option maxRecDepth 100000
set_option maxHeartbeats 400000
namespace Pm
open PySem PySem.Spec L2 Ev
theorem st3_sm {s : Int} {l r : List Nat} {k : Nat} (h0 : 0 ≤ s) (h1 : s ≤ 300) (hl : Wd l) (hr : Wd r) (kl : l.length ≤ k) (kr : r.length ≤ k) : Sm 1 (2 * k + 20) (st3 s l r) :=
  (Sm.tuple (SmL.cons (sm_int h0 h1) (SmL.cons (hl.str (d := 0) (w := k) kl) (SmL.cons (hr.str (d := 0) (w := k) kr) (SmL.nil (w := 0)))))).mono (by decide) (by omega)
/-- what a step leads to -/
theorem stepD_is {xs : List PyData} {s : Int} {l r : List Nat} (hm : xs.all (stateD xs.length) = true) (h0 : 0 ≤ s) (h1 : s ≤ xs.length) (hl : Wd l) (hr : Wd r) (kl : l.length ≤ 9999) (kr : r.length ≤ 9999) : ∃ t l' r', stepD xs s l r = st3 t l' r' ∧ 0 ≤ t ∧ t ≤ xs.length ∧ Wd l' ∧ Wd r' ∧ l'.length ≤ l.length + 1 ∧ r'.length ≤ r.length + 1 := by
  unfold stepD
  by_cases h : s = xs.length
  · rw [if_pos h]
    exact ⟨s, l, r, rfl, h0, h1, hl, hr, by omega, by omega⟩
  · rw [if_neg h]
    obtain ⟨x, _, hx, eX⟩ := idx_get h0 (show s < xs.length by omega)
    obtain ⟨rs, t, d, rfl, e1, e2, t0, t1⟩ := state_rule (List.all_eq_true.mp hm x hx) l
    rw [eX]
    have hw := doneL_wd (d := d) hl.1 hr.1
    have hn := doneL_len d l r
    refine ⟨t, (doneL d l r).1, (doneL d l r).2, ?_, t0, t1, ⟨hw.1, by omega⟩, ⟨hw.2, by omega⟩, hn.1, hn.2⟩
    simp only [stepR, e1]
theorem stepD_sm {xs : List PyData} {s : Int} {l r : List Nat} {p q : Nat} (hm : xs.all (stateD xs.length) = true) (hn : xs.length ≤ 300) (h0 : 0 ≤ s) (h1 : s ≤ xs.length) (hl : Wd l) (hr : Wd r) (kl : l.length ≤ p) (kr : r.length ≤ q) (hp : p + q ≤ 9000 := by decide) : Sm 1 (2 * (p + q + 1) + 20) (stepD xs s l r) := by
  obtain ⟨t, l', r', e, t0, t1, hl', hr', n1, n2⟩ := stepD_is hm h0 h1 hl hr (by omega) (by omega)
  rw [e]
  exact st3_sm t0 (by omega) hl' hr' (by omega) (by omega)
theorem wp_tried {ns i : Nat} {w : HX} {hs : List (Str × Str)} {h : HT} {m : M Val} {S : List Cell} {Q : Val → List Cell → Prop} {E : Exn → List Cell → Prop}
    (hm : wp m S (fun v S' => ∃ d r, v = .d d ∧ hev noExn ((List.replicate (if i < ns then ns else i + 1) none).set i (some (.d d))) w = some r ∧ Q (.d r) S') (fun y S' => (y.cls, y.fld) ∈ hs ∧ wp (hexec y h (List.replicate ns none)) S' Q E)) :
    wp (fun S => triedM ns i w hs h (m S)) S Q E := by
  cases e : m S with
  | ok v S' =>
    rw [wp_of e] at hm
    obtain ⟨d, r, rfl, e1, q⟩ := hm
    refine (wp_of (a := .d r) (S' := S') ?_).mpr q
    show triedM ns i w hs h (m S) = _
    rw [e]
    simp only [triedM, e1]
    rfl
  | ex y S' =>
    unfold wp at hm
    rw [e] at hm
    have : (fun S => triedM ns i w hs h (m S)) S = hexec y h (List.replicate ns none) S' := by
      show triedM ns i w hs h (m S) = _
      rw [e]
      simp only [triedM, if_pos hm.1]
    have hm2 := hm.2
    unfold wp at hm2 ⊢
    rw [this]
    exact hm2
  | no => unfold wp at hm; rw [e] at hm; exact hm.elim
def triedHs : List (Str × Str) := [(("BadWord" : PySem.Str), ("thing" : PySem.Str)), (("BadNumber" : PySem.Str), ("thing" : PySem.Str)), (("BadStanding" : PySem.Str), ("thing" : PySem.Str)), (("BadMachine" : PySem.Str), ("thing" : PySem.Str))]
def triedW : HX := .tup [(.c (.str ("returned" : PySem.Str))), (.rep (.var 1))]
def triedH : HT := .asg 2 (.tup [(.isx ("BadMachine" : PySem.Str)), (.isx ("BadStanding" : PySem.Str)), (.isx ("BadWord" : PySem.Str)), (.isx ("BadNumber" : PySem.Str))]) (.ret (.tup [(.c (.str ("raised" : PySem.Str))), (.var 2), (.ite (.isin (.c (.bool true)) (.var 2)) (.rep (.fld ("thing" : PySem.Str))) (.c .none))]))
def retD (x : PyData) : PyData := .tuple [.str "returned", .str x.shown]
def raiD (k : Nat) (x : PyData) : PyData := .tuple [.str "raised", .tuple [.bool (k == 0), .bool (k == 1), .bool (k == 2), .bool (k == 3)], .str x.shown]
def exN (k : Nat) (x : PyData) : Exn := ⟨match k with
  | 0 => "BadMachine"
  | 1 => "BadStanding"
  | 2 => "BadWord"
  | _ => "BadNumber", "thing", x⟩
theorem hev_ret {x : PyData} (hx : reprD x = some (.str x.shown)) : hev noExn ((List.replicate (if 1 < 4 then 4 else 1 + 1) none).set 1 (some (.d x))) triedW = some (retD x) := by
  simp [triedW, hev, hevs, constD, hx, retD]
theorem hex_rai {k : Nat} (hk : k < 4) {x : PyData} (hx : reprD x = some (.str x.shown)) : hexec (exN k x) triedH (List.replicate 4 none) = lift (some (.d (raiD k x))) := by
  have e : ∀ a b : Str, a ≠ b → decide (a = b) = false := fun a b h => decide_eq_false h
  have n01 : ¬ (("BadMachine" : Str) = "BadStanding") := by decide +kernel
  have n02 : ¬ (("BadMachine" : Str) = "BadWord") := by decide +kernel
  have n03 : ¬ (("BadMachine" : Str) = "BadNumber") := by decide +kernel
  have n12 : ¬ (("BadStanding" : Str) = "BadWord") := by decide +kernel
  have n13 : ¬ (("BadStanding" : Str) = "BadNumber") := by decide +kernel
  have n23 : ¬ (("BadWord" : Str) = "BadNumber") := by decide +kernel
  have a1 : ∀ a b c d, inD (.bool true) (.tuple [.bool a, .bool b, .bool c, .bool d]) = some (a || (b || (c || d))) := by
    intro a b c d
    cases a <;> cases b <;> cases c <;> cases d <;> rfl
  match k, hk with
  | 0, _ => simp [triedH, hexec, hev, hevs, constD, hx, raiD, exN, n01, n02, n03, a1]
  | 1, _ => simp [triedH, hexec, hev, hevs, constD, hx, raiD, exN, Ne.symm n01, n12, n13, a1]
  | 2, _ => simp [triedH, hexec, hev, hevs, constD, hx, raiD, exN, Ne.symm n02, Ne.symm n12, n23, a1]
  | 3, _ => simp [triedH, hexec, hev, hevs, constD, hx, raiD, exN, Ne.symm n03, Ne.symm n13, Ne.symm n23, a1]
theorem eq_ret (x y : PyData) (h : x.shown = y.shown) : eqG eqN (retD x) (retD y) = some true := by
  show some ((("returned" : Str) == "returned") && ((x.shown == y.shown) && true)) = _
  rw [h]; simp
theorem eq_rai (k : Nat) (x : PyData) : eqG eqN (raiD k x) (raiD k x) = some true := by
  show some ((("raised" : Str) == "raised") && ((((k == 0) == (k == 0)) && (((k == 1) == (k == 1)) && (((k == 2) == (k == 2)) && (((k == 3) == (k == 3)) && true)))) && ((x.shown == x.shown) && true))) = _
  simp
/-- what the law expects is what the call tells -/
inductive Told (k : Option Nat) (x : PyData) : PyData → Prop where
  | ret : k = none → Told k x (retD x)
  | rai (j : Nat) : k = some j → Told k x (raiD j x)
theorem Told.eq {k : Option Nat} {x y z : PyData} (a : Told k x y) (b : Told k x z) : eqG eqN y z = some true := by
  cases a with
  | ret e =>
    cases b with
    | ret _ => exact eq_ret x x rfl
    | rai j e2 => rw [e] at e2; cases e2
  | rai j e =>
    cases b with
    | ret e2 => rw [e] at e2; cases e2
    | rai j2 e2 =>
      rw [e] at e2
      cases e2
      exact eq_rai j x
theorem told_call {m : M Val} {S : List Cell} {k : Option Nat} {x : PyData} {d w : Nat} {Q : Val → List Cell → Prop} {E : Exn → List Cell → Prop} (hk : ∀ j, k = some j → j < 4) (hx : Sm d w x) (hd : d ≤ 100) (hw : w ≤ 200000)
    (hm : wp m S (fun v S' => v = .d x ∧ S' = S ∧ k = none) (fun y S' => ∃ j, k = some j ∧ y = exN j x ∧ S' = S)) (q : ∀ z, Told k x z → Q (.d z) S) :
    wp (fun S => triedM 4 1 triedW triedHs triedH (m S)) S Q E := by
  have hr := hx.repr hd hw
  refine wp_tried (wp_mono hm (fun v S' h => ?_) fun y S' h => ?_)
  · obtain ⟨rfl, rfl, hk⟩ := h
    exact ⟨_, _, rfl, hev_ret hr, q _ (.ret hk)⟩
  · obtain ⟨j, hj, rfl, rfl⟩ := h
    have hj4 := hk j hj
    refine ⟨?_, ?_⟩
    · match j, hj4 with
      | 0, _ => simp [exN, triedHs]
      | 1, _ => simp [exN, triedHs]
      | 2, _ => simp [exN, triedHs]
      | 3, _ => simp [exN, triedHs]
    · rw [hex_rai hj4 hr, wp_some]
      exact q _ (.rai j hj)
theorem c_bentN {Γ : Tab} {G : List (Str × Val)} {κ : DeckK} (L : Lw Γ κ) {U S : List Cell} {E : Exn → List Cell → Prop} {odd : List PyData} (P : Pl Γ G) {D W : Nat} (hd : odd ≠ [] ∧ odd.length ≤ 1000 ∧ ∀ x ∈ odd, Sm D W x) (hW : W ≤ 100000) {d N w b : Nat} (hN : d + 3 ≤ N) {x : PyData} {Q : Val → List Cell → Prop} (hx : Sm d w x) (hw : w ≤ 100000) (h : Deck κ U (b + 4 * (d + 1)) S) (q : ∀ y S', Sm (d + D) (2 * w + W) y → Deck κ U b S' → Q (.d y) S') : wp (callF Γ G N "_law_bent" [.r 1, .d x, .d (.list odd)]) S Q E := by
  obtain ⟨n, rfl⟩ : ∃ n, N = n + d + 3 := ⟨N - d - 3, by omega⟩
  exact c_bent L P hd hW d hx hw h q
theorem both (c A : Prop) : ((c → A) ∧ (¬ c → A)) = A := by
  by_cases h : c <;> simp [h]
theorem wp_triedP {C : Cfg} {n : Nat} {ρ : Ev.Env} {f : Str} {ns i : Nat} {w : HX} {hs : List (Str × Str)} {h : HT} {cf : Str} {as : List Nat} {vs : List Val} {cl : Str → List Val → M Val} {S : List Cell} {Q : Val → List Cell → Prop} {E : Exn → List Cell → Prop} (hv : slotsV ρ as = some vs) (hc : C.low = some cl) :
    wp (ev C (n + 1) (.tried f ns i w hs h cf as []) ρ) S Q E = wp (fun S => triedM ns i w hs h (cl cf vs S)) S Q E := by
  rw [e_tried, wp_bnd, hv, wp_some, wp_bnd]
  show wp (lift (some [])) S _ E = _
  rw [wp_some, wp_bnd]
  show wp (lift (some vs)) S _ E = _
  rw [wp_some, hc]
end Pm
end
section
set_option Elab.async false
set_option linter.all false
set_option maxRecDepth 100000
set_option maxHeartbeats 400000
namespace Pm
open PySem PySem.Spec L2 Ev
def wordB : List T := [.rtn (some (.and_ [(.isi [.str] (.var 0)), (.cmp .eq (.comp false (.var 1) (.var 1) (.ex (.var 0)) [(.cmp .nin (.var 1) (.tup [(.c (.str ("0" : PySem.Str))), (.c (.str ("1" : PySem.Str)))]))] [1]) (.lst false []))]))]
def standB : List T := [.if_ (.or_ [(.not_ (.isi [.tuple] (.var 1))), (.cmp .ne (.bi false .len [(.var 1)]) (.c (.int 3)))]) [.rtn (some (.c (.bool false)))] [], .rtn (some (.and_ [(.call ("_law_is_number" : PySem.Str) [(.idx (.var 1) (.c (.int 0)))]), (.cmp .le (.idx (.var 1) (.c (.int 0))) (.bi false .len [(.var 0)])), (.call ("_law_is_word" : PySem.Str) [(.idx (.var 1) (.c (.int 1)))]), (.call ("_law_is_word" : PySem.Str) [(.idx (.var 1) (.c (.int 2)))])]))]
section
variable {Γ : Tab} {G : List (Str × Val)} (P : Pl Γ G) {S : List Cell} {Q : Val → List Cell → Prop} {E : Exn → List Cell → Prop} {n : Nat}
theorem c_law_is_word {ps : List Str} (lk : lookF Γ "_law_is_word" = some ⟨1, 2, wordB, false, ps⟩) {x : PyData} (hx : lenOk x) : wp (callF Γ G (n + 1) "_law_is_word" [.d x]) S Q E = Q (.d (.bool (isWd x))) S := by
  refine wp_of (wp_to ?_)
  rw [wp_pure lk rfl rfl rfl, wp_run]
  simp only [wordB, bodyFuel, wp_seq, wp_seq0, x_asg, x_rtn, x_if, x_ex, x_sub, x_for, e_var, e_c, e_g, e_tup, e_lst, e_dnil, e_dnew, e_dct, e_bin, e_neg, e_cmp, e_chn, e_and, e_or, e_not, e_ite, e_idx, e_sl, e_rev, e_call, e_bi, e_rep, e_isi, e_me, e_comp, andE, orE, startE, wp_bnd, wp_ret, wp_some, wp_tru, wp_fail, wp_noex, wp_guard, isiM, wp_view_d, wp_view_k, wp_viewd_d, wp_viewI_d, wp_viewI_k, wp_viewc_d, l_cons, l_nil, itE, isT, if_pos, itemsD, asgT, testsE, wipeE, List.set_cons_zero, List.set_cons_succ, List.getElem?_cons_zero, List.getElem?_cons_succ, Option.join_some, List.map_cons, List.map_nil, List.cons_append, List.nil_append, List.length_cons, List.length_nil, List.replicate_succ, List.replicate_zero, constD, Option.map_some, mkRes, if_true, if_false, Bool.false_eq_true, Bool.not_true, Bool.not_false, List.any_cons, List.any_nil, Bool.or_false, Bool.false_or, Bool.true_or, optE, wp_ite, true_implies, false_implies, not_true_eq_false, not_false_eq_true, and_true, true_and, x_par, wp_par2, wp_par3, x_cnt, x_raise, x_pass, x_brk, x_aug, e_callk, dataV, wp_raise, wp_eqI, wp_neI, wp_gt, wp_lt, wp_le, wp_ge, wp_eqS, wp_neS2, wp_negI, wp_part, wp_tup0, wp_tup1, wp_tup2, wp_tup3, wp_lenT, wp_lenL, wp_mkd, wp_add, wp_sub, wp_int, wp_cutT, asgTs]
  cases x with
  | str z =>
    have hl : z.cps.toList.length ≤ sizeLine := sz1 _ (by simpa using (show z.cps.size ≤ 1000000 from hx))
    simp only [bodyFuel, wp_seq, wp_seq0, x_asg, x_rtn, x_if, x_ex, x_sub, x_for, e_var, e_c, e_g, e_tup, e_lst, e_dnil, e_dnew, e_dct, e_bin, e_neg, e_cmp, e_chn, e_and, e_or, e_not, e_ite, e_idx, e_sl, e_rev, e_call, e_bi, e_rep, e_isi, e_me, e_comp, andE, orE, startE, wp_bnd, wp_ret, wp_some, wp_tru, wp_fail, wp_noex, wp_guard, isiM, wp_view_d, wp_view_k, wp_viewd_d, wp_viewI_d, wp_viewI_k, wp_viewc_d, l_cons, l_nil, itE, isT, if_pos, itemsD, asgT, testsE, wipeE, List.set_cons_zero, List.set_cons_succ, List.getElem?_cons_zero, List.getElem?_cons_succ, Option.join_some, List.map_cons, List.map_nil, List.cons_append, List.nil_append, List.length_cons, List.length_nil, List.replicate_succ, List.replicate_zero, constD, Option.map_some, mkRes, if_true, if_false, Bool.false_eq_true, Bool.not_true, Bool.not_false, List.any_cons, List.any_nil, Bool.or_false, Bool.false_or, Bool.true_or, optE, wp_ite, true_implies, false_implies, not_true_eq_false, not_false_eq_true, and_true, true_and, x_par, wp_par2, wp_par3, x_cnt, x_raise, x_pass, x_brk, x_aug, e_callk, dataV, wp_raise, wp_eqI, wp_neI, wp_gt, wp_lt, wp_le, wp_ge, wp_eqS, wp_neS2, wp_negI, wp_part, wp_tup0, wp_tup1, wp_tup2, wp_tup3, wp_lenT, wp_lenL, wp_mkd, wp_add, wp_sub, wp_int, wp_cutT, asgTs]
    have e0 : ("0" : Str) = sign 48 := by decide +kernel
    have e1 : ("1" : Str) = sign 49 := by decide +kernel
    have e : ∀ a b : Nat, (sign a == sign b) = decide (b = a) := fun a b => by
      by_cases h : b = a
      · subst h; simp
      · rw [decide_eq_false h]
        exact beq_eq_false_iff_ne.mpr fun q => h ((sign_eq a b).mp q).symm
    refine wp_comp (fun v => match v with
      | .d (.str s) => if (("0" : Str) == s || ("1" : Str) == s) = true then none else some (.d (.str s))
      | _ => none) (fun v hv => ?_) ?_
    · simp only [List.mem_map] at hv
      obtain ⟨c, ⟨d, hd, rfl⟩, rfl⟩ := hv
      simp only [bodyFuel, wp_seq, wp_seq0, x_asg, x_rtn, x_if, x_ex, x_sub, x_for, e_var, e_c, e_g, e_tup, e_lst, e_dnil, e_dnew, e_dct, e_bin, e_neg, e_cmp, e_chn, e_and, e_or, e_not, e_ite, e_idx, e_sl, e_rev, e_call, e_bi, e_rep, e_isi, e_me, e_comp, andE, orE, startE, wp_bnd, wp_ret, wp_some, wp_tru, wp_fail, wp_noex, wp_guard, isiM, wp_view_d, wp_view_k, wp_viewd_d, wp_viewI_d, wp_viewI_k, wp_viewc_d, l_cons, l_nil, itE, isT, if_pos, itemsD, asgT, testsE, wipeE, List.set_cons_zero, List.set_cons_succ, List.getElem?_cons_zero, List.getElem?_cons_succ, Option.join_some, List.map_cons, List.map_nil, List.cons_append, List.nil_append, List.length_cons, List.length_nil, List.replicate_succ, List.replicate_zero, constD, Option.map_some, mkRes, if_true, if_false, Bool.false_eq_true, Bool.not_true, Bool.not_false, List.any_cons, List.any_nil, Bool.or_false, Bool.false_or, Bool.true_or, optE, wp_ite, true_implies, false_implies, not_true_eq_false, not_false_eq_true, and_true, true_and, x_par, wp_par2, wp_par3, x_cnt, x_raise, x_pass, x_brk, x_aug, e_callk, dataV, wp_raise, wp_eqI, wp_neI, wp_gt, wp_lt, wp_le, wp_ge, wp_eqS, wp_neS2, wp_negI, wp_part, wp_tup0, wp_tup1, wp_tup2, wp_tup3, wp_lenT, wp_lenL, wp_mkd, wp_add, wp_sub, wp_int, wp_cutT, asgTs]
      rw [wp_nin_d]
      show wp (lift (anyEq (.str (sign d)) (([("0" : Str), ("1" : Str)] : List Str).map .str))) [] _ _
      rw [anyEq_strs, wp_some]
      simp only [List.any_cons, List.any_nil, Bool.or_false]
      cases hc : (("0" : Str) == sign d || ("1" : Str) == sign d)
      · simp only [bodyFuel, wp_seq, wp_seq0, x_asg, x_rtn, x_if, x_ex, x_sub, x_for, e_var, e_c, e_g, e_tup, e_lst, e_dnil, e_dnew, e_dct, e_bin, e_neg, e_cmp, e_chn, e_and, e_or, e_not, e_ite, e_idx, e_sl, e_rev, e_call, e_bi, e_rep, e_isi, e_me, e_comp, andE, orE, startE, wp_bnd, wp_ret, wp_some, wp_tru, wp_fail, wp_noex, wp_guard, isiM, wp_view_d, wp_view_k, wp_viewd_d, wp_viewI_d, wp_viewI_k, wp_viewc_d, l_cons, l_nil, itE, isT, if_pos, itemsD, asgT, testsE, wipeE, List.set_cons_zero, List.set_cons_succ, List.getElem?_cons_zero, List.getElem?_cons_succ, Option.join_some, List.map_cons, List.map_nil, List.cons_append, List.nil_append, List.length_cons, List.length_nil, List.replicate_succ, List.replicate_zero, constD, Option.map_some, mkRes, if_true, if_false, Bool.false_eq_true, Bool.not_true, Bool.not_false, List.any_cons, List.any_nil, Bool.or_false, Bool.false_or, Bool.true_or, optE, wp_ite, true_implies, false_implies, not_true_eq_false, not_false_eq_true, and_true, true_and, x_par, wp_par2, wp_par3, x_cnt, x_raise, x_pass, x_brk, x_aug, e_callk, dataV, wp_raise, wp_eqI, wp_neI, wp_gt, wp_lt, wp_le, wp_ge, wp_eqS, wp_neS2, wp_negI, wp_part, wp_tup0, wp_tup1, wp_tup2, wp_tup3, wp_lenT, wp_lenL, wp_mkd, wp_add, wp_sub, wp_int, wp_cutT, asgTs, hc]
      · simp only [bodyFuel, wp_seq, wp_seq0, x_asg, x_rtn, x_if, x_ex, x_sub, x_for, e_var, e_c, e_g, e_tup, e_lst, e_dnil, e_dnew, e_dct, e_bin, e_neg, e_cmp, e_chn, e_and, e_or, e_not, e_ite, e_idx, e_sl, e_rev, e_call, e_bi, e_rep, e_isi, e_me, e_comp, andE, orE, startE, wp_bnd, wp_ret, wp_some, wp_tru, wp_fail, wp_noex, wp_guard, isiM, wp_view_d, wp_view_k, wp_viewd_d, wp_viewI_d, wp_viewI_k, wp_viewc_d, l_cons, l_nil, itE, isT, if_pos, itemsD, asgT, testsE, wipeE, List.set_cons_zero, List.set_cons_succ, List.getElem?_cons_zero, List.getElem?_cons_succ, Option.join_some, List.map_cons, List.map_nil, List.cons_append, List.nil_append, List.length_cons, List.length_nil, List.replicate_succ, List.replicate_zero, constD, Option.map_some, mkRes, if_true, if_false, Bool.false_eq_true, Bool.not_true, Bool.not_false, List.any_cons, List.any_nil, Bool.or_false, Bool.false_or, Bool.true_or, optE, wp_ite, true_implies, false_implies, not_true_eq_false, not_false_eq_true, and_true, true_and, x_par, wp_par2, wp_par3, x_cnt, x_raise, x_pass, x_brk, x_aug, e_callk, dataV, wp_raise, wp_eqI, wp_neI, wp_gt, wp_lt, wp_le, wp_ge, wp_eqS, wp_neS2, wp_negI, wp_part, wp_tup0, wp_tup1, wp_tup2, wp_tup3, wp_lenT, wp_lenL, wp_mkd, wp_add, wp_sub, wp_int, wp_cutT, asgTs, hc]
    · have key : ∀ cs : List Nat, ((cs.map fun c => PyData.str (sign c)).map Val.d).filterMap (fun v => match v with
          | .d (.str s) => if (("0" : Str) == s || ("1" : Str) == s) = true then none else some (.d (.str s))
          | _ => none) = ((cs.filter fun c => !decide (c = 48 ∨ c = 49)).map fun c => PyData.str (sign c)).map Val.d := fun cs => by
        induction cs with
        | nil => rfl
        | cons c cs ih =>
          rw [List.map_cons, List.map_cons, List.filterMap_cons, ih, List.filter_cons]
          simp only [e0, e1, e]
          by_cases h1 : c = 48 <;> by_cases h2 : c = 49 <;> simp [h1, h2]
      rw [key, wp_list]
      refine ⟨?_, _, allD_d _, ?_⟩
      · rw [List.length_map, List.length_map]
        exact Nat.le_trans (List.length_filter_le _ _) hl
      · rw [wp_lst0, wp_eq_d, eq_listN, wp_some]
        refine ⟨_, rfl, ?_⟩
        congr 2
        show _ = wordD z
        unfold wordD
        generalize z.cps.toList = cs
        induction cs with
        | nil => rfl
        | cons c cs ih =>
          rw [List.filter_cons, List.all_cons]
          by_cases h1 : c = 48 ∨ c = 49
          · rw [decide_eq_true h1]; simpa using ih
          · rw [decide_eq_false h1]; rfl
  | _ => simp only [bodyFuel, wp_seq, wp_seq0, x_asg, x_rtn, x_if, x_ex, x_sub, x_for, e_var, e_c, e_g, e_tup, e_lst, e_dnil, e_dnew, e_dct, e_bin, e_neg, e_cmp, e_chn, e_and, e_or, e_not, e_ite, e_idx, e_sl, e_rev, e_call, e_bi, e_rep, e_isi, e_me, e_comp, andE, orE, startE, wp_bnd, wp_ret, wp_some, wp_tru, wp_fail, wp_noex, wp_guard, isiM, wp_view_d, wp_view_k, wp_viewd_d, wp_viewI_d, wp_viewI_k, wp_viewc_d, l_cons, l_nil, itE, isT, if_pos, itemsD, asgT, testsE, wipeE, List.set_cons_zero, List.set_cons_succ, List.getElem?_cons_zero, List.getElem?_cons_succ, Option.join_some, List.map_cons, List.map_nil, List.cons_append, List.nil_append, List.length_cons, List.length_nil, List.replicate_succ, List.replicate_zero, constD, Option.map_some, mkRes, if_true, if_false, Bool.false_eq_true, Bool.not_true, Bool.not_false, List.any_cons, List.any_nil, Bool.or_false, Bool.false_or, Bool.true_or, optE, wp_ite, true_implies, false_implies, not_true_eq_false, not_false_eq_true, and_true, true_and, x_par, wp_par2, wp_par3, x_cnt, x_raise, x_pass, x_brk, x_aug, e_callk, dataV, wp_raise, wp_eqI, wp_neI, wp_gt, wp_lt, wp_le, wp_ge, wp_eqS, wp_neS2, wp_negI, wp_part, wp_tup0, wp_tup1, wp_tup2, wp_tup3, wp_lenT, wp_lenL, wp_mkd, wp_add, wp_sub, wp_int, wp_cutT, asgTs]; exact ⟨_, rfl, rfl⟩
include P
theorem c_law_is_standing {ps pt : List Str} (lk : lookF Γ "_law_is_standing" = some ⟨2, 2, standB, false, ps⟩) (lw : lookF Γ "_law_is_word" = some ⟨1, 2, wordB, false, pt⟩) {xs : List PyData} {x : PyData} (hx : ∀ ys, x = .tuple ys → ∀ y ∈ ys, lenOk y) : wp (callF Γ G (n + 3) "_law_is_standing" [.d (.tuple xs), .d x]) S Q E = Q (.d (.bool (standD xs.length x))) S := by
  refine wp_of (wp_to ?_)
  rw [wp_pure lk rfl rfl rfl, wp_run]
  simp only [standB, bodyFuel, wp_seq, wp_seq0, x_asg, x_rtn, x_if, x_ex, x_sub, x_for, e_var, e_c, e_g, e_tup, e_lst, e_dnil, e_dnew, e_dct, e_bin, e_neg, e_cmp, e_chn, e_and, e_or, e_not, e_ite, e_idx, e_sl, e_rev, e_call, e_bi, e_rep, e_isi, e_me, e_comp, andE, orE, startE, wp_bnd, wp_ret, wp_some, wp_tru, wp_fail, wp_noex, wp_guard, isiM, wp_view_d, wp_view_k, wp_viewd_d, wp_viewI_d, wp_viewI_k, wp_viewc_d, l_cons, l_nil, itE, isT, if_pos, itemsD, asgT, testsE, wipeE, List.set_cons_zero, List.set_cons_succ, List.getElem?_cons_zero, List.getElem?_cons_succ, Option.join_some, List.map_cons, List.map_nil, List.cons_append, List.nil_append, List.length_cons, List.length_nil, List.replicate_succ, List.replicate_zero, constD, Option.map_some, mkRes, if_true, if_false, Bool.false_eq_true, Bool.not_true, Bool.not_false, List.any_cons, List.any_nil, Bool.or_false, Bool.false_or, Bool.true_or, optE, wp_ite, true_implies, false_implies, not_true_eq_false, not_false_eq_true, and_true, true_and, x_par, wp_par2, wp_par3, x_cnt, x_raise, x_pass, x_brk, x_aug, e_callk, dataV, wp_raise, wp_eqI, wp_neI, wp_gt, wp_lt, wp_le, wp_ge, wp_eqS, wp_neS2, wp_negI, wp_part, wp_tup0, wp_tup1, wp_tup2, wp_tup3, wp_lenT, wp_lenL, wp_mkd, wp_add, wp_sub, wp_int, wp_cutT, asgTs]
  cases x with
  | tuple ys =>
    simp only [bodyFuel, wp_seq, wp_seq0, x_asg, x_rtn, x_if, x_ex, x_sub, x_for, e_var, e_c, e_g, e_tup, e_lst, e_dnil, e_dnew, e_dct, e_bin, e_neg, e_cmp, e_chn, e_and, e_or, e_not, e_ite, e_idx, e_sl, e_rev, e_call, e_bi, e_rep, e_isi, e_me, e_comp, andE, orE, startE, wp_bnd, wp_ret, wp_some, wp_tru, wp_fail, wp_noex, wp_guard, isiM, wp_view_d, wp_view_k, wp_viewd_d, wp_viewI_d, wp_viewI_k, wp_viewc_d, l_cons, l_nil, itE, isT, if_pos, itemsD, asgT, testsE, wipeE, List.set_cons_zero, List.set_cons_succ, List.getElem?_cons_zero, List.getElem?_cons_succ, Option.join_some, List.map_cons, List.map_nil, List.cons_append, List.nil_append, List.length_cons, List.length_nil, List.replicate_succ, List.replicate_zero, constD, Option.map_some, mkRes, if_true, if_false, Bool.false_eq_true, Bool.not_true, Bool.not_false, List.any_cons, List.any_nil, Bool.or_false, Bool.false_or, Bool.true_or, optE, wp_ite, true_implies, false_implies, not_true_eq_false, not_false_eq_true, and_true, true_and, x_par, wp_par2, wp_par3, x_cnt, x_raise, x_pass, x_brk, x_aug, e_callk, dataV, wp_raise, wp_eqI, wp_neI, wp_gt, wp_lt, wp_le, wp_ge, wp_eqS, wp_neS2, wp_negI, wp_part, wp_tup0, wp_tup1, wp_tup2, wp_tup3, wp_lenT, wp_lenL, wp_mkd, wp_add, wp_sub, wp_int, wp_cutT, asgTs]
    by_cases h : ys.length = 3
    · have hl := hx _ rfl
      obtain ⟨a, b, c, rfl⟩ := is3 ys h
      refine ⟨fun k => absurd k (by simp), fun _ => ?_⟩
      rw [wp_idxT (y := a) rfl, c_law_is_number P]
      have hb' := hl b (by simp)
      have hc' := hl c (by simp)
      have i1 : atI [a, b, c] 1 = some b := rfl
      have i2 : atI [a, b, c] 2 = some c := rfl
      simp only [standD]
      cases a with
      | int i =>
        by_cases i0 : 0 ≤ i
        · simp only [bodyFuel, wp_seq, wp_seq0, x_asg, x_rtn, x_if, x_ex, x_sub, x_for, e_var, e_c, e_g, e_tup, e_lst, e_dnil, e_dnew, e_dct, e_bin, e_neg, e_cmp, e_chn, e_and, e_or, e_not, e_ite, e_idx, e_sl, e_rev, e_call, e_bi, e_rep, e_isi, e_me, e_comp, andE, orE, startE, wp_bnd, wp_ret, wp_some, wp_tru, wp_fail, wp_noex, wp_guard, isiM, wp_view_d, wp_view_k, wp_viewd_d, wp_viewI_d, wp_viewI_k, wp_viewc_d, l_cons, l_nil, itE, isT, if_pos, itemsD, asgT, testsE, wipeE, List.set_cons_zero, List.set_cons_succ, List.getElem?_cons_zero, List.getElem?_cons_succ, Option.join_some, List.map_cons, List.map_nil, List.cons_append, List.nil_append, List.length_cons, List.length_nil, List.replicate_succ, List.replicate_zero, constD, Option.map_some, mkRes, if_true, if_false, Bool.false_eq_true, Bool.not_true, Bool.not_false, List.any_cons, List.any_nil, Bool.or_false, Bool.false_or, Bool.true_or, optE, wp_ite, true_implies, false_implies, not_true_eq_false, not_false_eq_true, and_true, true_and, x_par, wp_par2, wp_par3, x_cnt, x_raise, x_pass, x_brk, x_aug, e_callk, dataV, wp_raise, wp_eqI, wp_neI, wp_gt, wp_lt, wp_le, wp_ge, wp_eqS, wp_neS2, wp_negI, wp_part, wp_tup0, wp_tup1, wp_tup2, wp_tup3, wp_lenT, wp_lenL, wp_mkd, wp_add, wp_sub, wp_int, wp_cutT, asgTs, isNum, decide_eq_true i0, wp_idxT (show atI [PyData.int i, b, c] 0 = some _ from rfl)]
          by_cases i1' : i ≤ (xs.length : Int)
          · have hbt : isBtw (.int i) 0 xs.length = true := by
              show (decide (0 ≤ i) && decide (i ≤ (xs.length : Int))) = true
              rw [decide_eq_true i0, decide_eq_true i1']; rfl
            simp only [bodyFuel, wp_seq, wp_seq0, x_asg, x_rtn, x_if, x_ex, x_sub, x_for, e_var, e_c, e_g, e_tup, e_lst, e_dnil, e_dnew, e_dct, e_bin, e_neg, e_cmp, e_chn, e_and, e_or, e_not, e_ite, e_idx, e_sl, e_rev, e_call, e_bi, e_rep, e_isi, e_me, e_comp, andE, orE, startE, wp_bnd, wp_ret, wp_some, wp_tru, wp_fail, wp_noex, wp_guard, isiM, wp_view_d, wp_view_k, wp_viewd_d, wp_viewI_d, wp_viewI_k, wp_viewc_d, l_cons, l_nil, itE, isT, if_pos, itemsD, asgT, testsE, wipeE, List.set_cons_zero, List.set_cons_succ, List.getElem?_cons_zero, List.getElem?_cons_succ, Option.join_some, List.map_cons, List.map_nil, List.cons_append, List.nil_append, List.length_cons, List.length_nil, List.replicate_succ, List.replicate_zero, constD, Option.map_some, mkRes, if_true, if_false, Bool.false_eq_true, Bool.not_true, Bool.not_false, List.any_cons, List.any_nil, Bool.or_false, Bool.false_or, Bool.true_or, optE, wp_ite, true_implies, false_implies, not_true_eq_false, not_false_eq_true, and_true, true_and, x_par, wp_par2, wp_par3, x_cnt, x_raise, x_pass, x_brk, x_aug, e_callk, dataV, wp_raise, wp_eqI, wp_neI, wp_gt, wp_lt, wp_le, wp_ge, wp_eqS, wp_neS2, wp_negI, wp_part, wp_tup0, wp_tup1, wp_tup2, wp_tup3, wp_lenT, wp_lenL, wp_mkd, wp_add, wp_sub, wp_int, wp_cutT, asgTs, decide_eq_true i1', wp_idxT (show atI [PyData.int i, b, c] 1 = some _ from rfl)]
            rw [c_law_is_word lw hb', hbt]
            cases hwb : isWd b
            · simp only [bodyFuel, wp_seq, wp_seq0, x_asg, x_rtn, x_if, x_ex, x_sub, x_for, e_var, e_c, e_g, e_tup, e_lst, e_dnil, e_dnew, e_dct, e_bin, e_neg, e_cmp, e_chn, e_and, e_or, e_not, e_ite, e_idx, e_sl, e_rev, e_call, e_bi, e_rep, e_isi, e_me, e_comp, andE, orE, startE, wp_bnd, wp_ret, wp_some, wp_tru, wp_fail, wp_noex, wp_guard, isiM, wp_view_d, wp_view_k, wp_viewd_d, wp_viewI_d, wp_viewI_k, wp_viewc_d, l_cons, l_nil, itE, isT, if_pos, itemsD, asgT, testsE, wipeE, List.set_cons_zero, List.set_cons_succ, List.getElem?_cons_zero, List.getElem?_cons_succ, Option.join_some, List.map_cons, List.map_nil, List.cons_append, List.nil_append, List.length_cons, List.length_nil, List.replicate_succ, List.replicate_zero, constD, Option.map_some, mkRes, if_true, if_false, Bool.false_eq_true, Bool.not_true, Bool.not_false, List.any_cons, List.any_nil, Bool.or_false, Bool.false_or, Bool.true_or, optE, wp_ite, true_implies, false_implies, not_true_eq_false, not_false_eq_true, and_true, true_and, x_par, wp_par2, wp_par3, x_cnt, x_raise, x_pass, x_brk, x_aug, e_callk, dataV, wp_raise, wp_eqI, wp_neI, wp_gt, wp_lt, wp_le, wp_ge, wp_eqS, wp_neS2, wp_negI, wp_part, wp_tup0, wp_tup1, wp_tup2, wp_tup3, wp_lenT, wp_lenL, wp_mkd, wp_add, wp_sub, wp_int, wp_cutT, asgTs]
              exact ⟨_, rfl, rfl⟩
            · simp only [bodyFuel, wp_seq, wp_seq0, x_asg, x_rtn, x_if, x_ex, x_sub, x_for, e_var, e_c, e_g, e_tup, e_lst, e_dnil, e_dnew, e_dct, e_bin, e_neg, e_cmp, e_chn, e_and, e_or, e_not, e_ite, e_idx, e_sl, e_rev, e_call, e_bi, e_rep, e_isi, e_me, e_comp, andE, orE, startE, wp_bnd, wp_ret, wp_some, wp_tru, wp_fail, wp_noex, wp_guard, isiM, wp_view_d, wp_view_k, wp_viewd_d, wp_viewI_d, wp_viewI_k, wp_viewc_d, l_cons, l_nil, itE, isT, if_pos, itemsD, asgT, testsE, wipeE, List.set_cons_zero, List.set_cons_succ, List.getElem?_cons_zero, List.getElem?_cons_succ, Option.join_some, List.map_cons, List.map_nil, List.cons_append, List.nil_append, List.length_cons, List.length_nil, List.replicate_succ, List.replicate_zero, constD, Option.map_some, mkRes, if_true, if_false, Bool.false_eq_true, Bool.not_true, Bool.not_false, List.any_cons, List.any_nil, Bool.or_false, Bool.false_or, Bool.true_or, optE, wp_ite, true_implies, false_implies, not_true_eq_false, not_false_eq_true, and_true, true_and, x_par, wp_par2, wp_par3, x_cnt, x_raise, x_pass, x_brk, x_aug, e_callk, dataV, wp_raise, wp_eqI, wp_neI, wp_gt, wp_lt, wp_le, wp_ge, wp_eqS, wp_neS2, wp_negI, wp_part, wp_tup0, wp_tup1, wp_tup2, wp_tup3, wp_lenT, wp_lenL, wp_mkd, wp_add, wp_sub, wp_int, wp_cutT, asgTs, wp_idxT (show atI [PyData.int i, b, c] 2 = some _ from rfl)]
              rw [c_law_is_word lw hc']
              exact ⟨_, rfl, rfl⟩
          · have hbt : isBtw (.int i) 0 xs.length = false := by
              show (decide (0 ≤ i) && decide (i ≤ (xs.length : Int))) = false
              rw [decide_eq_false i1', Bool.and_false]
            simp only [bodyFuel, wp_seq, wp_seq0, x_asg, x_rtn, x_if, x_ex, x_sub, x_for, e_var, e_c, e_g, e_tup, e_lst, e_dnil, e_dnew, e_dct, e_bin, e_neg, e_cmp, e_chn, e_and, e_or, e_not, e_ite, e_idx, e_sl, e_rev, e_call, e_bi, e_rep, e_isi, e_me, e_comp, andE, orE, startE, wp_bnd, wp_ret, wp_some, wp_tru, wp_fail, wp_noex, wp_guard, isiM, wp_view_d, wp_view_k, wp_viewd_d, wp_viewI_d, wp_viewI_k, wp_viewc_d, l_cons, l_nil, itE, isT, if_pos, itemsD, asgT, testsE, wipeE, List.set_cons_zero, List.set_cons_succ, List.getElem?_cons_zero, List.getElem?_cons_succ, Option.join_some, List.map_cons, List.map_nil, List.cons_append, List.nil_append, List.length_cons, List.length_nil, List.replicate_succ, List.replicate_zero, constD, Option.map_some, mkRes, if_true, if_false, Bool.false_eq_true, Bool.not_true, Bool.not_false, List.any_cons, List.any_nil, Bool.or_false, Bool.false_or, Bool.true_or, optE, wp_ite, true_implies, false_implies, not_true_eq_false, not_false_eq_true, and_true, true_and, x_par, wp_par2, wp_par3, x_cnt, x_raise, x_pass, x_brk, x_aug, e_callk, dataV, wp_raise, wp_eqI, wp_neI, wp_gt, wp_lt, wp_le, wp_ge, wp_eqS, wp_neS2, wp_negI, wp_part, wp_tup0, wp_tup1, wp_tup2, wp_tup3, wp_lenT, wp_lenL, wp_mkd, wp_add, wp_sub, wp_int, wp_cutT, asgTs, decide_eq_false i1', hbt]
            exact ⟨_, rfl, rfl⟩
        · have hbt : isBtw (.int i) 0 xs.length = false := by
            show (decide (0 ≤ i) && decide (i ≤ (xs.length : Int))) = false
            rw [decide_eq_false i0, Bool.false_and]
          simp only [bodyFuel, wp_seq, wp_seq0, x_asg, x_rtn, x_if, x_ex, x_sub, x_for, e_var, e_c, e_g, e_tup, e_lst, e_dnil, e_dnew, e_dct, e_bin, e_neg, e_cmp, e_chn, e_and, e_or, e_not, e_ite, e_idx, e_sl, e_rev, e_call, e_bi, e_rep, e_isi, e_me, e_comp, andE, orE, startE, wp_bnd, wp_ret, wp_some, wp_tru, wp_fail, wp_noex, wp_guard, isiM, wp_view_d, wp_view_k, wp_viewd_d, wp_viewI_d, wp_viewI_k, wp_viewc_d, l_cons, l_nil, itE, isT, if_pos, itemsD, asgT, testsE, wipeE, List.set_cons_zero, List.set_cons_succ, List.getElem?_cons_zero, List.getElem?_cons_succ, Option.join_some, List.map_cons, List.map_nil, List.cons_append, List.nil_append, List.length_cons, List.length_nil, List.replicate_succ, List.replicate_zero, constD, Option.map_some, mkRes, if_true, if_false, Bool.false_eq_true, Bool.not_true, Bool.not_false, List.any_cons, List.any_nil, Bool.or_false, Bool.false_or, Bool.true_or, optE, wp_ite, true_implies, false_implies, not_true_eq_false, not_false_eq_true, and_true, true_and, x_par, wp_par2, wp_par3, x_cnt, x_raise, x_pass, x_brk, x_aug, e_callk, dataV, wp_raise, wp_eqI, wp_neI, wp_gt, wp_lt, wp_le, wp_ge, wp_eqS, wp_neS2, wp_negI, wp_part, wp_tup0, wp_tup1, wp_tup2, wp_tup3, wp_lenT, wp_lenL, wp_mkd, wp_add, wp_sub, wp_int, wp_cutT, asgTs, isNum, decide_eq_false i0, hbt]
          exact ⟨_, rfl, rfl⟩
      | _ => simp only [bodyFuel, wp_seq, wp_seq0, x_asg, x_rtn, x_if, x_ex, x_sub, x_for, e_var, e_c, e_g, e_tup, e_lst, e_dnil, e_dnew, e_dct, e_bin, e_neg, e_cmp, e_chn, e_and, e_or, e_not, e_ite, e_idx, e_sl, e_rev, e_call, e_bi, e_rep, e_isi, e_me, e_comp, andE, orE, startE, wp_bnd, wp_ret, wp_some, wp_tru, wp_fail, wp_noex, wp_guard, isiM, wp_view_d, wp_view_k, wp_viewd_d, wp_viewI_d, wp_viewI_k, wp_viewc_d, l_cons, l_nil, itE, isT, if_pos, itemsD, asgT, testsE, wipeE, List.set_cons_zero, List.set_cons_succ, List.getElem?_cons_zero, List.getElem?_cons_succ, Option.join_some, List.map_cons, List.map_nil, List.cons_append, List.nil_append, List.length_cons, List.length_nil, List.replicate_succ, List.replicate_zero, constD, Option.map_some, mkRes, if_true, if_false, Bool.false_eq_true, Bool.not_true, Bool.not_false, List.any_cons, List.any_nil, Bool.or_false, Bool.false_or, Bool.true_or, optE, wp_ite, true_implies, false_implies, not_true_eq_false, not_false_eq_true, and_true, true_and, x_par, wp_par2, wp_par3, x_cnt, x_raise, x_pass, x_brk, x_aug, e_callk, dataV, wp_raise, wp_eqI, wp_neI, wp_gt, wp_lt, wp_le, wp_ge, wp_eqS, wp_neS2, wp_negI, wp_part, wp_tup0, wp_tup1, wp_tup2, wp_tup3, wp_lenT, wp_lenL, wp_mkd, wp_add, wp_sub, wp_int, wp_cutT, asgTs, isNum, isBtw]; exact ⟨_, rfl, rfl⟩
    · refine ⟨fun _ => ⟨_, rfl, by rw [standD_len h]⟩, fun k => absurd ?_ k⟩
      simp; omega
  | _ => simp only [bodyFuel, wp_seq, wp_seq0, x_asg, x_rtn, x_if, x_ex, x_sub, x_for, e_var, e_c, e_g, e_tup, e_lst, e_dnil, e_dnew, e_dct, e_bin, e_neg, e_cmp, e_chn, e_and, e_or, e_not, e_ite, e_idx, e_sl, e_rev, e_call, e_bi, e_rep, e_isi, e_me, e_comp, andE, orE, startE, wp_bnd, wp_ret, wp_some, wp_tru, wp_fail, wp_noex, wp_guard, isiM, wp_view_d, wp_view_k, wp_viewd_d, wp_viewI_d, wp_viewI_k, wp_viewc_d, l_cons, l_nil, itE, isT, if_pos, itemsD, asgT, testsE, wipeE, List.set_cons_zero, List.set_cons_succ, List.getElem?_cons_zero, List.getElem?_cons_succ, Option.join_some, List.map_cons, List.map_nil, List.cons_append, List.nil_append, List.length_cons, List.length_nil, List.replicate_succ, List.replicate_zero, constD, Option.map_some, mkRes, if_true, if_false, Bool.false_eq_true, Bool.not_true, Bool.not_false, List.any_cons, List.any_nil, Bool.or_false, Bool.false_or, Bool.true_or, optE, wp_ite, true_implies, false_implies, not_true_eq_false, not_false_eq_true, and_true, true_and, x_par, wp_par2, wp_par3, x_cnt, x_raise, x_pass, x_brk, x_aug, e_callk, dataV, wp_raise, wp_eqI, wp_neI, wp_gt, wp_lt, wp_le, wp_ge, wp_eqS, wp_neS2, wp_negI, wp_part, wp_tup0, wp_tup1, wp_tup2, wp_tup3, wp_lenT, wp_lenL, wp_mkd, wp_add, wp_sub, wp_int, wp_cutT, asgTs]; exact ⟨_, rfl, rfl⟩
end
theorem stand_parts2 {m d w : Nat} {x : PyData} (h : standD m x = true) (hx : Sm d w x) (hw : w ≤ 9000) : ∃ s l r, x = st3 s l r ∧ 0 ≤ s ∧ s ≤ m ∧ Wd l ∧ Wd r ∧ l.length + r.length ≤ w := by
  obtain ⟨s, l, r, rfl, h0, h1, hl, hr⟩ := stand_parts h fun z hz => ⟨hx.s, hx.l, Nat.le_of_lt hz, Nat.le_trans hx.wt (by omega)⟩
  refine ⟨s, l, r, rfl, h0, h1, hl, hr, ?_⟩
  have := hx.untuple.2.wt
  simp only [PyData.weightAll, PyData.weight] at this
  have e : ∀ l : List Nat, (wS l).cps.size = l.length := fun l => wS_len l
  rw [e, e] at this
  omega
end Pm
end
section
set_option Elab.async false
set_option linter.all false
set_option maxRecDepth 100000
set_option maxHeartbeats 400000
namespace Pm
open PySem PySem.Spec L2 Ev
structure Trip where
  s : Int
  l : List Nat
  r : List Nat
def Trip.d (p : Trip) : PyData := st3 p.s p.l p.r
def nxt (xs : List PyData) (p : Trip) : Trip := if p.s = xs.length then p else (match atI xs p.s with
  | some (.tuple rs) => (match rs[endN p.l]? with
    | some (.tuple [.int t, .str d]) => ⟨t, (doneL d p.l p.r).1, (doneL d p.l p.r).2⟩
    | _ => p)
  | _ => p)
def itN (xs : List PyData) : Nat → Trip → Trip
  | 0, p => p
  | k + 1, p => itN xs k (nxt xs p)
structure TOk (n : Nat) (k : Nat) (p : Trip) : Prop where
  s0 : 0 ≤ p.s
  s1 : p.s ≤ n
  wl : ∀ c ∈ p.l, c = 48 ∨ c = 49
  wr : ∀ c ∈ p.r, c = 48 ∨ c = 49
  kl : p.l.length ≤ k
  kr : p.r.length ≤ k
theorem TOk.mono {n k j : Nat} {p : Trip} (h : TOk n k p) (l : k ≤ j) : TOk n j p := ⟨h.s0, h.s1, h.wl, h.wr, Nat.le_trans h.kl l, Nat.le_trans h.kr l⟩
theorem TOk.Wl {n k : Nat} {p : Trip} (h : TOk n k p) (hk : k ≤ 10000) : Pm.Wd p.l := ⟨h.wl, Nat.le_trans h.kl hk⟩
theorem TOk.Wr {n k : Nat} {p : Trip} (h : TOk n k p) (hk : k ≤ 10000) : Pm.Wd p.r := ⟨h.wr, Nat.le_trans h.kr hk⟩
theorem nxt_ok {xs : List PyData} {k : Nat} {p : Trip} (hm : xs.all (stateD xs.length) = true) (h : TOk xs.length k p) : stepD xs p.s p.l p.r = (nxt xs p).d ∧ TOk xs.length (k + 1) (nxt xs p) := by
  unfold stepD nxt
  by_cases e : p.s = xs.length
  · rw [if_pos e, if_pos e]
    exact ⟨rfl, h.mono (by omega)⟩
  · rw [if_neg e, if_neg e]
    have h1 := h.s1
    obtain ⟨x, _, hx, eX⟩ := idx_get h.s0 (show p.s < xs.length by omega)
    obtain ⟨rs, t, d, rfl, e1, e2, t0, t1⟩ := state_rule (List.all_eq_true.mp hm x hx) p.l
    rw [eX]
    simp only [stepR, e1]
    have hw := doneL_wd (d := d) h.wl h.wr
    have hn := doneL_len d p.l p.r
    have := h.kl
    have := h.kr
    exact ⟨rfl, t0, t1, hw.1, hw.2, by show (doneL d p.l p.r).1.length ≤ _; omega, by show (doneL d p.l p.r).2.length ≤ _; omega⟩
theorem itN_ok {xs : List PyData} (hm : xs.all (stateD xs.length) = true) : ∀ (j : Nat) {k : Nat} {p : Trip}, TOk xs.length k p → TOk xs.length (k + j) (itN xs j p)
  | 0, k, p, h => h
  | j + 1, k, p, h => (itN_ok hm j (nxt_ok hm h).2).mono (by omega)
theorem itN_halt {xs : List PyData} {p : Trip} (h : p.s = xs.length) : ∀ j, itN xs j p = p
  | 0 => rfl
  | j + 1 => by
    show itN xs j (nxt xs p) = p
    have : nxt xs p = p := by unfold nxt; rw [if_pos h]
    rw [this, itN_halt h j]
theorem TOk.sm {n k : Nat} {p : Trip} (h : TOk n k p) (hn : n ≤ 300) (hk : k ≤ 10000) : Sm 1 (2 * k + 20) p.d := st3_sm h.s0 (by have := h.s1; omega) (h.Wl hk) (h.Wr hk) h.kl h.kr
theorem mach_len {n : Nat} : ∀ {xs : List PyData}, xs.all (stateD n) = true → xs.length * 4 ≤ PyData.weightAll xs
  | [], _ => Nat.zero_le _
  | x :: xs, h => by
    simp only [List.all_cons, Bool.and_eq_true] at h
    have ih := mach_len (xs := xs) (n := n) h.2
    obtain ⟨t0, t1, t2, d0, d1, d2, rfl, r0, r1, r2⟩ := state_parts h.1
    simp only [PyData.weightAll, PyData.weight, List.length_cons]
    omega
def afterB : List T := [.for_ (.var 3) (.rng [(.var 2)]) [.asg (.var 1) (.call ("_law_pile_step" : PySem.Str) [(.var 0), (.var 1)])], .rtn (some (.var 1))]
def lastB : List T := [.asg (.var 3) (.tup [(.c (.int 0)), (.var 1), (.c (.str ("" : PySem.Str)))]), .while_ (.and_ [(.cmp .gt (.var 2) (.c (.int 0))), (.cmp .lt (.idx (.var 3) (.c (.int 0))) (.bi false .len [(.var 0)]))]) [.asg (.var 3) (.call ("standing_behind" : PySem.Str) [(.var 0), (.var 3)]), .aug 2 .sub (.c (.int 1))], .rtn (some (.var 3))]
def needWB : List T := [.if_ (.not_ (.call ("is_word_value" : PySem.Str) [(.var 0)])) [.raise_ ("BadWord" : PySem.Str) ("thing" : PySem.Str) (.var 0)] []]
def needCB : List T := [.if_ (.or_ [(.not_ (.call ("is_integer" : PySem.Str) [(.var 0)])), (.cmp .lt (.var 0) (.c (.int 0)))]) [.raise_ ("BadNumber" : PySem.Str) ("thing" : PySem.Str) (.var 0)] []]
section
variable {Γ : Tab} {G : List (Str × Val)} (P : Pl Γ G) {S : List Cell} {Q : Val → List Cell → Prop} {E : Exn → List Cell → Prop} {n : Nat}
include P
theorem c_after {ps : List Str} (lk : lookF Γ "_law_after" = some ⟨3, 4, afterB, false, ps⟩) {xs : List PyData} {k : Nat} {p : Trip} {m : Int} (hm : xs.all (stateD xs.length) = true) (hp : TOk xs.length k p) (m0 : 0 ≤ m) (m1 : m < 2 ^ 62) (hk : k + m.toNat ≤ 9000) :
    wp (callF Γ G (n + 2) "_law_after" [.d (.tuple xs), .d p.d, .d (.int m)]) S Q E = Q (.d (itN xs m.toNat p).d) S := by
  refine wp_of (wp_to ?_)
  rw [wp_pure lk rfl rfl rfl, wp_run]
  unfold afterB
  simp only [bodyFuel, wp_seq, wp_seq0, x_asg, x_rtn, x_if, x_ex, x_sub, x_for, e_var, e_c, e_g, e_tup, e_lst, e_dnil, e_dnew, e_dct, e_bin, e_neg, e_cmp, e_chn, e_and, e_or, e_not, e_ite, e_idx, e_sl, e_rev, e_call, e_bi, e_rep, e_isi, e_me, e_comp, andE, orE, startE, wp_bnd, wp_ret, wp_some, wp_tru, wp_fail, wp_noex, wp_guard, isiM, wp_view_d, wp_view_k, wp_viewd_d, wp_viewI_d, wp_viewI_k, wp_viewc_d, l_cons, l_nil, itE, isT, if_pos, itemsD, asgT, testsE, wipeE, List.set_cons_zero, List.set_cons_succ, List.getElem?_cons_zero, List.getElem?_cons_succ, Option.join_some, List.map_cons, List.map_nil, List.cons_append, List.nil_append, List.length_cons, List.length_nil, List.replicate_succ, List.replicate_zero, constD, Option.map_some, mkRes, if_true, if_false, Bool.false_eq_true, Bool.not_true, Bool.not_false, List.any_cons, List.any_nil, Bool.or_false, Bool.false_or, Bool.true_or, optE, wp_ite, true_implies, false_implies, not_true_eq_false, not_false_eq_true, and_true, true_and, x_par, wp_par2, wp_par3, x_cnt, x_raise, x_pass, x_brk, x_aug, e_callk, dataV, wp_raise, wp_eqI, wp_neI, wp_gt, wp_lt, wp_le, wp_ge, wp_eqS, wp_neS2, wp_negI, wp_part, wp_tup0, wp_tup1, wp_tup2, wp_tup3, wp_lenT, wp_lenL, wp_mkd, wp_add, wp_sub, wp_int, wp_cutT, asgTs]
  rw [wp_rng1 m0 m1]
  refine wp_forN (fun i ρ S => S = [] ∧ ∃ (q : Trip) (j : Nat) (o : Option Val), ρ = [some (.d (.tuple xs)), some (.d q.d), some (.d (.int m)), o] ∧ TOk xs.length j q ∧ j + i ≤ 9000 ∧ itN xs i q = itN xs m.toNat p) (fun i v ρ S hv hI => ?_) ⟨rfl, p, k, _, rfl, hp, by rw [rangeL_len]; omega, by rw [rangeL_len]⟩ fun ρ S hI => ?_
  · obtain ⟨rfl, q, j, o, rfl, hq, hj, e⟩ := hI
    obtain ⟨e1, h1⟩ := nxt_ok hm hq
    simp only [bodyFuel, wp_seq, wp_seq0, x_asg, x_rtn, x_if, x_ex, x_sub, x_for, e_var, e_c, e_g, e_tup, e_lst, e_dnil, e_dnew, e_dct, e_bin, e_neg, e_cmp, e_chn, e_and, e_or, e_not, e_ite, e_idx, e_sl, e_rev, e_call, e_bi, e_rep, e_isi, e_me, e_comp, andE, orE, startE, wp_bnd, wp_ret, wp_some, wp_tru, wp_fail, wp_noex, wp_guard, isiM, wp_view_d, wp_view_k, wp_viewd_d, wp_viewI_d, wp_viewI_k, wp_viewc_d, l_cons, l_nil, itE, isT, if_pos, itemsD, asgT, testsE, wipeE, List.set_cons_zero, List.set_cons_succ, List.getElem?_cons_zero, List.getElem?_cons_succ, Option.join_some, List.map_cons, List.map_nil, List.cons_append, List.nil_append, List.length_cons, List.length_nil, List.replicate_succ, List.replicate_zero, constD, Option.map_some, mkRes, if_true, if_false, Bool.false_eq_true, Bool.not_true, Bool.not_false, List.any_cons, List.any_nil, Bool.or_false, Bool.false_or, Bool.true_or, optE, wp_ite, true_implies, false_implies, not_true_eq_false, not_false_eq_true, and_true, true_and, x_par, wp_par2, wp_par3, x_cnt, x_raise, x_pass, x_brk, x_aug, e_callk, dataV, wp_raise, wp_eqI, wp_neI, wp_gt, wp_lt, wp_le, wp_ge, wp_eqS, wp_neS2, wp_negI, wp_part, wp_tup0, wp_tup1, wp_tup2, wp_tup3, wp_lenT, wp_lenL, wp_mkd, wp_add, wp_sub, wp_int, wp_cutT, asgTs]
    rw [show q.d = st3 q.s q.l q.r from rfl, c_law_pile_step P hm hq.s0 hq.s1 (hq.Wl (by omega)) (hq.Wr (by omega)), e1]
    exact ⟨rfl, nxt xs q, j + 1, _, rfl, h1, by omega, e⟩
  · obtain ⟨rfl, q, j, o, rfl, hq, hj, e⟩ := hI
    simp only [bodyFuel, wp_seq, wp_seq0, x_asg, x_rtn, x_if, x_ex, x_sub, x_for, e_var, e_c, e_g, e_tup, e_lst, e_dnil, e_dnew, e_dct, e_bin, e_neg, e_cmp, e_chn, e_and, e_or, e_not, e_ite, e_idx, e_sl, e_rev, e_call, e_bi, e_rep, e_isi, e_me, e_comp, andE, orE, startE, wp_bnd, wp_ret, wp_some, wp_tru, wp_fail, wp_noex, wp_guard, isiM, wp_view_d, wp_view_k, wp_viewd_d, wp_viewI_d, wp_viewI_k, wp_viewc_d, l_cons, l_nil, itE, isT, if_pos, itemsD, asgT, testsE, wipeE, List.set_cons_zero, List.set_cons_succ, List.getElem?_cons_zero, List.getElem?_cons_succ, Option.join_some, List.map_cons, List.map_nil, List.cons_append, List.nil_append, List.length_cons, List.length_nil, List.replicate_succ, List.replicate_zero, constD, Option.map_some, mkRes, if_true, if_false, Bool.false_eq_true, Bool.not_true, Bool.not_false, List.any_cons, List.any_nil, Bool.or_false, Bool.false_or, Bool.true_or, optE, wp_ite, true_implies, false_implies, not_true_eq_false, not_false_eq_true, and_true, true_and, x_par, wp_par2, wp_par3, x_cnt, x_raise, x_pass, x_brk, x_aug, e_callk, dataV, wp_raise, wp_eqI, wp_neI, wp_gt, wp_lt, wp_le, wp_ge, wp_eqS, wp_neS2, wp_negI, wp_part, wp_tup0, wp_tup1, wp_tup2, wp_tup3, wp_lenT, wp_lenL, wp_mkd, wp_add, wp_sub, wp_int, wp_cutT, asgTs]
    exact ⟨_, rfl, by rw [← e]; rfl⟩
theorem c_last {ps : List Str} (lk : lookF Γ "last_standing" = some ⟨3, 4, lastB, false, ps⟩) {xs : List PyData} {k : Nat} {l : List Nat} {m : Int} (hm : xs.all (stateD xs.length) = true) (hl : Pm.Wd l) (hk : l.length ≤ k) (m0 : 0 ≤ m) (m1 : k + m.toNat ≤ 9000) :
    wp (callF Γ G (n + 3) "last_standing" [.d (.tuple xs), .d (.str (wS l)), .d (.int m)]) S Q E = Q (.d (itN xs m.toNat ⟨0, l, []⟩).d) S := by
  refine wp_of (wp_to ?_)
  rw [wp_pure lk rfl rfl rfl, wp_run]
  unfold lastB
  simp only [bodyFuel, wp_seq, wp_seq0, x_asg, x_rtn, x_if, x_ex, x_sub, x_for, e_var, e_c, e_g, e_tup, e_lst, e_dnil, e_dnew, e_dct, e_bin, e_neg, e_cmp, e_chn, e_and, e_or, e_not, e_ite, e_idx, e_sl, e_rev, e_call, e_bi, e_rep, e_isi, e_me, e_comp, andE, orE, startE, wp_bnd, wp_ret, wp_some, wp_tru, wp_fail, wp_noex, wp_guard, isiM, wp_view_d, wp_view_k, wp_viewd_d, wp_viewI_d, wp_viewI_k, wp_viewc_d, l_cons, l_nil, itE, isT, if_pos, itemsD, asgT, testsE, wipeE, List.set_cons_zero, List.set_cons_succ, List.getElem?_cons_zero, List.getElem?_cons_succ, Option.join_some, List.map_cons, List.map_nil, List.cons_append, List.nil_append, List.length_cons, List.length_nil, List.replicate_succ, List.replicate_zero, constD, Option.map_some, mkRes, if_true, if_false, Bool.false_eq_true, Bool.not_true, Bool.not_false, List.any_cons, List.any_nil, Bool.or_false, Bool.false_or, Bool.true_or, optE, wp_ite, true_implies, false_implies, not_true_eq_false, not_false_eq_true, and_true, true_and, x_par, wp_par2, wp_par3, x_cnt, x_raise, x_pass, x_brk, x_aug, e_callk, dataV, wp_raise, wp_eqI, wp_neI, wp_gt, wp_lt, wp_le, wp_ge, wp_eqS, wp_neS2, wp_negI, wp_part, wp_tup0, wp_tup1, wp_tup2, wp_tup3, wp_lenT, wp_lenL, wp_mkd, wp_add, wp_sub, wp_int, wp_cutT, asgTs, x_while]
  have hp : TOk xs.length k ⟨0, l, []⟩ := ⟨by simp, by simp, hl.1, by simp, hk, by simp⟩
  refine wp_whileN (fun i ρ S => S = [] ∧ ∃ (q : Trip) (j : Nat), ρ = [some (.d (.tuple xs)), some (.d (.str (wS l))), some (.d (.int (i : Nat))), some (.d q.d)] ∧ TOk xs.length j q ∧ j + i ≤ 9000 ∧ itN xs i q = itN xs m.toNat ⟨0, l, []⟩) m.toNat whileFuel (fun i ρ S hI => ?_) ⟨rfl, ⟨0, l, []⟩, k, by rw [Int.toNat_of_nonneg m0, sw_nil]; rfl, hp, m1, rfl⟩ (by unfold whileFuel; omega)
  obtain ⟨rfl, q, j, rfl, hq, hj, e⟩ := hI
  simp only [bodyFuel, wp_seq, wp_seq0, x_asg, x_rtn, x_if, x_ex, x_sub, x_for, e_var, e_c, e_g, e_tup, e_lst, e_dnil, e_dnew, e_dct, e_bin, e_neg, e_cmp, e_chn, e_and, e_or, e_not, e_ite, e_idx, e_sl, e_rev, e_call, e_bi, e_rep, e_isi, e_me, e_comp, andE, orE, startE, wp_bnd, wp_ret, wp_some, wp_tru, wp_fail, wp_noex, wp_guard, isiM, wp_view_d, wp_view_k, wp_viewd_d, wp_viewI_d, wp_viewI_k, wp_viewc_d, l_cons, l_nil, itE, isT, if_pos, itemsD, asgT, testsE, wipeE, List.set_cons_zero, List.set_cons_succ, List.getElem?_cons_zero, List.getElem?_cons_succ, Option.join_some, List.map_cons, List.map_nil, List.cons_append, List.nil_append, List.length_cons, List.length_nil, List.replicate_succ, List.replicate_zero, constD, Option.map_some, mkRes, if_true, if_false, Bool.false_eq_true, Bool.not_true, Bool.not_false, List.any_cons, List.any_nil, Bool.or_false, Bool.false_or, Bool.true_or, optE, wp_ite, true_implies, false_implies, not_true_eq_false, not_false_eq_true, and_true, true_and, x_par, wp_par2, wp_par3, x_cnt, x_raise, x_pass, x_brk, x_aug, e_callk, dataV, wp_raise, wp_eqI, wp_neI, wp_gt, wp_lt, wp_le, wp_ge, wp_eqS, wp_neS2, wp_negI, wp_part, wp_tup0, wp_tup1, wp_tup2, wp_tup3, wp_lenT, wp_lenL, wp_mkd, wp_add, wp_sub, wp_int, wp_cutT, asgTs]
  have hq0 : wp (idxM (.d q.d) (.d (.int 0))) = wp (idxM (.d (st3 q.s q.l q.r)) (.d (.int 0))) := rfl
  have fin : ∀ {v : PyData}, v = (itN xs m.toNat ⟨0, l, []⟩).d → ∃ x, freeze [] (.d v) = some x ∧ Val.d x = Val.d (itN xs m.toNat ⟨0, l, []⟩).d := fun h => ⟨_, rfl, by rw [h]⟩
  refine ⟨fun h1 => ?_, fun h1 => ?_⟩
  · have hi : 0 < i := by have := of_decide_eq_true h1; omega
    rw [show q.d = .tuple [.int q.s, .str (wS q.l), .str (wS q.r)] from rfl, wp_idxT (show atI _ 0 = some _ from rfl)]
    simp only [bodyFuel, wp_seq, wp_seq0, x_asg, x_rtn, x_if, x_ex, x_sub, x_for, e_var, e_c, e_g, e_tup, e_lst, e_dnil, e_dnew, e_dct, e_bin, e_neg, e_cmp, e_chn, e_and, e_or, e_not, e_ite, e_idx, e_sl, e_rev, e_call, e_bi, e_rep, e_isi, e_me, e_comp, andE, orE, startE, wp_bnd, wp_ret, wp_some, wp_tru, wp_fail, wp_noex, wp_guard, isiM, wp_view_d, wp_view_k, wp_viewd_d, wp_viewI_d, wp_viewI_k, wp_viewc_d, l_cons, l_nil, itE, isT, if_pos, itemsD, asgT, testsE, wipeE, List.set_cons_zero, List.set_cons_succ, List.getElem?_cons_zero, List.getElem?_cons_succ, Option.join_some, List.map_cons, List.map_nil, List.cons_append, List.nil_append, List.length_cons, List.length_nil, List.replicate_succ, List.replicate_zero, constD, Option.map_some, mkRes, if_true, if_false, Bool.false_eq_true, Bool.not_true, Bool.not_false, List.any_cons, List.any_nil, Bool.or_false, Bool.false_or, Bool.true_or, optE, wp_ite, true_implies, false_implies, not_true_eq_false, not_false_eq_true, and_true, true_and, x_par, wp_par2, wp_par3, x_cnt, x_raise, x_pass, x_brk, x_aug, e_callk, dataV, wp_raise, wp_eqI, wp_neI, wp_gt, wp_lt, wp_le, wp_ge, wp_eqS, wp_neS2, wp_negI, wp_part, wp_tup0, wp_tup1, wp_tup2, wp_tup3, wp_lenT, wp_lenL, wp_mkd, wp_add, wp_sub, wp_int, wp_cutT, asgTs]
    by_cases h2 : decide (q.s < (xs.length : Int)) = true
    · rw [if_pos h2]
      obtain ⟨e1, hT⟩ := nxt_ok hm hq
      rw [show (PyData.tuple [.int q.s, .str (wS q.l), .str (wS q.r)]) = st3 q.s q.l q.r from rfl, c_standing_behind P hm hq.s0 hq.s1 (hq.Wl (by omega)) (hq.Wr (by omega)), e1]
      show wp (Ev.ret (Val.d (PyData.int ((i : Int) - 1)))) _ _ _
      simp only [bodyFuel, wp_seq, wp_seq0, x_asg, x_rtn, x_if, x_ex, x_sub, x_for, e_var, e_c, e_g, e_tup, e_lst, e_dnil, e_dnew, e_dct, e_bin, e_neg, e_cmp, e_chn, e_and, e_or, e_not, e_ite, e_idx, e_sl, e_rev, e_call, e_bi, e_rep, e_isi, e_me, e_comp, andE, orE, startE, wp_bnd, wp_ret, wp_some, wp_tru, wp_fail, wp_noex, wp_guard, isiM, wp_view_d, wp_view_k, wp_viewd_d, wp_viewI_d, wp_viewI_k, wp_viewc_d, l_cons, l_nil, itE, isT, if_pos, itemsD, asgT, testsE, wipeE, List.set_cons_zero, List.set_cons_succ, List.getElem?_cons_zero, List.getElem?_cons_succ, Option.join_some, List.map_cons, List.map_nil, List.cons_append, List.nil_append, List.length_cons, List.length_nil, List.replicate_succ, List.replicate_zero, constD, Option.map_some, mkRes, if_true, if_false, Bool.false_eq_true, Bool.not_true, Bool.not_false, List.any_cons, List.any_nil, Bool.or_false, Bool.false_or, Bool.true_or, optE, wp_ite, true_implies, false_implies, not_true_eq_false, not_false_eq_true, and_true, true_and, x_par, wp_par2, wp_par3, x_cnt, x_raise, x_pass, x_brk, x_aug, e_callk, dataV, wp_raise, wp_eqI, wp_neI, wp_gt, wp_lt, wp_le, wp_ge, wp_eqS, wp_neS2, wp_negI, wp_part, wp_tup0, wp_tup1, wp_tup2, wp_tup3, wp_lenT, wp_lenL, wp_mkd, wp_add, wp_sub, wp_int, wp_cutT, asgTs]
      obtain ⟨i', rfl⟩ : ∃ i', i = i' + 1 := ⟨i - 1, by omega⟩
      refine ⟨i', by omega, nxt xs q, j + 1, ?_, hT, by omega, e⟩
      rw [show (((i' + 1 : Nat) : Int) - 1) = (i' : Int) by omega]
    · rw [if_neg h2]
      refine fin ?_
      have hs : q.s = xs.length := by
        have := hq.s1
        have : ¬ q.s < (xs.length : Int) := fun k => h2 (decide_eq_true k)
        omega
      rw [← e, itN_halt hs]
      rfl
  · have hi : i = 0 := by
      have : ¬ (0 : Int) < (i : Nat) := fun k => h1 (decide_eq_true k)
      omega
    subst hi
    exact fin (by rw [← e]; rfl)
theorem c_need_word {ps : List Str} (lk : lookF Γ "need_word" = some ⟨1, 1, needWB, false, ps⟩) {x : PyData} (hx : lenOk x) : wp (callF Γ G (n + 2) "need_word" [.d x]) S Q E = (if isWd x = true then Q (.d .none) S else E (exN 2 x) S) := by
  rw [wp_pure lk rfl rfl rfl, wp_run]
  unfold needWB
  simp only [bodyFuel, wp_seq, wp_seq0, x_asg, x_rtn, x_if, x_ex, x_sub, x_for, e_var, e_c, e_g, e_tup, e_lst, e_dnil, e_dnew, e_dct, e_bin, e_neg, e_cmp, e_chn, e_and, e_or, e_not, e_ite, e_idx, e_sl, e_rev, e_call, e_bi, e_rep, e_isi, e_me, e_comp, andE, orE, startE, wp_bnd, wp_ret, wp_some, wp_tru, wp_fail, wp_noex, wp_guard, isiM, wp_view_d, wp_view_k, wp_viewd_d, wp_viewI_d, wp_viewI_k, wp_viewc_d, l_cons, l_nil, itE, isT, if_pos, itemsD, asgT, testsE, wipeE, List.set_cons_zero, List.set_cons_succ, List.getElem?_cons_zero, List.getElem?_cons_succ, Option.join_some, List.map_cons, List.map_nil, List.cons_append, List.nil_append, List.length_cons, List.length_nil, List.replicate_succ, List.replicate_zero, constD, Option.map_some, mkRes, if_true, if_false, Bool.false_eq_true, Bool.not_true, Bool.not_false, List.any_cons, List.any_nil, Bool.or_false, Bool.false_or, Bool.true_or, optE, wp_ite, true_implies, false_implies, not_true_eq_false, not_false_eq_true, and_true, true_and, x_par, wp_par2, wp_par3, x_cnt, x_raise, x_pass, x_brk, x_aug, e_callk, dataV, wp_raise, wp_eqI, wp_neI, wp_gt, wp_lt, wp_le, wp_ge, wp_eqS, wp_neS2, wp_negI, wp_part, wp_tup0, wp_tup1, wp_tup2, wp_tup3, wp_lenT, wp_lenL, wp_mkd, wp_add, wp_sub, wp_int, wp_cutT, asgTs, c_is_word_value P hx]
  cases isWd x
  · simp only [bodyFuel, wp_seq, wp_seq0, x_asg, x_rtn, x_if, x_ex, x_sub, x_for, e_var, e_c, e_g, e_tup, e_lst, e_dnil, e_dnew, e_dct, e_bin, e_neg, e_cmp, e_chn, e_and, e_or, e_not, e_ite, e_idx, e_sl, e_rev, e_call, e_bi, e_rep, e_isi, e_me, e_comp, andE, orE, startE, wp_bnd, wp_ret, wp_some, wp_tru, wp_fail, wp_noex, wp_guard, isiM, wp_view_d, wp_view_k, wp_viewd_d, wp_viewI_d, wp_viewI_k, wp_viewc_d, l_cons, l_nil, itE, isT, if_pos, itemsD, asgT, testsE, wipeE, List.set_cons_zero, List.set_cons_succ, List.getElem?_cons_zero, List.getElem?_cons_succ, Option.join_some, List.map_cons, List.map_nil, List.cons_append, List.nil_append, List.length_cons, List.length_nil, List.replicate_succ, List.replicate_zero, constD, Option.map_some, mkRes, if_true, if_false, Bool.false_eq_true, Bool.not_true, Bool.not_false, List.any_cons, List.any_nil, Bool.or_false, Bool.false_or, Bool.true_or, optE, wp_ite, true_implies, false_implies, not_true_eq_false, not_false_eq_true, and_true, true_and, x_par, wp_par2, wp_par3, x_cnt, x_raise, x_pass, x_brk, x_aug, e_callk, dataV, wp_raise, wp_eqI, wp_neI, wp_gt, wp_lt, wp_le, wp_ge, wp_eqS, wp_neS2, wp_negI, wp_part, wp_tup0, wp_tup1, wp_tup2, wp_tup3, wp_lenT, wp_lenL, wp_mkd, wp_add, wp_sub, wp_int, wp_cutT, asgTs]; rfl
  · simp only [bodyFuel, wp_seq, wp_seq0, x_asg, x_rtn, x_if, x_ex, x_sub, x_for, e_var, e_c, e_g, e_tup, e_lst, e_dnil, e_dnew, e_dct, e_bin, e_neg, e_cmp, e_chn, e_and, e_or, e_not, e_ite, e_idx, e_sl, e_rev, e_call, e_bi, e_rep, e_isi, e_me, e_comp, andE, orE, startE, wp_bnd, wp_ret, wp_some, wp_tru, wp_fail, wp_noex, wp_guard, isiM, wp_view_d, wp_view_k, wp_viewd_d, wp_viewI_d, wp_viewI_k, wp_viewc_d, l_cons, l_nil, itE, isT, if_pos, itemsD, asgT, testsE, wipeE, List.set_cons_zero, List.set_cons_succ, List.getElem?_cons_zero, List.getElem?_cons_succ, Option.join_some, List.map_cons, List.map_nil, List.cons_append, List.nil_append, List.length_cons, List.length_nil, List.replicate_succ, List.replicate_zero, constD, Option.map_some, mkRes, if_true, if_false, Bool.false_eq_true, Bool.not_true, Bool.not_false, List.any_cons, List.any_nil, Bool.or_false, Bool.false_or, Bool.true_or, optE, wp_ite, true_implies, false_implies, not_true_eq_false, not_false_eq_true, and_true, true_and, x_par, wp_par2, wp_par3, x_cnt, x_raise, x_pass, x_brk, x_aug, e_callk, dataV, wp_raise, wp_eqI, wp_neI, wp_gt, wp_lt, wp_le, wp_ge, wp_eqS, wp_neS2, wp_negI, wp_part, wp_tup0, wp_tup1, wp_tup2, wp_tup3, wp_lenT, wp_lenL, wp_mkd, wp_add, wp_sub, wp_int, wp_cutT, asgTs, freeze]; simp
theorem c_need_count {ps : List Str} (lk : lookF Γ "need_count" = some ⟨1, 1, needCB, false, ps⟩) {x : PyData} : wp (callF Γ G (n + 2) "need_count" [.d x]) S Q E = (if isNum x = true then Q (.d .none) S else E (exN 3 x) S) := by
  rw [wp_pure lk rfl rfl rfl, wp_run]
  unfold needCB
  simp only [bodyFuel, wp_seq, wp_seq0, x_asg, x_rtn, x_if, x_ex, x_sub, x_for, e_var, e_c, e_g, e_tup, e_lst, e_dnil, e_dnew, e_dct, e_bin, e_neg, e_cmp, e_chn, e_and, e_or, e_not, e_ite, e_idx, e_sl, e_rev, e_call, e_bi, e_rep, e_isi, e_me, e_comp, andE, orE, startE, wp_bnd, wp_ret, wp_some, wp_tru, wp_fail, wp_noex, wp_guard, isiM, wp_view_d, wp_view_k, wp_viewd_d, wp_viewI_d, wp_viewI_k, wp_viewc_d, l_cons, l_nil, itE, isT, if_pos, itemsD, asgT, testsE, wipeE, List.set_cons_zero, List.set_cons_succ, List.getElem?_cons_zero, List.getElem?_cons_succ, Option.join_some, List.map_cons, List.map_nil, List.cons_append, List.nil_append, List.length_cons, List.length_nil, List.replicate_succ, List.replicate_zero, constD, Option.map_some, mkRes, if_true, if_false, Bool.false_eq_true, Bool.not_true, Bool.not_false, List.any_cons, List.any_nil, Bool.or_false, Bool.false_or, Bool.true_or, optE, wp_ite, true_implies, false_implies, not_true_eq_false, not_false_eq_true, and_true, true_and, x_par, wp_par2, wp_par3, x_cnt, x_raise, x_pass, x_brk, x_aug, e_callk, dataV, wp_raise, wp_eqI, wp_neI, wp_gt, wp_lt, wp_le, wp_ge, wp_eqS, wp_neS2, wp_negI, wp_part, wp_tup0, wp_tup1, wp_tup2, wp_tup3, wp_lenT, wp_lenL, wp_mkd, wp_add, wp_sub, wp_int, wp_cutT, asgTs, c_is_integer P]
  cases x with
  | int i =>
    simp only [bodyFuel, wp_seq, wp_seq0, x_asg, x_rtn, x_if, x_ex, x_sub, x_for, e_var, e_c, e_g, e_tup, e_lst, e_dnil, e_dnew, e_dct, e_bin, e_neg, e_cmp, e_chn, e_and, e_or, e_not, e_ite, e_idx, e_sl, e_rev, e_call, e_bi, e_rep, e_isi, e_me, e_comp, andE, orE, startE, wp_bnd, wp_ret, wp_some, wp_tru, wp_fail, wp_noex, wp_guard, isiM, wp_view_d, wp_view_k, wp_viewd_d, wp_viewI_d, wp_viewI_k, wp_viewc_d, l_cons, l_nil, itE, isT, if_pos, itemsD, asgT, testsE, wipeE, List.set_cons_zero, List.set_cons_succ, List.getElem?_cons_zero, List.getElem?_cons_succ, Option.join_some, List.map_cons, List.map_nil, List.cons_append, List.nil_append, List.length_cons, List.length_nil, List.replicate_succ, List.replicate_zero, constD, Option.map_some, mkRes, if_true, if_false, Bool.false_eq_true, Bool.not_true, Bool.not_false, List.any_cons, List.any_nil, Bool.or_false, Bool.false_or, Bool.true_or, optE, wp_ite, true_implies, false_implies, not_true_eq_false, not_false_eq_true, and_true, true_and, x_par, wp_par2, wp_par3, x_cnt, x_raise, x_pass, x_brk, x_aug, e_callk, dataV, wp_raise, wp_eqI, wp_neI, wp_gt, wp_lt, wp_le, wp_ge, wp_eqS, wp_neS2, wp_negI, wp_part, wp_tup0, wp_tup1, wp_tup2, wp_tup3, wp_lenT, wp_lenL, wp_mkd, wp_add, wp_sub, wp_int, wp_cutT, asgTs, isInt]
    show _ = if decide (0 ≤ i) = true then _ else _
    by_cases h : 0 ≤ i
    · simp [h, freeze, show ¬ i < 0 by omega]
    · simp [h, show i < 0 by omega]
      rfl
  | _ => simp only [bodyFuel, wp_seq, wp_seq0, x_asg, x_rtn, x_if, x_ex, x_sub, x_for, e_var, e_c, e_g, e_tup, e_lst, e_dnil, e_dnew, e_dct, e_bin, e_neg, e_cmp, e_chn, e_and, e_or, e_not, e_ite, e_idx, e_sl, e_rev, e_call, e_bi, e_rep, e_isi, e_me, e_comp, andE, orE, startE, wp_bnd, wp_ret, wp_some, wp_tru, wp_fail, wp_noex, wp_guard, isiM, wp_view_d, wp_view_k, wp_viewd_d, wp_viewI_d, wp_viewI_k, wp_viewc_d, l_cons, l_nil, itE, isT, if_pos, itemsD, asgT, testsE, wipeE, List.set_cons_zero, List.set_cons_succ, List.getElem?_cons_zero, List.getElem?_cons_succ, Option.join_some, List.map_cons, List.map_nil, List.cons_append, List.nil_append, List.length_cons, List.length_nil, List.replicate_succ, List.replicate_zero, constD, Option.map_some, mkRes, if_true, if_false, Bool.false_eq_true, Bool.not_true, Bool.not_false, List.any_cons, List.any_nil, Bool.or_false, Bool.false_or, Bool.true_or, optE, wp_ite, true_implies, false_implies, not_true_eq_false, not_false_eq_true, and_true, true_and, x_par, wp_par2, wp_par3, x_cnt, x_raise, x_pass, x_brk, x_aug, e_callk, dataV, wp_raise, wp_eqI, wp_neI, wp_gt, wp_lt, wp_le, wp_ge, wp_eqS, wp_neS2, wp_negI, wp_part, wp_tup0, wp_tup1, wp_tup2, wp_tup3, wp_lenT, wp_lenL, wp_mkd, wp_add, wp_sub, wp_int, wp_cutT, asgTs, isInt, isNum]; rfl
end
end Pm
end
section
set_option Elab.async false
set_option linter.all false
set_option maxRecDepth 100000
set_option maxHeartbeats 400000
namespace M89
open PySem PySem.Spec L2 Ev Pm Lk89
def κ : DeckK := ⟨"left", "mixed", "draws", by decide +kernel, by decide +kernel, by decide +kernel⟩
theorem pl : Pl L.Γ L.G := ⟨by kernel_rfl, by kernel_rfl, by kernel_rfl, by kernel_rfl, by kernel_rfl, by kernel_rfl, by kernel_rfl, by kernel_rfl, by kernel_rfl, by kernel_rfl, by kernel_rfl, by kernel_rfl, by kernel_rfl, by kernel_rfl, by kernel_rfl, by kernel_rfl, by kernel_rfl, by kernel_rfl, by kernel_rfl, by kernel_rfl, by kernel_rfl, by kernel_rfl⟩
theorem lw : Lw L.Γ κ := ⟨⟨48271, 2147483587, 5, 2147483629, 69621, 2147483647, 40014, 7, 2147483563, 30269, 101, 2147483587, [("deck" : PySem.Str), ("many" : PySem.Str)], by unfold Cs; decide, by kernel_rfl⟩, ⟨[("deck" : PySem.Str), ("some" : PySem.Str)], by kernel_rfl⟩⟩
theorem lk_deck : lookF L.Γ "_law_deck" = some ⟨1, 3, deckB κ 13745089 39373 2147483629 11 2147483563, true, [("script" : PySem.Str)]⟩ := by kernel_rfl
theorem lk_law : lookF L.Γ "law" = some f_law := by kernel_rfl
theorem lk_word : lookF L.Γ "_law_is_word" = some ⟨1, 2, wordB, false, [("thing" : PySem.Str)]⟩ := by kernel_rfl
theorem lk_after : lookF L.Γ "_law_after" = some ⟨3, 4, afterB, false, [("machine" : PySem.Str), ("standing" : PySem.Str), ("many" : PySem.Str)]⟩ := by kernel_rfl
theorem lk_last : lookF L.Γ "last_standing" = some ⟨3, 4, lastB, false, [("machine" : PySem.Str), ("word" : PySem.Str), ("many" : PySem.Str)]⟩ := by kernel_rfl
theorem lk_nw : lookF L.Γ "need_word" = some ⟨1, 1, needWB, false, [("word" : PySem.Str)]⟩ := by kernel_rfl
theorem lk_nc : lookF L.Γ "need_count" = some ⟨1, 1, needCB, false, [("thing" : PySem.Str)]⟩ := by kernel_rfl
theorem lk_sa : lookF L.Γ "standing_after" = some f_standing_after := by kernel_rfl
def odds : List PyData := [.none, .bool true, .bool false, .int 0, .int 1, .int 7, .int (-1), .str "", .str "0", .str "stay", .str "go", .tuple [], .list [], .dict [], .tuple [.int 0, .str "stay"], .tuple [.tuple [.int 0, .str "stay"]], .int (10 ^ 39), .tuple [.tuple [.int 0, .str "cut"], .tuple [.int 0, .str "cut"], .tuple [.int 0, .str "cut"]]]
theorem l_odd (n : Nat) (S : List Cell) : callF L.Γ L.G (n + 3) "_law_odd" [] S = .ok (.d (.list odds)) S := by kernel_rfl
theorem odds_ok : odds ≠ [] ∧ odds.length ≤ 1000 ∧ ∀ x ∈ odds, Sm 5 200 x := ⟨by decide +kernel, by decide +kernel, smB_all (by decide +kernel)⟩
theorem kw1 : kwF L.Γ "standing_after" ["many", "machine", "word"] 0 = some [1, 2, 0] := by kernel_rfl
theorem kwo (u v w : Val) : kwOrder 0 (0 + 1 + 1 + 1) [1, 2, 0] [] [u, v, w] = some [v, w, u] := noRfl rfl
def words : List PyData := [.none, .int 0, .int 1, .bool true, .str "2", .str "01a", .str "0 1", .str " ", .tuple [.str "0"], .list [.str "0", .str "1"], .dict [], .str "0\n", .str "110", .str ""]
theorem words_ok : ∀ x ∈ words, Sm 3 100 x := smB_all (by decide +kernel)
def nums : List PyData := [.none, .bool true, .bool false, .int (-1), .str "1", .str "", .tuple [], .tuple [.int 1], .list [.int 1], .dict [], .int (-(10 ^ 39)), .int 0, .int 3]
def mOk : PyData → Bool
  | .int i => decide (i ≤ 200)
  | _ => true
theorem nums_ok : ∀ x ∈ nums, Sm 3 200 x ∧ mOk x = true := fun x hx => ⟨smB_all (d := 3) (w := 200) (xs := nums) (by decide +kernel) x hx, List.all_eq_true.mp (show nums.all mOk = true by decide +kernel) x hx⟩
def qA : List T := [.asg (.var 6) (.bin false .add (.call ("_law_pick" : PySem.Str) [(.var 1), (.lst false [(.c (.int 0)), (.c (.int 1)), (.c (.int 2)), (.c (.int 3)), (.c (.int 5)), (.c (.int 8)), (.c (.int 13)), (.c (.int 40)), (.c (.int 77)), (.c (.int 199))])]) (.call ("_law_draw" : PySem.Str) [(.var 1), (.c (.int 2))])), .if_ (.cmp .eq (.var 3) (.c (.int 3))) [.asg (.var 6) (.call ("_law_draw" : PySem.Str) [(.var 1), (.c (.int 201))])] []]
def qB : List T := [.asg (.var 7) (.call ("_law_after" : PySem.Str) [(.var 4), (.tup [(.c (.int 0)), (.var 5), (.c (.str ("" : PySem.Str)))]), (.var 6)]), .asg (.var 8) (.ite (.cmp .lt (.var 3) (.c (.int 2))) (.call ("standing_after" : PySem.Str) [(.var 4), (.var 5), (.var 6)]) (.callk ("standing_after" : PySem.Str) [] [(("many" : PySem.Str), (.var 6)), (("machine" : PySem.Str), (.var 4)), (("word" : PySem.Str), (.var 5))])), .if_ (.or_ [(.not_ (.call ("_law_same" : PySem.Str) [(.var 8), (.var 7)])), (.not_ (.call ("_law_same" : PySem.Str) [(.call ("pile_step" : PySem.Str) [(.var 4), (.var 8)]), (.call ("_law_pile_step" : PySem.Str) [(.var 4), (.var 7)])]))]) [.rtn (some (.c (.bool false)))] []]
def qC1 : List T := [.asg (.tup [(.var 9), (.var 10), (.var 6)]) (.tup [(.call ("_law_machine" : PySem.Str) [(.var 1), (.c (.int 5))]), (.call ("_law_word" : PySem.Str) [(.var 1), (.c (.int 6))]), (.call ("_law_draw" : PySem.Str) [(.var 1), (.c (.int 30))])])]
def qC2 : T := .if_ (.cmp .eq (.call ("_law_draw" : PySem.Str) [(.var 1), (.c (.int 3))]) (.c (.int 0))) [.asg (.var 9) (.call ("_law_bent" : PySem.Str) [(.var 1), (.var 9), (.call ("_law_odd" : PySem.Str) [])])] []
def qC3 : T := .if_ (.cmp .eq (.call ("_law_draw" : PySem.Str) [(.var 1), (.c (.int 2))]) (.c (.int 0))) [.asg (.var 10) (.call ("_law_pick" : PySem.Str) [(.var 1), (.lst false [(.c .none), (.c (.int 0)), (.c (.int 1)), (.c (.bool true)), (.c (.str ("2" : PySem.Str))), (.c (.str ("01a" : PySem.Str))), (.c (.str ("0 1" : PySem.Str))), (.c (.str (" " : PySem.Str))), (.tup [(.c (.str ("0" : PySem.Str)))]), (.lst false [(.c (.str ("0" : PySem.Str))), (.c (.str ("1" : PySem.Str)))]), .dnil, (.c (.str ("0\n" : PySem.Str))), (.c (.str ("110" : PySem.Str))), (.c (.str ("" : PySem.Str)))])])] []
def qC4 : T := .if_ (.cmp .eq (.call ("_law_draw" : PySem.Str) [(.var 1), (.c (.int 2))]) (.c (.int 0))) [.asg (.var 6) (.call ("_law_pick" : PySem.Str) [(.var 1), (.lst false [(.c .none), (.c (.bool true)), (.c (.bool false)), (.neg (.c (.int 1))), (.c (.str ("1" : PySem.Str))), (.c (.str ("" : PySem.Str))), (.tup []), (.tup [(.c (.int 1))]), (.lst false [(.c (.int 1))]), .dnil, (.neg (.bin false .pow (.c (.int 10)) (.c (.int 39)))), (.c (.int 0)), (.c (.int 3))])])] []
def qD : List T := [.if_ (.not_ (.call ("_law_is_machine" : PySem.Str) [(.var 9)])) [.asg (.var 7) (.tup [(.c (.str ("raised" : PySem.Str))), (.tup [(.c (.bool true)), (.c (.bool false)), (.c (.bool false)), (.c (.bool false))]), (.rep (.var 9))])] [.if_ (.not_ (.call ("_law_is_word" : PySem.Str) [(.var 10)])) [.asg (.var 7) (.tup [(.c (.str ("raised" : PySem.Str))), (.tup [(.c (.bool false)), (.c (.bool false)), (.c (.bool true)), (.c (.bool false))]), (.rep (.var 10))])] [.if_ (.not_ (.call ("_law_is_number" : PySem.Str) [(.var 6)])) [.asg (.var 7) (.tup [(.c (.str ("raised" : PySem.Str))), (.tup [(.c (.bool false)), (.c (.bool false)), (.c (.bool false)), (.c (.bool true))]), (.rep (.var 6))])] [.asg (.var 7) (.tup [(.c (.str ("returned" : PySem.Str))), (.rep (.call ("_law_after" : PySem.Str) [(.var 9), (.tup [(.c (.int 0)), (.var 10), (.c (.str ("" : PySem.Str)))]), (.var 6)]))])]]], .if_ (.cmp .ne (.tried ("_law_tried" : PySem.Str) 4 1 triedW triedHs triedH ("standing_after" : PySem.Str) [9, 10, 6] []) (.var 7)) [.rtn (some (.c (.bool false)))] []]
theorem law_body : b_law = [.asg (.var 1) (.call ("_law_deck" : PySem.Str) [(.var 0)]), .for_ (.var 2) (.rng [(.c (.int 2))]) [.par [4, 5] [(.call ("_law_machine" : PySem.Str) [(.var 1), (.c (.int 6))]), (.call ("_law_word" : PySem.Str) [(.var 1), (.c (.int 6))])], .for_ (.var 3) (.rng [(.c (.int 4))]) (qA ++ qB)], .for_ (.var 2) (.rng [(.c (.int 8))]) (qC1 ++ qC2 :: qC3 :: qC4 :: qD), .rtn (some (.c (.bool true)))] := rfl
abbrev Cg : Cfg := ⟨callF L.Γ L.G 99, kwF L.Γ, L.G, lowF L.Γ L.G 99⟩
section
variable {S : List Cell} {Q : Val → List Cell → Prop} {E : Exn → List Cell → Prop} {n : Nat}
theorem c_sa {x y z : PyData} {d w : Nat} (hx : Sm d w x) (hw : w ≤ 1000000) (hy : lenOk y) : wp (callF L.Γ L.G (n + 7) "standing_after" [.d x, .d y, .d z]) S Q E = (if machD x = true then (if isWd y = true then (if isNum z = true then wp (callF L.Γ L.G (n + 6) "last_standing" [.d x, .d y, .d z]) [] (fun v S' => ∃ x, freeze S' v = some x ∧ Q (.d x) S) (fun e _ => E e S) else E (exN 3 z) S) else E (exN 2 y) S) else E (eMach x) S) := by
  rw [wp_pure lk_sa rfl rfl rfl, wp_run]
  simp only [f_standing_after, b_standing_after, bodyFuel, wp_seq, wp_seq0, x_asg, x_rtn, x_if, x_ex, x_sub, x_for, e_var, e_c, e_g, e_tup, e_lst, e_dnil, e_dnew, e_dct, e_bin, e_neg, e_cmp, e_chn, e_and, e_or, e_not, e_ite, e_idx, e_sl, e_rev, e_call, e_bi, e_rep, e_isi, e_me, e_comp, andE, orE, startE, wp_bnd, wp_ret, wp_some, wp_tru, wp_fail, wp_noex, wp_guard, isiM, wp_view_d, wp_view_k, wp_viewd_d, wp_viewI_d, wp_viewI_k, wp_viewc_d, l_cons, l_nil, itE, isT, if_pos, itemsD, asgT, testsE, wipeE, List.set_cons_zero, List.set_cons_succ, List.getElem?_cons_zero, List.getElem?_cons_succ, Option.join_some, List.map_cons, List.map_nil, List.cons_append, List.nil_append, List.length_cons, List.length_nil, List.replicate_succ, List.replicate_zero, constD, Option.map_some, mkRes, if_true, if_false, Bool.false_eq_true, Bool.not_true, Bool.not_false, List.any_cons, List.any_nil, Bool.or_false, Bool.false_or, Bool.true_or, optE, wp_ite, true_implies, false_implies, not_true_eq_false, not_false_eq_true, and_true, true_and, x_par, wp_par2, wp_par3, x_cnt, x_raise, x_pass, x_brk, x_aug, e_callk, dataV, wp_raise, wp_eqI, wp_neI, wp_gt, wp_lt, wp_le, wp_ge, wp_eqS, wp_neS2, wp_negI, wp_part, wp_tup0, wp_tup1, wp_tup2, wp_tup3, wp_lenT, wp_lenL, wp_mkd, wp_add, wp_sub, wp_int, wp_cutT, asgTs, c_need_machine pl hx hw, c_need_word pl lk_nw hy, c_need_count pl lk_nc]
theorem sa_ok {xs : List PyData} {d w k : Nat} {l : List Nat} {m : Int} (hx : Sm d w (.tuple xs)) (hw : w ≤ 1000000) (hm : machD (.tuple xs) = true) (hl : Pm.Wd l) (hk : l.length ≤ k) (m0 : 0 ≤ m) (m1 : k + m.toNat ≤ 9000) :
    wp (callF L.Γ L.G (n + 7) "standing_after" [.d (.tuple xs), .d (.str (wS l)), .d (.int m)]) S Q E = Q (.d (itN xs m.toNat ⟨0, l, []⟩).d) S := by
  have hy : lenOk (.str (wS l)) := by show (wS l).length ≤ 1000000; rw [wS_len]; have := hl.2; omega
  have hwd : isWd (.str (wS l)) = true := wordD_wS hl
  have hn : isNum (.int m) = true := decide_eq_true m0
  have ha : xs.all (stateD xs.length) = true := by simp only [machD, Bool.and_eq_true] at hm; exact hm.2
  rw [c_sa hx hw hy, if_pos hm, if_pos hwd, if_pos hn, c_last pl lk_last ha hl hk m0 m1]
  simp [freeze]
end
end M89
end
section
set_option Elab.async false
set_option linter.all false
set_option maxRecDepth 100000
set_option maxHeartbeats 400000
namespace M89
open PySem PySem.Spec L2 Ev Pm Lk89
section
variable {S : List Cell} {E : Exn → List Cell → Prop}
/-- how many steps -/
theorem q_A {b : Nat} {o0 o2 o4 o5 o6 o7 o8 o9 o10 : Option Val} {g : Int} (h : Deck κ [] (b + 3) S) : wp (seqL (fun s ρ => ex Cg 58 s ρ) qA [o0, some (.r 1), o2, some (.d (.int g)), o4, o5, o6, o7, o8, o9, o10]) S (fun f S' => ∃ m : Int, f = .nx [o0, some (.r 1), o2, some (.d (.int g)), o4, o5, some (.d (.int m)), o7, o8, o9, o10] ∧ (0 ≤ m ∧ m ≤ 200) ∧ Deck κ [] b S') E := by
  unfold qA
  simp only [bodyFuel, wp_seq, wp_seq0, x_asg, x_rtn, x_if, x_ex, x_sub, x_for, e_var, e_c, e_g, e_tup, e_lst, e_dnil, e_dnew, e_dct, e_bin, e_neg, e_cmp, e_chn, e_and, e_or, e_not, e_ite, e_idx, e_sl, e_rev, e_call, e_bi, e_rep, e_isi, e_me, e_comp, andE, orE, startE, wp_bnd, wp_ret, wp_some, wp_tru, wp_fail, wp_noex, wp_guard, isiM, wp_view_d, wp_view_k, wp_viewd_d, wp_viewI_d, wp_viewI_k, wp_viewc_d, l_cons, l_nil, itE, isT, if_pos, itemsD, asgT, testsE, wipeE, List.set_cons_zero, List.set_cons_succ, List.getElem?_cons_zero, List.getElem?_cons_succ, Option.join_some, List.map_cons, List.map_nil, List.cons_append, List.nil_append, List.length_cons, List.length_nil, List.replicate_succ, List.replicate_zero, constD, Option.map_some, mkRes, if_true, if_false, Bool.false_eq_true, Bool.not_true, Bool.not_false, List.any_cons, List.any_nil, Bool.or_false, Bool.false_or, Bool.true_or, optE, wp_ite, true_implies, false_implies, not_true_eq_false, not_false_eq_true, and_true, true_and, x_par, wp_par2, wp_par3, x_cnt, x_raise, x_pass, x_brk, x_aug, e_callk, dataV, wp_raise, wp_eqI, wp_neI, wp_gt, wp_lt, wp_le, wp_ge, wp_eqS, wp_neS2, wp_negI, wp_part, wp_tup0, wp_tup1, wp_tup2, wp_tup3, wp_lenT, wp_lenL, wp_mkd, wp_add, wp_sub, wp_int, wp_cutT, asgTs]
  show wp (mkList false ((([.int 0, .int 1, .int 2, .int 3, .int 5, .int 8, .int 13, .int 40, .int 77, .int 199] : List PyData)).map Val.d)) S _ _
  rw [wp_lstD (by decide)]
  refine lw.pickQ (b + 2) (by simp) (by simp) h fun y S1 hy hD => ?_
  obtain ⟨m, rfl, m0, m1⟩ : ∃ m : Int, y = .int m ∧ 0 ≤ m ∧ m ≤ 199 := by
    simp only [List.mem_cons, List.mem_nil_iff, or_false] at hy
    rcases hy with rfl | rfl | rfl | rfl | rfl | rfl | rfl | rfl | rfl | rfl <;> exact ⟨_, rfl, by decide, by decide⟩
  refine lw.drawQ (b + 1) (by decide) (by decide) hD fun k S2 k0 k1 hD => ?_
  simp only [bodyFuel, wp_seq, wp_seq0, x_asg, x_rtn, x_if, x_ex, x_sub, x_for, e_var, e_c, e_g, e_tup, e_lst, e_dnil, e_dnew, e_dct, e_bin, e_neg, e_cmp, e_chn, e_and, e_or, e_not, e_ite, e_idx, e_sl, e_rev, e_call, e_bi, e_rep, e_isi, e_me, e_comp, andE, orE, startE, wp_bnd, wp_ret, wp_some, wp_tru, wp_fail, wp_noex, wp_guard, isiM, wp_view_d, wp_view_k, wp_viewd_d, wp_viewI_d, wp_viewI_k, wp_viewc_d, l_cons, l_nil, itE, isT, if_pos, itemsD, asgT, testsE, wipeE, List.set_cons_zero, List.set_cons_succ, List.getElem?_cons_zero, List.getElem?_cons_succ, Option.join_some, List.map_cons, List.map_nil, List.cons_append, List.nil_append, List.length_cons, List.length_nil, List.replicate_succ, List.replicate_zero, constD, Option.map_some, mkRes, if_true, if_false, Bool.false_eq_true, Bool.not_true, Bool.not_false, List.any_cons, List.any_nil, Bool.or_false, Bool.false_or, Bool.true_or, optE, wp_ite, true_implies, false_implies, not_true_eq_false, not_false_eq_true, and_true, true_and, x_par, wp_par2, wp_par3, x_cnt, x_raise, x_pass, x_brk, x_aug, e_callk, dataV, wp_raise, wp_eqI, wp_neI, wp_gt, wp_lt, wp_le, wp_ge, wp_eqS, wp_neS2, wp_negI, wp_part, wp_tup0, wp_tup1, wp_tup2, wp_tup3, wp_lenT, wp_lenL, wp_mkd, wp_add, wp_sub, wp_int, wp_cutT, asgTs]
  refine ⟨fun _ => ?_, fun _ => ⟨_, rfl, by omega, hD.less (by omega)⟩⟩
  refine lw.drawQ b (by decide) (by decide) hD fun k S3 k0 k1 hD => ?_
  exact ⟨_, rfl, by omega, hD⟩
/-- the standing behind them, and one step further on -/
theorem q_B {b : Nat} {o0 o2 o7 o8 o9 o10 : Option Val} {g m : Int} {xs : List PyData} {l : List Nat} (hl1 : 1 ≤ xs.length) (hl6 : xs.length ≤ 6) (ha : xs.all (stateD xs.length) = true) (hl : Pm.Wd l) (hk : l.length ≤ 6) (m0 : 0 ≤ m) (m1 : m ≤ 200) (h : Deck κ [] b S) : wp (seqL (fun s ρ => ex Cg 58 s ρ) qB [o0, some (.r 1), o2, some (.d (.int g)), some (.d (.tuple xs)), some (.d (.str (wS l))), some (.d (.int m)), o7, o8, o9, o10]) S (fun f S' => ∃ o7 o8, f = .nx [o0, some (.r 1), o2, some (.d (.int g)), some (.d (.tuple xs)), some (.d (.str (wS l))), some (.d (.int m)), o7, o8, o9, o10] ∧ Deck κ [] b S') E := by
  have hm : machD (.tuple xs) = true := by simp only [machD, ha, Bool.and_true]; exact decide_eq_true (by omega)
  have hx := mach_sm (by omega) ha
  have hp : TOk xs.length 6 ⟨0, l, []⟩ := ⟨by simp, by simp, hl.1, by simp, hk, by simp⟩
  have ht := itN_ok ha m.toNat hp
  have hs := ht.sm (by omega) (by omega)
  obtain ⟨e1, hn⟩ := nxt_ok ha ht
  have hns := hn.sm (by omega) (by omega)
  have ea : ∀ {S : List Cell} {Q : Val → List Cell → Prop} {E : Exn → List Cell → Prop}, wp (callF L.Γ L.G 99 (Str.ofString "_law_after") [.d (.tuple xs), .d (.tuple [.int 0, .str (wS l), .str (wS [])]), .d (.int m)]) S Q E = Q (.d (itN xs m.toNat ⟨0, l, []⟩).d) S := fun {S Q E} =>
    c_after pl lk_after (p := ⟨0, l, []⟩) ha hp m0 (by omega) (by omega)
  have es : ∀ {S : List Cell} {Q : Val → List Cell → Prop} {E : Exn → List Cell → Prop}, wp (callF L.Γ L.G 99 (Str.ofString "standing_after") [.d (.tuple xs), .d (.str (wS l)), .d (.int m)]) S Q E = Q (.d (itN xs m.toNat ⟨0, l, []⟩).d) S := fun {S Q E} =>
    sa_ok hx (by omega) hm hl hk m0 (by omega)
  unfold qB
  generalize itN xs m.toNat ⟨0, l, []⟩ = p at ht hs e1 hn hns ea es
  have ep : ∀ {S : List Cell} {Q : Val → List Cell → Prop} {E : Exn → List Cell → Prop}, wp (callF L.Γ L.G 99 (Str.ofString "pile_step") [.d (.tuple xs), .d p.d]) S Q E = Q (.d (nxt xs p).d) S := fun {S Q E} => by
    rw [← e1]
    exact c_pile_step pl hx (by omega) hm ht.s0 ht.s1 (ht.Wl (by omega)) (ht.Wr (by omega))
  have el : ∀ {S : List Cell} {Q : Val → List Cell → Prop} {E : Exn → List Cell → Prop}, wp (callF L.Γ L.G 99 (Str.ofString "_law_pile_step") [.d (.tuple xs), .d p.d]) S Q E = Q (.d (nxt xs p).d) S := fun {S Q E} => by
    rw [← e1]
    exact c_law_pile_step pl ha ht.s0 ht.s1 (ht.Wl (by omega)) (ht.Wr (by omega))
  simp only [bodyFuel, wp_seq, wp_seq0, x_asg, x_rtn, x_if, x_ex, x_sub, x_for, e_var, e_c, e_g, e_tup, e_lst, e_dnil, e_dnew, e_dct, e_bin, e_neg, e_cmp, e_chn, e_and, e_or, e_not, e_ite, e_idx, e_sl, e_rev, e_call, e_bi, e_rep, e_isi, e_me, e_comp, andE, orE, startE, wp_bnd, wp_ret, wp_some, wp_tru, wp_fail, wp_noex, wp_guard, isiM, wp_view_d, wp_view_k, wp_viewd_d, wp_viewI_d, wp_viewI_k, wp_viewc_d, l_cons, l_nil, itE, isT, if_pos, itemsD, asgT, testsE, wipeE, List.set_cons_zero, List.set_cons_succ, List.getElem?_cons_zero, List.getElem?_cons_succ, Option.join_some, List.map_cons, List.map_nil, List.cons_append, List.nil_append, List.length_cons, List.length_nil, List.replicate_succ, List.replicate_zero, constD, Option.map_some, mkRes, if_true, if_false, Bool.false_eq_true, Bool.not_true, Bool.not_false, List.any_cons, List.any_nil, Bool.or_false, Bool.false_or, Bool.true_or, optE, wp_ite, true_implies, false_implies, not_true_eq_false, not_false_eq_true, and_true, true_and, x_par, wp_par2, wp_par3, x_cnt, x_raise, x_pass, x_brk, x_aug, e_callk, dataV, wp_raise, wp_eqI, wp_neI, wp_gt, wp_lt, wp_le, wp_ge, wp_eqS, wp_neS2, wp_negI, wp_part, wp_tup0, wp_tup1, wp_tup2, wp_tup3, wp_lenT, wp_lenL, wp_mkd, wp_add, wp_sub, wp_int, wp_cutT, asgTs, sw_nil]
  rw [ea]
  simp only [bodyFuel, wp_seq, wp_seq0, x_asg, x_rtn, x_if, x_ex, x_sub, x_for, e_var, e_c, e_g, e_tup, e_lst, e_dnil, e_dnew, e_dct, e_bin, e_neg, e_cmp, e_chn, e_and, e_or, e_not, e_ite, e_idx, e_sl, e_rev, e_call, e_bi, e_rep, e_isi, e_me, e_comp, andE, orE, startE, wp_bnd, wp_ret, wp_some, wp_tru, wp_fail, wp_noex, wp_guard, isiM, wp_view_d, wp_view_k, wp_viewd_d, wp_viewI_d, wp_viewI_k, wp_viewc_d, l_cons, l_nil, itE, isT, if_pos, itemsD, asgT, testsE, wipeE, List.set_cons_zero, List.set_cons_succ, List.getElem?_cons_zero, List.getElem?_cons_succ, Option.join_some, List.map_cons, List.map_nil, List.cons_append, List.nil_append, List.length_cons, List.length_nil, List.replicate_succ, List.replicate_zero, constD, Option.map_some, mkRes, if_true, if_false, Bool.false_eq_true, Bool.not_true, Bool.not_false, List.any_cons, List.any_nil, Bool.or_false, Bool.false_or, Bool.true_or, optE, wp_ite, true_implies, false_implies, not_true_eq_false, not_false_eq_true, and_true, true_and, x_par, wp_par2, wp_par3, x_cnt, x_raise, x_pass, x_brk, x_aug, e_callk, dataV, wp_raise, wp_eqI, wp_neI, wp_gt, wp_lt, wp_le, wp_ge, wp_eqS, wp_neS2, wp_negI, wp_part, wp_tup0, wp_tup1, wp_tup2, wp_tup3, wp_lenT, wp_lenL, wp_mkd, wp_add, wp_sub, wp_int, wp_cutT, asgTs, kw1, kwo, es, c_same pl hs (show 1 ≤ 100 by decide) (show 2 * (6 + m.toNat) + 20 ≤ 200000 by omega), ep, el, c_same pl hns (show 1 ≤ 100 by decide) (show 2 * (6 + m.toNat + 1) + 20 ≤ 200000 by omega), both]
  exact ⟨_, _, rfl, h⟩
/-- what is tried -/
theorem q_D {b : Nat} {o0 o2 o3 o4 o5 o7 o8 : Option Val} {x y z : PyData} (hx : Sm 8 1000 x) (hy : Sm 3 100 y) (hz : Sm 3 200 z) (hz2 : mOk z = true) (h : Deck κ [] b S) : wp (seqL (fun s ρ => ex Cg 59 s ρ) qD [o0, some (.r 1), o2, o3, o4, o5, some (.d z), o7, o8, some (.d x), some (.d y)]) S (fun f S' => ∃ o7, f = .nx [o0, some (.r 1), o2, o3, o4, o5, some (.d z), o7, o8, some (.d x), some (.d y)] ∧ Deck κ [] b S') E := by
  have rx := hx.repr (by decide) (by decide)
  have ry := hy.repr (by decide) (by decide)
  have rz := hz.repr (by decide) (by decide)
  have ly : lenOk y := sm_lenOk hy (by decide)
  have fin : ∀ {k : Option Nat} {u v : PyData} {d w : Nat} {S : List Cell}, (∀ j, k = some j → j < 4) → Sm d w u → d ≤ 100 → w ≤ 200000 → Told k u v → Deck κ [] b S → wp (callF L.Γ L.G 97 "standing_after" [.d x, .d y, .d z]) S (fun v S' => v = .d u ∧ S' = S ∧ k = none) (fun y S' => ∃ j, k = some j ∧ y = exN j u ∧ S' = S) →
      wp (seqL (fun s ρ => ex Cg 59 s ρ) [.if_ (.cmp .ne (.tried ("_law_tried" : PySem.Str) 4 1 triedW triedHs triedH ("standing_after" : PySem.Str) [9, 10, 6] []) (.var 7)) [.rtn (some (.c (.bool false)))] []] [o0, some (.r 1), o2, o3, o4, o5, some (.d z), some (.d v), o8, some (.d x), some (.d y)]) S (fun f S' => ∃ o7, f = .nx [o0, some (.r 1), o2, o3, o4, o5, some (.d z), o7, o8, some (.d x), some (.d y)] ∧ Deck κ [] b S') E := fun {k u v d w S} hk hu hd hw hz hD hc => by
    simp only [bodyFuel, wp_seq, wp_seq0, x_asg, x_rtn, x_if, x_ex, x_sub, x_for, e_var, e_c, e_g, e_tup, e_lst, e_dnil, e_dnew, e_dct, e_bin, e_neg, e_cmp, e_chn, e_and, e_or, e_not, e_ite, e_idx, e_sl, e_rev, e_call, e_bi, e_rep, e_isi, e_me, e_comp, andE, orE, startE, wp_bnd, wp_ret, wp_some, wp_tru, wp_fail, wp_noex, wp_guard, isiM, wp_view_d, wp_view_k, wp_viewd_d, wp_viewI_d, wp_viewI_k, wp_viewc_d, l_cons, l_nil, itE, isT, if_pos, itemsD, asgT, testsE, wipeE, List.set_cons_zero, List.set_cons_succ, List.getElem?_cons_zero, List.getElem?_cons_succ, Option.join_some, List.map_cons, List.map_nil, List.cons_append, List.nil_append, List.length_cons, List.length_nil, List.replicate_succ, List.replicate_zero, constD, Option.map_some, mkRes, if_true, if_false, Bool.false_eq_true, Bool.not_true, Bool.not_false, List.any_cons, List.any_nil, Bool.or_false, Bool.false_or, Bool.true_or, optE, wp_ite, true_implies, false_implies, not_true_eq_false, not_false_eq_true, and_true, true_and, x_par, wp_par2, wp_par3, x_cnt, x_raise, x_pass, x_brk, x_aug, e_callk, dataV, wp_raise, wp_eqI, wp_neI, wp_gt, wp_lt, wp_le, wp_ge, wp_eqS, wp_neS2, wp_negI, wp_part, wp_tup0, wp_tup1, wp_tup2, wp_tup3, wp_lenT, wp_lenL, wp_mkd, wp_add, wp_sub, wp_int, wp_cutT, asgTs]
    rw [wp_triedP (cl := callF L.Γ L.G 97) (vs := [.d x, .d y, .d z]) rfl rfl]
    refine told_call hk hu hd hw hc fun z' hz' => ?_
    have e := hz'.eq hz
    rw [wp_ne_d, e, wp_some]
    simp only [bodyFuel, wp_seq, wp_seq0, x_asg, x_rtn, x_if, x_ex, x_sub, x_for, e_var, e_c, e_g, e_tup, e_lst, e_dnil, e_dnew, e_dct, e_bin, e_neg, e_cmp, e_chn, e_and, e_or, e_not, e_ite, e_idx, e_sl, e_rev, e_call, e_bi, e_rep, e_isi, e_me, e_comp, andE, orE, startE, wp_bnd, wp_ret, wp_some, wp_tru, wp_fail, wp_noex, wp_guard, isiM, wp_view_d, wp_view_k, wp_viewd_d, wp_viewI_d, wp_viewI_k, wp_viewc_d, l_cons, l_nil, itE, isT, if_pos, itemsD, asgT, testsE, wipeE, List.set_cons_zero, List.set_cons_succ, List.getElem?_cons_zero, List.getElem?_cons_succ, Option.join_some, List.map_cons, List.map_nil, List.cons_append, List.nil_append, List.length_cons, List.length_nil, List.replicate_succ, List.replicate_zero, constD, Option.map_some, mkRes, if_true, if_false, Bool.false_eq_true, Bool.not_true, Bool.not_false, List.any_cons, List.any_nil, Bool.or_false, Bool.false_or, Bool.true_or, optE, wp_ite, true_implies, false_implies, not_true_eq_false, not_false_eq_true, and_true, true_and, x_par, wp_par2, wp_par3, x_cnt, x_raise, x_pass, x_brk, x_aug, e_callk, dataV, wp_raise, wp_eqI, wp_neI, wp_gt, wp_lt, wp_le, wp_ge, wp_eqS, wp_neS2, wp_negI, wp_part, wp_tup0, wp_tup1, wp_tup2, wp_tup3, wp_lenT, wp_lenL, wp_mkd, wp_add, wp_sub, wp_int, wp_cutT, asgTs]
    exact ⟨_, rfl, hD⟩
  unfold qD
  generalize hB : ([.if_ (.cmp .ne (.tried _ _ _ _ _ _ _ _ _) _) _ _] : List T) = tb at fin ⊢
  simp only [bodyFuel, wp_seq, wp_seq0, x_asg, x_rtn, x_if, x_ex, x_sub, x_for, e_var, e_c, e_g, e_tup, e_lst, e_dnil, e_dnew, e_dct, e_bin, e_neg, e_cmp, e_chn, e_and, e_or, e_not, e_ite, e_idx, e_sl, e_rev, e_call, e_bi, e_rep, e_isi, e_me, e_comp, andE, orE, startE, wp_bnd, wp_ret, wp_some, wp_tru, wp_fail, wp_noex, wp_guard, isiM, wp_view_d, wp_view_k, wp_viewd_d, wp_viewI_d, wp_viewI_k, wp_viewc_d, l_cons, l_nil, itE, isT, if_pos, itemsD, asgT, testsE, wipeE, List.set_cons_zero, List.set_cons_succ, List.getElem?_cons_zero, List.getElem?_cons_succ, Option.join_some, List.map_cons, List.map_nil, List.cons_append, List.nil_append, List.length_cons, List.length_nil, List.replicate_succ, List.replicate_zero, constD, Option.map_some, mkRes, if_true, if_false, Bool.false_eq_true, Bool.not_true, Bool.not_false, List.any_cons, List.any_nil, Bool.or_false, Bool.false_or, Bool.true_or, optE, wp_ite, true_implies, false_implies, not_true_eq_false, not_false_eq_true, and_true, true_and, x_par, wp_par2, wp_par3, x_cnt, x_raise, x_pass, x_brk, x_aug, e_callk, dataV, wp_raise, wp_eqI, wp_neI, wp_gt, wp_lt, wp_le, wp_ge, wp_eqS, wp_neS2, wp_negI, wp_part, wp_tup0, wp_tup1, wp_tup2, wp_tup3, wp_lenT, wp_lenL, wp_mkd, wp_add, wp_sub, wp_int, wp_cutT, asgTs, c_law_is_machine pl]
  cases hm : machD x with
  | false =>
    simp only [bodyFuel, wp_seq, wp_seq0, x_asg, x_rtn, x_if, x_ex, x_sub, x_for, e_var, e_c, e_g, e_tup, e_lst, e_dnil, e_dnew, e_dct, e_bin, e_neg, e_cmp, e_chn, e_and, e_or, e_not, e_ite, e_idx, e_sl, e_rev, e_call, e_bi, e_rep, e_isi, e_me, e_comp, andE, orE, startE, wp_bnd, wp_ret, wp_some, wp_tru, wp_fail, wp_noex, wp_guard, isiM, wp_view_d, wp_view_k, wp_viewd_d, wp_viewI_d, wp_viewI_k, wp_viewc_d, l_cons, l_nil, itE, isT, if_pos, itemsD, asgT, testsE, wipeE, List.set_cons_zero, List.set_cons_succ, List.getElem?_cons_zero, List.getElem?_cons_succ, Option.join_some, List.map_cons, List.map_nil, List.cons_append, List.nil_append, List.length_cons, List.length_nil, List.replicate_succ, List.replicate_zero, constD, Option.map_some, mkRes, if_true, if_false, Bool.false_eq_true, Bool.not_true, Bool.not_false, List.any_cons, List.any_nil, Bool.or_false, Bool.false_or, Bool.true_or, optE, wp_ite, true_implies, false_implies, not_true_eq_false, not_false_eq_true, and_true, true_and, x_par, wp_par2, wp_par3, x_cnt, x_raise, x_pass, x_brk, x_aug, e_callk, dataV, wp_raise, wp_eqI, wp_neI, wp_gt, wp_lt, wp_le, wp_ge, wp_eqS, wp_neS2, wp_negI, wp_part, wp_tup0, wp_tup1, wp_tup2, wp_tup3, wp_lenT, wp_lenL, wp_mkd, wp_add, wp_sub, wp_int, wp_cutT, asgTs]
    show wp (mkTup ((([.bool true, .bool false, .bool false, .bool false] : List PyData)).map Val.d)) _ _ _
    rw [wp_tup (by decide), wp_rep rx]
    simp only [bodyFuel, wp_seq, wp_seq0, x_asg, x_rtn, x_if, x_ex, x_sub, x_for, e_var, e_c, e_g, e_tup, e_lst, e_dnil, e_dnew, e_dct, e_bin, e_neg, e_cmp, e_chn, e_and, e_or, e_not, e_ite, e_idx, e_sl, e_rev, e_call, e_bi, e_rep, e_isi, e_me, e_comp, andE, orE, startE, wp_bnd, wp_ret, wp_some, wp_tru, wp_fail, wp_noex, wp_guard, isiM, wp_view_d, wp_view_k, wp_viewd_d, wp_viewI_d, wp_viewI_k, wp_viewc_d, l_cons, l_nil, itE, isT, if_pos, itemsD, asgT, testsE, wipeE, List.set_cons_zero, List.set_cons_succ, List.getElem?_cons_zero, List.getElem?_cons_succ, Option.join_some, List.map_cons, List.map_nil, List.cons_append, List.nil_append, List.length_cons, List.length_nil, List.replicate_succ, List.replicate_zero, constD, Option.map_some, mkRes, if_true, if_false, Bool.false_eq_true, Bool.not_true, Bool.not_false, List.any_cons, List.any_nil, Bool.or_false, Bool.false_or, Bool.true_or, optE, wp_ite, true_implies, false_implies, not_true_eq_false, not_false_eq_true, and_true, true_and, x_par, wp_par2, wp_par3, x_cnt, x_raise, x_pass, x_brk, x_aug, e_callk, dataV, wp_raise, wp_eqI, wp_neI, wp_gt, wp_lt, wp_le, wp_ge, wp_eqS, wp_neS2, wp_negI, wp_part, wp_tup0, wp_tup1, wp_tup2, wp_tup3, wp_lenT, wp_lenL, wp_mkd, wp_add, wp_sub, wp_int, wp_cutT, asgTs]
    refine fin (k := some 0) (fun j e => by cases e; decide) hx (by decide) (by decide) (.rai 0 rfl) h ?_
    rw [c_sa hx (by decide) ly, hm, if_neg (by decide)]
    exact ⟨0, rfl, rfl, rfl⟩
  | true =>
    obtain ⟨xs, rfl, hl1, ha⟩ := mach_tuple pl hm
    simp only [bodyFuel, wp_seq, wp_seq0, x_asg, x_rtn, x_if, x_ex, x_sub, x_for, e_var, e_c, e_g, e_tup, e_lst, e_dnil, e_dnew, e_dct, e_bin, e_neg, e_cmp, e_chn, e_and, e_or, e_not, e_ite, e_idx, e_sl, e_rev, e_call, e_bi, e_rep, e_isi, e_me, e_comp, andE, orE, startE, wp_bnd, wp_ret, wp_some, wp_tru, wp_fail, wp_noex, wp_guard, isiM, wp_view_d, wp_view_k, wp_viewd_d, wp_viewI_d, wp_viewI_k, wp_viewc_d, l_cons, l_nil, itE, isT, if_pos, itemsD, asgT, testsE, wipeE, List.set_cons_zero, List.set_cons_succ, List.getElem?_cons_zero, List.getElem?_cons_succ, Option.join_some, List.map_cons, List.map_nil, List.cons_append, List.nil_append, List.length_cons, List.length_nil, List.replicate_succ, List.replicate_zero, constD, Option.map_some, mkRes, if_true, if_false, Bool.false_eq_true, Bool.not_true, Bool.not_false, List.any_cons, List.any_nil, Bool.or_false, Bool.false_or, Bool.true_or, optE, wp_ite, true_implies, false_implies, not_true_eq_false, not_false_eq_true, and_true, true_and, x_par, wp_par2, wp_par3, x_cnt, x_raise, x_pass, x_brk, x_aug, e_callk, dataV, wp_raise, wp_eqI, wp_neI, wp_gt, wp_lt, wp_le, wp_ge, wp_eqS, wp_neS2, wp_negI, wp_part, wp_tup0, wp_tup1, wp_tup2, wp_tup3, wp_lenT, wp_lenL, wp_mkd, wp_add, wp_sub, wp_int, wp_cutT, asgTs, c_law_is_word lk_word ly]
    cases hwd : isWd y with
    | false =>
      simp only [bodyFuel, wp_seq, wp_seq0, x_asg, x_rtn, x_if, x_ex, x_sub, x_for, e_var, e_c, e_g, e_tup, e_lst, e_dnil, e_dnew, e_dct, e_bin, e_neg, e_cmp, e_chn, e_and, e_or, e_not, e_ite, e_idx, e_sl, e_rev, e_call, e_bi, e_rep, e_isi, e_me, e_comp, andE, orE, startE, wp_bnd, wp_ret, wp_some, wp_tru, wp_fail, wp_noex, wp_guard, isiM, wp_view_d, wp_view_k, wp_viewd_d, wp_viewI_d, wp_viewI_k, wp_viewc_d, l_cons, l_nil, itE, isT, if_pos, itemsD, asgT, testsE, wipeE, List.set_cons_zero, List.set_cons_succ, List.getElem?_cons_zero, List.getElem?_cons_succ, Option.join_some, List.map_cons, List.map_nil, List.cons_append, List.nil_append, List.length_cons, List.length_nil, List.replicate_succ, List.replicate_zero, constD, Option.map_some, mkRes, if_true, if_false, Bool.false_eq_true, Bool.not_true, Bool.not_false, List.any_cons, List.any_nil, Bool.or_false, Bool.false_or, Bool.true_or, optE, wp_ite, true_implies, false_implies, not_true_eq_false, not_false_eq_true, and_true, true_and, x_par, wp_par2, wp_par3, x_cnt, x_raise, x_pass, x_brk, x_aug, e_callk, dataV, wp_raise, wp_eqI, wp_neI, wp_gt, wp_lt, wp_le, wp_ge, wp_eqS, wp_neS2, wp_negI, wp_part, wp_tup0, wp_tup1, wp_tup2, wp_tup3, wp_lenT, wp_lenL, wp_mkd, wp_add, wp_sub, wp_int, wp_cutT, asgTs]
      show wp (mkTup ((([.bool false, .bool false, .bool true, .bool false] : List PyData)).map Val.d)) _ _ _
      rw [wp_tup (by decide), wp_rep ry]
      simp only [bodyFuel, wp_seq, wp_seq0, x_asg, x_rtn, x_if, x_ex, x_sub, x_for, e_var, e_c, e_g, e_tup, e_lst, e_dnil, e_dnew, e_dct, e_bin, e_neg, e_cmp, e_chn, e_and, e_or, e_not, e_ite, e_idx, e_sl, e_rev, e_call, e_bi, e_rep, e_isi, e_me, e_comp, andE, orE, startE, wp_bnd, wp_ret, wp_some, wp_tru, wp_fail, wp_noex, wp_guard, isiM, wp_view_d, wp_view_k, wp_viewd_d, wp_viewI_d, wp_viewI_k, wp_viewc_d, l_cons, l_nil, itE, isT, if_pos, itemsD, asgT, testsE, wipeE, List.set_cons_zero, List.set_cons_succ, List.getElem?_cons_zero, List.getElem?_cons_succ, Option.join_some, List.map_cons, List.map_nil, List.cons_append, List.nil_append, List.length_cons, List.length_nil, List.replicate_succ, List.replicate_zero, constD, Option.map_some, mkRes, if_true, if_false, Bool.false_eq_true, Bool.not_true, Bool.not_false, List.any_cons, List.any_nil, Bool.or_false, Bool.false_or, Bool.true_or, optE, wp_ite, true_implies, false_implies, not_true_eq_false, not_false_eq_true, and_true, true_and, x_par, wp_par2, wp_par3, x_cnt, x_raise, x_pass, x_brk, x_aug, e_callk, dataV, wp_raise, wp_eqI, wp_neI, wp_gt, wp_lt, wp_le, wp_ge, wp_eqS, wp_neS2, wp_negI, wp_part, wp_tup0, wp_tup1, wp_tup2, wp_tup3, wp_lenT, wp_lenL, wp_mkd, wp_add, wp_sub, wp_int, wp_cutT, asgTs]
      refine fin (k := some 2) (fun j e => by cases e; decide) hy (by decide) (by decide) (.rai 2 rfl) h ?_
      rw [c_sa hx (by decide) ly, if_pos hm, hwd, if_neg (by decide)]
      exact ⟨2, rfl, rfl, rfl⟩
    | true =>
      simp only [bodyFuel, wp_seq, wp_seq0, x_asg, x_rtn, x_if, x_ex, x_sub, x_for, e_var, e_c, e_g, e_tup, e_lst, e_dnil, e_dnew, e_dct, e_bin, e_neg, e_cmp, e_chn, e_and, e_or, e_not, e_ite, e_idx, e_sl, e_rev, e_call, e_bi, e_rep, e_isi, e_me, e_comp, andE, orE, startE, wp_bnd, wp_ret, wp_some, wp_tru, wp_fail, wp_noex, wp_guard, isiM, wp_view_d, wp_view_k, wp_viewd_d, wp_viewI_d, wp_viewI_k, wp_viewc_d, l_cons, l_nil, itE, isT, if_pos, itemsD, asgT, testsE, wipeE, List.set_cons_zero, List.set_cons_succ, List.getElem?_cons_zero, List.getElem?_cons_succ, Option.join_some, List.map_cons, List.map_nil, List.cons_append, List.nil_append, List.length_cons, List.length_nil, List.replicate_succ, List.replicate_zero, constD, Option.map_some, mkRes, if_true, if_false, Bool.false_eq_true, Bool.not_true, Bool.not_false, List.any_cons, List.any_nil, Bool.or_false, Bool.false_or, Bool.true_or, optE, wp_ite, true_implies, false_implies, not_true_eq_false, not_false_eq_true, and_true, true_and, x_par, wp_par2, wp_par3, x_cnt, x_raise, x_pass, x_brk, x_aug, e_callk, dataV, wp_raise, wp_eqI, wp_neI, wp_gt, wp_lt, wp_le, wp_ge, wp_eqS, wp_neS2, wp_negI, wp_part, wp_tup0, wp_tup1, wp_tup2, wp_tup3, wp_lenT, wp_lenL, wp_mkd, wp_add, wp_sub, wp_int, wp_cutT, asgTs, c_law_is_number pl]
      cases hn : isNum z with
      | false =>
        simp only [bodyFuel, wp_seq, wp_seq0, x_asg, x_rtn, x_if, x_ex, x_sub, x_for, e_var, e_c, e_g, e_tup, e_lst, e_dnil, e_dnew, e_dct, e_bin, e_neg, e_cmp, e_chn, e_and, e_or, e_not, e_ite, e_idx, e_sl, e_rev, e_call, e_bi, e_rep, e_isi, e_me, e_comp, andE, orE, startE, wp_bnd, wp_ret, wp_some, wp_tru, wp_fail, wp_noex, wp_guard, isiM, wp_view_d, wp_view_k, wp_viewd_d, wp_viewI_d, wp_viewI_k, wp_viewc_d, l_cons, l_nil, itE, isT, if_pos, itemsD, asgT, testsE, wipeE, List.set_cons_zero, List.set_cons_succ, List.getElem?_cons_zero, List.getElem?_cons_succ, Option.join_some, List.map_cons, List.map_nil, List.cons_append, List.nil_append, List.length_cons, List.length_nil, List.replicate_succ, List.replicate_zero, constD, Option.map_some, mkRes, if_true, if_false, Bool.false_eq_true, Bool.not_true, Bool.not_false, List.any_cons, List.any_nil, Bool.or_false, Bool.false_or, Bool.true_or, optE, wp_ite, true_implies, false_implies, not_true_eq_false, not_false_eq_true, and_true, true_and, x_par, wp_par2, wp_par3, x_cnt, x_raise, x_pass, x_brk, x_aug, e_callk, dataV, wp_raise, wp_eqI, wp_neI, wp_gt, wp_lt, wp_le, wp_ge, wp_eqS, wp_neS2, wp_negI, wp_part, wp_tup0, wp_tup1, wp_tup2, wp_tup3, wp_lenT, wp_lenL, wp_mkd, wp_add, wp_sub, wp_int, wp_cutT, asgTs]
        show wp (mkTup ((([.bool false, .bool false, .bool false, .bool true] : List PyData)).map Val.d)) _ _ _
        rw [wp_tup (by decide), wp_rep rz]
        simp only [bodyFuel, wp_seq, wp_seq0, x_asg, x_rtn, x_if, x_ex, x_sub, x_for, e_var, e_c, e_g, e_tup, e_lst, e_dnil, e_dnew, e_dct, e_bin, e_neg, e_cmp, e_chn, e_and, e_or, e_not, e_ite, e_idx, e_sl, e_rev, e_call, e_bi, e_rep, e_isi, e_me, e_comp, andE, orE, startE, wp_bnd, wp_ret, wp_some, wp_tru, wp_fail, wp_noex, wp_guard, isiM, wp_view_d, wp_view_k, wp_viewd_d, wp_viewI_d, wp_viewI_k, wp_viewc_d, l_cons, l_nil, itE, isT, if_pos, itemsD, asgT, testsE, wipeE, List.set_cons_zero, List.set_cons_succ, List.getElem?_cons_zero, List.getElem?_cons_succ, Option.join_some, List.map_cons, List.map_nil, List.cons_append, List.nil_append, List.length_cons, List.length_nil, List.replicate_succ, List.replicate_zero, constD, Option.map_some, mkRes, if_true, if_false, Bool.false_eq_true, Bool.not_true, Bool.not_false, List.any_cons, List.any_nil, Bool.or_false, Bool.false_or, Bool.true_or, optE, wp_ite, true_implies, false_implies, not_true_eq_false, not_false_eq_true, and_true, true_and, x_par, wp_par2, wp_par3, x_cnt, x_raise, x_pass, x_brk, x_aug, e_callk, dataV, wp_raise, wp_eqI, wp_neI, wp_gt, wp_lt, wp_le, wp_ge, wp_eqS, wp_neS2, wp_negI, wp_part, wp_tup0, wp_tup1, wp_tup2, wp_tup3, wp_lenT, wp_lenL, wp_mkd, wp_add, wp_sub, wp_int, wp_cutT, asgTs]
        refine fin (k := some 3) (fun j e => by cases e; decide) hz (by decide) (by decide) (.rai 3 rfl) h ?_
        rw [c_sa hx (by decide) ly, if_pos hm, if_pos hwd, hn, if_neg (by decide)]
        exact ⟨3, rfl, rfl, rfl⟩
      | true =>
        obtain ⟨m, rfl, m0, m1⟩ : ∃ m : Int, z = .int m ∧ 0 ≤ m ∧ m ≤ 200 := by
          cases z with
          | int i => exact ⟨i, rfl, of_decide_eq_true hn, of_decide_eq_true hz2⟩
          | _ => cases hn
        obtain ⟨l, rfl, hl, hk⟩ : ∃ l, y = .str (wS l) ∧ Pm.Wd l ∧ l.length ≤ 100 := by
          cases y with
          | str s =>
            have := hy.wt
            simp only [PyData.weight] at this
            obtain ⟨l, rfl, hl⟩ := wordD_of hwd (Nat.le_trans this (by decide))
            exact ⟨l, rfl, hl, by rw [← wS_len]; exact this⟩
          | _ => cases hwd
        have hlen : xs.length ≤ 300 := by
          have h1 := mach_len ha
          have h2 := hx.untuple.2.wt
          omega
        have hp : TOk xs.length 100 ⟨0, l, []⟩ := ⟨by simp, by simp, hl.1, by simp, hk, by simp⟩
        have ht := itN_ok ha m.toNat hp
        have hs := ht.sm (by omega) (by omega)
        simp only [bodyFuel, wp_seq, wp_seq0, x_asg, x_rtn, x_if, x_ex, x_sub, x_for, e_var, e_c, e_g, e_tup, e_lst, e_dnil, e_dnew, e_dct, e_bin, e_neg, e_cmp, e_chn, e_and, e_or, e_not, e_ite, e_idx, e_sl, e_rev, e_call, e_bi, e_rep, e_isi, e_me, e_comp, andE, orE, startE, wp_bnd, wp_ret, wp_some, wp_tru, wp_fail, wp_noex, wp_guard, isiM, wp_view_d, wp_view_k, wp_viewd_d, wp_viewI_d, wp_viewI_k, wp_viewc_d, l_cons, l_nil, itE, isT, if_pos, itemsD, asgT, testsE, wipeE, List.set_cons_zero, List.set_cons_succ, List.getElem?_cons_zero, List.getElem?_cons_succ, Option.join_some, List.map_cons, List.map_nil, List.cons_append, List.nil_append, List.length_cons, List.length_nil, List.replicate_succ, List.replicate_zero, constD, Option.map_some, mkRes, if_true, if_false, Bool.false_eq_true, Bool.not_true, Bool.not_false, List.any_cons, List.any_nil, Bool.or_false, Bool.false_or, Bool.true_or, optE, wp_ite, true_implies, false_implies, not_true_eq_false, not_false_eq_true, and_true, true_and, x_par, wp_par2, wp_par3, x_cnt, x_raise, x_pass, x_brk, x_aug, e_callk, dataV, wp_raise, wp_eqI, wp_neI, wp_gt, wp_lt, wp_le, wp_ge, wp_eqS, wp_neS2, wp_negI, wp_part, wp_tup0, wp_tup1, wp_tup2, wp_tup3, wp_lenT, wp_lenL, wp_mkd, wp_add, wp_sub, wp_int, wp_cutT, asgTs, sw_nil]
        have ea : ∀ {S : List Cell} {Q : Val → List Cell → Prop} {E : Exn → List Cell → Prop}, wp (callF L.Γ L.G 99 (Str.ofString "_law_after") [.d (.tuple xs), .d (.tuple [.int 0, .str (wS l), .str (wS [])]), .d (.int m)]) S Q E = Q (.d (itN xs m.toNat ⟨0, l, []⟩).d) S := fun {S Q E} =>
          c_after pl lk_after (p := ⟨0, l, []⟩) ha hp m0 (by omega) (by omega)
        rw [ea, wp_rep (hs.repr (by decide) (by omega))]
        simp only [bodyFuel, wp_seq, wp_seq0, x_asg, x_rtn, x_if, x_ex, x_sub, x_for, e_var, e_c, e_g, e_tup, e_lst, e_dnil, e_dnew, e_dct, e_bin, e_neg, e_cmp, e_chn, e_and, e_or, e_not, e_ite, e_idx, e_sl, e_rev, e_call, e_bi, e_rep, e_isi, e_me, e_comp, andE, orE, startE, wp_bnd, wp_ret, wp_some, wp_tru, wp_fail, wp_noex, wp_guard, isiM, wp_view_d, wp_view_k, wp_viewd_d, wp_viewI_d, wp_viewI_k, wp_viewc_d, l_cons, l_nil, itE, isT, if_pos, itemsD, asgT, testsE, wipeE, List.set_cons_zero, List.set_cons_succ, List.getElem?_cons_zero, List.getElem?_cons_succ, Option.join_some, List.map_cons, List.map_nil, List.cons_append, List.nil_append, List.length_cons, List.length_nil, List.replicate_succ, List.replicate_zero, constD, Option.map_some, mkRes, if_true, if_false, Bool.false_eq_true, Bool.not_true, Bool.not_false, List.any_cons, List.any_nil, Bool.or_false, Bool.false_or, Bool.true_or, optE, wp_ite, true_implies, false_implies, not_true_eq_false, not_false_eq_true, and_true, true_and, x_par, wp_par2, wp_par3, x_cnt, x_raise, x_pass, x_brk, x_aug, e_callk, dataV, wp_raise, wp_eqI, wp_neI, wp_gt, wp_lt, wp_le, wp_ge, wp_eqS, wp_neS2, wp_negI, wp_part, wp_tup0, wp_tup1, wp_tup2, wp_tup3, wp_lenT, wp_lenL, wp_mkd, wp_add, wp_sub, wp_int, wp_cutT, asgTs]
        refine fin (k := none) (fun j e => by cases e) hs (by decide) (by omega) (.ret rfl) h ?_
        rw [sa_ok hx (by decide) hm hl hk m0 (by omega)]
        exact ⟨rfl, rfl, rfl⟩
end
theorem wp_app2 {f : T → Ev.Env → M Fl} {R : List T} {Q Q2 : Fl → List Cell → Prop} {E : Exn → List Cell → Prop} : ∀ {A : List T} {ρ : Ev.Env} {S : List Cell}, wp (seqL f A ρ) S Q E → (∀ g S', Q g S' → (match g with
    | .nx ρ' => wp (seqL f R ρ') S' Q2 E
    | g => Q2 g S')) → wp (seqL f (A ++ R) ρ) S Q2 E
  | [], ρ, S, h, q => by
    rw [wp_seq0] at h
    exact q _ _ h
  | s :: A, ρ, S, h, q => by
    rw [wp_seq] at h
    show wp (seqL f (s :: (A ++ R)) ρ) S Q2 E
    rw [wp_seq]
    refine wp_mono h (fun g S' hg => ?_) fun _ _ h => h
    cases g with
    | nx ρ' => exact wp_app2 hg q
    | bk ρ' => exact q _ _ hg
    | ct ρ' => exact q _ _ hg
    | rt v => exact q _ _ hg
theorem law_ok {ns : List Int} (h : ns.length ≤ 63) : ∃ S, callF L.Γ L.G 100 "law" [.k (.list (ns.map .int))] [] = .ok (.d (.bool true)) S := by
  apply wp_ex
  rw [wp_shared lk_law rfl rfl, wp_run]
  unfold f_law
  rw [law_body]
  have hA := @q_A
  have hB := @q_B
  have hD' := @q_D
  have hC2 : ∀ {b : Nat} {o0 o2 o3 o4 o5 o6 o7 o8 o10 : Option Val} {x : PyData} {S : List Cell}, Sm 3 260 x → Deck κ [] (b + 40) S → wp (ex Cg 59 qC2 [o0, some (.r 1), o2, o3, o4, o5, o6, o7, o8, some (.d x), o10]) S (fun f S' => ∃ x, f = .nx [o0, some (.r 1), o2, o3, o4, o5, o6, o7, o8, some (.d x), o10] ∧ Sm 8 1000 x ∧ Deck κ [] b S') (fun _ _ => False) := fun {b o0 o2 o3 o4 o5 o6 o7 o8 o10 x S} hx hD => by
    unfold qC2
    simp only [bodyFuel, wp_seq, wp_seq0, x_asg, x_rtn, x_if, x_ex, x_sub, x_for, e_var, e_c, e_g, e_tup, e_lst, e_dnil, e_dnew, e_dct, e_bin, e_neg, e_cmp, e_chn, e_and, e_or, e_not, e_ite, e_idx, e_sl, e_rev, e_call, e_bi, e_rep, e_isi, e_me, e_comp, andE, orE, startE, wp_bnd, wp_ret, wp_some, wp_tru, wp_fail, wp_noex, wp_guard, isiM, wp_view_d, wp_view_k, wp_viewd_d, wp_viewI_d, wp_viewI_k, wp_viewc_d, l_cons, l_nil, itE, isT, if_pos, itemsD, asgT, testsE, wipeE, List.set_cons_zero, List.set_cons_succ, List.getElem?_cons_zero, List.getElem?_cons_succ, Option.join_some, List.map_cons, List.map_nil, List.cons_append, List.nil_append, List.length_cons, List.length_nil, List.replicate_succ, List.replicate_zero, constD, Option.map_some, mkRes, if_true, if_false, Bool.false_eq_true, Bool.not_true, Bool.not_false, List.any_cons, List.any_nil, Bool.or_false, Bool.false_or, Bool.true_or, optE, wp_ite, true_implies, false_implies, not_true_eq_false, not_false_eq_true, and_true, true_and, x_par, wp_par2, wp_par3, x_cnt, x_raise, x_pass, x_brk, x_aug, e_callk, dataV, wp_raise, wp_eqI, wp_neI, wp_gt, wp_lt, wp_le, wp_ge, wp_eqS, wp_neS2, wp_negI, wp_part, wp_tup0, wp_tup1, wp_tup2, wp_tup3, wp_lenT, wp_lenL, wp_mkd, wp_add, wp_sub, wp_int, wp_cutT, asgTs]
    refine lw.drawQ (b + 39) (by decide) (by decide) hD fun k S7 _ _ hD => ?_
    simp only [bodyFuel, wp_seq, wp_seq0, x_asg, x_rtn, x_if, x_ex, x_sub, x_for, e_var, e_c, e_g, e_tup, e_lst, e_dnil, e_dnew, e_dct, e_bin, e_neg, e_cmp, e_chn, e_and, e_or, e_not, e_ite, e_idx, e_sl, e_rev, e_call, e_bi, e_rep, e_isi, e_me, e_comp, andE, orE, startE, wp_bnd, wp_ret, wp_some, wp_tru, wp_fail, wp_noex, wp_guard, isiM, wp_view_d, wp_view_k, wp_viewd_d, wp_viewI_d, wp_viewI_k, wp_viewc_d, l_cons, l_nil, itE, isT, if_pos, itemsD, asgT, testsE, wipeE, List.set_cons_zero, List.set_cons_succ, List.getElem?_cons_zero, List.getElem?_cons_succ, Option.join_some, List.map_cons, List.map_nil, List.cons_append, List.nil_append, List.length_cons, List.length_nil, List.replicate_succ, List.replicate_zero, constD, Option.map_some, mkRes, if_true, if_false, Bool.false_eq_true, Bool.not_true, Bool.not_false, List.any_cons, List.any_nil, Bool.or_false, Bool.false_or, Bool.true_or, optE, wp_ite, true_implies, false_implies, not_true_eq_false, not_false_eq_true, and_true, true_and, x_par, wp_par2, wp_par3, x_cnt, x_raise, x_pass, x_brk, x_aug, e_callk, dataV, wp_raise, wp_eqI, wp_neI, wp_gt, wp_lt, wp_le, wp_ge, wp_eqS, wp_neS2, wp_negI, wp_part, wp_tup0, wp_tup1, wp_tup2, wp_tup3, wp_lenT, wp_lenL, wp_mkd, wp_add, wp_sub, wp_int, wp_cutT, asgTs]
    refine ⟨fun _ => ?_, fun _ => ⟨x, rfl, hx.mono (by decide) (by decide), hD.less (by omega)⟩⟩
    rw [wp_of (l_odd 96 _)]
    refine c_bentN lw pl odds_ok (by decide) (d := 3) (w := 260) (b := b) (by decide) hx (by omega) (hD.less (by omega)) fun y S2 hy hD => ?_
    exact ⟨y, rfl, hy.mono (by decide) (by decide), hD⟩
  have hC3 : ∀ {b : Nat} {o0 o2 o3 o4 o5 o6 o7 o8 o9 : Option Val} {y : PyData} {S : List Cell}, Sm 3 100 y → Deck κ [] (b + 2) S → wp (ex Cg 59 qC3 [o0, some (.r 1), o2, o3, o4, o5, o6, o7, o8, o9, some (.d y)]) S (fun f S' => ∃ y, f = .nx [o0, some (.r 1), o2, o3, o4, o5, o6, o7, o8, o9, some (.d y)] ∧ Sm 3 100 y ∧ Deck κ [] b S') (fun _ _ => False) := fun {b o0 o2 o3 o4 o5 o6 o7 o8 o9 y S} hy hD => by
    unfold qC3
    simp only [bodyFuel, wp_seq, wp_seq0, x_asg, x_rtn, x_if, x_ex, x_sub, x_for, e_var, e_c, e_g, e_tup, e_lst, e_dnil, e_dnew, e_dct, e_bin, e_neg, e_cmp, e_chn, e_and, e_or, e_not, e_ite, e_idx, e_sl, e_rev, e_call, e_bi, e_rep, e_isi, e_me, e_comp, andE, orE, startE, wp_bnd, wp_ret, wp_some, wp_tru, wp_fail, wp_noex, wp_guard, isiM, wp_view_d, wp_view_k, wp_viewd_d, wp_viewI_d, wp_viewI_k, wp_viewc_d, l_cons, l_nil, itE, isT, if_pos, itemsD, asgT, testsE, wipeE, List.set_cons_zero, List.set_cons_succ, List.getElem?_cons_zero, List.getElem?_cons_succ, Option.join_some, List.map_cons, List.map_nil, List.cons_append, List.nil_append, List.length_cons, List.length_nil, List.replicate_succ, List.replicate_zero, constD, Option.map_some, mkRes, if_true, if_false, Bool.false_eq_true, Bool.not_true, Bool.not_false, List.any_cons, List.any_nil, Bool.or_false, Bool.false_or, Bool.true_or, optE, wp_ite, true_implies, false_implies, not_true_eq_false, not_false_eq_true, and_true, true_and, x_par, wp_par2, wp_par3, x_cnt, x_raise, x_pass, x_brk, x_aug, e_callk, dataV, wp_raise, wp_eqI, wp_neI, wp_gt, wp_lt, wp_le, wp_ge, wp_eqS, wp_neS2, wp_negI, wp_part, wp_tup0, wp_tup1, wp_tup2, wp_tup3, wp_lenT, wp_lenL, wp_mkd, wp_add, wp_sub, wp_int, wp_cutT, asgTs]
    refine lw.drawQ (b + 1) (by decide) (by decide) hD fun k S7 _ _ hD => ?_
    simp only [bodyFuel, wp_seq, wp_seq0, x_asg, x_rtn, x_if, x_ex, x_sub, x_for, e_var, e_c, e_g, e_tup, e_lst, e_dnil, e_dnew, e_dct, e_bin, e_neg, e_cmp, e_chn, e_and, e_or, e_not, e_ite, e_idx, e_sl, e_rev, e_call, e_bi, e_rep, e_isi, e_me, e_comp, andE, orE, startE, wp_bnd, wp_ret, wp_some, wp_tru, wp_fail, wp_noex, wp_guard, isiM, wp_view_d, wp_view_k, wp_viewd_d, wp_viewI_d, wp_viewI_k, wp_viewc_d, l_cons, l_nil, itE, isT, if_pos, itemsD, asgT, testsE, wipeE, List.set_cons_zero, List.set_cons_succ, List.getElem?_cons_zero, List.getElem?_cons_succ, Option.join_some, List.map_cons, List.map_nil, List.cons_append, List.nil_append, List.length_cons, List.length_nil, List.replicate_succ, List.replicate_zero, constD, Option.map_some, mkRes, if_true, if_false, Bool.false_eq_true, Bool.not_true, Bool.not_false, List.any_cons, List.any_nil, Bool.or_false, Bool.false_or, Bool.true_or, optE, wp_ite, true_implies, false_implies, not_true_eq_false, not_false_eq_true, and_true, true_and, x_par, wp_par2, wp_par3, x_cnt, x_raise, x_pass, x_brk, x_aug, e_callk, dataV, wp_raise, wp_eqI, wp_neI, wp_gt, wp_lt, wp_le, wp_ge, wp_eqS, wp_neS2, wp_negI, wp_part, wp_tup0, wp_tup1, wp_tup2, wp_tup3, wp_lenT, wp_lenL, wp_mkd, wp_add, wp_sub, wp_int, wp_cutT, asgTs]
    refine ⟨fun _ => ?_, fun _ => ⟨y, rfl, hy, hD.less (by omega)⟩⟩
    show wp (mkList false (([PyData.str "0", PyData.str "1"] : List PyData).map Val.d)) _ _ _
    rw [wp_lstD (by decide)]
    show wp (mkList false (words.map Val.d)) _ _ _
    rw [wp_lstD (by decide)]
    refine lw.pickQ b (by simp [words]) (by simp [words]) hD fun y S1 hy hD => ⟨y, rfl, words_ok y hy, hD⟩
  have hC4 : ∀ {b : Nat} {o0 o2 o3 o4 o5 o7 o8 o9 o10 : Option Val} {z : PyData} {S : List Cell}, Sm 3 200 z → mOk z = true → Deck κ [] (b + 2) S → wp (ex Cg 59 qC4 [o0, some (.r 1), o2, o3, o4, o5, some (.d z), o7, o8, o9, o10]) S (fun f S' => ∃ z, f = .nx [o0, some (.r 1), o2, o3, o4, o5, some (.d z), o7, o8, o9, o10] ∧ Sm 3 200 z ∧ mOk z = true ∧ Deck κ [] b S') (fun _ _ => False) := fun {b o0 o2 o3 o4 o5 o7 o8 o9 o10 z S} hz hz2 hD => by
    unfold qC4
    simp only [bodyFuel, wp_seq, wp_seq0, x_asg, x_rtn, x_if, x_ex, x_sub, x_for, e_var, e_c, e_g, e_tup, e_lst, e_dnil, e_dnew, e_dct, e_bin, e_neg, e_cmp, e_chn, e_and, e_or, e_not, e_ite, e_idx, e_sl, e_rev, e_call, e_bi, e_rep, e_isi, e_me, e_comp, andE, orE, startE, wp_bnd, wp_ret, wp_some, wp_tru, wp_fail, wp_noex, wp_guard, isiM, wp_view_d, wp_view_k, wp_viewd_d, wp_viewI_d, wp_viewI_k, wp_viewc_d, l_cons, l_nil, itE, isT, if_pos, itemsD, asgT, testsE, wipeE, List.set_cons_zero, List.set_cons_succ, List.getElem?_cons_zero, List.getElem?_cons_succ, Option.join_some, List.map_cons, List.map_nil, List.cons_append, List.nil_append, List.length_cons, List.length_nil, List.replicate_succ, List.replicate_zero, constD, Option.map_some, mkRes, if_true, if_false, Bool.false_eq_true, Bool.not_true, Bool.not_false, List.any_cons, List.any_nil, Bool.or_false, Bool.false_or, Bool.true_or, optE, wp_ite, true_implies, false_implies, not_true_eq_false, not_false_eq_true, and_true, true_and, x_par, wp_par2, wp_par3, x_cnt, x_raise, x_pass, x_brk, x_aug, e_callk, dataV, wp_raise, wp_eqI, wp_neI, wp_gt, wp_lt, wp_le, wp_ge, wp_eqS, wp_neS2, wp_negI, wp_part, wp_tup0, wp_tup1, wp_tup2, wp_tup3, wp_lenT, wp_lenL, wp_mkd, wp_add, wp_sub, wp_int, wp_cutT, asgTs]
    refine lw.drawQ (b + 1) (by decide) (by decide) hD fun k S7 _ _ hD => ?_
    simp only [bodyFuel, wp_seq, wp_seq0, x_asg, x_rtn, x_if, x_ex, x_sub, x_for, e_var, e_c, e_g, e_tup, e_lst, e_dnil, e_dnew, e_dct, e_bin, e_neg, e_cmp, e_chn, e_and, e_or, e_not, e_ite, e_idx, e_sl, e_rev, e_call, e_bi, e_rep, e_isi, e_me, e_comp, andE, orE, startE, wp_bnd, wp_ret, wp_some, wp_tru, wp_fail, wp_noex, wp_guard, isiM, wp_view_d, wp_view_k, wp_viewd_d, wp_viewI_d, wp_viewI_k, wp_viewc_d, l_cons, l_nil, itE, isT, if_pos, itemsD, asgT, testsE, wipeE, List.set_cons_zero, List.set_cons_succ, List.getElem?_cons_zero, List.getElem?_cons_succ, Option.join_some, List.map_cons, List.map_nil, List.cons_append, List.nil_append, List.length_cons, List.length_nil, List.replicate_succ, List.replicate_zero, constD, Option.map_some, mkRes, if_true, if_false, Bool.false_eq_true, Bool.not_true, Bool.not_false, List.any_cons, List.any_nil, Bool.or_false, Bool.false_or, Bool.true_or, optE, wp_ite, true_implies, false_implies, not_true_eq_false, not_false_eq_true, and_true, true_and, x_par, wp_par2, wp_par3, x_cnt, x_raise, x_pass, x_brk, x_aug, e_callk, dataV, wp_raise, wp_eqI, wp_neI, wp_gt, wp_lt, wp_le, wp_ge, wp_eqS, wp_neS2, wp_negI, wp_part, wp_tup0, wp_tup1, wp_tup2, wp_tup3, wp_lenT, wp_lenL, wp_mkd, wp_add, wp_sub, wp_int, wp_cutT, asgTs, wp_pow]
    refine ⟨fun _ => ?_, fun _ => ⟨z, rfl, hz, hz2, hD.less (by omega)⟩⟩
    rw [wp_lst1]
    refine ⟨by decide, ?_⟩
    show wp (mkList false (nums.map Val.d)) _ _ _
    rw [wp_lstD (by decide)]
    refine lw.pickQ b (by simp [nums]) (by simp [nums]) hD fun y S1 hy hD => ⟨y, rfl, (nums_ok y hy).1, (nums_ok y hy).2, hD⟩
  generalize qA = a at hA ⊢
  generalize qB = bb at hB ⊢
  generalize qC2 = c2 at hC2 ⊢
  generalize qC3 = c3 at hC3 ⊢
  generalize qC4 = c4 at hC4 ⊢
  generalize qD = d at hD' ⊢
  unfold qC1
  simp only [bodyFuel, wp_seq, wp_seq0, x_asg, x_rtn, x_if, x_ex, x_sub, x_for, e_var, e_c, e_g, e_tup, e_lst, e_dnil, e_dnew, e_dct, e_bin, e_neg, e_cmp, e_chn, e_and, e_or, e_not, e_ite, e_idx, e_sl, e_rev, e_call, e_bi, e_rep, e_isi, e_me, e_comp, andE, orE, startE, wp_bnd, wp_ret, wp_some, wp_tru, wp_fail, wp_noex, wp_guard, isiM, wp_view_d, wp_view_k, wp_viewd_d, wp_viewI_d, wp_viewI_k, wp_viewc_d, l_cons, l_nil, itE, isT, if_pos, itemsD, asgT, testsE, wipeE, List.set_cons_zero, List.set_cons_succ, List.getElem?_cons_zero, List.getElem?_cons_succ, Option.join_some, List.map_cons, List.map_nil, List.cons_append, List.nil_append, List.length_cons, List.length_nil, List.replicate_succ, List.replicate_zero, constD, Option.map_some, mkRes, if_true, if_false, Bool.false_eq_true, Bool.not_true, Bool.not_false, List.any_cons, List.any_nil, Bool.or_false, Bool.false_or, Bool.true_or, optE, wp_ite, true_implies, false_implies, not_true_eq_false, not_false_eq_true, and_true, true_and, x_par, wp_par2, wp_par3, x_cnt, x_raise, x_pass, x_brk, x_aug, e_callk, dataV, wp_raise, wp_eqI, wp_neI, wp_gt, wp_lt, wp_le, wp_ge, wp_eqS, wp_neS2, wp_negI, wp_part, wp_tup0, wp_tup1, wp_tup2, wp_tup3, wp_lenT, wp_lenL, wp_mkd, wp_add, wp_sub, wp_int, wp_cutT, asgTs]
  refine l_deck lk_deck (by unfold Cs; decide) h fun S1 hD => ?_
  rw [wp_rng1 (by decide) (by decide)]
  refine wp_forN (fun i ρ S => (∃ o0 o2 o3 o4 o5 o6 o7 o8 o9 o10, ρ = [o0, some (.r 1), o2, o3, o4, o5, o6, o7, o8, o9, o10]) ∧ Deck κ [] (2 ^ 80 + i * 1000) S) (fun i v ρ S hv hI => ?_) ⟨⟨_, _, _, _, _, _, _, _, _, _, rfl⟩, hD.less (by decide)⟩ fun ρ S hI => ?_
  · obtain ⟨⟨o0, o2, o3, o4, o5, o6, o7, o8, o9, o10, rfl⟩, hD⟩ := hI
    rw [Nat.add_mul] at hD
    simp only [bodyFuel, wp_seq, wp_seq0, x_asg, x_rtn, x_if, x_ex, x_sub, x_for, e_var, e_c, e_g, e_tup, e_lst, e_dnil, e_dnew, e_dct, e_bin, e_neg, e_cmp, e_chn, e_and, e_or, e_not, e_ite, e_idx, e_sl, e_rev, e_call, e_bi, e_rep, e_isi, e_me, e_comp, andE, orE, startE, wp_bnd, wp_ret, wp_some, wp_tru, wp_fail, wp_noex, wp_guard, isiM, wp_view_d, wp_view_k, wp_viewd_d, wp_viewI_d, wp_viewI_k, wp_viewc_d, l_cons, l_nil, itE, isT, if_pos, itemsD, asgT, testsE, wipeE, List.set_cons_zero, List.set_cons_succ, List.getElem?_cons_zero, List.getElem?_cons_succ, Option.join_some, List.map_cons, List.map_nil, List.cons_append, List.nil_append, List.length_cons, List.length_nil, List.replicate_succ, List.replicate_zero, constD, Option.map_some, mkRes, if_true, if_false, Bool.false_eq_true, Bool.not_true, Bool.not_false, List.any_cons, List.any_nil, Bool.or_false, Bool.false_or, Bool.true_or, optE, wp_ite, true_implies, false_implies, not_true_eq_false, not_false_eq_true, and_true, true_and, x_par, wp_par2, wp_par3, x_cnt, x_raise, x_pass, x_brk, x_aug, e_callk, dataV, wp_raise, wp_eqI, wp_neI, wp_gt, wp_lt, wp_le, wp_ge, wp_eqS, wp_neS2, wp_negI, wp_part, wp_tup0, wp_tup1, wp_tup2, wp_tup3, wp_lenT, wp_lenL, wp_mkd, wp_add, wp_sub, wp_int, wp_cutT, asgTs]
    refine c_machine lw pl (most := 6) (2 ^ 80 + i * 1000 + 400) (by decide) (hD.less (by omega)) fun xs S1 hl1 hl6 ha hD => ?_
    refine c_word pl lw (most := 6) (2 ^ 80 + i * 1000 + 100) (by decide) (hD.less (by omega)) fun l S4 hL kl hD => ?_
    rw [wp_rng1 (by decide) (by decide)]
    refine wp_forN (fun j ρ S => (∃ o0 o2 o3 o6 o7 o8 o9 o10, ρ = [o0, some (.r 1), o2, o3, some (.d (.tuple xs)), some (.d (.str (wS l))), o6, o7, o8, o9, o10]) ∧ Deck κ [] (2 ^ 80 + i * 1000 + j * 10) S) (fun j v ρ S hv hI => ?_) ⟨⟨_, _, _, _, _, _, _, _, rfl⟩, hD.less (by show _ + 4 * 10 ≤ _; omega)⟩ fun ρ S hI => ?_
    · obtain ⟨⟨o0, o2, o3, o6, o7, o8, o9, o10, rfl⟩, hD⟩ := hI
      obtain ⟨g, rfl, _, _⟩ := rangeL_mem hv
      rw [Nat.add_mul] at hD
      simp only [wp_bnd, wp_ret, asgT, List.set_cons_succ, List.set_cons_zero]
      refine wp_mono (wp_app2 (hA (b := 2 ^ 80 + i * 1000 + j * 10) (hD.less (by omega))) (fun f S2 hq => ?_)) (fun f S2 hq => hq) fun _ _ h => h
      obtain ⟨m, rfl, ⟨m0, m1⟩, hD⟩ := hq
      refine wp_mono (hB hl1 hl6 ha hL kl m0 m1 hD) (fun f S3 hq => ?_) fun _ _ h => h
      obtain ⟨o7, o8, rfl, hD⟩ := hq
      exact ⟨⟨_, _, _, _, _, _, _, _, rfl⟩, hD⟩
    · obtain ⟨⟨o0, o2, o3, o6, o7, o8, o9, o10, rfl⟩, hD⟩ := hI
      exact ⟨⟨_, _, _, _, _, _, _, _, _, _, rfl⟩, hD.less (by omega)⟩
  · obtain ⟨⟨o0, o2, o3, o4, o5, o6, o7, o8, o9, o10, rfl⟩, hD⟩ := hI
    simp only [bodyFuel, wp_seq, wp_seq0, x_asg, x_rtn, x_if, x_ex, x_sub, x_for, e_var, e_c, e_g, e_tup, e_lst, e_dnil, e_dnew, e_dct, e_bin, e_neg, e_cmp, e_chn, e_and, e_or, e_not, e_ite, e_idx, e_sl, e_rev, e_call, e_bi, e_rep, e_isi, e_me, e_comp, andE, orE, startE, wp_bnd, wp_ret, wp_some, wp_tru, wp_fail, wp_noex, wp_guard, isiM, wp_view_d, wp_view_k, wp_viewd_d, wp_viewI_d, wp_viewI_k, wp_viewc_d, l_cons, l_nil, itE, isT, if_pos, itemsD, asgT, testsE, wipeE, List.set_cons_zero, List.set_cons_succ, List.getElem?_cons_zero, List.getElem?_cons_succ, Option.join_some, List.map_cons, List.map_nil, List.cons_append, List.nil_append, List.length_cons, List.length_nil, List.replicate_succ, List.replicate_zero, constD, Option.map_some, mkRes, if_true, if_false, Bool.false_eq_true, Bool.not_true, Bool.not_false, List.any_cons, List.any_nil, Bool.or_false, Bool.false_or, Bool.true_or, optE, wp_ite, true_implies, false_implies, not_true_eq_false, not_false_eq_true, and_true, true_and, x_par, wp_par2, wp_par3, x_cnt, x_raise, x_pass, x_brk, x_aug, e_callk, dataV, wp_raise, wp_eqI, wp_neI, wp_gt, wp_lt, wp_le, wp_ge, wp_eqS, wp_neS2, wp_negI, wp_part, wp_tup0, wp_tup1, wp_tup2, wp_tup3, wp_lenT, wp_lenL, wp_mkd, wp_add, wp_sub, wp_int, wp_cutT, asgTs]
    rw [wp_rng1 (by decide) (by decide)]
    refine wp_forN (fun i ρ S => (∃ o0 o2 o3 o4 o5 o6 o7 o8 o9 o10, ρ = [o0, some (.r 1), o2, o3, o4, o5, o6, o7, o8, o9, o10]) ∧ Deck κ [] (i * 1000) S) (fun i v ρ S hv hI => ?_) ⟨⟨_, _, _, _, _, _, _, _, _, _, rfl⟩, hD.less (by decide)⟩ fun ρ S hI => ?_
    · obtain ⟨⟨o0, o2, o3, o4, o5, o6, o7, o8, o9, o10, rfl⟩, hD⟩ := hI
      rw [Nat.add_mul] at hD
      have rest : ∀ {o0 o2 o3 o4 o5 o7 o8 : Option Val} {x y z : PyData} {S : List Cell}, Sm 3 260 x → Sm 3 100 y → Sm 3 200 z → mOk z = true → Deck κ [] (i * 1000 + 200) S → wp (seqL (fun s ρ => ex Cg 59 s ρ) (c2 :: c3 :: c4 :: d) [o0, some (.r 1), o2, o3, o4, o5, some (.d z), o7, o8, some (.d x), some (.d y)]) S (fun f S' => (match f with
        | .nx ρ' => (∃ o0 o2 o3 o4 o5 o6 o7 o8 o9 o10, ρ' = [o0, some (.r 1), o2, o3, o4, o5, o6, o7, o8, o9, o10]) ∧ Deck κ [] (i * 1000) S'
        | .ct ρ' => (∃ o0 o2 o3 o4 o5 o6 o7 o8 o9 o10, ρ' = [o0, some (.r 1), o2, o3, o4, o5, o6, o7, o8, o9, o10]) ∧ Deck κ [] (i * 1000) S'
        | _ => False)) (fun _ _ => False) := fun {o0 o2 o3 o4 o5 o7 o8 x y z S} hx hy hz hz2 hD => by
        rw [wp_seq]
        refine wp_mono (hC2 (b := i * 1000 + 100) hx (hD.less (by omega))) (fun f S2 hq => ?_) fun _ _ h => h
        obtain ⟨x, rfl, hx, hD⟩ := hq
        dsimp only
        rw [wp_seq]
        refine wp_mono (hC3 (b := i * 1000 + 50) hy (hD.less (by omega))) (fun f S2 hq => ?_) fun _ _ h => h
        obtain ⟨y, rfl, hy, hD⟩ := hq
        dsimp only
        rw [wp_seq]
        refine wp_mono (hC4 (b := i * 1000 + 20) hz hz2 (hD.less (by omega))) (fun f S2 hq => ?_) fun _ _ h => h
        obtain ⟨z, rfl, hz, hz2, hD⟩ := hq
        refine wp_mono (hD' (b := i * 1000) hx hy hz hz2 (hD.less (by omega))) (fun f S2 hq => ?_) fun _ _ h => h
        obtain ⟨o7, rfl, hD⟩ := hq
        exact ⟨⟨_, _, _, _, _, _, _, _, _, _, rfl⟩, hD⟩
      generalize c2 :: c3 :: c4 :: d = tl at rest ⊢
      simp only [bodyFuel, wp_seq, wp_seq0, x_asg, x_rtn, x_if, x_ex, x_sub, x_for, e_var, e_c, e_g, e_tup, e_lst, e_dnil, e_dnew, e_dct, e_bin, e_neg, e_cmp, e_chn, e_and, e_or, e_not, e_ite, e_idx, e_sl, e_rev, e_call, e_bi, e_rep, e_isi, e_me, e_comp, andE, orE, startE, wp_bnd, wp_ret, wp_some, wp_tru, wp_fail, wp_noex, wp_guard, isiM, wp_view_d, wp_view_k, wp_viewd_d, wp_viewI_d, wp_viewI_k, wp_viewc_d, l_cons, l_nil, itE, isT, if_pos, itemsD, asgT, testsE, wipeE, List.set_cons_zero, List.set_cons_succ, List.getElem?_cons_zero, List.getElem?_cons_succ, Option.join_some, List.map_cons, List.map_nil, List.cons_append, List.nil_append, List.length_cons, List.length_nil, List.replicate_succ, List.replicate_zero, constD, Option.map_some, mkRes, if_true, if_false, Bool.false_eq_true, Bool.not_true, Bool.not_false, List.any_cons, List.any_nil, Bool.or_false, Bool.false_or, Bool.true_or, optE, wp_ite, true_implies, false_implies, not_true_eq_false, not_false_eq_true, and_true, true_and, x_par, wp_par2, wp_par3, x_cnt, x_raise, x_pass, x_brk, x_aug, e_callk, dataV, wp_raise, wp_eqI, wp_neI, wp_gt, wp_lt, wp_le, wp_ge, wp_eqS, wp_neS2, wp_negI, wp_part, wp_tup0, wp_tup1, wp_tup2, wp_tup3, wp_lenT, wp_lenL, wp_mkd, wp_add, wp_sub, wp_int, wp_cutT, asgTs]
      refine c_machine lw pl (most := 5) (i * 1000 + 500) (by decide) (hD.less (by omega)) fun xs S1 hl1 hl6 ha hD => ?_
      refine c_word pl lw (most := 6) (i * 1000 + 400) (by decide) (hD.less (by omega)) fun l S4 hL kl hD => ?_
      refine lw.drawQ (i * 1000 + 399) (by decide) (by decide) hD fun k S7 k0 k1 hD => ?_
      simp only [bodyFuel, wp_seq, wp_seq0, x_asg, x_rtn, x_if, x_ex, x_sub, x_for, e_var, e_c, e_g, e_tup, e_lst, e_dnil, e_dnew, e_dct, e_bin, e_neg, e_cmp, e_chn, e_and, e_or, e_not, e_ite, e_idx, e_sl, e_rev, e_call, e_bi, e_rep, e_isi, e_me, e_comp, andE, orE, startE, wp_bnd, wp_ret, wp_some, wp_tru, wp_fail, wp_noex, wp_guard, isiM, wp_view_d, wp_view_k, wp_viewd_d, wp_viewI_d, wp_viewI_k, wp_viewc_d, l_cons, l_nil, itE, isT, if_pos, itemsD, asgT, testsE, wipeE, List.set_cons_zero, List.set_cons_succ, List.getElem?_cons_zero, List.getElem?_cons_succ, Option.join_some, List.map_cons, List.map_nil, List.cons_append, List.nil_append, List.length_cons, List.length_nil, List.replicate_succ, List.replicate_zero, constD, Option.map_some, mkRes, if_true, if_false, Bool.false_eq_true, Bool.not_true, Bool.not_false, List.any_cons, List.any_nil, Bool.or_false, Bool.false_or, Bool.true_or, optE, wp_ite, true_implies, false_implies, not_true_eq_false, not_false_eq_true, and_true, true_and, x_par, wp_par2, wp_par3, x_cnt, x_raise, x_pass, x_brk, x_aug, e_callk, dataV, wp_raise, wp_eqI, wp_neI, wp_gt, wp_lt, wp_le, wp_ge, wp_eqS, wp_neS2, wp_negI, wp_part, wp_tup0, wp_tup1, wp_tup2, wp_tup3, wp_lenT, wp_lenL, wp_mkd, wp_add, wp_sub, wp_int, wp_cutT, asgTs]
      refine rest ((mach_sm (by omega) ha).mono (Nat.le_refl _) (by omega)) (hL.str (by omega)) ((sm_int k0 (by omega)).mono (by decide) (by decide)) (decide_eq_true (by omega)) (hD.less (by omega))
    · obtain ⟨⟨o0, o2, o3, o4, o5, o6, o7, o8, o9, o10, rfl⟩, hD⟩ := hI
      simp only [bodyFuel, wp_seq, wp_seq0, x_asg, x_rtn, x_if, x_ex, x_sub, x_for, e_var, e_c, e_g, e_tup, e_lst, e_dnil, e_dnew, e_dct, e_bin, e_neg, e_cmp, e_chn, e_and, e_or, e_not, e_ite, e_idx, e_sl, e_rev, e_call, e_bi, e_rep, e_isi, e_me, e_comp, andE, orE, startE, wp_bnd, wp_ret, wp_some, wp_tru, wp_fail, wp_noex, wp_guard, isiM, wp_view_d, wp_view_k, wp_viewd_d, wp_viewI_d, wp_viewI_k, wp_viewc_d, l_cons, l_nil, itE, isT, if_pos, itemsD, asgT, testsE, wipeE, List.set_cons_zero, List.set_cons_succ, List.getElem?_cons_zero, List.getElem?_cons_succ, Option.join_some, List.map_cons, List.map_nil, List.cons_append, List.nil_append, List.length_cons, List.length_nil, List.replicate_succ, List.replicate_zero, constD, Option.map_some, mkRes, if_true, if_false, Bool.false_eq_true, Bool.not_true, Bool.not_false, List.any_cons, List.any_nil, Bool.or_false, Bool.false_or, Bool.true_or, optE, wp_ite, true_implies, false_implies, not_true_eq_false, not_false_eq_true, and_true, true_and, x_par, wp_par2, wp_par3, x_cnt, x_raise, x_pass, x_brk, x_aug, e_callk, dataV, wp_raise, wp_eqI, wp_neI, wp_gt, wp_lt, wp_le, wp_ge, wp_eqS, wp_neS2, wp_negI, wp_part, wp_tup0, wp_tup1, wp_tup2, wp_tup3, wp_lenT, wp_lenL, wp_mkd, wp_add, wp_sub, wp_int, wp_cutT, asgTs]
end M89
end
open PySem PySem.W PyProof.Rows
set_option Elab.async false
set_option maxRecDepth 100000 in
set_option maxHeartbeats 0 in
theorem PySem.Challenge.cw_samequick_k89_standings_after_many_steps_holds : PySem.Challenge.rw_samequick_k89_standings_after_many_steps.Holds := by
  exact Lk89.holds fun ns h _ => M89.law_ok h
