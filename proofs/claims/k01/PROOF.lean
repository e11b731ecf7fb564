import PyProof.Rows.All
import Wide.All
import OpenK.AllK
import Wide.FinOn
import KE.KStateDown
import HandS.ForMost
import HandS.ForExc
import HandS.Wide
import HandS.TupAny
import HandS.TupMul
import HandS.Style
import HandS.IsInst
import HandS.TupLen
import HandS.Iter
import HandS.Zip
import HandS.Rev
import HandS.Small
import HandS.EndBits
import HandS.Defaults
import PyProof.ReprRoads
import PyProof.CallFns
import HandS.Exc
import HandS.Head2
import HandS.HeadEnd
import HandS.HeadHook2
import HandS.Codes
import PySem.Challenge.RW_samequick_k01_words_and_names_of_any_val
section
set_option Elab.async false
set_option linter.all false
set_option maxRecDepth 100000
namespace Ev
open PySem L2

inductive Val where
  | d (x : PyData)
  | r (n : Nat)
  | t (xs : List Val)
  | k (x : PyData)
  deriving Inhabited

inductive Cell where
  | lst (xs : List Val)
  | lk (xs : List Val)
  | dk (kvs : List (Key × Val))
  | dt (kvs : List (List Key × Val))
  | ins (c : Str) (fs : List (Str × Val))
  | dead

structure Exn where
  cls : Str
  fld : Str
  arg : PyData

inductive Res (α : Type) where
  | ok (a : α) (S : List Cell)
  | ex (e : Exn) (S : List Cell)
  | no

abbrev M (α : Type) := List Cell → Res α
@[reducible] def ret {α : Type} (a : α) : M α := fun S => .ok a S
def bnd {α β : Type} (m : M α) (f : α → M β) : M β := fun S => match m S with
  | .ok a S' => f a S'
  | .ex e S' => .ex e S'
  | .no => .no
def fail {α : Type} : M α := fun _ => .no
def lift {α : Type} (o : Option α) : M α := fun S => match o with
  | some a => .ok a S
  | none => .no
/-- an exception is not followed any further -/
def noex {α : Type} (m : M α) : M α := fun S => match m S with
  | .ok a S' => .ok a S'
  | _ => .no
def guardM {α : Type} (b : Bool) (m : M α) : M α := if b = true then m else fail

def allD : List Val → Option (List PyData)
  | [] => some []
  | .d x :: r => (allD r).map (x :: ·)
  | _ :: _ => none
def keyD : Key → PyData
  | .inl i => .int i
  | .inr s => .str s
def keysD (ks : List Key) : PyData := .tuple (ks.map keyD)
def dkD : List (Key × Val) → Option (List (PyData × PyData))
  | [] => some []
  | (k, .d x) :: r => (dkD r).map ((keyD k, x) :: ·)
  | _ :: _ => none
def dtD : List (List Key × Val) → Option (List (PyData × PyData))
  | [] => some []
  | (k, .d x) :: r => (dtD r).map ((keysD k, x) :: ·)
  | _ :: _ => none
/-- a value's data, for reading -/
def vw (S : List Cell) : Val → Option PyData
  | .d x => some x
  | .k x => some x
  | .r n => (match S[n]? with
    | some (.lst xs) => (allD xs).map .list
    | some (.lk xs) => (allD xs).map .list
    | some (.dk kvs) => (dkD kvs).map .dict
    | some (.dt kvs) => (dtD kvs).map .dict
    | _ => none)
  | .t _ => none
/-- .. of an object that is tracked by itself (no constant of the module, not the script) -/
def vwd (S : List Cell) : Val → Option PyData
  | .k _ => none
  | v => vw S v
def view (v : Val) : M PyData := fun S => match vw S v with
  | some x => .ok x S
  | none => .no
def viewd (v : Val) : M PyData := fun S => match vwd S v with
  | some x => .ok x S
  | none => .no
/-- .. but for a tuple of the module -/
def viewc : Val → M PyData
  | .k (.tuple _) => fail
  | v => view v
def alloc (c : Cell) : M Val := fun S => .ok (.r S.length) (S ++ [c])
/-- a new list of values, a mutable one or data -/
def mkList (mu : Bool) (xs : List Val) : M Val := if xs.length ≤ sizeLine then (if mu = true then alloc (.lst xs) else lift ((allD xs).map fun ds => .d (.list ds))) else fail
def mkTup (xs : List Val) : M Val := if xs.length ≤ sizeLine then ret (match allD xs with
  | some ds => .d (.tuple ds)
  | none => .t xs) else fail
/-- the result of an operation on data, a list perhaps mutable -/
def mkRes (mu : Bool) (x : PyData) : M Val := match mu, x with
  | true, .list xs => alloc (.lst (xs.map .d))
  | _, _ => ret (.d x)

/-- == item by item, all pairs being asked -/
def eqL (f : PyData → PyData → Option Bool) : List PyData → List PyData → Option Bool
  | [], [] => some true
  | [], _ :: _ => some false
  | _ :: _, [] => some false
  | x :: xs, y :: ys => (match f x y, eqL f xs ys with
    | some a, some b => some (a && b)
    | _, _ => none)
def eqG : Nat → PyData → PyData → Option Bool
  | 0, _, _ => none
  | n + 1, a, b => match a, b with
    | .none, .none => some true
    | .bool a, .bool b => some (a == b)
    | .bool a, .int j => some ((if a = true then 1 else 0) == j)
    | .int i, .bool b => some (i == (if b = true then 1 else 0))
    | .int i, .int j => some (i == j)
    | .str x, .str y => some (x == y)
    | .list xs, .list ys => if xs.length = ys.length then eqL (eqG n) xs ys else some false
    | .tuple xs, .tuple ys => eqL (eqG n) xs ys
    | .dict _, _ => none
    | _, .dict _ => none
    | _, _ => some false
def keyOf : PyData → Option Key
  | .int i => some (.inl i)
  | .str s => some (.inr s)
  | _ => none
def keysL : List PyData → Option (List Key)
  | [] => some []
  | x :: r => (match keyOf x, keysL r with
    | some k, some ks => some (k :: ks)
    | _, _ => none)
def keysOf : PyData → Option (List Key)
  | .tuple xs => keysL xs
  | _ => none
/-- a place in a list of pairs -/
def lookK {κ α : Type} [DecidableEq κ] (kvs : List (κ × α)) (k : κ) : Option α := (kvs.find? fun kv => decide (kv.1 = k)).map (·.2)
def storeK {κ α : Type} [DecidableEq κ] (kvs : List (κ × α)) (k : κ) (v : α) : List (κ × α) :=
  if (kvs.any fun kv => decide (kv.1 = k)) = true then kvs.map (fun kv => if kv.1 = k then (kv.1, v) else kv) else kvs ++ [(k, v)]
/-- what a frozen dict holds (its first key tells of which kind its keys are) -/
def lookD (kvs : List (PyData × PyData)) (x : PyData) : Option (Option PyData) := match kvs with
  | [] => none
  | kv :: _ => (match keyOf kv.1 with
    | some _ => (match keyOf x with
      | some k => some ((kvs.find? fun kv => decide (keyOf kv.1 = some k)).map (·.2))
      | none => none)
    | none => (match keysOf x with
      | some ks => some ((kvs.find? fun kv => decide (keysOf kv.1 = some ks)).map (·.2))
      | none => none))
/-- data without an object -/
def flatD : PyData → Bool
  | .none => true
  | .bool _ => true
  | .int _ => true
  | .str _ => true
  | _ => false
def sign (c : Nat) : Str := ⟨#[c]⟩
def cutL {α : Type} (xs : List α) (lo hi : Option Int) : List α := (xs.drop (HT.sIx xs.length 0 lo)).take (HT.sIx xs.length xs.length hi - HT.sIx xs.length 0 lo)

/-- the classes that isinstance is asked about -/
inductive Ty where
  | bool | int | str | list | tuple | dict
  deriving DecidableEq
inductive BOp where
  | add | sub | mul | fdiv | mod | pow
inductive COp where
  | eq | ne | lt | le | gt | ge | is | isn | in_ | nin
inductive BI where
  | len | all_ | any_ | int_ | max2 | min2 | list_ | tuple_ | str_ | sum_ | ord_ | chr_ | abs_ | sorted_
inductive ME where
  | join | append | pop0 | pop1 | get1 | get2 | extend | items | values | keys

def addD (a b : PyData) : Option PyData := match a, b with
  | .int i, .int j => some (.int (i + j))
  | .str x, .str y => if x.length + y.length ≤ sizeLine then some (.str (x ++ y)) else none
  | .tuple xs, .tuple ys => if xs.length + ys.length ≤ sizeLine then some (.tuple (xs ++ ys)) else none
  | .list xs, .list ys => if xs.length + ys.length ≤ sizeLine then some (.list (xs ++ ys)) else none
  | _, _ => none
def repL (xs : List PyData) (k : Int) : List PyData := (List.replicate k.toNat xs).flatten
def repS (z : Str) (k : Int) : Str := ⟨(List.replicate k.toNat z.cps).foldl (· ++ ·) #[]⟩
def binD (o : BOp) (a b : PyData) : Option PyData := match o with
  | .add => addD a b
  | .sub => (match a, b with
    | .int i, .int j => some (.int (i - j))
    | _, _ => none)
  | .mul => (match a, b with
    | .int i, .int j => if i.natAbs.log2 + j.natAbs.log2 < 1000000 then some (.int (i * j)) else none
    | .list xs, .int k => if -(2 ^ 63) ≤ k ∧ k < 2 ^ 63 ∧ xs.length * k.toNat ≤ sizeLine then some (.list (repL xs k)) else none
    | .tuple xs, .int k => if xs ≠ [] ∧ 2 ≤ k ∧ k ≤ 1000 ∧ xs.length ≤ 1000 then some (.tuple (repL xs k)) else none
    | .str z, .int k => if 2 ≤ k ∧ k < 2 ^ 63 ∧ z.length ≠ 0 ∧ z.length * k.toNat ≤ sizeLine then some (.str (repS z k)) else none
    | _, _ => none)
  | .fdiv => (match a, b with
    | .int i, .int j => if 0 < j ∧ j.natAbs.log2 < 9000 then some (.int (i / j)) else none
    | _, _ => none)
  | .mod => (match a, b with
    | .int i, .int j => if 0 < j then some (.int (i % j)) else none
    | _, _ => none)
  | .pow => (match a, b with
    | .int i, .int j => if 0 ≤ j ∧ j ≤ 1000000 ∧ i.natAbs < 2 ^ 64 then some (.int (i ^ j.toNat)) else none
    | _, _ => none)
def binM (mu : Bool) (o : BOp) (a b : Val) : M Val := bnd (viewd a) fun x => bnd (viewd b) fun y => bnd (lift (binD o x y)) (mkRes mu)

def eqN : Nat := 64
def ordW (pi : Int → Int → Bool) (ps : Str → Str → Bool) : PyData → PyData → Option Bool
  | .int i, .int j => some (pi i j)
  | .str x, .str y => some (ps x y)
  | _, _ => none
def isNoneD : PyData → Bool
  | .none => true
  | _ => false
def anyEq (x : PyData) : List PyData → Option Bool
  | [] => some false
  | y :: r => (match eqG eqN y x, anyEq x r with
    | some a, some b => some (a || b)
    | _, _ => none)
def inD (x y : PyData) : Option Bool := match y with
  | .list ys => anyEq x ys
  | .tuple ys => anyEq x ys
  | .str z => (match x with
    | .str s => (match s.cps.toList with
      | [c] => some (decide (c ∈ z.cps.toList))
      | _ => none)
    | _ => none)
  | .dict kvs => (lookD kvs x).map (·.isSome)
  | _ => none
def cmpD (o : COp) (a b : PyData) : Option Bool := match o with
  | .eq => eqG eqN a b
  | .ne => (eqG eqN a b).map (!·)
  | .lt => ordW (fun i j => decide (i < j)) (fun i j => decide (i.cps.toList < j.cps.toList)) a b
  | .gt => ordW (fun i j => decide (j < i)) (fun i j => decide (j.cps.toList < i.cps.toList)) a b
  | .le => ordW (fun i j => decide (i ≤ j)) (fun i j => !decide (j.cps.toList < i.cps.toList)) a b
  | .ge => ordW (fun i j => decide (j ≤ i)) (fun i j => !decide (i.cps.toList < j.cps.toList)) a b
  | .is => if isNoneD b = true then some (isNoneD a) else none
  | .isn => if isNoneD b = true then some (!isNoneD a) else none
  | _ => none
def inM (a b : Val) : M Bool := bnd (viewd a) fun x => match b with
  | .r n => fun S => (match S[n]? with
    | some (.dk kvs) => (match keyOf x with
      | some k => .ok (lookK kvs k).isSome S
      | none => .no)
    | some (.dt kvs) => (match keysOf x with
      | some k => .ok (lookK kvs k).isSome S
      | none => .no)
    | _ => bnd (view b) (fun y => lift (inD x y)) S)
  | _ => bnd (view b) fun y => lift (inD x y)
def cmpM (o : COp) (a b : Val) : M Bool := match o with
  | .in_ => inM a b
  | .nin => bnd (inM a b) fun r => ret (!r)
  | o => bnd (view a) fun x => bnd (view b) fun y => lift (cmpD o x y)

/-- truth, of what a test may be -/
def truD : PyData → Bool
  | .none => false
  | .bool b => b
  | .int i => i != 0
  | .str s => s.length != 0
  | .list xs => !xs.isEmpty
  | .tuple xs => !xs.isEmpty
  | .dict xs => !xs.isEmpty
def truB : Val → M Bool
  | .d (.bool b) => ret b
  | _ => fail

def atD (x : PyData) (i : Int) : Option PyData := match x with
  | .tuple xs => atI xs i
  | .list xs => atI xs i
  | .str z => if z.length ≤ sizeLine then (atI z.cps.toList i).map fun c => .str (sign c) else none
  | _ => none
def idxM (a i : Val) : M Val := fun S => match i with
  | .d y => (match a with
    | .r n => (match S[n]?, y with
      | some (.lst xs), .int z => lift (atI xs z) S
      | some (.lk xs), .int z => lift (atI xs z) S
      | some (.dk kvs), y => (match keyOf y with
        | some k => lift (lookK kvs k) S
        | none => .no)
      | some (.dt kvs), y => (match keysOf y with
        | some k => lift (lookK kvs k) S
        | none => .no)
      | _, _ => .no)
    | .t xs => (match y with
      | .int z => lift (atI xs z) S
      | _ => .no)
    | .d (.dict kvs) => lift ((lookD kvs y).join.map .d) S
    | .k (.dict kvs) => lift ((lookD kvs y).join.map .d) S
    | .d x => (match y with
      | .int z => lift ((atD x z).map .d) S
      | _ => .no)
    | .k x => (match y with
      | .int z => lift ((atD x z).map .d) S
      | _ => .no))
  | _ => .no
def cutD (x : PyData) (lo hi : Option Int) : Option PyData := match x with
  | .tuple xs => some (.tuple (cutL xs lo hi))
  | .list xs => some (.list (cutL xs lo hi))
  | .str z => if z.length ≤ sizeLine then some (.str (cutS z lo hi)) else none
  | _ => none
def revD (x : PyData) : Option PyData := match x with
  | .list xs => some (.list xs.reverse)
  | _ => none

def tyName : PyData → String
  | .none => "NoneType"
  | .bool _ => "bool"
  | .int _ => "int"
  | .str _ => "str"
  | .list _ => "list"
  | .tuple _ => "tuple"
  | .dict _ => "dict"
def Ty.name : Ty → String
  | .bool => "bool" | .int => "int" | .str => "str" | .list => "list" | .tuple => "tuple" | .dict => "dict"
def isT : PyData → Ty → Bool
  | .bool _, .bool => true
  | .bool _, .int => true
  | .int _, .int => true
  | .str _, .str => true
  | .list _, .list => true
  | .tuple _, .tuple => true
  | .dict _, .dict => true
  | _, _ => false
def boolsL : List PyData → Option (List Bool)
  | [] => some []
  | .bool b :: r => (boolsL r).map (b :: ·)
  | _ :: _ => none
def intsL : List PyData → Option (List Int)
  | [] => some []
  | .int b :: r => (intsL r).map (b :: ·)
  | _ :: _ => none
def strsL : List PyData → Option (List Str)
  | [] => some []
  | .str b :: r => (strsL r).map (b :: ·)
  | _ :: _ => none
def biD (b : BI) (xs : List PyData) : Option PyData := match b, xs with
  | .len, [.list xs] => some (.int xs.length)
  | .len, [.tuple xs] => some (.int xs.length)
  | .len, [.dict xs] => some (.int xs.length)
  | .len, [.str z] => if z.length ≤ sizeLine then some (.int z.length) else none
  | .all_, [.list xs] => (boolsL xs).map fun bs => .bool (bs.all id)
  | .any_, [.list xs] => (boolsL xs).map fun bs => .bool (bs.any id)
  | .int_, [.int i] => some (.int i)
  | .int_, [.bool b] => some (.int (if b then 1 else 0))
  | .max2, [.int i, .int j] => some (.int (if j > i then j else i))
  | .min2, [.int i, .int j] => some (.int (if j < i then j else i))
  | .list_, [.list xs] => some (.list xs)
  | .list_, [.tuple xs] => some (.list xs)
  | .tuple_, [.list xs] => some (.tuple xs)
  | .tuple_, [.tuple xs] => some (.tuple xs)
  | .sum_, [.list xs] => (intsL xs).map fun ns => .int ns.sum
  | .abs_, [.int i] => some (.int (if i < 0 then -i else i))
  | _, _ => none
def allV : List Val → M (List PyData)
  | [] => ret []
  | v :: r => bnd (view v) fun x => bnd (allV r) fun xs => ret (x :: xs)
def notK : List Val → Bool
  | [.k (.tuple _)] => false
  | _ => true
def biM (mu : Bool) (b : BI) (vs : List Val) : M Val := guardM (notK vs || (match b with | .tuple_ => false | _ => true)) (bnd (allV vs) fun xs => bnd (lift (biD b xs)) (mkRes mu))
def augM (o : BOp) (a b : Val) : M Val := match o, a, b with
  | .add, .d (.int i), .d (.int j) => ret (.d (.int (i + j)))
  | .sub, .d (.int i), .d (.int j) => ret (.d (.int (i - j)))
  | .add, .d (.str x), .d (.str y) => if x.length + y.length ≤ sizeLine then ret (.d (.str (x ++ y))) else fail
  | _, _, _ => fail
def negM : Val → M Val
  | .d (.int i) => ret (.d (.int (-i)))
  | _ => fail
def viewI : Val → M PyData
  | .r _ => fail
  | v => view v
def viewJ : Val → M PyData
  | .r _ => fail
  | v => viewd v
def isiM (ts : List Ty) (v : Val) : M Val := bnd (view v) fun d => ret (.d (.bool (ts.any (isT d))))
def reprD (x : PyData) : Option PyData := if x.showable = true ∧ x.depth ≤ 100 ∧ x.shown.length ≤ sizeLine then some (.str x.shown) else none
def reprM (v : Val) : M Val := bnd (viewd v) fun x => bnd (lift (reprD x)) fun y => ret (.d y)
/-- the kind of object that a method is of -/
inductive MTy where
  | list | str | dict
  deriving DecidableEq
def ME.ty : ME → MTy
  | .join => .str
  | .append => .list
  | .pop0 => .list
  | .pop1 => .list
  | .extend => .list
  | _ => .dict
def tyOk (m : MTy) (v : Val) (S : List Cell) : Bool := match m, v with
  | .list, .r n => (match S[n]? with
    | some (.lst _) => true
    | _ => false)
  | .str, .d (.str _) => true
  | .dict, .r n => (match S[n]? with
    | some (.dk _) => true
    | some (.dt _) => true
    | _ => false)
  | _, _ => false
def tyM (m : MTy) (v : Val) : M Unit := fun S => if tyOk m v S = true then .ok () S else .no

def setCell (n : Nat) (c : Cell) : M Unit := fun S => .ok () (S.set n c)
def joinD (z : Str) (ys : List Str) : Option PyData := if (ys.map (·.length)).sum + ys.length * z.length ≤ 16777216 then some (.str (Txt.join z ys)) else none
def meM (m : ME) (o : Val) (vs : List Val) : M Val := fun S => match m, o, vs with
  | .append, .r n, [v] => (match S[n]? with
    | some (.lst xs) => if xs.length < sizeLine then .ok (.d .none) (S.set n (.lst (xs ++ [v]))) else .no
    | _ => .no)
  | .pop0, .r n, [] => (match S[n]? with
    | some (.lst xs) => (match xs[xs.length - 1]? with
      | some v => .ok v (S.set n (.lst xs.dropLast))
      | none => .no)
    | _ => .no)
  | .pop1, .r n, [.d (.int i)] => (match S[n]? with
    | some (.lst xs) => (match ixN xs.length i with
      | some j => (match xs[j]? with
        | some v => if -(2 ^ 63) ≤ i ∧ i < 2 ^ 63 then .ok v (S.set n (.lst (xs.eraseIdx j))) else .no
        | none => .no)
      | none => .no)
    | _ => .no)
  | .join, .d (.str z), [v] => (match vw S v with
    | some (.list xs) => lift (((strsL xs).bind (joinD z)).map .d) S
    | some (.tuple xs) => lift (((strsL xs).bind (joinD z)).map .d) S
    | _ => .no)
  | .extend, .r n, [v] => (match S[n]?, vwd S v with
    | some (.lst xs), some (.list ys) => if xs.length + ys.length ≤ sizeLine then .ok (.d .none) (S.set n (.lst (xs ++ ys.map .d))) else .no
    | _, _ => .no)
  | _, _, _ => .no

/-- o[i] = v -/
def putM (x y v : Val) : M Unit := fun S => match x, y with
  | .r m, .d y => (match S[m]?, y with
    | some (.lst xs), .int z => (match ixN xs.length z with
      | some j => .ok () (S.set m (.lst (xs.set j v)))
      | none => .no)
    | some (.dk kvs), y => (match keyOf y with
      | some k => if kvs.length < sizeLine then .ok () (S.set m (.dk (storeK kvs k v))) else .no
      | none => .no)
    | some (.dt kvs), y => (match keysOf y with
      | some k => if kvs.length < sizeLine then .ok () (S.set m (.dt (storeK kvs k v))) else .no
      | none => .no)
    | _, _ => .no)
  | _, _ => .no

mutual
inductive X where
  | var (i : Nat)
  | c (x : Const)
  | g (j : Nat)
  | tup (es : List X)
  | lst (mu : Bool) (es : List X)
  | dnew (tk : Bool)
  | dnil
  | dct (mu : Bool) (es : List (X × X))
  | bin (mu : Bool) (o : BOp) (a b : X)
  | neg (a : X)
  | cmp (o : COp) (a b : X)
  | chn (o p : COp) (a b c : X)
  | and_ (es : List X)
  | or_ (es : List X)
  | not_ (a : X)
  | ite (t a b : X)
  | idx (a i : X)
  | sl (mu : Bool) (a : X) (lo hi : Option X)
  | rev (mu : Bool) (a : X)
  | call (f : Str) (es : List X)
  | callk (f : Str) (es : List X) (ks : List (Str × X))
  | bi (mu : Bool) (b : BI) (es : List X)
  | rep (a : X)
  | isi (ts : List Ty) (a : X)
  | me (m : ME) (o : X) (es : List X)
  | comp (mu : Bool) (el : X) (tg : Tg) (it : It) (tests : List X) (own : List Nat)
inductive Tg where
  | var (i : Nat)
  | tup (ts : List Tg)
inductive It where
  | ex (a : X)
  | rng (es : List X)
  | enu (a : X)
  | zip (a b : X)
  | rev (a : X)
end
inductive Fl where
  | nx (ρ : List (Option Val))
  | rt (v : Val)
  | bk (ρ : List (Option Val))
  | ct (ρ : List (Option Val))
inductive T where
  | asg (tg : Tg) (e : X)
  | par (is : List Nat) (es : List X)
  | sub (o i e : X)
  | aug (i : Nat) (o : BOp) (e : X)
  | ex (e : X)
  | rtn (e : Option X)
  | if_ (t : X) (a b : List T)
  | for_ (tg : Tg) (it : It) (b : List T)
  | while_ (t : X) (b : List T)
  | brk | cnt | pass

abbrev Env := List (Option Val)
structure Cfg where
  call : Str → List Val → M Val
  kw : Str → List Str → Nat → Option (List Nat)
  glob : List (Str × Val)

def wipeE (ρ : Env) : List Nat → Env
  | [] => ρ
  | v :: vs => (wipeE ρ vs).set v none
mutual
/-- a target is given a value -/
def asgT : Tg → Val → Env → M Env
  | .var i, v, ρ => ret (ρ.set i (some v))
  | .tup ts, v, ρ => (match v with
    | .d (.tuple xs) => asgTs ts (xs.map .d) ρ
    | .t xs => asgTs ts xs ρ
    | _ => fail)
def asgTs : List Tg → List Val → Env → M Env
  | [], [], ρ => ret ρ
  | t :: ts, v :: vs, ρ => bnd (asgT t v ρ) fun ρ' => asgTs ts vs ρ'
  | _, _, _ => fail
end
/-- what a for walks: all of it ahead (a mutable list is locked meanwhile) -/
def itemsD : PyData → Option (List PyData)
  | .list xs => some xs
  | .tuple xs => some xs
  | .str z => some (z.cps.toList.map fun c => .str (sign c))
  | _ => none
def rangeL (lo : Int) : Nat → List Val
  | 0 => []
  | n + 1 => .d (.int lo) :: rangeL (lo + 1) n
def okR (i : Int) : Bool := decide (-(2 ^ 62) ≤ i) && decide (i < 2 ^ 62)
def enumL (i : Int) : List PyData → List Val
  | [] => []
  | x :: r => .d (.tuple [.int i, x]) :: enumL (i + 1) r
def zipL : List PyData → List PyData → List Val
  | x :: r, y :: s => .d (.tuple [x, y]) :: zipL r s
  | _, _ => []
def constD : Const → Option PyData
  | .none => some .none
  | .bool b => some (.bool b)
  | .int i => some (.int i)
  | .str s => some (.str s)
  | _ => none
def partI : Val → M Int
  | .d (.int i) => ret i
  | _ => fail
def parM (is : List Nat) (ρ : Env) (vs : List Val) : M Fl := match is, vs with
  | [i, j], [v, w] => ret (.nx ((ρ.set i (some v)).set j (some w)))
  | [i, j, l], [u, v, w] => ret (.nx (((ρ.set i (some u)).set j (some v)).set l (some w)))
  | _, _ => fail
def forL (body : Val → Env → M Fl) : List Val → Env → M Fl
  | [], ρ => ret (.nx ρ)
  | v :: vs, ρ => bnd (body v ρ) fun f => match f with
    | .nx ρ' => forL body vs ρ'
    | .ct ρ' => forL body vs ρ'
    | .bk ρ' => ret (.nx ρ')
    | .rt w => ret (.rt w)
def whileL (test : Env → M Bool) (body : Env → M Fl) : Nat → Env → M Fl
  | 0, _ => fail
  | n + 1, ρ => bnd (test ρ) fun b => if b = true then bnd (body ρ) fun f => (match f with
      | .nx ρ' => whileL test body n ρ'
      | .ct ρ' => whileL test body n ρ'
      | .bk ρ' => ret (.nx ρ')
      | .rt w => ret (.rt w)) else ret (.nx ρ)
def compL (body : Val → M (Option Val)) : List Val → M (List Val)
  | [] => ret []
  | v :: vs => bnd (body v) fun o => bnd (compL body vs) fun r => ret (o.toList ++ r)

def keyM : Val → M Key
  | .d x => lift (keyOf x)
  | _ => fail
def mergeD (kvs : List (Key × Val)) : List (Key × Val) := kvs.foldl (fun acc kv => storeK acc kv.1 kv.2) []
/-- a dict display -/
def mkDict (mu : Bool) (kvs : List (Key × Val)) : M Val := if kvs.length ≤ 15 then (if mu = true then alloc (.dk (mergeD kvs)) else lift ((dkD (mergeD kvs)).map fun ps => .d (.dict ps))) else fail
def rngM : List Val → M (List Val)
  | [.d (.int n)] => guardM (okR n) (ret (rangeL 0 n.toNat))
  | [.d (.int lo), .d (.int hi)] => guardM (okR lo && okR hi) (ret (rangeL lo (hi - lo).toNat))
  | _ => fail
def enuM : List Val → M (List Val)
  | [v] => bnd (viewI v) fun x => (match x with
    | .list xs => ret (enumL 0 xs)
    | _ => fail)
  | _ => fail
def zipM : List Val → M (List Val)
  | [v, w] => bnd (viewI v) fun x => bnd (viewI w) fun y => (match x, y with
    | .list xs, .list ys => ret (zipL xs ys)
    | .tuple xs, .tuple ys => ret (zipL xs ys)
    | _, _ => fail)
  | _ => fail
def revM (v : Val) : M (List Val) := bnd (viewI v) fun x => (match x with
  | .list xs => ret (xs.reverse.map .d)
  | .tuple xs => ret (xs.reverse.map .d)
  | _ => fail)
section
variable (C : Cfg)
def mapE (f : X → M Val) : List X → M (List Val)
  | [] => ret []
  | e :: es => bnd (f e) fun v => bnd (mapE f es) fun vs => ret (v :: vs)
def prsE (f : X → M Val) : List (X × X) → M (List (Key × Val))
  | [] => ret []
  | p :: r => bnd (f p.1) fun x => bnd (f p.2) fun v => bnd (keyM x) fun k => bnd (prsE f r) fun kvs => ret ((k, v) :: kvs)
def andE (f : X → M Val) : List X → M Val
  | [] => fail
  | [e] => f e
  | e :: es => bnd (f e) fun v => bnd (truB v) fun b => if b = true then andE f es else ret (.d (.bool false))
def orE (f : X → M Val) : List X → M Val
  | [] => fail
  | [e] => f e
  | e :: es => bnd (f e) fun v => bnd (truB v) fun b => if b = true then ret (.d (.bool true)) else orE f es
def optE (f : X → M Val) : Option X → M (Option Int)
  | none => ret none
  | some e => bnd (f e) fun v => bnd (partI v) fun i => ret (some i)
/-- all tests of a clause, by truth of bools -/
def testsE (f : X → M Val) : List X → M Bool
  | [] => ret true
  | e :: es => bnd (f e) fun v => bnd (truB v) fun b => if b = true then testsE f es else ret false
/-- the items -/
def itE (f : X → M Val) : It → M (List Val)
  | .ex a => bnd (f a) fun v => bnd (viewI v) fun x => bnd (lift (itemsD x)) fun xs => ret (xs.map .d)
  | .rng es => bnd (mapE f es) rngM
  | .enu a => bnd (mapE f [a]) enuM
  | .zip a b => bnd (mapE f [a, b]) zipM
  | .rev a => bnd (f a) revM
def kwOrder (np nk : Nat) (is : List Nat) (vs ws : List Val) : Option (List Val) := if vs.length = np ∧ ws.length = nk then is.mapM fun i => (vs ++ ws)[i]? else none

def ev : Nat → X → Env → M Val
  | 0, _, _ => fail
  | n + 1, e, ρ => match e with
    | .var i => lift (ρ[i]?.join)
    | .c x => lift ((constD x).map .d)
    | .g j => lift (C.glob[j]?.map (·.2))
    | .tup es => bnd (mapE (fun e => ev n e ρ) es) mkTup
    | .lst mu es => bnd (mapE (fun e => ev n e ρ) es) (mkList mu)
    | .dnew tk => alloc (if tk = true then .dt [] else .dk [])
    | .dnil => ret (.d (.dict []))
    | .dct mu es => bnd (prsE (fun e => ev n e ρ) es) (mkDict mu)
    | .bin mu o a b => bnd (ev n a ρ) fun x => bnd (ev n b ρ) fun y => binM mu o x y
    | .neg a => bnd (ev n a ρ) negM
    | .cmp o a b => bnd (ev n a ρ) fun x => bnd (ev n b ρ) fun y => bnd (cmpM o x y) fun r => ret (.d (.bool r))
    | .chn o p a b c => bnd (ev n a ρ) fun x => bnd (ev n b ρ) fun y => bnd (cmpM o x y) fun r => if r = true then bnd (ev n c ρ) fun z => bnd (cmpM p y z) fun r => ret (.d (.bool r)) else ret (.d (.bool false))
    | .and_ es => andE (fun e => ev n e ρ) es
    | .or_ es => orE (fun e => ev n e ρ) es
    | .not_ a => bnd (ev n a ρ) fun x => bnd (truB x) fun b => ret (.d (.bool (!b)))
    | .ite t a b => bnd (ev n t ρ) fun x => bnd (truB x) fun c => if c = true then ev n a ρ else ev n b ρ
    | .idx a i => bnd (ev n a ρ) fun x => bnd (ev n i ρ) fun y => idxM x y
    | .sl mu a lo hi => bnd (ev n a ρ) fun x => bnd (optE (fun e => ev n e ρ) lo) fun l => bnd (optE (fun e => ev n e ρ) hi) fun h => bnd (viewc x) fun x => bnd (lift (cutD x l h)) (mkRes mu)
    | .rev mu a => bnd (ev n a ρ) fun x => bnd (viewc x) fun x => bnd (lift (revD x)) (mkRes mu)
    | .call f es => bnd (mapE (fun e => ev n e ρ) es) (C.call f)
    | .callk f es ks => bnd (mapE (fun e => ev n e ρ) es) fun vs => bnd (mapE (fun e => ev n e ρ) (ks.map (·.2))) fun ws => (match C.kw f (ks.map (·.1)) es.length with
      | some is => (match kwOrder es.length ks.length is vs ws with
        | some us => C.call f us
        | none => fail)
      | none => fail)
    | .rep a => bnd (ev n a ρ) reprM
    | .isi ts a => bnd (ev n a ρ) (isiM ts)
    | .bi mu b es => bnd (mapE (fun e => ev n e ρ) es) (biM mu b)
    | .me m o es => bnd (ev n o ρ) fun x => bnd (tyM m.ty x) fun _ => bnd (mapE (fun e => ev n e ρ) es) (meM m x)
    | .comp mu el tg it tests own => bnd (itE (fun e => ev n e ρ) it) fun vs =>
        bnd (compL (fun v => noex (bnd (asgT tg v (wipeE ρ own)) fun ρ' => bnd (testsE (fun e => ev n e ρ') tests) fun b => if b = true then bnd (ev n el ρ') fun x => ret (some x) else ret none)) vs) (mkList mu)

def seqL (f : T → Env → M Fl) : List T → Env → M Fl
  | [], ρ => ret (.nx ρ)
  | s :: r, ρ => bnd (f s ρ) fun g => (match g with
    | .nx ρ' => seqL f r ρ'
    | g => ret g)
def whileFuel : Nat := 1000000
def ex : Nat → T → Env → M Fl
  | 0, _, _ => fail
  | n + 1, s, ρ => match s with
    | .asg tg e => bnd (ev C n e ρ) fun v => bnd (asgT tg v ρ) fun ρ' => ret (.nx ρ')
    | .par is es => bnd (mapE (fun e => ev C n e ρ) es) (parM is ρ)
    | .sub o i e => bnd (ev C n e ρ) fun v => bnd (ev C n o ρ) fun x => bnd (ev C n i ρ) fun y => bnd (putM x y v) fun _ => ret (.nx ρ)
    | .aug i o e => bnd (lift (ρ[i]?.join)) fun v => bnd (ev C n e ρ) fun w => bnd (augM o v w) fun x => ret (.nx (ρ.set i (some x)))
    | .ex e => bnd (ev C n e ρ) fun _ => ret (.nx ρ)
    | .rtn none => ret (.rt (.d .none))
    | .rtn (some e) => bnd (ev C n e ρ) fun v => ret (.rt v)
    | .if_ t a b => bnd (ev C n t ρ) fun v => bnd (truB v) fun c => if c = true then seqL (fun s ρ => ex n s ρ) a ρ else seqL (fun s ρ => ex n s ρ) b ρ
    | .for_ tg it b => bnd (itE (fun e => ev C n e ρ) it) fun vs => forL (fun v ρ => bnd (asgT tg v ρ) fun ρ' => seqL (fun s ρ => ex n s ρ) b ρ') vs ρ
    | .while_ t b => whileL (fun ρ => bnd (ev C n t ρ) truB) (fun ρ => seqL (fun s ρ => ex n s ρ) b ρ) whileFuel ρ
    | .brk => ret (.bk ρ)
    | .cnt => ret (.ct ρ)
    | .pass => ret (.nx ρ)
end

structure Fn where
  np : Nat
  nslots : Nat
  body : List T
  shared : Bool
  params : List Str
def startE (n : Nat) (vs : List Val) : Env := vs.map some ++ List.replicate (n - vs.length) none
mutual
def below (k : Nat) : Val → Bool
  | .d _ => true
  | .k _ => true
  | .r n => decide (n < k)
  | .t xs => belowL k xs
def belowL (k : Nat) : List Val → Bool
  | [] => true
  | v :: r => below k v && belowL k r
end
def belowC (k : Nat) : Cell → Bool
  | .lst xs => belowL k xs
  | .lk xs => belowL k xs
  | .dk kvs => belowL k (kvs.map (·.2))
  | .dt kvs => belowL k (kvs.map (·.2))
  | .ins _ fs => belowL k (fs.map (·.2))
  | .dead => true
/-- the objects that were made in a call are let go, if nothing names them -/
def trim (k : Nat) (v : Val) (S : List Cell) : List Cell := if (below k v && (S.take k).all (belowC k)) = true then S.take k else S
def freeze (S : List Cell) : Val → Option PyData
  | .d x => some x
  | .r n => (match S[n]? with
    | some (.lst xs) => (allD xs).map .list
    | some (.dk kvs) => (dkD kvs).map .dict
    | some (.dt kvs) => (dtD kvs).map .dict
    | _ => none)
  | _ => none
abbrev Tab := List (Str × Fn)
def lookF (Γ : Tab) (f : Str) : Option Fn := (Γ.find? fun p => decide (p.1 = f)).map (·.2)
def kwF (Γ : Tab) (f : Str) (ks : List Str) (n : Nat) : Option (List Nat) := match lookF Γ f with
  | some fd => (fd.params.zipIdx).mapM fun (x, i) => if i < n then some i else (ks.idxOf? x).map (n + ·)
  | none => none
def bodyFuel : Nat := 60
def runB (C : Cfg) (fd : Fn) (vs : List Val) : M Val := bnd (seqL (fun s ρ => ex C bodyFuel s ρ) fd.body (startE fd.nslots vs)) fun f => match f with
  | .rt v => ret v
  | .nx _ => ret (.d .none)
  | _ => fail
def callB (C : Cfg) (fd : Fn) (vs : List Val) : M Val := if vs.length = fd.np then (if fd.shared = true then fun S => (match runB C fd vs S with
      | .ok v S' => .ok v (trim S.length v S')
      | .ex e S' => .ex e S'
      | .no => .no)
    else match allD vs with
      | some _ => fun S => (match runB C fd vs [] with
        | .ok v S' => (match freeze S' v with
          | some x => .ok (.d x) S
          | none => .no)
        | .ex e _ => .ex e S
        | .no => .no)
      | none => fail) else fail
def callF (Γ : Tab) (G : List (Str × Val)) : Nat → Str → List Val → M Val
  | 0, _, _ => fail
  | n + 1, f, vs => match lookF Γ f with
    | some fd => callB ⟨callF Γ G n, kwF Γ, G⟩ fd vs
    | none => fail
end Ev
end
section
set_option Elab.async false
set_option linter.all false
set_option maxRecDepth 100000
namespace Ev
open PySem PySem.Spec L2

mutual
/-- data that stands in the part I of the heap, which is never written -/
inductive RD (I : Hp) : PyData → V → Prop where
  | none : RD I .none .non
  | bool (b : Bool) : RD I (.bool b) (.bl b)
  | int (i : Int) : RD I (.int i) (.int i)
  | str (s : Str) : RD I (.str s) (.str s)
  | list {a : Addr} {xs : List V} {ds : List PyData} : I a = some (.lst xs) → RDs I ds xs → RD I (.list ds) (.ref a)
  | tuple {a : Addr} {xs : List V} {ds : List PyData} : I a = some (.tup xs) → RDs I ds xs → RD I (.tuple ds) (.ref a)
  | dk {a : Addr} {kvs : List (Key × V)} {ps : List (PyData × PyData)} : Rd I a (.dK kvs) → RDk I ps kvs → RD I (.dict ps) (.ref a)
  | dt {a : Addr} {kvs : List (List Key × V)} {ps : List (PyData × PyData)} : Rd I a (.dT kvs) → RDt I ps kvs → RD I (.dict ps) (.ref a)
inductive RDs (I : Hp) : List PyData → List V → Prop where
  | nil : RDs I [] []
  | cons {x : PyData} {v : V} {xs : List PyData} {vs : List V} : RD I x v → RDs I xs vs → RDs I (x :: xs) (v :: vs)
inductive RDk (I : Hp) : List (PyData × PyData) → List (Key × V) → Prop where
  | nil : RDk I [] []
  | cons {k : Key} {x : PyData} {v : V} {ps : List (PyData × PyData)} {kvs : List (Key × V)} : RD I x v → RDk I ps kvs → RDk I ((keyD k, x) :: ps) ((k, v) :: kvs)
inductive RDt (I : Hp) : List (PyData × PyData) → List (List Key × V) → Prop where
  | nil : RDt I [] []
  | cons {k : List Key} {x : PyData} {v : V} {ps : List (PyData × PyData)} {kvs : List (List Key × V)} : RD I x v → RDt I ps kvs → RDt I ((keysD k, x) :: ps) ((k, v) :: kvs)
end

def dictO : HO → Bool
  | .dK _ => true
  | .dT _ => true
  | .frz _ u => dictO u
  | _ => false
/-- one part lies in another (a dict may be locked) -/
structure Hle (I J : Hp) : Prop where
  o : ∀ b u, I b = some u → dictO u = false → J b = some u
  d : ∀ b u, dictO u = true → Rd I b u → Rd J b u
theorem Hle.refl (I : Hp) : Hle I I := ⟨fun _ _ h _ => h, fun _ _ _ h => h⟩
theorem Hle.trans {I J L : Hp} (a : Hle I J) (b : Hle J L) : Hle I L := ⟨fun c u h n => b.o c u (a.o c u h n) n, fun c u n h => b.d c u n (a.d c u n h)⟩
theorem Hle.of {I J : Hp} (h : ∀ b u, I b = some u → J b = some u) : Hle I J := ⟨fun b u e _ => h b u e, fun b u _ e => e.elim (fun e => .inl (h _ _ e)) fun ⟨o, e⟩ => .inr ⟨o, h _ _ e⟩⟩

mutual
theorem RD.mono {I J : Hp} (h : Hle I J) : ∀ {x : PyData} {v : V}, RD I x v → RD J x v
  | _, _, .none => .none
  | _, _, .bool b => .bool b
  | _, _, .int b => .int b
  | _, _, .str b => .str b
  | _, _, .list e r => .list (h.o _ _ e rfl) (RDs.mono h r)
  | _, _, .tuple e r => .tuple (h.o _ _ e rfl) (RDs.mono h r)
  | _, _, .dk e r => .dk (h.d _ _ rfl e) (RDk.mono h r)
  | _, _, .dt e r => .dt (h.d _ _ rfl e) (RDt.mono h r)
theorem RDs.mono {I J : Hp} (h : Hle I J) : ∀ {x : List PyData} {v : List V}, RDs I x v → RDs J x v
  | _, _, .nil => .nil
  | _, _, .cons a b => .cons (RD.mono h a) (RDs.mono h b)
theorem RDk.mono {I J : Hp} (h : Hle I J) : ∀ {x : List (PyData × PyData)} {v : List (Key × V)}, RDk I x v → RDk J x v
  | _, _, .nil => .nil
  | _, _, .cons a b => .cons (RD.mono h a) (RDk.mono h b)
theorem RDt.mono {I J : Hp} (h : Hle I J) : ∀ {x : List (PyData × PyData)} {v : List (List Key × V)}, RDt I x v → RDt J x v
  | _, _, .nil => .nil
  | _, _, .cons a b => .cons (RD.mono h a) (RDt.mono h b)
end

/-- scalars -/
def flatOf : PyData → Option V
  | .none => some .non
  | .bool b => some (.bl b)
  | .int i => some (.int i)
  | .str s => some (.str s)
  | _ => none
/-- constants of the module, the script: read only, their items flat -/
inductive RK (K : PySem.W.Frag) (I : Hp) : PyData → V → Prop where
  | list {a : Addr} {xs : List V} {ds : List PyData} : SqL K I a xs → ds.map flatOf = xs.map some → RK K I (.list ds) (.ref a)
  | tuple {a : Addr} {xs : List V} {ds : List PyData} : SqT K I a xs → ds.map flatOf = xs.map some → RK K I (.tuple ds) (.ref a)
theorem SqL.mono {K : PySem.W.Frag} {I J : Hp} (h : Hle I J) {a : Addr} {xs : List V} (s : SqL K I a xs) : SqL K J a xs := by
  rcases s with (s | ⟨o, s⟩) | s
  · exact .inl (.inl (h.o _ _ s rfl))
  · exact .inl (.inr ⟨o, h.o _ _ s rfl⟩)
  · exact .inr s
theorem SqT.mono {K : PySem.W.Frag} {I J : Hp} (h : Hle I J) {a : Addr} {xs : List V} (s : SqT K I a xs) : SqT K J a xs := by
  rcases s with (s | ⟨o, s⟩) | s
  · exact .inl (.inl (h.o _ _ s rfl))
  · exact .inl (.inr ⟨o, h.o _ _ s rfl⟩)
  · exact .inr s
theorem RK.mono {K : PySem.W.Frag} {I J : Hp} (h : Hle I J) {x : PyData} {v : V} (r : RK K I x v) : RK K J x v := by
  cases r with
  | list s e => exact .list (SqL.mono h s) e
  | tuple s e => exact .tuple (SqT.mono h s) e

/-- a world: the part of the heap that is never written, where the store's objects stand, their number -/
structure Wd where
  I : Hp
  α : Nat → Addr
  k : Nat
mutual
inductive RV (K : PySem.W.Frag) (w : Wd) : Val → V → Prop where
  | d {x : PyData} {v : V} : RD w.I x v → RV K w (.d x) v
  | r {n : Nat} : n < w.k → RV K w (.r n) (.ref (w.α n))
  | t {a : Addr} {vs : List Val} {xs : List V} : w.I a = some (.tup xs) → RVs K w vs xs → RV K w (.t vs) (.ref a)
  | k {x : PyData} {v : V} : RK K w.I x v → RV K w (.k x) v
inductive RVs (K : PySem.W.Frag) (w : Wd) : List Val → List V → Prop where
  | nil : RVs K w [] []
  | cons {x : Val} {v : V} {xs : List Val} {vs : List V} : RV K w x v → RVs K w xs vs → RVs K w (x :: xs) (v :: vs)
end
abbrev RKV {κ : Type} (K : PySem.W.Frag) (w : Wd) : List (κ × Val) → List (κ × V) → Prop := Paired fun (p : κ × Val) (q : κ × V) => p.1 = q.1 ∧ RV K w p.2 q.2
structure Ext (w w' : Wd) : Prop where
  I : Hle w.I w'.I
  k : w.k ≤ w'.k
  α : ∀ n, n < w.k → w'.α n = w.α n
theorem Ext.refl (w : Wd) : Ext w w := ⟨.refl _, Nat.le_refl _, fun _ _ => rfl⟩
theorem Ext.trans {a b c : Wd} (x : Ext a b) (y : Ext b c) : Ext a c := ⟨x.I.trans y.I, Nat.le_trans x.k y.k, fun n h => (y.α n (Nat.lt_of_lt_of_le h x.k)).trans (x.α n h)⟩
section
variable {K : PySem.W.Frag} {w w' : Wd}
mutual
theorem RV.mono (e : Ext w w') : ∀ {x : Val} {v : V}, RV K w x v → RV K w' x v
  | _, _, .d r => .d (r.mono e.I)
  | _, _, .r h => by rw [← e.α _ h]; exact .r (Nat.lt_of_lt_of_le h e.k)
  | _, _, .t h r => .t (e.I.o _ _ h rfl) (RVs.mono e r)
  | _, _, .k r => .k (r.mono e.I)
theorem RVs.mono (e : Ext w w') : ∀ {x : List Val} {v : List V}, RVs K w x v → RVs K w' x v
  | _, _, .nil => .nil
  | _, _, .cons a b => .cons (RV.mono e a) (RVs.mono e b)
end
theorem RKV.mono {κ : Type} (e : Ext w w') {x : List (κ × Val)} {v : List (κ × V)} (r : RKV K w x v) : RKV K w' x v := Paired.mapP r fun _ _ h => ⟨h.1, h.2.mono e⟩
end
inductive RC (K : PySem.W.Frag) (w : Wd) : Cell → HO → Prop where
  | lst {vs : List Val} {xs : List V} : RVs K w vs xs → RC K w (.lst vs) (.lst xs)
  | lk {vs : List Val} {xs : List V} : RVs K w vs xs → RC K w (.lk vs) (.lst xs)
  | dk {kvs : List (Key × Val)} {ps : List (Key × V)} : RKV K w kvs ps → RC K w (.dk kvs) (.dK ps)
  | dt {kvs : List (List Key × Val)} {ps : List (List Key × V)} : RKV K w kvs ps → RC K w (.dt kvs) (.dT ps)
theorem RC.mono {K : PySem.W.Frag} {w w' : Wd} (e : Ext w w') {c : Cell} {o : HO} (r : RC K w c o) : RC K w' c o := by
  cases r with
  | lst r => exact .lst (r.mono e)
  | lk r => exact .lk (r.mono e)
  | dk r => exact .dk (r.mono e)
  | dt r => exact .dt (r.mono e)
theorem RC.mut {K : PySem.W.Frag} {w : Wd} {c : Cell} {o : HO} (r : RC K w c o) : Mut (some o) := by cases r <;> trivial
def Cell.live : Cell → Bool
  | .dead => false
  | _ => true
/-- what a code leaves as it is: out; what was data ahead of it: I0 -/
structure Gh where
  out : Hp
  I0 : Hp
structure RS (K : PySem.W.Frag) (g : Gh) (w : Wd) (S : List Cell) (H : Hp) : Prop where
  len : S.length = w.k
  le : ∀ b o, w.I b = some o → H b = some o
  out : ∀ b o, g.out b = some o → H b = some o
  cell : ∀ n c, S[n]? = some c → c.live = true → ∃ o, H (w.α n) = some o ∧ RC K w c o ∧ w.I (w.α n) = none ∧ g.out (w.α n) = none
  inj : ∀ n m c e, S[n]? = some c → c.live = true → S[m]? = some e → e.live = true → w.α n = w.α m → n = m
  fr : ∀ b o, w.I b = some o → (∃ u, g.I0 b = some u) ∨ g.out b = none
structure RE (K : PySem.W.Frag) (w : Wd) (ρ : Env) (σ : St) : Prop where
  len : ρ.length = σ.length
  at_ : ∀ (i : Nat) (v : Val), ρ[i]? = some (some v) → ∃ x : V, σ[i]? = some (some x) ∧ RV K w v x
theorem RE.mono {K : PySem.W.Frag} {w w' : Wd} (e : Ext w w') {ρ : Env} {σ : St} (r : RE K w ρ σ) : RE K w' ρ σ := ⟨r.len, fun i v h => let ⟨x, a, b⟩ := r.at_ i v h; ⟨x, a, b.mono e⟩⟩
theorem RE.set {K : PySem.W.Frag} {w : Wd} {ρ : Env} {σ : St} (r : RE K w ρ σ) (i : Nat) {v : Val} {x : V} (h : RV K w v x) : RE K w (ρ.set i (some v)) (σ.set i (some x)) := by
  refine ⟨by simp [r.len], fun j u e => ?_⟩
  by_cases hj : i = j
  · subst hj
    by_cases hl : i < ρ.length
    · rw [List.getElem?_set_self hl] at e
      cases e
      exact ⟨x, by rw [List.getElem?_set_self (by rw [← r.len]; exact hl)], h⟩
    · rw [List.getElem?_eq_none (by simp; omega)] at e
      cases e
  · rw [List.getElem?_set_ne hj] at e
    obtain ⟨y, a, b⟩ := r.at_ j u e
    exact ⟨y, by rw [List.getElem?_set_ne hj]; exact a, b⟩
theorem RE.clear {K : PySem.W.Frag} {w : Wd} {ρ : Env} {σ : St} (r : RE K w ρ σ) (i : Nat) : RE K w (ρ.set i none) (σ.set i none) := by
  refine ⟨by simp [r.len], fun j u e => ?_⟩
  by_cases hj : i = j
  · subst hj
    by_cases hl : i < ρ.length
    · rw [List.getElem?_set_self hl] at e
      cases e
    · rw [List.getElem?_eq_none (by simp; omega)] at e
      cases e
  · rw [List.getElem?_set_ne hj] at e
    obtain ⟨y, a, b⟩ := r.at_ j u e
    exact ⟨y, by rw [List.getElem?_set_ne hj]; exact a, b⟩
theorem RE.wipe {K : PySem.W.Frag} {w : Wd} {ρ : Env} {σ : St} (r : RE K w ρ σ) : ∀ vs : List Nat, RE K w (wipeE ρ vs) (wipe σ vs)
  | [] => r
  | v :: vs => (RE.wipe r vs).clear v

section
variable {K : PySem.W.Frag} {g : Gh} {w : Wd} {S : List Cell} {H : Hp} {p : Addr} {o : HO}
theorem RS.Ifree (R : RS K g w S H) (h : H p = none) : w.I p = none := by
  cases e : w.I p with
  | none => rfl
  | some u => rw [R.le _ _ e] at h; cases h
theorem RS.outfree (R : RS K g w S H) (h : H p = none) : g.out p = none := by
  cases e : g.out p with
  | none => rfl
  | some u => rw [R.out _ _ e] at h; cases h
/-- a new object that is never written -/
def Wd.put (w : Wd) (p : Addr) (o : HO) : Wd := ⟨upd w.I p o, w.α, w.k⟩
theorem Ext.put (h : w.I p = none) : Ext w (w.put p o) := ⟨.of fun b u e => by show upd w.I p o b = _; rw [upd_ne (ne_of_none e h)]; exact e, Nat.le_refl _, fun _ _ => rfl⟩
theorem RS.put (R : RS K g w S H) (h : H p = none) : RS K g (w.put p o) S (upd H p o) where
  len := R.len
  le := fun b u e => by
    by_cases hb : b = p
    · subst hb
      have e' : upd w.I b o b = some u := e
      rw [upd_same] at e'
      rw [upd_same]; exact e'
    · have e' : upd w.I p o b = some u := e
      rw [upd_ne hb] at e'
      rw [upd_ne hb]; exact R.le _ _ e'
  out := fun b u e => by rw [upd_ne (ne_of_none e (R.outfree h))]; exact R.out _ _ e
  cell := fun n c e l => by
    obtain ⟨u, a, b, i, d⟩ := R.cell n c e l
    have ne : w.α n ≠ p := ne_of_none a h
    exact ⟨u, by show upd H p o (w.α n) = _; rw [upd_ne ne]; exact a, b.mono (Ext.put (R.Ifree h)), by show upd w.I p o (w.α n) = _; rw [upd_ne ne]; exact i, d⟩
  inj := R.inj
  fr := fun b u e => by
    by_cases hb : b = p
    · subst hb; exact .inr (R.outfree h)
    · have e' : upd w.I p o b = some u := e
      rw [upd_ne hb] at e'
      exact R.fr _ _ e'
/-- a new object of the store -/
def Wd.new (w : Wd) (p : Addr) : Wd := ⟨w.I, fun n => if n = w.k then p else w.α n, w.k + 1⟩
theorem Wd.new_at : (w.new p).α w.k = p := by show (if w.k = w.k then p else _) = p; rw [if_pos rfl]
theorem Ext.new : Ext w (w.new p) := ⟨.refl _, Nat.le_succ _, fun n h => by show (if n = w.k then p else _) = _; rw [if_neg (by omega)]⟩
theorem RS.new (R : RS K g w S H) (h : H p = none) {c : Cell} (r : RC K w c o) : RS K g (w.new p) (S ++ [c]) (upd H p o) where
  len := by rw [List.length_append, R.len]; rfl
  le := fun b u e => by rw [upd_ne (ne_of_none e (R.Ifree h))]; exact R.le _ _ e
  out := fun b u e => by rw [upd_ne (ne_of_none e (R.outfree h))]; exact R.out _ _ e
  cell := fun n c' e l => by
    by_cases hn : n < S.length
    · rw [List.getElem?_append_left hn] at e
      obtain ⟨u, a, b, i, d⟩ := R.cell n c' e l
      have hα : (w.new p).α n = w.α n := by show (if n = w.k then p else _) = _; rw [if_neg (by rw [← R.len]; omega)]
      rw [hα]
      exact ⟨u, by rw [upd_ne (ne_of_none a h)]; exact a, b.mono Ext.new, i, d⟩
    · have hn' : n = S.length := by
        have := (List.getElem?_eq_some_iff.mp e).1
        simp at this; omega
      subst hn'
      simp at e
      subst e
      have hα : (w.new p).α S.length = p := by rw [R.len]; exact Wd.new_at
      rw [hα]
      exact ⟨o, upd_same, r.mono Ext.new, R.Ifree h, R.outfree h⟩
  inj := fun n m c' e' a la b lb h' => by
    have cl : ∀ n c', (S ++ [c])[n]? = some c' → c'.live = true → (n < S.length ∧ S[n]? = some c' ∧ (w.new p).α n = w.α n ∧ w.α n ≠ p) ∨ (n = S.length ∧ (w.new p).α n = p) := fun n c' a la => by
      by_cases hn : n < S.length
      · rw [List.getElem?_append_left hn] at a
        obtain ⟨u, x, _⟩ := R.cell n c' a la
        exact .inl ⟨hn, a, by show (if n = w.k then p else _) = _; rw [if_neg (by rw [← R.len]; omega)], ne_of_none x h⟩
      · have hn' : n = S.length := by
          have := (List.getElem?_eq_some_iff.mp a).1
          simp at this; omega
        exact .inr ⟨hn', by rw [hn', R.len]; exact Wd.new_at⟩
    rcases cl n c' a la with ⟨_, a1, a2, a3⟩ | ⟨a1, a2⟩
    · rcases cl m e' b lb with ⟨_, b1, b2, b3⟩ | ⟨b1, b2⟩
      · rw [a2, b2] at h'; exact R.inj n m _ _ a1 la b1 lb h'
      · rw [a2, b2] at h'; exact (a3 h').elim
    · rcases cl m e' b lb with ⟨_, b1, b2, b3⟩ | ⟨b1, b2⟩
      · rw [a2, b2] at h'; exact (b3 h'.symm).elim
      · rw [a1, b1]
  fr := R.fr
/-- an object of the store is written -/
theorem RS.set (R : RS K g w S H) {n : Nat} {c c' : Cell} (e : S[n]? = some c) (l : c.live = true) (r : RC K w c' o) (l' : c'.live = true) : RS K g w (S.set n c') (upd H (w.α n) o) := by
  obtain ⟨u, a, b, i, d⟩ := R.cell n c e l
  have hn : n < S.length := (List.getElem?_eq_some_iff.mp e).1
  have at_ : ∀ m c'', (S.set n c')[m]? = some c'' → (m = n ∧ c'' = c') ∨ (m ≠ n ∧ S[m]? = some c'') := fun m c'' h => by
    by_cases hm : n = m
    · subst hm
      rw [List.getElem?_set_self hn] at h
      exact .inl ⟨rfl, (Option.some.inj h).symm⟩
    · rw [List.getElem?_set_ne hm] at h
      exact .inr ⟨Ne.symm hm, h⟩
  refine ⟨by rw [List.length_set]; exact R.len, fun b' u' e' => ?_, fun b' u' e' => ?_, fun m c'' h lv => ?_, fun m m' c1 c2 h1 l1 h2 l2 hh => ?_, R.fr⟩
  · rw [upd_ne (fun z => by rw [z, i] at e'; cases e')]; exact R.le _ _ e'
  · rw [upd_ne (fun z => by rw [z, d] at e'; cases e')]; exact R.out _ _ e'
  · rcases at_ m c'' h with ⟨rfl, rfl⟩ | ⟨hm, h⟩
    · exact ⟨o, upd_same, r, i, d⟩
    · obtain ⟨u2, a2, b2, i2, d2⟩ := R.cell m c'' h lv
      have ne : w.α m ≠ w.α n := fun z => hm (R.inj m n _ _ h lv e l z)
      exact ⟨u2, by rw [upd_ne ne]; exact a2, b2, i2, d2⟩
  · have q : ∀ (m : Nat) (c'' : Cell), (S.set n c')[m]? = some c'' → c''.live = true → ∃ c3 : Cell, S[m]? = some c3 ∧ c3.live = true := fun m c'' h lv => by
      rcases at_ m c'' h with ⟨z, _⟩ | ⟨_, z⟩
      · exact ⟨c, by rw [z]; exact e, l⟩
      · exact ⟨c'', z, lv⟩
    obtain ⟨_, q1, q2⟩ := q m c1 h1 l1
    obtain ⟨_, q3, q4⟩ := q m' c2 h2 l2
    exact R.inj m m' _ _ q1 q2 q3 q4 hh
end

theorem RDs.length {I : Hp} : ∀ {x : List PyData} {v : List V}, RDs I x v → x.length = v.length
  | _, _, .nil => rfl
  | _, _, .cons _ r => congrArg (· + 1) (RDs.length r)
theorem RVs.length {K : PySem.W.Frag} {w : Wd} : ∀ {x : List Val} {v : List V}, RVs K w x v → x.length = v.length
  | _, _, .nil => rfl
  | _, _, .cons _ r => congrArg (· + 1) (RVs.length r)
theorem RVs.data {K : PySem.W.Frag} {w : Wd} : ∀ {x : List Val} {v : List V} {ds : List PyData}, RVs K w x v → allD x = some ds → RDs w.I ds v
  | [], _, _, .nil, h => by cases h; exact .nil
  | .d x :: r, _, _, .cons (.d a) b, h => by
    obtain ⟨ds, e, rfl⟩ := Option.map_eq_some_iff.mp (show (allD r).map (x :: ·) = some _ from h)
    exact .cons a (RVs.data b e)
  | .r _ :: _, _, _, _, h => by cases h
  | .t _ :: _, _, _, _, h => by cases h
  | .k _ :: _, _, _, _, h => by cases h
theorem RKV.dk {K : PySem.W.Frag} {w : Wd} : ∀ {x : List (Key × Val)} {v : List (Key × V)} {ds : List (PyData × PyData)}, RKV K w x v → dkD x = some ds → RDk w.I ds v
  | [], _, _, .nil, h => by cases h; exact .nil
  | (k, .d x) :: r, (k', v) :: vs, _, .cons ⟨e, a⟩ b, h => by
    obtain ⟨ds, e', rfl⟩ := Option.map_eq_some_iff.mp (show (dkD r).map ((keyD k, x) :: ·) = some _ from h)
    obtain rfl : k = k' := e
    cases a with
    | d a => exact .cons a (RKV.dk b e')
  | (_, .r _) :: _, _, _, _, h => by cases h
  | (_, .t _) :: _, _, _, _, h => by cases h
  | (_, .k _) :: _, _, _, _, h => by cases h
theorem RKV.dt {K : PySem.W.Frag} {w : Wd} : ∀ {x : List (List Key × Val)} {v : List (List Key × V)} {ds : List (PyData × PyData)}, RKV K w x v → dtD x = some ds → RDt w.I ds v
  | [], _, _, .nil, h => by cases h; exact .nil
  | (k, .d x) :: r, (k', v) :: vs, _, .cons ⟨e, a⟩ b, h => by
    obtain ⟨ds, e', rfl⟩ := Option.map_eq_some_iff.mp (show (dtD r).map ((keysD k, x) :: ·) = some _ from h)
    obtain rfl : k = k' := e
    cases a with
    | d a => exact .cons a (RKV.dt b e')
  | (_, .r _) :: _, _, _, _, h => by cases h
  | (_, .t _) :: _, _, _, _, h => by cases h
  | (_, .k _) :: _, _, _, _, h => by cases h
theorem flat_RD {I : Hp} {x : PyData} {v : V} (h : flatOf x = some v) : RD I x v := by
  cases x <;> first | (cases h; constructor) | cases h
theorem flats_RD {I : Hp} : ∀ {ds : List PyData} {xs : List V}, ds.map flatOf = xs.map some → RDs I ds xs
  | [], [], _ => .nil
  | d :: ds, x :: xs, h => by
    have h' : flatOf d = some x ∧ ds.map flatOf = xs.map some := by simpa using h
    exact .cons (flat_RD h'.1) (flats_RD h'.2)
  | [], _ :: _, h => by simp at h
  | _ :: _, [], h => by simp at h
/-- data that may be read in H, its parts in I -/
inductive RT (K : PySem.W.Frag) (H I : Hp) : PyData → V → Prop where
  | flat {x : PyData} {v : V} : flatOf x = some v → RT K H I x v
  | list {a : Addr} {xs : List V} {ds : List PyData} : SqL K H a xs → RDs I ds xs → RT K H I (.list ds) (.ref a)
  | tuple {a : Addr} {xs : List V} {ds : List PyData} : SqT K H a xs → RDs I ds xs → RT K H I (.tuple ds) (.ref a)
  | dk {a : Addr} {kvs : List (Key × V)} {ps : List (PyData × PyData)} : Rd H a (.dK kvs) → RDk I ps kvs → RT K H I (.dict ps) (.ref a)
  | dt {a : Addr} {kvs : List (List Key × V)} {ps : List (PyData × PyData)} : Rd H a (.dT kvs) → RDt I ps kvs → RT K H I (.dict ps) (.ref a)
/-- .. of an object that is tracked by itself -/
inductive RU (H I : Hp) : PyData → V → Prop where
  | flat {x : PyData} {v : V} : flatOf x = some v → RU H I x v
  | list {a : Addr} {xs : List V} {ds : List PyData} : H a = some (.lst xs) → RDs I ds xs → RU H I (.list ds) (.ref a)
  | tuple {a : Addr} {xs : List V} {ds : List PyData} : H a = some (.tup xs) → RDs I ds xs → RU H I (.tuple ds) (.ref a)
  | dk {a : Addr} {kvs : List (Key × V)} {ps : List (PyData × PyData)} : Rd H a (.dK kvs) → RDk I ps kvs → RU H I (.dict ps) (.ref a)
  | dt {a : Addr} {kvs : List (List Key × V)} {ps : List (PyData × PyData)} : Rd H a (.dT kvs) → RDt I ps kvs → RU H I (.dict ps) (.ref a)
theorem RU.rt {K : PySem.W.Frag} {H I : Hp} {x : PyData} {v : V} (r : RU H I x v) : RT K H I x v := by
  cases r with
  | flat h => exact .flat h
  | list h r => exact .list (.of h) r
  | tuple h r => exact .tuple (.of h) r
  | dk h r => exact .dk h r
  | dt h r => exact .dt h r
section
variable {K : PySem.W.Frag} {g : Gh} {w : Wd} {S : List Cell} {H : Hp}
theorem RS.rd (R : RS K g w S H) {a : Addr} {u : HO} (r : Rd w.I a u) : Rd H a u := r.elim (fun e => .inl (R.le _ _ e)) fun ⟨o, e⟩ => .inr ⟨o, R.le _ _ e⟩
theorem RS.hle (R : RS K g w S H) : Hle w.I H := .of R.le
theorem RS.vwd (R : RS K g w S H) {v : Val} {x : V} (r : RV K w v x) {d : PyData} (h : vwd S v = some d) : RU H w.I d x := by
  cases r with
  | d r =>
    obtain rfl : _ = d := Option.some.inj h
    cases r with
    | list e r => exact .list (R.le _ _ e) r
    | tuple e r => exact .tuple (R.le _ _ e) r
    | dk e r => exact .dk (R.rd e) r
    | dt e r => exact .dt (R.rd e) r
    | _ => exact .flat rfl
  | @r n hn =>
    have h : (match S[n]? with
      | some (.lst xs) => (allD xs).map PyData.list
      | some (.lk xs) => (allD xs).map PyData.list
      | some (.dk kvs) => (dkD kvs).map PyData.dict
      | some (.dt kvs) => (dtD kvs).map PyData.dict
      | _ => none) = some d := h
    cases e : S[n]? with
    | none => rw [e] at h; cases h
    | some c =>
      rw [e] at h
      cases c with
      | lst xs =>
        obtain ⟨ds, e', rfl⟩ := Option.map_eq_some_iff.mp h
        obtain ⟨o, a, b, _⟩ := R.cell n _ e rfl
        cases b with
        | lst b => exact .list a (b.data e')
      | lk xs =>
        obtain ⟨ds, e', rfl⟩ := Option.map_eq_some_iff.mp h
        obtain ⟨o, a, b, _⟩ := R.cell n _ e rfl
        cases b with
        | lk b => exact .list a (b.data e')
      | dk xs =>
        obtain ⟨ds, e', rfl⟩ := Option.map_eq_some_iff.mp h
        obtain ⟨o, a, b, _⟩ := R.cell n _ e rfl
        cases b with
        | dk b => exact .dk (.inl a) (b.dk e')
      | dt xs =>
        obtain ⟨ds, e', rfl⟩ := Option.map_eq_some_iff.mp h
        obtain ⟨o, a, b, _⟩ := R.cell n _ e rfl
        cases b with
        | dt b => exact .dt (.inl a) (b.dt e')
      | _ => cases h
  | t _ _ => cases h
  | k _ => cases h
theorem RS.vw (R : RS K g w S H) {v : Val} {x : V} (r : RV K w v x) {d : PyData} (h : vw S v = some d) : RT K H w.I d x := by
  cases v with
  | k y =>
    obtain rfl : y = d := Option.some.inj h
    cases r with
    | k r =>
      cases r with
      | list s e => exact .list (SqL.mono R.hle s) (flats_RD e)
      | tuple s e => exact .tuple (SqT.mono R.hle s) (flats_RD e)
  | d y => exact (R.vwd r (show Ev.vwd S (.d y) = _ from h)).rt
  | r n => exact (R.vwd r (show Ev.vwd S (.r n) = _ from h)).rt
  | t xs => cases h
theorem RT.flat_inv {I : Hp} {x : PyData} {v : V} (r : RT K H I x v) (h : flatD x = true) : flatOf x = some v := by
  cases r with
  | flat e => exact e
  | _ => cases h
end

/-- an exception as it lies -/
def RX (cA : Str → Addr) (w : Wd) (e : Exn) (c : Value) (d : Option Addr) (H : Hp) : Prop :=
  c = .ref (cA e.cls) ∧ ∃ a v, d = some a ∧ H a = some (.xd [(e.fld, v)]) ∧ RD w.I e.arg v
/-- what is fixed in a proof of a def: the written part, where the classes of exceptions stand, the wish of exceptions -/
structure Fx where
  K : PySem.W.Frag
  cA : Str → Addr
  W : WX
section
variable (F : Fx)
def PO {α : Type} (rel : Wd → α → V → Prop) (g : Gh) (w : Wd) (σ : St) (Q : VK) (r : Res α) : Prop := match r with
  | .ok v S' => ∀ w' H' x, Ext w w' → RS F.K g w' S' H' → rel w' v x → Q x H'
  | .ex e S' => ∀ w' H' c d, Ext w w' → RS F.K g w' S' H' → RX F.cA w' e c d H' → F.W c d σ H'
  | .no => False
/-- an expression's reading does what is reckoned -/
def SE (t : TE) (m : Env → M Val) : Prop := ∀ g w ρ S σ H Q, RS F.K g w S H → RE F.K w ρ σ → PO F (RV F.K) g w σ Q (m ρ S) → t σ H Q
def PB {α : Type} (g : Gh) (w : Wd) (σ : St) (Q : α → Hp → Prop) (r : Res α) : Prop := match r with
  | .ok v S' => ∀ w' H', Ext w w' → RS F.K g w' S' H' → Q v H'
  | .ex e S' => ∀ w' H' c d, Ext w w' → RS F.K g w' S' H' → RX F.cA w' e c d H' → F.W c d σ H'
  | .no => False
def ST (t : TT) (m : Env → M Bool) : Prop := ∀ g w ρ S σ H Q, RS F.K g w S H → RE F.K w ρ σ → PB F g w σ Q (m ρ S) → t σ H Q
def PA' (g : Gh) (w : Wd) (σ : St) (Q : List V → Hp → Prop) (r : Res (List Val)) : Prop := match r with
  | .ok v S' => ∀ w' H' x, Ext w w' → RS F.K g w' S' H' → RVs F.K w' v x → Q x H'
  | .ex e S' => ∀ w' H' c d, Ext w w' → RS F.K g w' S' H' → RX F.cA w' e c d H' → F.W c d σ H'
  | .no => False
def SA (t : TA) (m : Env → M (List Val)) : Prop := ∀ g w ρ S σ H Q, RS F.K g w S H → RE F.K w ρ σ → PA' F g w σ Q (m ρ S) → t σ H Q
/-- a statement's ends -/
def PF (g : Gh) (w : Wd) (D : Ends) (r : Res Fl) : Prop := match r with
  | .ok (.nx ρ') S' => ∀ w' σ' H', Ext w w' → RS F.K g w' S' H' → RE F.K w' ρ' σ' → D.nx σ' H'
  | .ok (.bk ρ') S' => ∀ w' σ' H', Ext w w' → RS F.K g w' S' H' → RE F.K w' ρ' σ' → D.bk σ' H'
  | .ok (.ct ρ') S' => ∀ w' σ' H', Ext w w' → RS F.K g w' S' H' → RE F.K w' ρ' σ' → D.ct σ' H'
  | .ok (.rt v) S' => ∀ w' H' x, Ext w w' → RS F.K g w' S' H' → RV F.K w' v x → D.rt x H'
  | .ex e S' => ∀ w' σ' H' c d, Ext w w' → RS F.K g w' S' H' → RX F.cA w' e c d H' → F.W c d σ' H'
  | .no => False
def SS (t : TS) (m : Env → M Fl) : Prop := ∀ g w ρ S σ H D, RS F.K g w S H → RE F.K w ρ σ → PF F g w D (m ρ S) → t D σ H

variable {F} {g : Gh} {w : Wd} {σ : St}
theorem PO.ext {Q : VK} {r : Res Val} {w' : Wd} (e : Ext w w') (h : PO F (RV F.K) g w σ Q r) : PO F (RV F.K) g w' σ Q r := by
  match r, h with
  | .ok v S', h => exact fun w2 H2 x e2 => h w2 H2 x (e.trans e2)
  | .ex _ S', h => exact fun w2 H2 c d e2 => h w2 H2 c d (e.trans e2)
  | .no, h => exact h
theorem PB.ext {α : Type} {Q : α → Hp → Prop} {r : Res α} {w' : Wd} (e : Ext w w') (h : PB F g w σ Q r) : PB F g w' σ Q r := by
  match r, h with
  | .ok v S', h => exact fun w2 H2 e2 => h w2 H2 (e.trans e2)
  | .ex _ S', h => exact fun w2 H2 c d e2 => h w2 H2 c d (e.trans e2)
  | .no, h => exact h
theorem PA'.ext {Q : List V → Hp → Prop} {r : Res (List Val)} {w' : Wd} (e : Ext w w') (h : PA' F g w σ Q r) : PA' F g w' σ Q r := by
  match r, h with
  | .ok v S', h => exact fun w2 H2 x e2 => h w2 H2 x (e.trans e2)
  | .ex _ S', h => exact fun w2 H2 c d e2 => h w2 H2 c d (e.trans e2)
  | .no, h => exact h
theorem PF.ext {D : Ends} {r : Res Fl} {w' : Wd} (e : Ext w w') (h : PF F g w D r) : PF F g w' D r := by
  match r, h with
  | .ok (.nx _) S', h => exact fun w2 s2 H2 e2 => h w2 s2 H2 (e.trans e2)
  | .ok (.bk _) S', h => exact fun w2 s2 H2 e2 => h w2 s2 H2 (e.trans e2)
  | .ok (.ct _) S', h => exact fun w2 s2 H2 e2 => h w2 s2 H2 (e.trans e2)
  | .ok (.rt _) S', h => exact fun w2 H2 x e2 => h w2 H2 x (e.trans e2)
  | .ex _ S', h => exact fun w2 s2 H2 c d e2 => h w2 s2 H2 c d (e.trans e2)
  | .no, h => exact h
/-- an expression behind which something goes on: what is wanted of the whole (in any of the forms) -/
theorem po_bind {β : Type} {P : Wd → Res β → Prop} {Q1 : VK} {m : M Val} {f : Val → M β} {S : List Cell}
    (h : P w (bnd m f S)) (hx : ∀ e S' w' H' c d, P w (.ex e S') → Ext w w' → RS F.K g w' S' H' → RX F.cA w' e c d H' → F.W c d σ H') (hn : ¬ P w .no)
    (k : ∀ v S' w' H' x, Ext w w' → RS F.K g w' S' H' → RV F.K w' v x → P w (f v S') → Q1 x H') : PO F (RV F.K) g w σ Q1 (m S) := by
  unfold bnd at h
  cases e : m S with
  | ok v S' => rw [e] at h; exact fun w' H' x e R r => k v S' w' H' x e R r h
  | ex _ S' => rw [e] at h; exact fun w' H' c d e2 R r => hx _ S' w' H' c d h e2 R r
  | no => rw [e] at h; exact hn h
/-- .. an expression in an expression -/
theorem SE.then_ {ta : TE} {ma : Env → M Val} (ha : SE F ta ma) {tb : V → TE} {f : Val → Env → M Val}
    (hb : ∀ g w ρ S σ H Q v x, RS F.K g w S H → RE F.K w ρ σ → RV F.K w v x → PO F (RV F.K) g w σ Q (f v ρ S) → tb x σ H Q) :
    SE F (fun σ H Q => ta σ H fun x H1 => tb x σ H1 Q) (fun ρ => bnd (ma ρ) fun v => f v ρ) := fun g w ρ S σ H Q R E h =>
  ha g w ρ S σ H _ R E (po_bind (P := fun w r => PO F (RV F.K) g w σ Q r) (f := fun v => f v ρ) h (fun e S' w' H' c d p => p w' H' c d) (fun p => p) fun v S' w' H' x e R' r p => hb g w' ρ S' σ H' Q v x R' (E.mono e) r (p.ext e))
end
end Ev
end
section
set_option Elab.async false
set_option linter.all false
set_option maxRecDepth 100000
namespace Ev
open PySem PySem.Spec L2
section
variable {F : Fx} {g : Gh} {w : Wd} {S : List Cell} {H : Hp} {σ : St} {Q : VK}
theorem RDs.map_some {I : Hp} : ∀ {x : List PyData} {v : List V}, RDs I x v → RVs F.K ⟨I, w.α, w.k⟩ (x.map .d) v
  | _, _, .nil => .nil
  | _, _, .cons a b => .cons (.d a) (RDs.map_some b)
/-- an end: a flat value; a new tuple; a new list; data that stands already -/
theorem fin_val {v : Val} {x : V} (h : PO F (RV F.K) g w σ Q (.ok v S)) (R : RS F.K g w S H) (r : RV F.K w v x) : Q x H := h w H x (.refl _) R r
theorem fin_tup {ds : List PyData} {zs : List V} {mu : Bool} (h : PO F (RV F.K) g w σ Q (mkRes mu (.tuple ds) S)) (R : RS F.K g w S H) (r : RDs w.I ds zs) : ∀ p, H p = none → Q (.ref p) (upd H p (.tup zs)) := fun p hp => by
  have h' : PO F (RV F.K) g w σ Q (.ok (.d (.tuple ds)) S) := by cases mu <;> exact h
  have e : Ext w (w.put p (.tup zs)) := .put (R.Ifree hp)
  exact h' _ _ _ e (R.put hp) (.d (.tuple upd_same (r.mono e.I)))
theorem fin_lst {ds : List PyData} {zs : List V} {mu : Bool} (h : PO F (RV F.K) g w σ Q (mkRes mu (.list ds) S)) (R : RS F.K g w S H) (r : RDs w.I ds zs) : ∀ p, H p = none → Q (.ref p) (upd H p (.lst zs)) := fun p hp => by
  cases mu with
  | false =>
    have e : Ext w (w.put p (.lst zs)) := .put (R.Ifree hp)
    exact h _ _ _ e (R.put hp) (.d (.list upd_same (r.mono e.I)))
  | true =>
    have h' : PO F (RV F.K) g w σ Q (.ok (.r S.length) (S ++ [.lst (ds.map .d)])) := h
    have q := h' _ _ (.ref p) (Ext.new (p := p)) (R.new hp (.lst (r.map_some (F := F) (w := w)))) (by
      have q := RV.r (K := F.K) (w := w.new p) (n := S.length) (by rw [R.len]; exact Nat.lt_succ_self _)
      rw [R.len, Wd.new_at] at q
      rw [R.len]; exact q)
    exact q
theorem fin_flat {x : PyData} {v : V} {mu : Bool} (h : PO F (RV F.K) g w σ Q (mkRes mu x S)) (R : RS F.K g w S H) (e : flatOf x = some v) : Q v H := by
  have h' : PO F (RV F.K) g w σ Q (.ok (.d x) S) := by
    cases mu with
    | false => exact h
    | true => cases x <;> first | exact h | cases e
  exact h' w H v (.refl _) R (.d (flat_RD e))
theorem fin_tupd {ds : List PyData} {v : V} {mu : Bool} (h : PO F (RV F.K) g w σ Q (mkRes mu (.tuple ds) S)) (R : RS F.K g w S H) (r : RD w.I (.tuple ds) v) : Q v H := by
  have h' : PO F (RV F.K) g w σ Q (.ok (.d (.tuple ds)) S) := by cases mu <;> exact h
  exact h' w H v (.refl _) R (.d r)

/-- what has come to an end has gone well up to there -/
theorem po_lift {α : Type} {o : Option α} {f : α → M Val} (h : PO F (RV F.K) g w σ Q (bnd (lift o) f S)) : ∃ a, o = some a ∧ PO F (RV F.K) g w σ Q (f a S) := by
  cases o with
  | none => exact h.elim
  | some a => exact ⟨a, rfl, h⟩
theorem po_view {v : Val} {f : PyData → M Val} (h : PO F (RV F.K) g w σ Q (bnd (view v) f S)) : ∃ a, vw S v = some a ∧ PO F (RV F.K) g w σ Q (f a S) := by
  unfold bnd view at h
  cases e : vw S v with
  | none => rw [e] at h; exact h.elim
  | some a => rw [e] at h; exact ⟨a, rfl, h⟩
theorem po_viewd {v : Val} {f : PyData → M Val} (h : PO F (RV F.K) g w σ Q (bnd (viewd v) f S)) : ∃ a, vwd S v = some a ∧ PO F (RV F.K) g w σ Q (f a S) := by
  unfold bnd viewd at h
  cases e : vwd S v with
  | none => rw [e] at h; exact h.elim
  | some a => rw [e] at h; exact ⟨a, rfl, h⟩
theorem po_guard {b : Bool} {m : M Val} (h : PO F (RV F.K) g w σ Q (guardM b m S)) : b = true ∧ PO F (RV F.K) g w σ Q (m S) := by
  unfold guardM at h
  cases b with
  | true => exact ⟨rfl, h⟩
  | false => exact h.elim
theorem po_ite {c : Prop} [Decidable c] {r : Res Val} (h : PO F (RV F.K) g w σ Q (if c then r else .no)) : c ∧ PO F (RV F.K) g w σ Q r := by
  by_cases hc : c
  · rw [if_pos hc] at h; exact ⟨hc, h⟩
  · rw [if_neg hc] at h; exact h.elim
theorem RDs.append {I : Hp} : ∀ {x y : List PyData} {v u : List V}, RDs I x v → RDs I y u → RDs I (x ++ y) (v ++ u)
  | _, _, _, _, .nil, s => s
  | _, _, _, _, .cons a b, s => .cons a (RDs.append b s)
theorem RDs.take {I : Hp} : ∀ {x : List PyData} {v : List V} (n : Nat), RDs I x v → RDs I (x.take n) (v.take n)
  | _, _, 0, _ => .nil
  | _, _, _ + 1, .nil => .nil
  | _, _, n + 1, .cons a b => .cons a (RDs.take n b)
theorem RDs.drop {I : Hp} : ∀ {x : List PyData} {v : List V} (n : Nat), RDs I x v → RDs I (x.drop n) (v.drop n)
  | _, _, 0, r => r
  | _, _, _ + 1, .nil => .nil
  | _, _, n + 1, .cons _ b => RDs.drop n b
theorem RDs.reverse {I : Hp} : ∀ {x : List PyData} {v : List V}, RDs I x v → RDs I x.reverse v.reverse
  | _, _, .nil => .nil
  | _, _, .cons a b => by rw [List.reverse_cons, List.reverse_cons]; exact (RDs.reverse b).append (.cons a .nil)
theorem RDs.rep {I : Hp} {x : List PyData} {v : List V} (r : RDs I x v) : ∀ n : Nat, RDs I (List.replicate n x).flatten (List.replicate n v).flatten
  | 0 => .nil
  | n + 1 => by rw [List.replicate_succ, List.replicate_succ, List.flatten_cons, List.flatten_cons]; exact r.append (RDs.rep r n)
theorem RDs.get {I : Hp} : ∀ {x : List PyData} {v : List V} {i : Nat} {d : PyData}, RDs I x v → x[i]? = some d → ∃ u, v[i]? = some u ∧ RD I d u
  | _, _, _, _, .nil, h => by simp at h
  | _, _, 0, _, .cons a _, h => by simp at h; subst h; exact ⟨_, rfl, a⟩
  | _, _, i + 1, _, .cons _ b, h => by
    obtain ⟨u, e, r⟩ := RDs.get (i := i) b (by simpa using h)
    exact ⟨u, by simpa using e, r⟩
theorem RVs.get {K : PySem.W.Frag} : ∀ {x : List Val} {v : List V} {i : Nat} {d : Val}, RVs K w x v → x[i]? = some d → ∃ u, v[i]? = some u ∧ RV K w d u
  | _, _, _, _, .nil, h => by simp at h
  | _, _, 0, _, .cons a _, h => by simp at h; subst h; exact ⟨_, rfl, a⟩
  | _, _, i + 1, _, .cons _ b, h => by
    obtain ⟨u, e, r⟩ := RVs.get (i := i) b (by simpa using h)
    exact ⟨u, by simpa using e, r⟩
theorem RDs.at_ {I : Hp} {x : List PyData} {v : List V} {i : Int} {d : PyData} (r : RDs I x v) (h : atI x i = some d) : ∃ u, atI v i = some u ∧ RD I d u := by
  unfold atI at h ⊢
  rw [← r.length]
  cases e : ixN x.length i with
  | none => rw [e] at h; cases h
  | some j => rw [e] at h; exact r.get h
theorem RVs.at_ {K : PySem.W.Frag} {x : List Val} {v : List V} {i : Int} {d : Val} (r : RVs K w x v) (h : atI x i = some d) : ∃ u, atI v i = some u ∧ RV K w d u := by
  unfold atI at h ⊢
  rw [← r.length]
  cases e : ixN x.length i with
  | none => rw [e] at h; cases h
  | some j => rw [e] at h; exact r.get h
theorem RDs.cut {I : Hp} {x : List PyData} {v : List V} (r : RDs I x v) (lo hi : Option Int) : RDs I (cutL x lo hi) (cutV v lo hi) := by
  unfold cutL cutV
  rw [← r.length]
  exact (r.drop _).take _
theorem flat_inj {x : PyData} {v u : V} (h : flatOf x = some v) (h' : flatOf x = some u) : v = u := Option.some.inj (h.symm.trans h')
end

section
variable {F : Fx} {g : Gh} {w : Wd} {S : List Cell} {H : Hp} {σ : St} {Q : VK} {X : Cx}
def rAddX (K : PySem.W.Frag) : R2 := fun x y H Q => (∃ i j, x = .int i ∧ y = .int j ∧ Q (.int (i + j)) H) ∨ (∃ i j, x = .str i ∧ y = .str j ∧ i.length + j.length ≤ sizeLine ∧ Q (.str (i ++ j)) H) ∨ rCatA K x y H Q ∨ rCat x y H Q
theorem op_addX : OpR X (binaryOp .Add) (rAddX X.K) := op_add.or (op_add_str.or (op_catA.or op_cat))
theorem RU.str_inv {H I : Hp} {s : Str} {v : V} (r : RU H I (.str s) v) : v = .str s := by cases r with | flat e => exact (Option.some.inj e).symm
theorem RU.int_inv {H I : Hp} {s : Int} {v : V} (r : RU H I (.int s) v) : v = .int s := by cases r with | flat e => exact (Option.some.inj e).symm
theorem add_snd {mu : Bool} {a b z : PyData} {x y : V} (R : RS F.K g w S H) (ra : RU H w.I a x) (rb : RU H w.I b y) (ha : ∀ ds, a = .tuple ds → RD w.I a x) (hb : ∀ ds, b = .tuple ds → RD w.I b y)
    (h : addD a b = some z) (q : PO F (RV F.K) g w σ Q (mkRes mu z S)) : rAddX F.K x y H Q := by
  unfold addD at h
  split at h
  · cases h
    obtain rfl := ra.int_inv
    obtain rfl := rb.int_inv
    exact .inl ⟨_, _, rfl, rfl, fin_flat q R rfl⟩
  · split at h
    · cases h
      obtain rfl := ra.str_inv
      obtain rfl := rb.str_inv
      exact .inr (.inl ⟨_, _, rfl, rfl, by assumption, fin_flat q R rfl⟩)
    · cases h
  · rename_i xs ys
    split at h
    · rename_i hl
      cases h
      refine .inr (.inr (.inl ?_))
      have qa := ha _ rfl
      have qb := hb _ rfl
      cases ra with
      | flat e => cases e
      | @tuple p1 vs _ e1 r1 =>
        cases rb with
        | flat e => cases e
        | @tuple p2 us _ e2 r2 =>
          refine ⟨_, _, vs, us, rfl, rfl, .of e1, .of e2, by rw [← r1.length, ← r2.length]; exact hl, fun z => ?_, fun _ z => ?_, fun _ _ => fin_tup q R (r1.append r2)⟩
          · subst z
            cases r1
            exact fin_tupd q R qb
          · subst z
            cases r2
            rw [List.append_nil] at q
            exact fin_tupd q R qa
    · cases h
  · split at h
    · rename_i hl
      cases h
      refine .inr (.inr (.inr ?_))
      cases ra with
      | flat e => cases e
      | @list p1 vs _ e1 r1 =>
        cases rb with
        | flat e => cases e
        | @list p2 us _ e2 r2 => exact ⟨_, _, vs, us, rfl, rfl, e1, e2, by rw [← r1.length, ← r2.length]; exact hl, fin_lst q R (r1.append r2)⟩
    · cases h
  · cases h
end
end Ev
end
section
set_option Elab.async false
set_option linter.all false
set_option maxRecDepth 100000
namespace Ev
open PySem PySem.Spec L2
mutual
/-- data as it lies in a heap (of a dict nothing is said) -/
inductive CD (h : Heap) : PyData → Value → Prop where
  | none : CD h .none .none
  | bool (b : Bool) : CD h (.bool b) (.bool b)
  | int (i : Int) (t : Tok) : CD h (.int i) (.int i t)
  | str (s : Str) (t : Tok) : CD h (.str s) (.str s t)
  | list {a : Addr} {ds : List PyData} {its : List Value} : h.IsList a its.toArray → CDs h ds its → CD h (.list ds) (.ref a)
  | tuple {a : Addr} {ds : List PyData} {its : List Value} : h.IsTuple a its.toArray → CDs h ds its → CD h (.tuple ds) (.ref a)
  | dict {a : Addr} {ps : List (PyData × PyData)} : CD h (.dict ps) (.ref a)
inductive CDs (h : Heap) : List PyData → List Value → Prop where
  | nil : CDs h [] []
  | cons {x : PyData} {v : Value} {xs : List PyData} {vs : List Value} : CD h x v → CDs h xs vs → CDs h (x :: xs) (v :: vs)
end
theorem CDs.length {h : Heap} : ∀ {x : List PyData} {v : List Value}, CDs h x v → x.length = v.length
  | _, _, .nil => rfl
  | _, _, .cons _ r => congrArg (· + 1) (CDs.length r)
section
variable {X : Cx} {pins : List (Addr × Obj)} {σ : St} {H I : Hp} {s : Shared}
theorem flat_CR {h : Heap} {d : PyData} {v : V} {u : Value} (e : flatOf d = some v) (r : RelV v u) : CD h d u := by
  cases d with
  | none => cases e; cases r; exact .none
  | bool b => cases e; cases r; exact .bool b
  | int b => cases e; obtain ⟨t, rfl⟩ := r; exact .int b t
  | str b => cases e; obtain ⟨t, rfl⟩ := r; exact .str b t
  | _ => cases e
mutual
theorem RD.cr (Iv : Inv X pins σ H s) (le : ∀ b u, I b = some u → H b = some u) : ∀ {d : PyData} {v : V} {u : Value}, RD I d v → RelV v u → CD s.heap d u
  | _, _, _, .none, r => by cases r; exact .none
  | _, _, _, .bool b, r => by cases r; exact .bool b
  | _, _, _, .int b, r => by obtain ⟨t, rfl⟩ := r; exact .int b t
  | _, _, _, .str b, r => by obtain ⟨t, rfl⟩ := r; exact .str b t
  | _, _, _, .list e q, r => by
    cases r
    obtain ⟨its, vs, pl, _⟩ := Iv.list (SqL.of (K := X.K) (le _ _ e))
    exact .list pl.isList (RDs.cr Iv le q vs)
  | _, _, _, .tuple e q, r => by
    cases r
    obtain ⟨its, vs, pl, _⟩ := Iv.tuple (SqT.of (K := X.K) (le _ _ e))
    exact .tuple pl (RDs.cr Iv le q vs)
  | _, _, _, .dk _ _, r => by cases r; exact .dict
  | _, _, _, .dt _ _, r => by cases r; exact .dict
theorem RDs.cr (Iv : Inv X pins σ H s) (le : ∀ b u, I b = some u → H b = some u) : ∀ {d : List PyData} {v : List V} {u : List Value}, RDs I d v → Vals v u → CDs s.heap d u
  | _, _, _, .nil, r => by cases r; exact .nil
  | _, _, _, .cons a b, r => by
    cases r with
    | cons r1 r2 => exact .cons (RD.cr Iv le a r1) (RDs.cr Iv le b r2)
end
theorem RT.cr (Iv : Inv X pins σ H s) (le : ∀ b u, I b = some u → H b = some u) {d : PyData} {v : V} {u : Value} (q : RT X.K H I d v) (r : RelV v u) : CD s.heap d u := by
  cases q with
  | flat e => exact flat_CR e r
  | list e q =>
    cases r
    obtain ⟨its, vs, pl, _⟩ := Iv.list e
    exact .list pl.isList (RDs.cr Iv le q vs)
  | tuple e q =>
    cases r
    obtain ⟨its, vs, pl, _⟩ := Iv.tuple e
    exact .tuple pl (RDs.cr Iv le q vs)
  | dk _ _ => cases r; exact .dict
  | dt _ _ => cases r; exact .dict
end
theorem eqL_same {f : PyData → PyData → Option Bool} {h : Heap} (hf : ∀ a b v z, CD h a v → CD h b v → f a b = some z → z = true) : ∀ {xs ys : List PyData} {vs : List Value} {z : Bool}, CDs h xs vs → CDs h ys vs → eqL f xs ys = some z → z = true
  | [], [], _, z, _, _, e => (Option.some.inj e).symm
  | [], _ :: _, _, _, r, q, _ => by cases r; cases q
  | _ :: _, [], _, _, r, q, _ => by cases q; cases r
  | x :: xs, y :: ys, _, z, r, q, e => by
    cases r with
    | cons r1 r2 =>
      cases q with
      | cons q1 q2 =>
        unfold eqL at e
        split at e
        · rename_i a b e1 e2
          cases e
          rw [hf _ _ _ _ r1 q1 e1, eqL_same hf r2 q2 e2]
          rfl
        · cases e
theorem isList_inj {h : Heap} {a : Addr} {its its' : List Value} (x : h.IsList a its.toArray) (y : h.IsList a its'.toArray) : its = its' := by
  obtain ⟨o, e, c, n, d⟩ := x
  obtain ⟨o', e', c', n', d'⟩ := y
  rw [e] at e'
  cases e'
  rw [d] at d'
  injection d' with d1 _
  simpa using congrArg Array.toList d1
theorem isTup_inj {h : Heap} {a : Addr} {its its' : List Value} (x : h.IsTuple a its.toArray) (y : h.IsTuple a its'.toArray) : its = its' := by
  obtain ⟨o, e, c, n, d⟩ := x
  obtain ⟨o', e', c', n', d'⟩ := y
  rw [e] at e'
  cases e'
  rw [d] at d'
  injection d' with d1 _
  simpa using congrArg Array.toList d1
theorem isLT {h : Heap} {a : Addr} {its its' : List Value} (x : h.IsList a its.toArray) (y : h.IsTuple a its'.toArray) : False := by
  obtain ⟨o, e, c, n, d⟩ := x
  obtain ⟨o', e', c', n', d'⟩ := y
  rw [e] at e'
  cases e'
  rw [c] at c'
  exact absurd c' (by decide)
theorem eq_same {h : Heap} : ∀ (n : Nat) (a b : PyData) (v : Value) (z : Bool), CD h a v → CD h b v → eqG n a b = some z → z = true
  | 0, _, _, _, _, _, _, e => by cases e
  | n + 1, a, b, v, z, r, q, e => by
    cases r with
    | none => cases q; exact (Option.some.inj e).symm
    | bool b => cases q; have e' : some (b == b) = some z := e; rw [← Option.some.inj e']; simp
    | int b => cases q; have e' : some (b == b) = some z := e; rw [← Option.some.inj e']; simp
    | str b => cases q; have e' : some (b == b) = some z := e; rw [← Option.some.inj e']; simp
    | @list p xs its e1 r1 =>
      cases q with
      | @list _ ys its' e2 q1 =>
        have e' : (if xs.length = ys.length then eqL (eqG n) xs ys else some false) = some z := e
        obtain rfl := isList_inj e1 e2
        rw [if_pos (r1.length.trans q1.length.symm)] at e'
        exact eqL_same (eq_same n) r1 q1 e'
      | tuple e2 q1 => exact (isLT e1 e2).elim
      | dict => cases e
    | @tuple p xs its e1 r1 =>
      cases q with
      | @tuple _ ys its' e2 q1 =>
        have e' : eqL (eqG n) xs ys = some z := e
        obtain rfl := isTup_inj e1 e2
        exact eqL_same (eq_same n) r1 q1 e'
      | list e2 q1 => exact (isLT e2 e1).elim
      | dict => cases e
    | dict => cases q <;> cases e
def pairE (f : PyData → PyData → Option Bool) (xs ys : List PyData) (j : Nat) : Bool := match xs[j]?, ys[j]? with
  | some x, some y => (f x y).getD false
  | _, _ => false
theorem pairE_succ {f : PyData → PyData → Option Bool} {x y : PyData} {xs ys : List PyData} (j : Nat) : pairE f (x :: xs) (y :: ys) (j + 1) = pairE f xs ys j := by
  unfold pairE
  simp
theorem range_all_succ (p : Nat → Bool) (n : Nat) : (List.range (n + 1)).all p = (p 0 && (List.range n).all fun j => p (j + 1)) := by
  rw [List.range_succ_eq_map, List.all_cons, List.all_map]
  rfl
theorem eqL_all {f : PyData → PyData → Option Bool} : ∀ {xs ys : List PyData} {z : Bool}, eqL f xs ys = some z → ((List.range (min xs.length ys.length)).all (pairE f xs ys) && xs.length == ys.length) = z
  | [], [], z, e => by cases e; rfl
  | [], y :: ys, z, e => by cases e; simp
  | x :: xs, [], z, e => by cases e; simp
  | x :: xs, y :: ys, z, e => by
    unfold eqL at e
    split at e
    · rename_i a b e1 e2
      cases e
      have ih := eqL_all e2
      have e3 : min (x :: xs).length (y :: ys).length = min xs.length ys.length + 1 := by simp only [List.length_cons]; omega
      rw [e3, range_all_succ]
      have e4 : pairE f (x :: xs) (y :: ys) 0 = a := by unfold pairE; simp [e1]
      have e5 : (fun j => pairE f (x :: xs) (y :: ys) (j + 1)) = pairE f xs ys := funext fun j => pairE_succ j
      rw [e4, e5]
      have e6 : ((x :: xs).length == (y :: ys).length) = (xs.length == ys.length) := by simp
      rw [e6, ← ih, Bool.and_assoc]
    · cases e
theorem eqL_each {f : PyData → PyData → Option Bool} : ∀ {xs ys : List PyData} {z : Bool}, eqL f xs ys = some z → ∀ (j : Nat) (x y : PyData), xs[j]? = some x → ys[j]? = some y → f x y = some (pairE f xs ys j)
  | [], _, _, _, j, x, y, h, _ => by simp at h
  | _ :: _, [], _, _, j, x, y, _, h => by simp at h
  | a :: xs, b :: ys, z, e, j, x, y, h1, h2 => by
    unfold eqL at e
    split at e
    · rename_i u v e1 e2
      cases j with
      | zero =>
        simp at h1 h2
        subst h1 h2
        rw [e1]
        unfold pairE
        simp [e1]
      | succ j => rw [pairE_succ]; exact eqL_each e2 j x y (by simpa using h1) (by simpa using h2)
    · cases e
theorem CDs.get {h : Heap} : ∀ {x : List PyData} {v : List Value} {i : Nat} (hi : i < v.length), CDs h x v → ∃ d, x[i]? = some d ∧ CD h d v[i]
  | _, _, i, hi, .nil => by simp at hi
  | _, _, 0, _, .cons a _ => ⟨_, rfl, a⟩
  | _, _, i + 1, hi, .cons _ b => by
    obtain ⟨d, e, r⟩ := CDs.get (i := i) (by simpa using hi) b
    exact ⟨d, by simpa using e, by simpa using r⟩
theorem units_in1 {A : Around} {n : Nat} (h : A.units + (n + 1) < cLine) : A.in1.units + n < cLine := by
  show A.units + 1 + n < cLine
  omega
open PySem.SeqAt in
/-- == as it is reckoned -/
theorem eq_at {s : Shared} : ∀ (n : Nat) (A : Around) (a b : PyData) (u v : Value) (z : Bool), CD s.heap a u → CD s.heap b v → eqG n a b = some z → A.units + n < cLine → RcAt A s u v z ∧ EqAt A s u v z
  | 0, _, _, _, _, _, _, _, _, e, _ => by cases e
  | n + 1, A, a, b, u, v, z, r, q, e, hu => by
    have hu1 : A.units < cLine := by omega
    have items : ∀ {xs ys : List PyData} {vs ws : List Value} {z : Bool}, CDs s.heap xs vs → CDs s.heap ys ws → eqL (eqG n) xs ys = some z →
        ∀ j (h1 : j < vs.toArray.size) (h2 : j < ws.toArray.size), EqAt A.in1 s vs.toArray[j] ws.toArray[j] (pairE (eqG n) xs ys j) := fun {xs ys vs ws z} r1 q1 ez j h1 h2 => by
      obtain ⟨x, ex, rx⟩ := r1.get (i := j) (by simpa using h1)
      obtain ⟨y, ey, ry⟩ := q1.get (i := j) (by simpa using h2)
      have := eqL_each ez j x y ex ey
      exact (eq_at n A.in1 x y _ _ _ rx ry this (units_in1 hu)).2
    cases r with
    | none =>
      cases q with
      | none => cases e; exact ⟨RcAt.none_none, EqAt.same _⟩
      | bool y => cases e; exact ⟨RcAt.none_bool y, EqAt.none_bool y⟩
      | int y t => cases e; exact ⟨RcAt.none_int y t, EqAt.none_int y t⟩
      | str y t => cases e; exact ⟨RcAt.none_str y t, EqAt.none_str y t⟩
      | list e2 _ => cases e; exact ⟨RcAt.none_list e2 hu1, EqAt.none_list e2 hu1⟩
      | tuple e2 _ => cases e; exact ⟨RcAt.none_tuple e2 hu1, EqAt.none_tuple e2 hu1⟩
      | dict => cases e
    | bool x =>
      cases q with
      | none => cases e; exact ⟨RcAt.bool_none x, EqAt.bool_none x⟩
      | bool y => cases e; exact ⟨RcAt.bool_bool x y, EqAt.bool_bool x y⟩
      | int y t => cases e; exact ⟨RcAt.bool_int x y t, EqAt.bool_int x y t⟩
      | str y t => cases e; exact ⟨RcAt.bool_str x y t, EqAt.bool_str x y t⟩
      | list e2 _ => cases e; exact ⟨RcAt.bool_list x e2 hu1, EqAt.bool_list x e2 hu1⟩
      | tuple e2 _ => cases e; exact ⟨RcAt.bool_tuple x e2 hu1, EqAt.bool_tuple x e2 hu1⟩
      | dict => cases e
    | int x t0 =>
      cases q with
      | none => cases e; exact ⟨RcAt.int_none x t0, EqAt.int_none x t0⟩
      | bool y => cases e; exact ⟨RcAt.int_bool x t0 y, EqAt.int_bool x t0 y⟩
      | int y t => cases e; exact ⟨RcAt.int_int x t0 y t, EqAt.int_int x t0 y t⟩
      | str y t => cases e; exact ⟨RcAt.int_str x t0 y t, EqAt.int_str x t0 y t⟩
      | list e2 _ => cases e; exact ⟨RcAt.int_list x t0 e2 hu1, EqAt.int_list x t0 e2 hu1⟩
      | tuple e2 _ => cases e; exact ⟨RcAt.int_tuple x t0 e2 hu1, EqAt.int_tuple x t0 e2 hu1⟩
      | dict => cases e
    | str x t0 =>
      cases q with
      | none => cases e; exact ⟨RcAt.str_none x t0, EqAt.str_none x t0⟩
      | bool y => cases e; exact ⟨RcAt.str_bool x t0 y, EqAt.str_bool x t0 y⟩
      | int y t => cases e; exact ⟨RcAt.str_int x t0 y t, EqAt.str_int x t0 y t⟩
      | str y t => cases e; exact ⟨RcAt.str_str x t0 y t, EqAt.str_str x t0 y t⟩
      | list e2 _ => cases e; exact ⟨RcAt.str_list x t0 e2 hu1, EqAt.str_list x t0 e2 hu1⟩
      | tuple e2 _ => cases e; exact ⟨RcAt.str_tuple x t0 e2 hu1, EqAt.str_tuple x t0 e2 hu1⟩
      | dict => cases e
    | @list p xs vs e1 r1 =>
      cases q with
      | none => cases e; exact ⟨RcAt.list_none e1 hu1, EqAt.list_none e1 hu1⟩
      | bool y => cases e; exact ⟨RcAt.list_bool y e1 hu1, EqAt.list_bool y e1 hu1⟩
      | int y t => cases e; exact ⟨RcAt.list_int y t e1 hu1, EqAt.list_int y t e1 hu1⟩
      | str y t => cases e; exact ⟨RcAt.list_str y t e1 hu1, EqAt.list_str y t e1 hu1⟩
      | tuple e2 _ => cases e; exact ⟨RcAt.list_tuple e1 e2 hu1, EqAt.list_tuple e1 e2 hu1⟩
      | dict => cases e
      | @list p2 ys ws e2 q1 =>
        have rc : RcAt A s (.ref p) (.ref p2) z := by
          have e' : (if xs.length = ys.length then eqL (eqG n) xs ys else some false) = some z := e
          have l1 := r1.length
          have l2 := q1.length
          by_cases hl : xs.length = ys.length
          · rw [if_pos hl] at e'
            have al := eqL_all e'
            rw [hl, Nat.min_self] at al
            have := RcAt.lists (e := pairE (eqG n) xs ys) e1 e2 (by simp; omega) hu1 (items r1 q1 e')
            rw [List.size_toArray, ← l1, hl] at this
            rw [← al]
            simpa using this
          · rw [if_neg hl] at e'
            cases e'
            exact RcAt.lists_lengths e1 e2 (by simp; omega) hu1
        refine ⟨rc, ?_⟩
        by_cases hp : p = p2
        · subst hp
          obtain rfl := eq_same (n + 1) _ _ _ _ (.list e1 r1) (.list e2 q1) e
          exact EqAt.same _
        · exact EqAt.of_refs hp rc
    | @tuple p xs vs e1 r1 =>
      cases q with
      | none => cases e; exact ⟨RcAt.tuple_none e1 hu1, EqAt.tuple_none e1 hu1⟩
      | bool y => cases e; exact ⟨RcAt.tuple_bool y e1 hu1, EqAt.tuple_bool y e1 hu1⟩
      | int y t => cases e; exact ⟨RcAt.tuple_int y t e1 hu1, EqAt.tuple_int y t e1 hu1⟩
      | str y t => cases e; exact ⟨RcAt.tuple_str y t e1 hu1, EqAt.tuple_str y t e1 hu1⟩
      | list e2 _ => cases e; exact ⟨RcAt.tuple_list e1 e2 hu1, EqAt.tuple_list e1 e2 hu1⟩
      | dict => cases e
      | @tuple p2 ys ws e2 q1 =>
        have rc : RcAt A s (.ref p) (.ref p2) z := by
          have e' : eqL (eqG n) xs ys = some z := e
          have l1 := r1.length
          have l2 := q1.length
          have al := eqL_all e'
          have := RcAt.tuples (e := pairE (eqG n) xs ys) e1 e2 hu1 (items r1 q1 e')
          rw [List.size_toArray, List.size_toArray, ← l1, ← l2, al] at this
          exact this
        refine ⟨rc, ?_⟩
        by_cases hp : p = p2
        · subst hp
          obtain rfl := eq_same (n + 1) _ _ _ _ (.tuple e1 r1) (.tuple e2 q1) e
          exact EqAt.same _
        · exact EqAt.of_refs hp rc
    | dict => cases q <;> cases e
open PySem.SeqAt in
/-- != -/
theorem ne_at {s : Shared} : ∀ (n : Nat) (A : Around) (a b : PyData) (u v : Value) (z : Bool), CD s.heap a u → CD s.heap b v → eqG n a b = some z → A.units + n < cLine → RcNeAt A s u v (!z)
  | 0, _, _, _, _, _, _, _, _, e, _ => by cases e
  | n + 1, A, a, b, u, v, z, r, q, e, hu => by
    have hu1 : A.units < cLine := by omega
    have items : ∀ {xs ys : List PyData} {vs ws : List Value} {z : Bool}, CDs s.heap xs vs → CDs s.heap ys ws → eqL (eqG n) xs ys = some z →
        ∀ j (h1 : j < vs.toArray.size) (h2 : j < ws.toArray.size), EqAt A.in1 s vs.toArray[j] ws.toArray[j] (pairE (eqG n) xs ys j) := fun {xs ys vs ws z} r1 q1 ez j h1 h2 => by
      obtain ⟨x, ex, rx⟩ := r1.get (i := j) (by simpa using h1)
      obtain ⟨y, ey, ry⟩ := q1.get (i := j) (by simpa using h2)
      have := eqL_each ez j x y ex ey
      exact (eq_at n A.in1 x y _ _ _ rx ry this (units_in1 hu)).2
    cases r with
    | none =>
      cases q with
      | none => cases e; exact RcNeAt.none_none
      | bool y => cases e; exact RcNeAt.none_bool y
      | int y t => cases e; exact RcNeAt.none_int y t
      | str y t => cases e; exact RcNeAt.none_str y t
      | list e2 _ => cases e; exact RcNeAt.none_list e2 hu1
      | tuple e2 _ => cases e; exact RcNeAt.none_tuple e2 hu1
      | dict => cases e
    | bool x =>
      cases q with
      | none => cases e; exact RcNeAt.bool_none x
      | bool y => cases e; exact RcNeAt.bool_bool x y
      | int y t => cases e; exact RcNeAt.bool_int x y t
      | str y t => cases e; exact RcNeAt.bool_str x y t
      | list e2 _ => cases e; exact RcNeAt.bool_list x e2 hu1
      | tuple e2 _ => cases e; exact RcNeAt.bool_tuple x e2 hu1
      | dict => cases e
    | int x t0 =>
      cases q with
      | none => cases e; exact RcNeAt.int_none x t0
      | bool y => cases e; exact RcNeAt.int_bool x t0 y
      | int y t => cases e; exact RcNeAt.int_int x t0 y t
      | str y t => cases e; exact RcNeAt.int_str x t0 y t
      | list e2 _ => cases e; exact RcNeAt.int_list x t0 e2 hu1
      | tuple e2 _ => cases e; exact RcNeAt.int_tuple x t0 e2 hu1
      | dict => cases e
    | str x t0 =>
      cases q with
      | none => cases e; exact RcNeAt.str_none x t0
      | bool y => cases e; exact RcNeAt.str_bool x t0 y
      | int y t => cases e; exact RcNeAt.str_int x t0 y t
      | str y t => cases e; exact RcNeAt.str_str x t0 y t
      | list e2 _ => cases e; exact RcNeAt.str_list x t0 e2 hu1
      | tuple e2 _ => cases e; exact RcNeAt.str_tuple x t0 e2 hu1
      | dict => cases e
    | @list p xs vs e1 r1 =>
      cases q with
      | none => cases e; exact RcNeAt.list_none e1 hu1
      | bool y => cases e; exact RcNeAt.list_bool y e1 hu1
      | int y t => cases e; exact RcNeAt.list_int y t e1 hu1
      | str y t => cases e; exact RcNeAt.list_str y t e1 hu1
      | tuple e2 _ => cases e; exact RcNeAt.list_tuple e1 e2 hu1
      | dict => cases e
      | @list p2 ys ws e2 q1 =>
        have rc : RcNeAt A s (.ref p) (.ref p2) (!z) := by
          have e' : (if xs.length = ys.length then eqL (eqG n) xs ys else some false) = some z := e
          have l1 := r1.length
          have l2 := q1.length
          by_cases hl : xs.length = ys.length
          · rw [if_pos hl] at e'
            have al := eqL_all e'
            rw [hl, Nat.min_self] at al
            have := RcNeAt.lists (e := pairE (eqG n) xs ys) e1 e2 (by simp; omega) hu1 (items r1 q1 e')
            rw [List.size_toArray, ← l1, hl] at this
            rw [← al]
            simpa using this
          · rw [if_neg hl] at e'
            cases e'
            exact RcNeAt.lists_lengths e1 e2 (by simp; omega) hu1
        exact rc
    | @tuple p xs vs e1 r1 =>
      cases q with
      | none => cases e; exact RcNeAt.tuple_none e1 hu1
      | bool y => cases e; exact RcNeAt.tuple_bool y e1 hu1
      | int y t => cases e; exact RcNeAt.tuple_int y t e1 hu1
      | str y t => cases e; exact RcNeAt.tuple_str y t e1 hu1
      | list e2 _ => cases e; exact RcNeAt.tuple_list e1 e2 hu1
      | dict => cases e
      | @tuple p2 ys ws e2 q1 =>
        have rc : RcNeAt A s (.ref p) (.ref p2) (!z) := by
          have e' : eqL (eqG n) xs ys = some z := e
          have l1 := r1.length
          have l2 := q1.length
          have al := eqL_all e'
          have := RcNeAt.tuples (e := pairE (eqG n) xs ys) e1 e2 hu1 (items r1 q1 e')
          rw [List.size_toArray, List.size_toArray, ← l1, ← l2, al] at this
          exact this
        exact rc
    | dict => cases q <;> cases e
end Ev
end
section
set_option Elab.async false
set_option linter.all false
set_option maxRecDepth 100000
namespace Ev
open PySem PySem.Spec L2
def LeH (I H : Hp) : Prop := ∀ b u, I b = some u → H b = some u
section
variable {X : Cx}
def rEqX (K : PySem.W.Frag) : R2 := fun x y H Q => ∃ I a b z, LeH I H ∧ RT K H I a x ∧ RT K H I b y ∧ eqG eqN a b = some z ∧ Q (.bl z) H
def rNeX (K : PySem.W.Frag) : R2 := fun x y H Q => ∃ I a b z, LeH I H ∧ RT K H I a x ∧ RT K H I b y ∧ eqG eqN a b = some z ∧ Q (.bl (!z)) H
theorem op_eqX (hu : X.A.units + 70 < cLine) : OpR X (compareOp .Eq) (rEqX X.K) := by
  intro pins s σ H x y v u Q I rx ry ⟨J, a, b, z, le, ra, rb, e, q⟩
  have r := (eq_at eqN X.A a b v u z (ra.cr I le rx) (rb.cr I le ry) e (by show X.A.units + 64 < _; omega)).1
  exact r X.prog X.w X.xe _ ⟨.bl z, H, I, rfl, q⟩
theorem op_neX (hu : X.A.units + 70 < cLine) : OpR X (compareOp .NotEq) (rNeX X.K) := by
  intro pins s σ H x y v u Q I rx ry ⟨J, a, b, z, le, ra, rb, e, q⟩
  have r := ne_at eqN X.A a b v u z (ra.cr I le rx) (rb.cr I le ry) e (by show X.A.units + 64 < _; omega)
  exact r X.prog X.w X.xe _ ⟨.bl (!z), H, I, rfl, q⟩
theorem eqG_congr {h : Heap} (n : Nat) : ∀ {d d' x : PyData} {v : Value} {z z' : Bool}, CD h d v → CD h d' v → eqG n d x = some z → eqG n d' x = some z' → z = z' := by
  induction n with
  | zero => intro _ _ _ _ _ _ _ _ e _; cases e
  | succ n ih =>
    intro d d' x v z z' r r' e e'
    have L : ∀ {xs xs' ys : List PyData} {vs : List Value} {z z' : Bool}, CDs h xs vs → CDs h xs' vs → eqL (eqG n) xs ys = some z → eqL (eqG n) xs' ys = some z' → z = z' := by
      intro xs
      induction xs with
      | nil => intro xs' ys vs z z' c c' e e'; cases c; cases c'; rw [e] at e'; exact Option.some.inj e'
      | cons a xs ihx =>
        intro xs' ys vs z z' c c' e e'
        cases c with
        | cons c1 c2 =>
          cases c' with
          | cons d1 d2 =>
            cases ys with
            | nil => cases e; cases e'; rfl
            | cons y ys =>
              unfold eqL at e e'
              split at e
              · rename_i p q e1 e2
                split at e'
                · rename_i p' q' e1' e2'
                  cases e
                  cases e'
                  rw [ih c1 d1 e1 e1', ihx c2 d2 e2 e2']
                · cases e'
              · cases e
    cases r with
    | none => cases r'; rw [e] at e'; exact Option.some.inj e'
    | bool b => cases r'; rw [e] at e'; exact Option.some.inj e'
    | int b t => cases r'; rw [e] at e'; exact Option.some.inj e'
    | str b t => cases r'; rw [e] at e'; exact Option.some.inj e'
    | @list p xs its e1 r1 =>
      cases r' with
      | @list _ xs' its' e2 r2 =>
        obtain rfl := isList_inj e1 e2
        cases x with
        | list ys =>
          have f : (if xs.length = ys.length then eqL (eqG n) xs ys else some false) = some z := e
          have f' : (if xs'.length = ys.length then eqL (eqG n) xs' ys else some false) = some z' := e'
          have l : xs.length = xs'.length := r1.length.trans r2.length.symm
          rw [← l] at f'
          by_cases hl : xs.length = ys.length
          · rw [if_pos hl] at f f'; exact L r1 r2 f f'
          · rw [if_neg hl] at f f'; cases f; cases f'; rfl
        | dict => cases e
        | _ => cases e; cases e'; rfl
      | tuple e2 _ => exact (isLT e1 e2).elim
      | dict => cases x <;> cases e'
    | @tuple p xs its e1 r1 =>
      cases r' with
      | @tuple _ xs' its' e2 r2 =>
        obtain rfl := isTup_inj e1 e2
        cases x with
        | tuple ys =>
          have f : eqL (eqG n) xs ys = some z := e
          have f' : eqL (eqG n) xs' ys = some z' := e'
          exact L r1 r2 f f'
        | dict => cases e
        | _ => cases e; cases e'; rfl
      | list e2 _ => exact (isLT e2 e1).elim
      | dict => cases x <;> cases e'
    | dict => cases x <;> cases e
/-- what is met in a list: by the values -/
theorem any_val {hp : Heap} {x : PyData} : ∀ {ys : List PyData} {vs : List Value} {z : Bool}, CDs hp ys vs → anyEq x ys = some z →
    ∃ e : Value → Bool, vs.any e = z ∧ ∀ v ∈ vs, ∃ d, CD hp d v ∧ eqG eqN d x = some (e v) := by
  intro ys vs z c h
  refine ⟨fun v => @decide (∃ d, CD hp d v ∧ eqG eqN d x = some true) (Classical.propDecidable _), ?_⟩
  induction ys generalizing vs z with
  | nil => cases c; cases h; exact ⟨rfl, fun v hv => by cases hv⟩
  | cons y ys ih =>
    cases c with
    | @cons _ v _ vs c1 c2 =>
      unfold anyEq at h
      split at h
      · rename_i a b e1 e2
        cases h
        obtain ⟨h1, h2⟩ := ih c2 e2
        have ev : @decide (∃ d, CD hp d v ∧ eqG eqN d x = some true) (Classical.propDecidable _) = a := by
          cases a with
          | true => exact @decide_eq_true _ (Classical.propDecidable _) ⟨y, c1, e1⟩
          | false => exact @decide_eq_false _ (Classical.propDecidable _) fun ⟨d, c, e⟩ => by have := eqG_congr eqN c1 c e1 e; cases this
        refine ⟨by rw [List.any_cons, h1, ev], fun v' hv => ?_⟩
        rcases List.mem_cons.mp hv with rfl | hv
        · exact ⟨y, c1, e1.trans (congrArg some ev.symm)⟩
        · exact h2 v' hv
      · cases h
def rInX (K : PySem.W.Frag) (neg : Bool) : R2 := fun x y H Q =>
  (∃ I a ys z, LeH I H ∧ RT K H I a x ∧ (RT K H I (.list ys) y ∨ RT K H I (.tuple ys) y) ∧ anyEq a ys = some z ∧ Q (.bl (if neg then !z else z)) H) ∨
  (∃ (c : Nat) (z : Str), x = .str ⟨#[c]⟩ ∧ y = .str z ∧ Q (.bl (if neg then !decide (c ∈ z.cps.toList) else decide (c ∈ z.cps.toList))) H) ∨
  ∃ a o, y = .ref a ∧ DGet H a x o ∧ Q (.bl (if neg then !o.isSome else o.isSome)) H
theorem eqs_of {s : Shared} {x : PyData} {u : Value} {vs : List Value} {e : Value → Bool} (hu : X.A.units + 70 < cLine) (cx : CD s.heap x u) (h : ∀ v ∈ vs, ∃ d, CD s.heap d v ∧ eqG eqN d x = some (e v)) :
    ∀ y, y ∈ vs.toArray → PySem.SeqAt.EqAt X.A.in1 s y u (e y) := fun y hy => by
  obtain ⟨d, c, h⟩ := h y (by simpa using hy)
  exact (eq_at eqN X.A.in1 d x y u _ c cx h (by show X.A.units + 1 + 64 < _; omega)).2
theorem op_inX (hu : X.A.units + 70 < cLine) : OpR X (compareOp .In) (rInX X.K false) := by
  intro pins s σ H x y v u Q I rx ry h
  rcases h with ⟨J, a, ys, z, le, ra, rb, e, q⟩ | ⟨c, z, rfl, rfl, q⟩ | ⟨a, o, rfl, g, q⟩
  · have cx := ra.cr I le rx
    rcases rb with rb | rb
    · cases rb with
      | flat e => cases e
      | list hl rd =>
        cases ry
        obtain ⟨its, vs, pl, _⟩ := I.list hl
        obtain ⟨f, h1, h2⟩ := any_val (rd.cr I le vs) e
        refine SeqAt.in_listAt f pl.isList (eqs_of hu cx h2) ⟨.bl z, H, I, ?_, q⟩
        show _ = Value.bool z
        rw [← h1]; simp
    · cases rb with
      | flat e => cases e
      | tuple hl rd =>
        cases ry
        obtain ⟨its, vs, pl, _⟩ := I.tuple hl
        obtain ⟨f, h1, h2⟩ := any_val (rd.cr I le vs) e
        refine SeqAt.in_tupleAt f pl (eqs_of hu cx h2) ⟨.bl z, H, I, ?_, q⟩
        show _ = Value.bool z
        rw [← h1]; simp
  · exact op_in_sign pins s σ H _ _ v u Q I rx ry ⟨c, z, rfl, rfl, q⟩
  · cases ry
    exact d_in (by omega) I g rx fun s' I' => ⟨.bl o.isSome, H, I', rfl, q⟩
theorem op_ninX (hu : X.A.units + 70 < cLine) : OpR X (compareOp .NotIn) (rInX X.K true) := by
  intro pins s σ H x y v u Q I rx ry h
  rcases h with ⟨J, a, ys, z, le, ra, rb, e, q⟩ | ⟨c, z, rfl, rfl, q⟩ | ⟨a, o, rfl, g, q⟩
  · have cx := ra.cr I le rx
    rcases rb with rb | rb
    · cases rb with
      | flat e => cases e
      | list hl rd =>
        cases ry
        obtain ⟨its, vs, pl, _⟩ := I.list hl
        obtain ⟨f, h1, h2⟩ := any_val (rd.cr I le vs) e
        refine SeqAt.notIn_listAt f pl.isList (eqs_of hu cx h2) ⟨.bl (!z), H, I, ?_, q⟩
        show _ = Value.bool (!z)
        rw [← h1]; simp
    · cases rb with
      | flat e => cases e
      | tuple hl rd =>
        cases ry
        obtain ⟨its, vs, pl, _⟩ := I.tuple hl
        obtain ⟨f, h1, h2⟩ := any_val (rd.cr I le vs) e
        refine SeqAt.notIn_tupleAt f pl (eqs_of hu cx h2) ⟨.bl (!z), H, I, ?_, q⟩
        show _ = Value.bool (!z)
        rw [← h1]; simp
  · exact op_notIn_sign pins s σ H _ _ v u Q I rx ry ⟨c, z, rfl, rfl, q⟩
  · cases ry
    exact d_notIn (by omega) I g rx fun s' I' => ⟨.bl (!o.isSome), H, I', rfl, q⟩
/-- < <= > >= of ints and texts -/
def rOrdX (pi : Int → Int → Bool) (ps : Str → Str → Bool) : R2 := fun x y H Q => (∃ i j, x = .int i ∧ y = .int j ∧ Q (.bl (pi i j)) H) ∨ ∃ i j, x = .str i ∧ y = .str j ∧ Q (.bl (ps i j)) H
theorem op_ltX : OpR X (compareOp .Lt) (rOrdX (fun i j => decide (i < j)) fun i j => decide (i.cps.toList < j.cps.toList)) := op_lt.or op_lt_str
theorem op_leX : OpR X (compareOp .LtE) (rOrdX (fun i j => decide (i ≤ j)) fun i j => !decide (j.cps.toList < i.cps.toList)) := op_le.or op_le_str
theorem op_gtX : OpR X (compareOp .Gt) (rOrdX (fun i j => decide (j < i)) fun i j => decide (j.cps.toList < i.cps.toList)) := op_gt.or op_gt_str
theorem op_geX : OpR X (compareOp .GtE) (rOrdX (fun i j => decide (j ≤ i)) fun i j => !decide (i.cps.toList < j.cps.toList)) := op_ge.or op_ge_str
def opC : COp → CmpOp
  | .eq => .Eq | .ne => .NotEq | .lt => .Lt | .le => .LtE | .gt => .Gt | .ge => .GtE | .is => .Is | .isn => .IsNot | .in_ => .In | .nin => .NotIn
def rCmp (K : PySem.W.Frag) : COp → R2
  | .eq => rEqX K
  | .ne => rNeX K
  | .lt => rOrdX (fun i j => decide (i < j)) fun i j => decide (i.cps.toList < j.cps.toList)
  | .le => rOrdX (fun i j => decide (i ≤ j)) fun i j => !decide (j.cps.toList < i.cps.toList)
  | .gt => rOrdX (fun i j => decide (j < i)) fun i j => decide (j.cps.toList < i.cps.toList)
  | .ge => rOrdX (fun i j => decide (j ≤ i)) fun i j => !decide (i.cps.toList < j.cps.toList)
  | .is => fun x y H Q => y = .non ∧ Q (.bl (decide (x = .non))) H
  | .isn => fun x y H Q => y = .non ∧ Q (.bl (!decide (x = .non))) H
  | .in_ => rInX K false
  | .nin => rInX K true
theorem op_cmp (hu : X.A.units + 70 < cLine) : ∀ o, OpR X (compareOp (opC o)) (rCmp X.K o)
  | .eq => op_eqX hu
  | .ne => op_neX hu
  | .lt => op_ltX
  | .le => op_leX
  | .gt => op_gtX
  | .ge => op_geX
  | .is => op_isN
  | .isn => op_notN
  | .in_ => op_inX hu
  | .nin => op_ninX hu
end
theorem bnd_ok {α β : Type} {m : M α} {f : α → M β} {S S' : List Cell} {a : α} (h : m S = .ok a S') : bnd m f S = f a S' := by unfold bnd; rw [h]
theorem bnd_no {α β : Type} {m : M α} {f : α → M β} {S : List Cell} (h : m S = .no) : bnd m f S = .no := by unfold bnd; rw [h]
theorem keyOf_keyD (k : Key) : keyOf (keyD k) = some k := by cases k <;> rfl
theorem keysL_map : ∀ ks : List Key, keysL (ks.map keyD) = some ks
  | [] => rfl
  | k :: ks => by
    show (match keyOf (keyD k), keysL (ks.map keyD) with
      | some k, some ks => some (k :: ks)
      | _, _ => none) = _
    rw [keyOf_keyD, keysL_map ks]
theorem keysOf_keysD (ks : List Key) : keysOf (keysD ks) = some ks := keysL_map ks
theorem keyOf_keysD (ks : List Key) : keyOf (keysD ks) = none := rfl
theorem keyOf_flat {x : PyData} {k : Key} (h : keyOf x = some k) : flatOf x = some (kV k) := by cases x <;> cases h <;> rfl
theorem keysL_flat : ∀ {xs : List PyData} {ks : List Key}, keysL xs = some ks → xs.map flatOf = ks.map fun k => some (kV k)
  | [], _, h => by cases h; rfl
  | x :: r, ks, h => by
    unfold keysL at h
    split at h
    · rename_i k ks' e1 e2
      cases h
      rw [List.map_cons, List.map_cons, keyOf_flat e1, keysL_flat e2]
    · cases h
theorem flat_RD_inj {I : Hp} {x : PyData} {v u : V} (r : RD I x v) (h : flatOf x = some u) : v = u := by
  cases r <;> first | exact Option.some.inj h | cases h
theorem flats_inj {I : Hp} : ∀ {xs : List PyData} {vs us : List V}, RDs I xs vs → xs.map flatOf = us.map some → vs = us
  | _, _, [], .nil, _ => rfl
  | _, _, _ :: _, .nil, h => by simp at h
  | _, _, [], .cons _ _, h => by simp at h
  | _, _, u :: us, .cons a b, h => by
    have h' := by simpa using h
    rw [flat_RD_inj a h'.1, flats_inj b h'.2]
section
variable {F : Fx} {g : Gh} {w : Wd} {S : List Cell} {H : Hp} {σ : St} {Q : VK}
/-- a key of a dict of tuples, as it lies -/
theorem RU.keys {I : Hp} {x : PyData} {v : V} {ks : List Key} (r : RU H I x v) (h : keysOf x = some ks) : ∃ b, v = .ref b ∧ H b = some (.tup (ks.map kV)) := by
  cases r with
  | flat e => cases x <;> first | (cases h; done) | (cases e; done)
  | @tuple a xs ds e rd =>
    have q := keysL_flat (show keysL ds = some ks from h)
    have q2 : ds.map flatOf = (ks.map kV).map some := by rw [q, List.map_map]; rfl
    rw [flats_inj rd q2] at e
    exact ⟨a, rfl, e⟩
  | list _ _ => cases h
  | dk _ _ => cases h
  | dt _ _ => cases h
theorem RKV.look {κ : Type} [DecidableEq κ] {K : PySem.W.Frag} (k : κ) : ∀ {x : List (κ × Val)} {y : List (κ × V)}, RKV K w x y → (match lookK x k with
    | some v => ∃ u, valV y k = some u ∧ RV K w v u
    | none => valV y k = none)
  | _, _, .nil => by unfold lookK; rfl
  | p :: x, q :: y, .cons ⟨e, r⟩ t => by
    have ih := RKV.look k t
    unfold lookK valV at ih ⊢
    by_cases h : p.1 = k
    · rw [List.find?_cons_of_pos (by simpa using h), List.find?_cons_of_pos (by rw [← e]; simpa using h)]
      exact ⟨q.2, rfl, r⟩
    · rw [List.find?_cons_of_neg (by simpa using h), List.find?_cons_of_neg (by rw [← e]; simpa using h)]
      exact ih
theorem RKV.isSome {κ : Type} [DecidableEq κ] {K : PySem.W.Frag} (k : κ) {x : List (κ × Val)} {y : List (κ × V)} (r : RKV K w x y) : (valV y k).isSome = (lookK x k).isSome := by
  have h := r.look k
  cases e : lookK x k with
  | none =>
    rw [e] at h
    have h2 : valV y k = none := h
    rw [h2]
    rfl
  | some v => rw [e] at h; obtain ⟨u, h, _⟩ := h; rw [h]; rfl
/-- what a look-up gives, lying in I -/
def LkR (I : Hp) : Option PyData → Option V → Prop
  | some v, o => ∃ u, o = some u ∧ RD I v u
  | none, o => o = none
theorem RDk.look {I : Hp} (k : Key) : ∀ {x : List (PyData × PyData)} {y : List (Key × V)}, RDk I x y → LkR I ((x.find? fun kv => decide (keyOf kv.1 = some k)).map (·.2)) (valV y k)
  | _, _, .nil => rfl
  | _, _, @RDk.cons _ k' x v ps kvs r t => by
    have ih := RDk.look k t
    unfold valV at ih ⊢
    by_cases h : k' = k
    · rw [List.find?_cons_of_pos (by simp [keyOf_keyD, h]), List.find?_cons_of_pos (by simpa using h)]
      exact ⟨v, rfl, r⟩
    · rw [List.find?_cons_of_neg (by simp [keyOf_keyD, h]), List.find?_cons_of_neg (by simpa using h)]
      exact ih
theorem RDt.look {I : Hp} (k : List Key) : ∀ {x : List (PyData × PyData)} {y : List (List Key × V)}, RDt I x y → LkR I ((x.find? fun kv => decide (keysOf kv.1 = some k)).map (·.2)) (valV y k)
  | _, _, .nil => rfl
  | _, _, @RDt.cons _ k' x v ps kvs r t => by
    have ih := RDt.look k t
    unfold valV at ih ⊢
    by_cases h : k' = k
    · rw [List.find?_cons_of_pos (by simp [keysOf_keysD, h]), List.find?_cons_of_pos (by simpa using h)]
      exact ⟨v, rfl, r⟩
    · rw [List.find?_cons_of_neg (by simp [keysOf_keysD, h]), List.find?_cons_of_neg (by simpa using h)]
      exact ih
/-- a look into a frozen dict -/
theorem dict_look {K : PySem.W.Frag} {I : Hp} {ps : List (PyData × PyData)} {x : PyData} {y v : V} {o : Option PyData} (r : RT K H I (.dict ps) y) (rx : RU H I x v) (h : lookD ps x = some o) :
    ∃ a r', y = .ref a ∧ DGet H a v r' ∧ LkR I o r' := by
  cases r with
  | flat e => cases e
  | @dk a kvs _ e rd =>
    cases rd with
    | nil => cases h
    | cons r1 r2 =>
      rename_i k' x' v' ps' kvs'
      have h' : (match keyOf (keyD k') with
        | some _ => (match keyOf x with
          | some k => some ((((keyD k', x') :: ps').find? fun kv => decide (keyOf kv.1 = some k)).map (·.2))
          | none => none)
        | none => _) = some o := h
      rw [keyOf_keyD] at h'
      cases ek : keyOf x with
      | none => simp only [ek] at h'; cases h'
      | some k =>
        simp only [ek] at h'
        obtain rfl := Option.some.inj h'
        have q := RDk.look (I := I) k (x := (keyD k', x') :: ps') (y := (k', v') :: kvs') (.cons r1 r2)
        have hv : v = kV k := by
          cases rx with
          | flat e2 => exact Option.some.inj (e2.symm.trans (keyOf_flat ek))
          | _ => cases ek
        subst hv
        refine ⟨a, _, rfl, .inl ⟨_, k, e, rfl, rfl⟩, ?_⟩
        exact q
  | @dt a kvs _ e rd =>
    cases rd with
    | nil => cases h
    | cons r1 r2 =>
      rename_i k' x' v' ps' kvs'
      have h' : (match keysOf x with
          | some k => some ((((keysD k', x') :: ps').find? fun kv => decide (keysOf kv.1 = some k)).map (·.2))
          | none => none) = some o := h
      cases ek : keysOf x with
      | none => simp only [ek] at h'; cases h'
      | some k =>
        simp only [ek] at h'
        obtain rfl := Option.some.inj h'
        have q := RDt.look (I := I) k (x := (keysD k', x') :: ps') (y := (k', v') :: kvs') (.cons r1 r2)
        obtain ⟨b, rfl, eb⟩ := rx.keys ek
        exact ⟨a, _, rfl, .inr ⟨_, k, b, e, rfl, eb, rfl⟩, q⟩
end
end Ev
end
section
set_option Elab.async false
set_option linter.all false
set_option maxRecDepth 100000
namespace Ev
open PySem PySem.Spec L2
theorem bnd_assoc {α β γ : Type} (m : M α) (f : α → M β) (h : β → M γ) : bnd (bnd m f) h = bnd m fun a => bnd (f a) h := by
  funext S
  unfold bnd
  cases m S <;> rfl
theorem bnd_ret {α β : Type} (a : α) (f : α → M β) : bnd (ret a) f = f a := rfl
theorem bnd_right {α : Type} (m : M α) : bnd m ret = m := by
  funext S
  unfold bnd
  cases m S <;> rfl
theorem bnd_lift {α β : Type} (a : α) (f : α → M β) : bnd (lift (some a)) f = f a := rfl
section
variable {F : Fx} {g : Gh} {w : Wd} {S : List Cell} {H : Hp} {σ : St} {Q : VK}
theorem po_bl {b : Bool} (h : PO F (RV F.K) g w σ Q (ret (.d (.bool b)) S)) (R : RS F.K g w S H) : Q (.bl b) H := h w H (.bl b) (.refl _) R (.d (.bool b))
theorem RT.int_inv {K : PySem.W.Frag} {I : Hp} {s : Int} {v : V} (r : RT K H I (.int s) v) : v = .int s := by cases r with | flat e => exact (Option.some.inj e).symm
theorem RT.str_inv {K : PySem.W.Frag} {I : Hp} {s : Str} {v : V} (r : RT K H I (.str s) v) : v = .str s := by cases r with | flat e => exact (Option.some.inj e).symm
theorem RT.bool_inv {K : PySem.W.Frag} {I : Hp} {s : Bool} {v : V} (r : RT K H I (.bool s) v) : v = .bl s := by cases r with | flat e => exact (Option.some.inj e).symm
theorem RT.none_iff {K : PySem.W.Frag} {I : Hp} {a : PyData} {v : V} (r : RT K H I a v) : decide (v = .non) = isNoneD a := by
  cases r with
  | flat e => cases a <;> cases e <;> simp [isNoneD]
  | _ => simp [isNoneD]
theorem ord_int {pi : Int → Int → Bool} {ps : Str → Str → Bool} {a b : PyData} {x y : V} {r : Bool} (ra : RT F.K H w.I a x) (rb : RT F.K H w.I b y)
    (h : ordW pi ps a b = some r) (q : Q (.bl r) H) : rOrdX pi ps x y H Q := by
  unfold ordW at h
  split at h
  · cases h
    exact .inl ⟨_, _, RT.int_inv ra, RT.int_inv rb, q⟩
  · cases h
    exact .inr ⟨_, _, RT.str_inv ra, RT.str_inv rb, q⟩
  · cases h
theorem inD_snd {neg : Bool} {a b : PyData} {x y : V} {r : Bool} (R : RS F.K g w S H) (ra : RU H w.I a x) (rb : RT F.K H w.I b y) (h : inD a b = some r) (q : Q (.bl (if neg then !r else r)) H) : rInX F.K neg x y H Q := by
  unfold inD at h
  split at h
  · exact .inl ⟨w.I, a, _, r, R.le, ra.rt, .inl rb, h, q⟩
  · exact .inl ⟨w.I, a, _, r, R.le, ra.rt, .inr rb, h, q⟩
  · split at h
    · rename_i s
      split at h
      · rename_i c hc
        cases h
        refine .inr (.inl ⟨c, _, ?_, rb.str_inv, q⟩)
        rw [ra.rt (K := F.K) |>.str_inv]
        obtain ⟨⟨l⟩⟩ := s
        have : l = [c] := hc
        rw [this]
      · cases h
    · cases h
  · obtain ⟨o, e, rfl⟩ := Option.map_eq_some_iff.mp h
    obtain ⟨p, r', rfl, d, l⟩ := dict_look rb ra e
    refine .inr (.inr ⟨p, r', rfl, d, ?_⟩)
    cases o with
    | none => rw [show r' = none from l]; exact q
    | some v => obtain ⟨u, rfl, _⟩ := l; exact q
  · cases h
theorem inM_snd {neg : Bool} {a b : Val} {x y : V} (R : RS F.K g w S H) (ra : RV F.K w a x) (rb : RV F.K w b y)
    (h : PO F (RV F.K) g w σ Q (bnd (inM a b) (fun r => ret (.d (.bool (if neg then !r else r)))) S)) : rInX F.K neg x y H Q := by
  unfold inM at h
  rw [bnd_assoc] at h
  obtain ⟨d, ed, h⟩ := po_viewd h
  have rd := R.vwd ra ed
  have other : PO F (RV F.K) g w σ Q (bnd (bnd (view b) fun y => lift (inD d y)) (fun r => ret (.d (.bool (if neg then !r else r)))) S) → rInX F.K neg x y H Q := fun h => by
    rw [bnd_assoc] at h
    obtain ⟨e, ee, h⟩ := po_view h
    obtain ⟨r, er, h⟩ := po_lift h
    exact inD_snd R rd (R.vw rb ee) er (po_bl h R)
  cases b with
  | r n =>
    cases rb with
    | r hn =>
    cases ec : S[n]? with
    | none =>
      have h2 : PO F (RV F.K) g w σ Q (bnd (bnd (view (.r n)) fun y => lift (inD d y)) (fun r => ret (.d (.bool (if neg then !r else r)))) S) := by
        unfold bnd at h ⊢
        simp only [ec] at h
        exact h
      exact other h2
    | some c =>
      cases c with
      | dk kvs =>
        obtain ⟨o, a1, b1, _⟩ := R.cell n _ ec rfl
        cases b1 with
        | dk b1 =>
          unfold bnd at h
          simp only [ec] at h
          cases ek : keyOf d with
          | none => simp only [ek] at h; exact h.elim
          | some k =>
            simp only [ek] at h
            refine .inr (.inr ⟨_, _, rfl, .inl ⟨_, k, .inl a1, ?_, rfl⟩, ?_⟩)
            · cases rd with
              | flat e2 => exact Option.some.inj (e2.symm.trans (keyOf_flat ek))
              | _ => cases ek
            · rw [b1.isSome]; exact po_bl h R
      | dt kvs =>
        obtain ⟨o, a1, b1, _⟩ := R.cell n _ ec rfl
        cases b1 with
        | dt b1 =>
          unfold bnd at h
          simp only [ec] at h
          cases ek : keysOf d with
          | none => simp only [ek] at h; exact h.elim
          | some k =>
            simp only [ek] at h
            obtain ⟨b, rfl, eb⟩ := rd.keys ek
            refine .inr (.inr ⟨_, _, rfl, .inr ⟨_, k, b, .inl a1, rfl, eb, rfl⟩, ?_⟩)
            rw [b1.isSome]; exact po_bl h R
      | _ =>
        refine other ?_
        unfold bnd at h ⊢
        simp only [ec] at h
        exact h
  | _ => exact other h
theorem cmp_snd (o : COp) {a b : Val} {x y : V} (R : RS F.K g w S H) (ra : RV F.K w a x) (rb : RV F.K w b y)
    (h : PO F (RV F.K) g w σ Q (bnd (cmpM o a b) (fun r => ret (.d (.bool r))) S)) : rCmp F.K o x y H Q := by
  have two : ∀ o, (cmpM o a b = bnd (view a) fun x => bnd (view b) fun y => lift (cmpD o x y)) → PO F (RV F.K) g w σ Q (bnd (cmpM o a b) (fun r => ret (.d (.bool r))) S) →
      ∃ d e r, RT F.K H w.I d x ∧ RT F.K H w.I e y ∧ cmpD o d e = some r ∧ Q (.bl r) H := fun o eo h => by
    rw [eo, bnd_assoc] at h
    obtain ⟨d, ed, h⟩ := po_view h
    rw [bnd_assoc] at h
    obtain ⟨e, ee, h⟩ := po_view h
    obtain ⟨r, er, h⟩ := po_lift h
    exact ⟨d, e, r, R.vw ra ed, R.vw rb ee, er, po_bl h R⟩
  cases o with
  | eq =>
    obtain ⟨d, e, r, r1, r2, er, q⟩ := two _ rfl h
    exact ⟨w.I, d, e, r, R.le, r1, r2, er, q⟩
  | ne =>
    obtain ⟨d, e, r, r1, r2, er, q⟩ := two _ rfl h
    obtain ⟨z, ez, rfl⟩ := Option.map_eq_some_iff.mp (show (eqG eqN d e).map (!·) = some r from er)
    exact ⟨w.I, d, e, z, R.le, r1, r2, ez, q⟩
  | lt =>
    obtain ⟨d, e, r, r1, r2, er, q⟩ := two _ rfl h
    exact ord_int r1 r2 er q
  | gt =>
    obtain ⟨d, e, r, r1, r2, er, q⟩ := two _ rfl h
    exact ord_int r1 r2 er q
  | le =>
    obtain ⟨d, e, r, r1, r2, er, q⟩ := two _ rfl h
    exact ord_int r1 r2 er q
  | ge =>
    obtain ⟨d, e, r, r1, r2, er, q⟩ := two _ rfl h
    exact ord_int r1 r2 er q
  | is =>
    obtain ⟨d, e, r, r1, r2, er, q⟩ := two _ rfl h
    have er : (if isNoneD e = true then some (isNoneD d) else none) = some r := er
    cases e with
    | none =>
      obtain rfl := Option.some.inj er
      cases r2 with
      | flat e => cases e; exact ⟨rfl, by rw [r1.none_iff]; exact q⟩
    | _ => cases er
  | isn =>
    obtain ⟨d, e, r, r1, r2, er, q⟩ := two _ rfl h
    have er : (if isNoneD e = true then some (!isNoneD d) else none) = some r := er
    cases e with
    | none =>
      obtain rfl := Option.some.inj er
      cases r2 with
      | flat e => cases e; exact ⟨rfl, by rw [r1.none_iff]; exact q⟩
    | _ => cases er
  | in_ => exact inM_snd (neg := false) R ra rb h
  | nin =>
    have h : PO F (RV F.K) g w σ Q (bnd (bnd (inM a b) fun r => ret (!r)) (fun r => ret (.d (.bool r))) S) := h
    rw [bnd_assoc] at h
    exact inM_snd (neg := true) R ra rb h
end
section
variable {F : Fx}
theorem SE.two {ta tb : TE} {ma mb : Env → M Val} {f : Val → Val → M Val} {r : R2} (ha : SE F ta ma) (hb : SE F tb mb)
    (hr : ∀ g w S σ H Q u v x y, RS F.K g w S H → RV F.K w u x → RV F.K w v y → PO F (RV F.K) g w σ Q (f u v S) → r x y H Q) :
    SE F (tOp r ta tb) (fun ρ => bnd (ma ρ) fun u => bnd (mb ρ) fun v => f u v) := fun g w ρ S σ H Q R E h =>
  ha g w ρ S σ H _ R E (po_bind (P := fun w r => PO F (RV F.K) g w σ Q r) h (fun e S' w' H' c d p => p w' H' c d) (fun p => p) fun u S1 w1 H1 x e1 R1 r1 p =>
    hb g w1 ρ S1 σ H1 _ R1 (E.mono e1) (po_bind (P := fun w r => PO F (RV F.K) g w σ Q r) (p.ext e1) (fun e S' w' H' c d p => p w' H' c d) (fun p => p) fun v S2 w2 H2 y e2 R2 r2 p2 =>
      hr g w2 S2 σ H2 Q u v x y R2 (r1.mono e2) r2 (p2.ext e2)))
theorem SE.one {ta : TE} {ma : Env → M Val} {f : Val → M Val} {r : V → Hp → VK → Prop} (ha : SE F ta ma)
    (hr : ∀ g w S σ H Q u x, RS F.K g w S H → RV F.K w u x → PO F (RV F.K) g w σ Q (f u S) → r x H Q) :
    SE F (tUn r ta) (fun ρ => bnd (ma ρ) f) := fun g w ρ S σ H Q R E h =>
  ha g w ρ S σ H _ R E (po_bind (P := fun w r => PO F (RV F.K) g w σ Q r) h (fun e S' w' H' c d p => p w' H' c d) (fun p => p) fun u S1 w1 H1 x e1 R1 r1 p => hr g w1 S1 σ H1 Q u x R1 r1 (p.ext e1))
theorem SA.nil : SA F tNil (fun _ => ret []) := fun g w ρ S σ H Q R E h => h w H [] (.refl _) R .nil
theorem pa_bind {β : Type} {P : Wd → Res β → Prop} {Q1 : List V → Hp → Prop} {m : M (List Val)} {f : List Val → M β} {S : List Cell} {g : Gh} {w : Wd} {σ : St}
    (h : P w (bnd m f S)) (hx : ∀ e S' w' H' c d, P w (.ex e S') → Ext w w' → RS F.K g w' S' H' → RX F.cA w' e c d H' → F.W c d σ H') (hn : ¬ P w .no)
    (k : ∀ v S' w' H' x, Ext w w' → RS F.K g w' S' H' → RVs F.K w' v x → P w (f v S') → Q1 x H') : PA' F g w σ Q1 (m S) := by
  unfold bnd at h
  cases e : m S with
  | ok v S' => rw [e] at h; exact fun w' H' x e R r => k v S' w' H' x e R r h
  | ex _ S' => rw [e] at h; exact fun w' H' c d e2 R r => hx _ S' w' H' c d h e2 R r
  | no => rw [e] at h; exact hn h
theorem SA.cons {ta : TE} {ma : Env → M Val} {t : TA} {m : Env → M (List Val)} (ha : SE F ta ma) (hr : SA F t m) : SA F (tCons ta t) (fun ρ => bnd (ma ρ) fun v => bnd (m ρ) fun vs => ret (v :: vs)) := fun g w ρ S σ H Q R E h =>
  ha g w ρ S σ H _ R E (po_bind (P := fun w r => PA' F g w σ Q r) h (fun e S' w' H' c d p => p w' H' c d) (fun p => p) fun u S1 w1 H1 x e1 R1 r1 p =>
    hr g w1 ρ S1 σ H1 _ R1 (E.mono e1) (pa_bind (P := fun w r => PA' F g w σ Q r) (p.ext e1) (fun e S' w' H' c d p => p w' H' c d) (fun p => p) fun v S2 w2 H2 y e2 R2 r2 p2 =>
      (p2.ext e2) w2 H2 (x :: y) (.refl _) R2 (.cons (r1.mono e2) r2)))
theorem SA.then_ {t : TA} {m : Env → M (List Val)} {f : List Val → M Val} {r : List V → Hp → VK → Prop} (ha : SA F t m)
    (hr : ∀ g w S σ H Q us xs, RS F.K g w S H → RVs F.K w us xs → PO F (RV F.K) g w σ Q (f us S) → r xs H Q) : SE F (tCB r t) (fun ρ => bnd (m ρ) f) := fun g w ρ S σ H Q R E h =>
  ha g w ρ S σ H _ R E (pa_bind (P := fun w r => PO F (RV F.K) g w σ Q r) h (fun e S' w' H' c d p => p w' H' c d) (fun p => p) fun u S1 w1 H1 x e1 R1 r1 p => hr g w1 S1 σ H1 Q u x R1 r1 (p.ext e1))
theorem SE.var (i : Nat) : SE F (tVar i) (fun ρ => lift (ρ[i]?.join)) := fun g w ρ S σ H Q R E h => by
  have h : PO F (RV F.K) g w σ Q (bnd (lift (ρ[i]?.join)) ret S) := by
    rw [bnd_right]; exact h
  obtain ⟨v, ev, h⟩ := po_lift h
  have e : ρ[i]? = some (some v) := by
    cases e : ρ[i]? with
    | none => rw [e] at ev; cases ev
    | some o => rw [e] at ev; rw [show o = some v from ev]
  obtain ⟨x, ex, r⟩ := E.at_ i v e
  exact ⟨x, ex, h w H x (.refl _) R r⟩
theorem SE.const {x : PyData} {v : V} (e : flatOf x = some v) : SE F (tC v) (fun _ => ret (.d x)) := fun g w ρ S σ H Q R E h => h w H v (.refl _) R (.d (flat_RD e))
end
end Ev
end
section
set_option Elab.async false
set_option linter.all false
set_option maxRecDepth 100000
namespace Ev
open PySem PySem.Spec L2
section
variable {X : Cx}
def rDIx : R2 := fun x y H Q => ∃ a v, x = .ref a ∧ DGet H a y (some v) ∧ Q v H
theorem ix_dict (hu : X.A.units + 1 < cLine) : IxR X rDIx := by
  intro value slice pins s σ H x y v u Q I rx ry ⟨a, z, ex, g, q⟩ hs
  subst ex
  cases rx
  exact PyProof.Rows.tail_any (dict_typeIs I g) PySem.F.slot_dict_getitem.lookup (d_getItem hu I g ry fun w' s' I' rw' => ⟨z, H, I', rw', q⟩) hs
def rIxX (K : PySem.W.Frag) : R2 := fun x y H Q => rIx K x y H Q ∨ rDIx x y H Q
theorem ix_X (hu : X.A.units + 1 < cLine) : IxR X (rIxX X.K) := ix_seq.or (ix_dict hu)
def rSlX (K : PySem.W.Frag) : V → Option Int → Option Int → Hp → VK → Prop := fun x lo hi H Q => rSlL K x lo hi H Q ∨ rSlA K x lo hi H Q ∨ rSlS x lo hi H Q
theorem sl_X : SlR X (rSlX X.K) := sl_list.or (sl_tupA.or sl_str)
end
section
variable {F : Fx} {g : Gh} {w : Wd} {S : List Cell} {H : Hp} {σ : St} {Q : VK}
theorem po_liftS {α : Type} {o : Option α} {f : α → Val} (h : PO F (RV F.K) g w σ Q (lift (o.map f) S)) : ∃ a, o = some a ∧ PO F (RV F.K) g w σ Q (.ok (f a) S) := by
  cases o with
  | none => exact h.elim
  | some a => exact ⟨a, rfl, h⟩
theorem po_liftV {o : Option Val} (h : PO F (RV F.K) g w σ Q (lift o S)) : ∃ a, o = some a ∧ PO F (RV F.K) g w σ Q (.ok a S) := by
  cases o with
  | none => exact h.elim
  | some a => exact ⟨a, rfl, h⟩
theorem atD_snd {d e : PyData} {x : V} {i : Int} (R : RS F.K g w S H) (r : RT F.K H w.I d x) (h : atD d i = some e) (q : PO F (RV F.K) g w σ Q (.ok (.d e) S)) : rIxX F.K x (.int i) H Q := by
  cases r with
  | flat fe =>
    cases d with
    | str z =>
      cases fe
      have h : (if z.length ≤ sizeLine then (atI z.cps.toList i).map fun c => PyData.str (sign c) else none) = some e := h
      split at h
      · rename_i hl
        obtain ⟨c, ec, rfl⟩ := Option.map_eq_some_iff.mp h
        exact .inl (.inr (.inr ⟨z, i, c, rfl, rfl, hl, ec, q w H _ (.refl _) R (.d (.str _))⟩))
      · cases h
    | _ => first | (cases fe; done) | cases h
  | list s rd =>
    obtain ⟨u, eu, ru⟩ := rd.at_ (show atI _ i = some e from h)
    exact .inl (.inl ⟨_, _, i, u, rfl, rfl, s, eu, q w H _ (.refl _) R (.d ru)⟩)
  | tuple s rd =>
    obtain ⟨u, eu, ru⟩ := rd.at_ (show atI _ i = some e from h)
    exact .inl (.inr (.inl ⟨_, _, i, u, rfl, rfl, s, eu, q w H _ (.refl _) R (.d ru)⟩))
  | dk _ _ => cases h
  | dt _ _ => cases h
theorem join_some {α : Type} {o : Option (Option α)} {a : α} (h : o.join = some a) : o = some (some a) := by
  cases o with
  | none => cases h
  | some b => rw [show b = some a from h]
theorem RD.ru {d : PyData} {x : V} (R : RS F.K g w S H) (r : RD w.I d x) : RU H w.I d x := R.vwd (v := .d d) (RV.d r : RV F.K w (.d d) x) rfl
theorem idx_snd {a i : Val} {x y : V} (R : RS F.K g w S H) (ra : RV F.K w a x) (ri : RV F.K w i y) (h : PO F (RV F.K) g w σ Q (idxM a i S)) : rIxX F.K x y H Q := by
  unfold idxM at h
  cases ri with
  | @d i y ri =>
    have ru := ri.ru R
    cases ra with
    | r hn =>
      rename_i n
      cases ec : S[n]? with
      | none => simp only [ec] at h; exact h.elim
      | some c =>
        cases c with
        | lst xs =>
          obtain ⟨o, a1, b1, _⟩ := R.cell n _ ec rfl
          cases b1 with
          | lst b1 =>
            cases i with
            | int z =>
              simp only [ec] at h
              obtain ⟨v, ev, q⟩ := po_liftV h
              obtain ⟨u, eu, rv⟩ := b1.at_ ev
              cases ri
              exact .inl (.inl ⟨_, _, z, u, rfl, rfl, .of a1, eu, q w H _ (.refl _) R rv⟩)
            | _ => simp only [ec] at h; exact h.elim
        | lk xs =>
          obtain ⟨o, a1, b1, _⟩ := R.cell n _ ec rfl
          cases b1 with
          | lk b1 =>
            cases i with
            | int z =>
              simp only [ec] at h
              obtain ⟨v, ev, q⟩ := po_liftV h
              obtain ⟨u, eu, rv⟩ := b1.at_ ev
              cases ri
              exact .inl (.inl ⟨_, _, z, u, rfl, rfl, .of a1, eu, q w H _ (.refl _) R rv⟩)
            | _ => simp only [ec] at h; exact h.elim
        | dk kvs =>
          obtain ⟨o, a1, b1, _⟩ := R.cell n _ ec rfl
          cases b1 with
          | dk b1 =>
            simp only [ec] at h
            cases ek : keyOf i with
            | none => simp only [ek] at h; exact h.elim
            | some k =>
              simp only [ek] at h
              obtain ⟨v, ev, q⟩ := po_liftV h
              have lk := b1.look k
              rw [ev] at lk
              obtain ⟨u, eu, rv⟩ := lk
              have hv : y = kV k := by
                cases ru with
                | flat e2 => exact Option.some.inj (e2.symm.trans (keyOf_flat ek))
                | _ => cases ek
              exact .inr ⟨_, u, rfl, .inl ⟨_, k, .inl a1, hv, eu.symm⟩, q w H _ (.refl _) R rv⟩
        | dt kvs =>
          obtain ⟨o, a1, b1, _⟩ := R.cell n _ ec rfl
          cases b1 with
          | dt b1 =>
            simp only [ec] at h
            cases ek : keysOf i with
            | none => simp only [ek] at h; exact h.elim
            | some k =>
              simp only [ek] at h
              obtain ⟨v, ev, q⟩ := po_liftV h
              have lk := b1.look k
              rw [ev] at lk
              obtain ⟨u, eu, rv⟩ := lk
              obtain ⟨b, rfl, eb⟩ := ru.keys ek
              exact .inr ⟨_, u, rfl, .inr ⟨_, k, b, .inl a1, rfl, eb, eu.symm⟩, q w H _ (.refl _) R rv⟩
        | ins _ _ => simp only [ec] at h; exact h.elim
        | dead => simp only [ec] at h; exact h.elim
    | t e1 rs =>
      cases i with
      | int z =>
        obtain ⟨v, ev, q⟩ := po_liftV h
        obtain ⟨u, eu, rv⟩ := rs.at_ ev
        cases ri
        exact .inl (.inr (.inl ⟨_, _, z, u, rfl, rfl, .of (R.le _ _ e1), eu, q w H _ (.refl _) R rv⟩))
      | _ => exact h.elim
    | k rk =>
      cases rk with
      | list s e =>
        cases i with
        | int z =>
          obtain ⟨v, ev, q⟩ := po_liftS h
          cases ri
          exact atD_snd R (R.vw (v := .k _) (.k (.list s e)) rfl) ev q
        | _ => exact h.elim
      | tuple s e =>
        cases i with
        | int z =>
          obtain ⟨v, ev, q⟩ := po_liftS h
          cases ri
          exact atD_snd R (R.vw (v := .k _) (.k (.tuple s e)) rfl) ev q
        | _ => exact h.elim
    | @d a x rd =>
      have rt := R.vw (v := .d a) (.d rd) rfl
      have seq : ∀ z, i = .int z → PO F (RV F.K) g w σ Q (lift ((atD a z).map .d) S) → rIxX F.K x y H Q := fun z ez h2 => by
        subst ez
        obtain ⟨v, ev, q⟩ := po_liftS h2
        cases ri
        exact atD_snd R rt ev q
      cases a
      case dict kvs =>
        obtain ⟨v, ev, q⟩ := po_liftS h
        obtain ⟨p, r', rfl, dg, l⟩ := dict_look rt ru (join_some ev)
        obtain ⟨u, rfl, rv⟩ := l
        exact .inr ⟨p, u, rfl, dg, q w H _ (.refl _) R (.d rv)⟩
      all_goals (cases i <;> first | exact h.elim | exact seq _ rfl h)
  | _ => exact h.elim
theorem cut_whole {α : Type} (xs : List α) {lo hi : Option Int} (h : HT.sIx xs.length 0 lo = 0 ∧ HT.sIx xs.length xs.length hi = xs.length) : cutL xs lo hi = xs := by
  unfold cutL
  rw [h.1, h.2]
  simp
theorem po_viewc {v : Val} {f : PyData → M Val} (h : PO F (RV F.K) g w σ Q (bnd (viewc v) f S)) : ∃ a, vw S v = some a ∧ (∀ ds, v ≠ .k (.tuple ds)) ∧ PO F (RV F.K) g w σ Q (f a S) := by
  have e : PO F (RV F.K) g w σ Q (bnd (view v) f S) ∧ ∀ ds, v ≠ .k (.tuple ds) := by
    cases v with
    | k x => cases x <;> first | exact h.elim | exact ⟨h, fun _ z => by cases z⟩
    | _ => exact ⟨h, fun _ z => by cases z⟩
  obtain ⟨a, b, c⟩ := po_view e.1
  exact ⟨a, b, e.2, c⟩
/-- a tuple that is no constant of the module is data -/
theorem RS.tup (R : RS F.K g w S H) {v : Val} {x : V} {ds : List PyData} (r : RV F.K w v x) (h : Ev.vw S v = some (.tuple ds)) (hk : ∀ ds, v ≠ .k (.tuple ds)) : RD w.I (.tuple ds) x := by
  cases r with
  | @d x _ r => obtain rfl : x = PyData.tuple ds := Option.some.inj h; exact r
  | @k x _ r => obtain rfl : x = PyData.tuple ds := Option.some.inj h; exact absurd rfl (hk ds)
  | t _ _ => cases h
  | @r n hn =>
    have h : (match S[n]? with
      | some (.lst xs) => (allD xs).map PyData.list
      | some (.lk xs) => (allD xs).map PyData.list
      | some (.dk kvs) => (dkD kvs).map PyData.dict
      | some (.dt kvs) => (dtD kvs).map PyData.dict
      | _ => none) = some (.tuple ds) := h
    split at h <;> first | (obtain ⟨_, _, z⟩ := Option.map_eq_some_iff.mp h; cases z; done) | cases h
theorem cut_snd {mu : Bool} {a : Val} {x : V} {lo hi : Option Int} (R : RS F.K g w S H) (ra : RV F.K w a x) (h : PO F (RV F.K) g w σ Q (bnd (viewc a) (fun d => bnd (lift (cutD d lo hi)) (mkRes mu)) S)) : rSlX F.K x lo hi H Q := by
  obtain ⟨d, ed, hk, h⟩ := po_viewc h
  obtain ⟨e, ee, q⟩ := po_lift h
  have rt := R.vw ra ed
  cases d with
  | tuple ds =>
    obtain rfl : PyData.tuple (cutL ds lo hi) = e := Option.some.inj ee
    have rd := R.tup ra ed hk
    cases id rd with
    | @tuple p xs _ e1 r1 =>
      refine .inr (.inl ⟨p, xs, rfl, .of (R.le _ _ e1), fun z => ?_, fun _ => fin_tup q R (r1.cut lo hi)⟩)
      rw [← r1.length] at z
      rw [cut_whole ds z] at q
      exact fin_tupd q R rd
  | list ds =>
    obtain rfl : PyData.list (cutL ds lo hi) = e := Option.some.inj ee
    cases rt with
    | flat e => cases e
    | list s r1 => exact .inl ⟨_, _, rfl, s, fin_lst q R (r1.cut lo hi)⟩
  | str z =>
    have ee : (if z.length ≤ sizeLine then some (PyData.str (cutS z lo hi)) else none) = some e := ee
    split at ee
    · rename_i hl
      obtain rfl := Option.some.inj ee
      cases rt with
      | flat fe => cases fe; exact .inr (.inr ⟨z, rfl, hl, fin_flat q R rfl⟩)
    · cases ee
  | _ => cases ee
theorem rev_snd {mu : Bool} {a : Val} {x : V} {d : PyData} (R : RS F.K g w S H) (rt : RT F.K H w.I (.list ds) x) (q : PO F (RV F.K) g w σ Q (mkRes mu (.list ds.reverse) S)) :
    ∃ a xs, x = .ref a ∧ SqL F.K H a xs ∧ ∀ p, H p = none → Q (.ref p) (upd H p (.lst xs.reverse)) := by
  cases rt with
  | flat e => cases e
  | list s r1 => exact ⟨_, _, rfl, s, fin_lst q R r1.reverse⟩
theorem RVs.ofD {ds : List PyData} : ∀ {vs : List Val} {xs : List V}, RVs F.K w vs xs → allD vs = some ds → RDs w.I ds xs := fun r h => r.data h
theorem tup_snd {vs : List Val} {xs : List V} (R : RS F.K g w S H) (r : RVs F.K w vs xs) (h : PO F (RV F.K) g w σ Q (mkTup vs S)) : xs.length ≤ sizeLine ∧ ∀ p, H p = none → Q (.ref p) (upd H p (.tup xs)) := by
  unfold mkTup at h
  by_cases hl : vs.length ≤ sizeLine
  · rw [if_pos hl] at h
    refine ⟨by rw [← r.length]; exact hl, fun p hp => ?_⟩
    have e : Ext w (w.put p (.tup xs)) := .put (R.Ifree hp)
    cases ea : allD vs with
    | some ds =>
      rw [ea] at h
      exact h _ _ _ e (R.put hp) (.d (.tuple upd_same ((r.data ea).mono e.I)))
    | none =>
      rw [ea] at h
      exact h _ _ _ e (R.put hp) (.t upd_same (r.mono e))
  · rw [if_neg hl] at h; exact h.elim
theorem lst_snd {mu : Bool} {vs : List Val} {xs : List V} (R : RS F.K g w S H) (r : RVs F.K w vs xs) (h : PO F (RV F.K) g w σ Q (mkList mu vs S)) : xs.length ≤ sizeLine ∧ ∀ p, H p = none → Q (.ref p) (upd H p (.lst xs)) := by
  unfold mkList at h
  by_cases hl : vs.length ≤ sizeLine
  · rw [if_pos hl] at h
    refine ⟨by rw [← r.length]; exact hl, fun p hp => ?_⟩
    cases mu with
    | true =>
      have q := h _ _ (.ref p) (Ext.new (p := p)) (R.new hp (.lst r)) (by
        have q := RV.r (K := F.K) (w := w.new p) (n := S.length) (by rw [R.len]; exact Nat.lt_succ_self _)
        rw [R.len, Wd.new_at] at q
        rw [R.len]; exact q)
      exact q
    | false =>
      have h : PO F (RV F.K) g w σ Q (lift ((allD vs).map fun ds => Val.d (.list ds)) S) := h
      obtain ⟨ds, ea, q⟩ := po_liftS h
      have e : Ext w (w.put p (.lst xs)) := .put (R.Ifree hp)
      exact q _ _ _ e (R.put hp) (.d (.list upd_same ((r.data ea).mono e.I)))
  · rw [if_neg hl] at h; exact h.elim
/-- a new object of the store -/
theorem new_snd {c : Cell} {o : HO} (R : RS F.K g w S H) (r : RC F.K w c o) (h : PO F (RV F.K) g w σ Q (alloc c S)) : ∀ p, H p = none → Q (.ref p) (upd H p o) := fun p hp => by
  have q := h _ _ (.ref p) (Ext.new (p := p)) (R.new hp r) (by
    have q := RV.r (K := F.K) (w := w.new p) (n := S.length) (by rw [R.len]; exact Nat.lt_succ_self _)
    rw [R.len, Wd.new_at] at q
    rw [R.len]; exact q)
  exact q
end
end Ev
end
section
set_option Elab.async false
set_option linter.all false
set_option maxRecDepth 100000
namespace Ev
open PySem PySem.Spec L2
def opB : BOp → Operator
  | .add => .Add | .sub => .Sub | .mul => .Mult | .fdiv => .FloorDiv | .mod => .Mod | .pow => .Pow
/-- a text, several times -/
def rRepS : R2 := fun x y H Q => ∃ z k, x = .str z ∧ y = .int k ∧ 2 ≤ k ∧ k < 2 ^ 63 ∧ z.length ≠ 0 ∧ z.length * k.toNat ≤ sizeLine ∧ Q (.str (repS z k)) H
theorem size_fold (a : Array Nat) : ∀ (n : Nat) (b : Array Nat), ((List.replicate n a).foldl (· ++ ·) b).size = b.size + a.size * n
  | 0, b => by simp
  | n + 1, b => by
    rw [List.replicate_succ, List.foldl_cons, size_fold a n]
    rw [Array.size_append, Nat.mul_succ]; omega
theorem op_repS {X : Cx} : OpR X (binaryOp .Mult) rRepS := by
  intro pins s σ H x y v u Q I rx ry h
  obtain ⟨z, k, rfl, rfl, h1, h2, h3, h4, q⟩ := h
  obtain ⟨t, rfl⟩ := rx
  obtain ⟨t', rfl⟩ := ry
  have hk : ((k.toNat : Nat) : Int) = k := by omega
  have hz := L2.line63
  have hm : (z.length : Int) * k ≤ 2 ^ 63 - 1 := by
    have : ((z.length * k.toNat : Nat) : Int) ≤ 2 ^ 63 - 1 := by omega
    rw [Int.natCast_mul, hk] at this
    exact this
  refine PySem.P.mul_str ?_ (fun _ _ h => ?_) (fun _ _ => ?_) ?_
  · rw [decide_eq_false (by omega), decide_eq_false (by omega)]; rfl
  · have : (z.length : Int) ≤ (2 ^ 63 - 1) / k := (Int.le_ediv_iff_mul_le (by omega)).mpr hm
    omega
  · unfold PySem.Builtin.Str.tooLong
    exact decide_eq_false (by omega)
  · rw [if_neg (by omega), if_neg (by
      have a1 : (k == 1) = false := by
        have : k ≠ 1 := by omega
        simpa using this
      have a2 : (z.length == 0) = false := by simpa using h3
      rw [a1, a2]; decide)]
    have hl : (repS z k).length ≤ sizeLine := by
      show (repS z k).cps.size ≤ _
      unfold repS
      rw [size_fold]
      show 0 + z.length * k.toNat ≤ _
      omega
    exact ⟨hl, .str (repS z k), H, I.tok _, ⟨_, rfl⟩, q⟩
def rBin (K : PySem.W.Frag) : BOp → R2
  | .add => rAddX K
  | .sub => rI0 fun i j => .int (i - j)
  | .mul => fun x y H Q => rI CMulW (fun i j => .int (i * j)) x y H Q ∨ rRep x y H Q ∨ rRepT K x y H Q ∨ rRepS x y H Q
  | .fdiv => rI CDivW fun i j => .int (i / j)
  | .mod => rI (fun _ j => 0 < j) fun i j => .int (i % j)
  | .pow => rI CPow fun i j => .int (i ^ j.toNat)
theorem op_bin {X : Cx} : ∀ o, OpR X (binaryOp (opB o)) (rBin X.K o)
  | .add => op_addX
  | .sub => op_sub
  | .mul => op_mulW.or (op_rep.or (op_repT.or op_repS))
  | .fdiv => op_fdivW
  | .mod => op_mod
  | .pow => op_pow
section
variable {F : Fx} {g : Gh} {w : Wd} {S : List Cell} {H : Hp} {σ : St} {Q : VK}
/-- a tuple that is tracked by itself is data -/
theorem RS.tupd (R : RS F.K g w S H) {v : Val} {x : V} {d : PyData} (r : RV F.K w v x) (h : Ev.vwd S v = some d) : ∀ ds, d = .tuple ds → RD w.I d x := fun ds e => by
  subst e
  cases v with
  | k _ => cases h
  | d _ => exact R.tup r (show Ev.vw S _ = _ from h) fun _ z => by cases z
  | r _ => exact R.tup r (show Ev.vw S _ = _ from h) fun _ z => by cases z
  | t _ => cases h
theorem bin_snd (o : BOp) {mu : Bool} {a b : Val} {x y : V} (R : RS F.K g w S H) (ra : RV F.K w a x) (rb : RV F.K w b y) (h : PO F (RV F.K) g w σ Q (binM mu o a b S)) : rBin F.K o x y H Q := by
  unfold binM at h
  obtain ⟨d, ed, h1⟩ := po_viewd h
  obtain ⟨e, ee, h2⟩ := po_viewd h1
  obtain ⟨z, ez, q⟩ := po_lift h2
  clear h h1 h2
  have r1 := R.vwd ra ed
  have r2 := R.vwd rb ee
  have intz : ∀ {C : Int → Int → Prop} {f : Int → Int → Int} {i j : Int}, d = .int i → e = .int j → C i j → z = .int (f i j) → rI C (fun i j => .int (f i j)) x y H Q := fun {C f i j} e1 e2 c e3 => by
    subst e1 e2 e3
    exact ⟨i, j, r1.int_inv, r2.int_inv, c, fin_flat q R rfl⟩
  cases o with
  | add => exact add_snd R r1 r2 (R.tupd ra ed) (R.tupd rb ee) ez q
  | sub =>
    cases d <;> cases e <;> first | (cases ez; done) | skip
    obtain rfl := Option.some.inj ez
    exact ⟨_, _, r1.int_inv, r2.int_inv, fin_flat q R rfl⟩
  | fdiv =>
    cases d <;> cases e <;> first | (cases ez; done) | skip
    rename_i i j
    have ez : (if 0 < j ∧ j.natAbs.log2 < 9000 then some (PyData.int (i / j)) else none) = some z := ez
    split at ez
    · rename_i c
      exact intz rfl rfl c (Option.some.inj ez).symm
    · cases ez
  | mod =>
    cases d <;> cases e <;> first | (cases ez; done) | skip
    rename_i i j
    have ez : (if 0 < j then some (PyData.int (i % j)) else none) = some z := ez
    split at ez
    · rename_i c
      exact intz (C := fun _ j => 0 < j) rfl rfl c (Option.some.inj ez).symm
    · cases ez
  | pow =>
    cases d <;> cases e <;> first | (cases ez; done) | skip
    rename_i i j
    have ez : (if 0 ≤ j ∧ j ≤ 1000000 ∧ i.natAbs < 2 ^ 64 then some (PyData.int (i ^ j.toNat)) else none) = some z := ez
    split at ez
    · rename_i c
      exact ⟨i, j, r1.int_inv, r2.int_inv, c, by obtain rfl := Option.some.inj ez; exact fin_flat q R rfl⟩
    · cases ez
  | mul =>
    cases d <;> cases e <;> first | (cases ez; done) | skip
    · rename_i i j
      have ez : (if i.natAbs.log2 + j.natAbs.log2 < 1000000 then some (PyData.int (i * j)) else none) = some z := ez
      split at ez
      · rename_i c
        exact .inl ⟨i, j, r1.int_inv, r2.int_inv, c, by obtain rfl := Option.some.inj ez; exact fin_flat q R rfl⟩
      · cases ez
    · rename_i zs k
      have ez : (if 2 ≤ k ∧ k < 2 ^ 63 ∧ zs.length ≠ 0 ∧ zs.length * k.toNat ≤ sizeLine then some (PyData.str (repS zs k)) else none) = some z := ez
      split at ez
      · rename_i c
        obtain rfl := Option.some.inj ez
        exact .inr (.inr (.inr ⟨zs, k, r1.str_inv, r2.int_inv, c.1, c.2.1, c.2.2.1, c.2.2.2, fin_flat q R rfl⟩))
      · cases ez
    · rename_i xs k
      have ez : (if -(2 ^ 63) ≤ k ∧ k < 2 ^ 63 ∧ xs.length * k.toNat ≤ sizeLine then some (PyData.list (repL xs k)) else none) = some z := ez
      split at ez
      · rename_i c
        obtain rfl := Option.some.inj ez
        cases r1 with
        | flat e => cases e
        | list e1 rd => exact .inr (.inl ⟨_, k, _, rfl, r2.int_inv, e1, c.1, c.2.1, by rw [← rd.length]; exact c.2.2, fin_lst q R (rd.rep _)⟩)
      · cases ez
    · rename_i xs k
      have ez : (if xs ≠ [] ∧ 2 ≤ k ∧ k ≤ 1000 ∧ xs.length ≤ 1000 then some (PyData.tuple (repL xs k)) else none) = some z := ez
      split at ez
      · rename_i c
        obtain rfl := Option.some.inj ez
        cases r1 with
        | flat e => cases e
        | tuple e1 rd => exact .inr (.inr (.inl ⟨_, k, _, rfl, r2.int_inv, .of e1, fun z => c.1 (by subst z; cases rd; rfl), c.2.1, c.2.2.1, by rw [← rd.length]; exact c.2.2.2, fin_tup q R (rd.rep _)⟩))
      · cases ez
inductive RTs (K : PySem.W.Frag) (H I : Hp) : List PyData → List V → Prop where
  | nil : RTs K H I [] []
  | cons {d : PyData} {v : V} {ds : List PyData} {vs : List V} : RT K H I d v → RTs K H I ds vs → RTs K H I (d :: ds) (v :: vs)
theorem po_allV : ∀ {vs : List Val} {xs : List V} {f : List PyData → M Val}, RS F.K g w S H → RVs F.K w vs xs → PO F (RV F.K) g w σ Q (bnd (allV vs) f S) → ∃ ds, RTs F.K H w.I ds xs ∧ (∀ v, vs = [v] → ∃ d, ds = [d] ∧ Ev.vw S v = some d) ∧ PO F (RV F.K) g w σ Q (f ds S)
  | [], _, f, R, .nil, h => ⟨[], .nil, (fun _ z => (by cases z)), h⟩
  | v :: vs, _, f, R, .cons a b, h => by
    unfold allV at h
    rw [bnd_assoc] at h
    obtain ⟨d, ed, h⟩ := po_view h
    rw [bnd_assoc] at h
    obtain ⟨ds, rs, _, h⟩ := po_allV (f := fun xs => f (d :: xs)) R b h
    refine ⟨d :: ds, .cons (R.vw a ed) rs, fun v' z => ?_, h⟩
    obtain ⟨rfl, rfl⟩ : v = v' ∧ vs = [] := by simpa using z
    cases b
    cases rs
    exact ⟨d, rfl, ed⟩
theorem bools_of {I : Hp} : ∀ {ds : List PyData} {vs : List V} {bs : List Bool}, RDs I ds vs → boolsL ds = some bs → vs = bs.map V.bl
  | _, _, _, .nil, h => by cases h; rfl
  | _, _, _, @RDs.cons _ d v ds vs a b, h => by
    cases d <;> first | (cases h; done) | skip
    obtain ⟨bs, e, rfl⟩ := Option.map_eq_some_iff.mp (show (boolsL ds).map _ = some _ from h)
    cases a
    rw [bools_of b e]
    rfl
theorem ints_of {I : Hp} : ∀ {ds : List PyData} {vs : List V} {bs : List Int}, RDs I ds vs → intsL ds = some bs → vs = bs.map V.int
  | _, _, _, .nil, h => by cases h; rfl
  | _, _, _, @RDs.cons _ d v ds vs a b, h => by
    cases d <;> first | (cases h; done) | skip
    obtain ⟨bs, e, rfl⟩ := Option.map_eq_some_iff.mp (show (intsL ds).map _ = some _ from h)
    cases a
    rw [ints_of b e]
    rfl
theorem strs_of {I : Hp} : ∀ {ds : List PyData} {vs : List V} {bs : List Str}, RDs I ds vs → strsL ds = some bs → vs = bs.map V.str
  | _, _, _, .nil, h => by cases h; rfl
  | _, _, _, @RDs.cons _ d v ds vs a b, h => by
    cases d <;> first | (cases h; done) | skip
    obtain ⟨bs, e, rfl⟩ := Option.map_eq_some_iff.mp (show (strsL ds).map _ = some _ from h)
    cases a
    rw [strs_of b e]
    rfl
end
def rLenD : List V → Hp → VK → Prop := fun xs H Q => ∃ (p : Addr) (kvs : List (List Key × V)), xs = [.ref p] ∧ Rd H p (.dT kvs) ∧ Q (.int ((kvs.length : Nat) : Int)) H
theorem call_lenDT {X : Cx} : CallR X (.builtin "len") rLenD := by
  intro pins s σ H xs us Q I r h
  obtain ⟨p, kvs, rfl, hp, q⟩ := h
  obtain ⟨u, rfl, rx⟩ := vals1 r
  obtain rfl : u = .ref p := rx
  obtain ⟨z, hd, ys, rel, dd⟩ := dt_rd I.hok hp
  have hl : kvs.length = ys.length := Paired.length rel
  refine call_len_dictH hd dd (by rw [← hl]; rw [sizeLine_eq] at z; omega) ?_
  rw [← hl]
  exact ⟨.int ((kvs.length : Nat) : Int), H, I.tok _, ⟨_, rfl⟩, q⟩
theorem call_lenDK {X : Cx} : CallR X (.builtin "len") (fun xs H Q => ∃ a kvs, xs = [V.ref a] ∧ Rd H a (.dK kvs) ∧ Q (.int kvs.length) H) := by
  intro pins s σ H xs us Q I r h
  obtain ⟨a, kvs, rfl, ha, q⟩ := h
  obtain ⟨u, rfl, ru⟩ := vals1 r
  cases ru
  exact d_len I ha fun t s' I' => ⟨.int kvs.length, H, I', ⟨t, rfl⟩, q⟩
/-- the name and the value of a built-in -/
def fnB : BI → Option (String × Value)
  | .len => some ("len", .builtin "len")
  | .all_ => some ("all", .builtin "all")
  | .any_ => some ("any", .builtin "any")
  | .int_ => some ("int", .type "int")
  | .max2 => some ("max", .builtin "max")
  | .min2 => some ("min", .builtin "min")
  | .list_ => some ("list", .type "list")
  | .tuple_ => some ("tuple", .type "tuple")
  | .sum_ => some ("sum", .builtin "sum")
  | .abs_ => some ("abs", .builtin "abs")
  | _ => none
def rBi (K : PySem.W.Frag) : BI → List V → Hp → VK → Prop
  | .len => fun xs H Q => (∃ p ys, xs = [.ref p] ∧ (SqL K H p ys ∨ SqT K H p ys) ∧ Q (.int ys.length) H) ∨ (∃ z, xs = [.str z] ∧ z.length ≤ sizeLine ∧ Q (.int z.length) H) ∨ (∃ a kvs, xs = [.ref a] ∧ Rd H a (.dK kvs) ∧ Q (.int kvs.length) H) ∨ rLenD xs H Q
  | .all_ => rAll K
  | .any_ => rAny K
  | .int_ => fun xs H Q => (∃ i, xs = [.int i] ∧ Q (.int i) H) ∨ ∃ k, xs = [.bl k] ∧ Q (.int (if k then 1 else 0)) H
  | .max2 => fun xs H Q => ∃ i j, xs = [.int i, .int j] ∧ Q (.int (if j > i then j else i)) H
  | .min2 => fun xs H Q => ∃ i j, xs = [.int i, .int j] ∧ Q (.int (if j < i then j else i)) H
  | .list_ => fun xs H Q => ∃ p ys, xs = [.ref p] ∧ (SqL K H p ys ∨ SqT K H p ys) ∧ ∀ l, H l = none → Q (.ref l) (upd H l (.lst ys))
  | .tuple_ => fun xs H Q => ∃ p ys, xs = [.ref p] ∧ ((SqL K H p ys ∧ ∀ l, H l = none → Q (.ref l) (upd H l (.tup ys))) ∨ (SqT K H p ys ∧ Q (.ref p) H))
  | .sum_ => rSum K
  | .abs_ => fun xs H Q => ∃ i, xs = [.int i] ∧ Q (.int (if i < 0 then -i else i)) H
  | _ => fun _ _ _ => False
theorem call_bi {X : Cx} (hc : X.calm = true) : ∀ b n f, fnB b = some (n, f) → CallR X f (rBi X.K b) := fun b n f h => by
  cases b <;> first | (cases h; done) | skip
  all_goals obtain ⟨rfl, rfl⟩ : _ = n ∧ _ = f := by simpa [fnB] using h
  · exact call_len_seq.or (call_len_str.or (call_lenDK.or call_lenDT))
  · exact cr_all hc
  · exact cr_any hc
  · exact call_int1
  · exact call_max2 hc
  · exact call_min2 hc
  · exact call_list_of
  · exact call_tuple_of
  · exact cr_sum hc
  · exact call_abs
section
variable {F : Fx} {g : Gh} {w : Wd} {S : List Cell} {H : Hp} {σ : St} {Q : VK}
theorem RDk.length {I : Hp} : ∀ {x : List (PyData × PyData)} {v : List (Key × V)}, RDk I x v → x.length = v.length
  | _, _, .nil => rfl
  | _, _, .cons _ r => congrArg (· + 1) (RDk.length r)
theorem RDt.length {I : Hp} : ∀ {x : List (PyData × PyData)} {v : List (List Key × V)}, RDt I x v → x.length = v.length
  | _, _, .nil => rfl
  | _, _, .cons _ r => congrArg (· + 1) (RDt.length r)
theorem RTs.one {I : Hp} {d : PyData} {xs : List V} (r : RTs F.K H I [d] xs) : ∃ x, xs = [x] ∧ RT F.K H I d x := by
  cases r with
  | cons a b => cases b; exact ⟨_, rfl, a⟩
theorem RTs.two {I : Hp} {d e : PyData} {xs : List V} (r : RTs F.K H I [d, e] xs) : ∃ x y, xs = [x, y] ∧ RT F.K H I d x ∧ RT F.K H I e y := by
  cases r with
  | cons a b =>
    obtain ⟨y, rfl, c⟩ := RTs.one b
    exact ⟨_, y, rfl, a, c⟩
theorem bi_snd {mu : Bool} (b : BI) {n : String} {f : Value} (hb : fnB b = some (n, f)) {vs : List Val} {xs : List V} (R : RS F.K g w S H) (r : RVs F.K w vs xs) (h : PO F (RV F.K) g w σ Q (biM mu b vs S)) : rBi F.K b xs H Q := by
  unfold biM at h
  obtain ⟨hk, h⟩ := po_guard h
  obtain ⟨ds, rs, hv, h⟩ := po_allV R r h
  obtain ⟨z, ez, q⟩ := po_lift h
  unfold biD at ez
  split at ez
  all_goals first | (cases hb; done) | skip
  · obtain rfl := Option.some.inj ez
    obtain ⟨x, rfl, rt⟩ := rs.one
    cases rt with
    | flat e => cases e
    | list s rd => exact .inl ⟨_, _, rfl, .inl s, by rw [← rd.length]; exact fin_flat q R rfl⟩
  · obtain rfl := Option.some.inj ez
    obtain ⟨x, rfl, rt⟩ := rs.one
    cases rt with
    | flat e => cases e
    | tuple s rd => exact .inl ⟨_, _, rfl, .inr s, by rw [← rd.length]; exact fin_flat q R rfl⟩
  · obtain rfl := Option.some.inj ez
    obtain ⟨x, rfl, rt⟩ := rs.one
    cases rt with
    | flat e => cases e
    | dk s rd => exact .inr (.inr (.inl ⟨_, _, rfl, s, by rw [← rd.length]; exact fin_flat q R rfl⟩))
    | dt s rd => exact .inr (.inr (.inr ⟨_, _, rfl, s, by rw [← rd.length]; exact fin_flat q R rfl⟩))
  · split at ez
    · rename_i hl
      obtain rfl := Option.some.inj ez
      obtain ⟨x, rfl, rt⟩ := rs.one
      exact .inr (.inl ⟨_, by rw [RT.str_inv rt], hl, fin_flat q R rfl⟩)
    · cases ez
  · obtain ⟨bs, eb, rfl⟩ := Option.map_eq_some_iff.mp ez
    obtain ⟨x, rfl, rt⟩ := rs.one
    cases rt with
    | flat e => cases e
    | list s rd =>
      rw [bools_of rd eb] at s
      exact ⟨_, bs, rfl, s, fin_flat q R rfl⟩
  · obtain ⟨bs, eb, rfl⟩ := Option.map_eq_some_iff.mp ez
    obtain ⟨x, rfl, rt⟩ := rs.one
    cases rt with
    | flat e => cases e
    | list s rd =>
      rw [bools_of rd eb] at s
      exact ⟨_, bs, rfl, s, fin_flat q R rfl⟩
  · obtain rfl := Option.some.inj ez
    obtain ⟨x, rfl, rt⟩ := rs.one
    exact .inl ⟨_, by rw [RT.int_inv rt], fin_flat q R rfl⟩
  · obtain rfl := Option.some.inj ez
    obtain ⟨x, rfl, rt⟩ := rs.one
    exact .inr ⟨_, by rw [RT.bool_inv rt], fin_flat q R rfl⟩
  · obtain rfl := Option.some.inj ez
    obtain ⟨x, y, rfl, r1, r2⟩ := rs.two
    exact ⟨_, _, by rw [RT.int_inv r1, RT.int_inv r2], fin_flat q R rfl⟩
  · obtain rfl := Option.some.inj ez
    obtain ⟨x, y, rfl, r1, r2⟩ := rs.two
    exact ⟨_, _, by rw [RT.int_inv r1, RT.int_inv r2], fin_flat q R rfl⟩
  · obtain rfl := Option.some.inj ez
    obtain ⟨x, rfl, rt⟩ := rs.one
    cases rt with
    | flat e => cases e
    | list s rd => exact ⟨_, _, rfl, .inl s, fin_lst q R rd⟩
  · obtain rfl := Option.some.inj ez
    obtain ⟨x, rfl, rt⟩ := rs.one
    cases rt with
    | flat e => cases e
    | tuple s rd => exact ⟨_, _, rfl, .inr s, fin_lst q R rd⟩
  · obtain rfl := Option.some.inj ez
    obtain ⟨x, rfl, rt⟩ := rs.one
    cases rt with
    | flat e => cases e
    | list s rd => exact ⟨_, _, rfl, .inl ⟨s, fin_tup q R rd⟩⟩
  · obtain rfl := Option.some.inj ez
    obtain ⟨x, rfl, rt⟩ := rs.one
    cases r with
    | @cons v _ vs' _ ra rb =>
      cases rb
      obtain ⟨d, ed, ev⟩ := hv v rfl
      obtain rfl : _ = d := by simpa using ed
      have rd := R.tup ra ev (fun ds z => by subst z; exact Bool.noConfusion (show false = true from hk))
      cases rt with
      | flat e => cases e
      | tuple s _ => exact ⟨_, _, rfl, .inr ⟨s, fin_tupd q R rd⟩⟩
  · obtain ⟨bs, eb, rfl⟩ := Option.map_eq_some_iff.mp ez
    obtain ⟨x, rfl, rt⟩ := rs.one
    cases rt with
    | flat e => cases e
    | list s rd =>
      rw [ints_of rd eb] at s
      exact ⟨_, bs, rfl, s, fin_flat q R rfl⟩
  · obtain rfl := Option.some.inj ez
    obtain ⟨x, rfl, rt⟩ := rs.one
    exact ⟨_, by rw [RT.int_inv rt], fin_flat q R rfl⟩
  · cases ez
end
end Ev
end
section
set_option Elab.async false
set_option linter.all false
set_option maxRecDepth 100000
namespace Ev
open PySem PySem.Spec L2
def subN (a : String) (t : Ty) : Bool := a == t.name || (a == "bool" && t == .int)
theorem kit_tab : ∀ a ∈ ["NoneType", "bool", "int", "str", "list", "tuple", "dict"], ∀ t ∈ [Ty.bool, Ty.int, Ty.str, Ty.list, Ty.tuple, Ty.dict], kitB a t.name = some (subN a t) := by decide +kernel
theorem isT_sub (d : PyData) (t : Ty) : subN (tyName d) t = isT d t := by cases d <;> cases t <;> rfl
theorem kit_d (d : PyData) (t : Ty) : kitB (tyName d) t.name = some (isT d t) := by
  rw [kit_tab (tyName d) (by cases d <;> simp [tyName]) t (by cases t <;> simp), isT_sub]
section
variable {X : Cx}
theorem kit_RT {pins : List (Addr × Obj)} {σ : St} {H J : Hp} {s : Shared} {d : PyData} {x : V} {u : Value} (I : Inv X pins σ H s) (rx : RelV x u) (r : RT X.K H J d x) :
    ∃ P : Heap → Prop, PySem.W.KitX X.K u (.type (tyName d)) P ∧ P s.heap ∧ u ≠ .builtin "__main__.__loader__#opaque" := by
  cases r with
  | flat e =>
    cases d <;> first | (cases e; done) | skip
    · cases e; cases rx; exact ⟨_, PySem.W.kitx_none, True.intro, fun z => nomatch z⟩
    · cases e; cases rx; exact ⟨_, PySem.W.kitx_bool, True.intro, fun z => nomatch z⟩
    · cases e; obtain ⟨t, rfl⟩ := rx; exact ⟨_, PySem.W.kitx_int, True.intro, fun z => nomatch z⟩
    · cases e; obtain ⟨t, rfl⟩ := rx; exact ⟨_, PySem.W.kitx_str, True.intro, fun z => nomatch z⟩
  | list e _ =>
    cases rx
    obtain ⟨its, _, ⟨o, n, ho, hc, _⟩, _⟩ := I.list e
    exact ⟨_, PySem.W.kitx_list, ⟨o, ho, hc⟩, fun z => nomatch z⟩
  | tuple e _ =>
    cases rx
    obtain ⟨its, _, ⟨o, ho, hc, _⟩, _⟩ := I.tuple e
    exact ⟨_, PySem.W.kitx_tuple, ⟨o, ho, hc⟩, fun z => nomatch z⟩
  | dk e _ =>
    cases rx
    obtain ⟨_, _, vs, _, o, es, ep, h1, h2, _⟩ := (show ObjOk X.prog X.w H s.heap _ (.dK _) from e.ok I.hok)
    exact ⟨_, PySem.W.kitx_dict, ⟨o, h1, h2.1⟩, fun z => nomatch z⟩
  | dt e _ =>
    cases rx
    obtain ⟨_, _, xs, _, o, es, ep, h1, h2, _⟩ := (show ObjOk X.prog X.w H s.heap _ (.dT _) from e.ok I.hok)
    exact ⟨_, PySem.W.kitx_dict, ⟨o, h1, h2.1⟩, fun z => nomatch z⟩
def rIsX (K : PySem.W.Frag) : List V → Hp → VK → Prop := fun xs H Q => ∃ (x : V) (t : Ty) (d : PyData) (J : Hp), xs = [x, .ty t.name] ∧ RT K H J d x ∧ Q (.bl (isT d t)) H
def rIsXT (K : PySem.W.Frag) : List V → Hp → VK → Prop := fun xs H Q => ∃ (x : V) (tp : Addr) (ts : List Ty) (d : PyData) (J : Hp), xs = [x, .ref tp] ∧ H tp = some (.tup (ts.map fun t => .ty t.name)) ∧ RT K H J d x ∧ Q (.bl (ts.any (isT d))) H
theorem call_isX : CallR X (.builtin "isinstance") (rIsX X.K) := by
  intro pins s σ H xs us Q I r ⟨x, t, d, J, ex, rt, q⟩
  subst ex
  obtain ⟨u1, u2, rfl, r1, r2⟩ := vals2 r
  cases r2
  obtain ⟨P, Z, p, hx⟩ := kit_RT I r1 rt
  exact PySem.W.kia_one Z I.kIn p (kit_ty (kit_d d t)) hx fun tk => ⟨.bl (isT d t), H, I.tok tk, rfl, q⟩
theorem kit_any {K : PySem.W.Frag} (d : PyData) : ∀ ts : List Ty, PySem.W.kitAny K (.type (tyName d)) (ts.map fun t => .type t.name) = some (ts.any (isT d))
  | [] => kitAny_nil
  | t :: ts => by
    refine kitAny_cons (b := isT d t) (kit_ty (kit_d d t)) (fun hb => ?_) (fun hb => ?_)
    · rw [kit_any d ts, List.any_cons, hb]; rfl
    · rw [List.any_cons, hb]; rfl
theorem vals_ty : ∀ {ts : List Ty} {us : List Value}, Vals (ts.map fun t => V.ty t.name) us → us = ts.map fun t => Value.type t.name
  | [], _, .nil => rfl
  | t :: ts, _, .cons a b => by rw [vals_ty b, show _ = Value.type t.name from a]; rfl
theorem call_isXT : CallR X (.builtin "isinstance") (rIsXT X.K) := by
  intro pins s σ H xs us Q I r ⟨x, tp, ts, d, J, ex, hT, rt, q⟩
  subst ex
  obtain ⟨u1, u2, rfl, r1, r2⟩ := vals2 r
  cases (show u2 = Value.ref tp from r2)
  obtain ⟨P, Z, p, hx⟩ := kit_RT I r1 rt
  obtain ⟨_, its, rv, o, h1, h2, n, h3⟩ := (show ObjOk X.prog X.w H s.heap tp (.tup _) from I.hok tp _ hT)
  have e3 := vals_ty rv
  subst e3
  obtain ⟨cls, dd, dt, sl⟩ := o
  obtain rfl : cls = .type "tuple" := h2
  obtain rfl : dt = .seq _ n := h3
  exact PySem.W.kia_tup Z I.kIn p h1 (kit_any d ts) hx fun tk => ⟨.bl (ts.any (isT d)), H, I.tok tk, rfl, q⟩
end
section
variable {F : Fx}
/-- isinstance(e, T) -/
theorem SE.isi {ta : TE} {ma : Env → M Val} {t : Ty} (ha : SE F ta ma) :
    SE F (tCB (rIsX F.K) (tCons ta (tCons (tC (.ty t.name)) tNil))) (fun ρ => bnd (ma ρ) fun v => bnd (view v) fun d => ret (.d (.bool (isT d t)))) := fun g w ρ S σ H Q R E h =>
  ha g w ρ S σ H _ R E (po_bind (P := fun w r => PO F (RV F.K) g w σ Q r) h (fun e S' w' H' c d p => p w' H' c d) (fun p => p) fun v S1 w1 H1 x e1 R1 r1 p => by
    obtain ⟨d, ed, q⟩ := po_view p
    exact ⟨x, t, d, w1.I, rfl, R1.vw r1 ed, po_bl (q.ext e1) R1⟩)
theorem SE.isiT {ta : TE} {ma : Env → M Val} {ts : List Ty} {tt : TA} (ha : SE F ta ma) (ht : ∀ σ H Q, Q (ts.map fun t => V.ty t.name) H → tt σ H Q) (hl : ts.length ≤ sizeLine) :
    SE F (tCB (rIsXT F.K) (tCons ta (tCons (tTup tt) tNil))) (fun ρ => bnd (ma ρ) fun v => bnd (view v) fun d => ret (.d (.bool (ts.any (isT d))))) := fun g w ρ S σ H Q R E h =>
  ha g w ρ S σ H _ R E (po_bind (P := fun w r => PO F (RV F.K) g w σ Q r) h (fun e S' w' H' c d p => p w' H' c d) (fun p => p) fun v S1 w1 H1 x e1 R1 r1 p => by
    obtain ⟨d, ed, q⟩ := po_view p
    refine ht σ H1 _ ⟨by rw [List.length_map]; exact hl, fun tp htp => ?_⟩
    have e2 : Ext w1 (w1.put tp (.tup (ts.map fun t => V.ty t.name))) := .put (R1.Ifree htp)
    have R2 := R1.put (o := .tup (ts.map fun t => V.ty t.name)) htp
    have rt := R2.vw (r1.mono e2) ed
    exact ⟨x, tp, ts, d, _, rfl, upd_same, rt, po_bl (q.ext (e1.trans e2)) R2⟩)
theorem bnd_ite {α β : Type} {c : Prop} [Decidable c] (a b : M α) (f : α → M β) : bnd (if c then a else b) f = if c then bnd a f else bnd b f := by
  by_cases h : c
  · rw [if_pos h, if_pos h]
  · rw [if_neg h, if_neg h]
theorem pb_bind {β : Type} {P : Wd → Res β → Prop} {Q1 : Bool → Hp → Prop} {m : M Bool} {f : Bool → M β} {S : List Cell} {g : Gh} {w : Wd} {σ : St}
    (h : P w (bnd m f S)) (hx : ∀ e S' w' H' c d, P w (.ex e S') → Ext w w' → RS F.K g w' S' H' → RX F.cA w' e c d H' → F.W c d σ H') (hn : ¬ P w .no)
    (k : ∀ v S' w' H', Ext w w' → RS F.K g w' S' H' → P w (f v S') → Q1 v H') : PB F g w σ Q1 (m S) := by
  unfold bnd at h
  cases e : m S with
  | ok v S' => rw [e] at h; exact fun w' H' e R => k v S' w' H' e R h
  | ex _ S' => rw [e] at h; exact fun w' H' c d e2 R r => hx _ S' w' H' c d h e2 R r
  | no => rw [e] at h; exact hn h
theorem tru_inv {v : Val} {S : List Cell} {β : Type} {P : Res β → Prop} {f : Bool → M β} (h : P (bnd (truB v) f S)) (hn : ¬ P .no) : ∃ b, v = .d (.bool b) ∧ P (f b S) := by
  cases v with
  | d x => cases x <;> first | exact (hn h).elim | exact ⟨_, rfl, h⟩
  | _ => exact (hn h).elim
/-- a value as a test -/
theorem ST.val {t : TE} {m : Env → M Val} (h : SE F t m) : ST F (tTest t) (fun ρ => bnd (m ρ) truB) := fun g w ρ S σ H Q R E q =>
  h g w ρ S σ H _ R E (po_bind (P := fun w r => PB F g w σ Q r) q (fun e S' w' H' c d p => p w' H' c d) (fun p => p) fun v S1 w1 H1 x e1 R1 r1 p => by
    have p : PB F g w σ Q (bnd (truB v) ret S1) := by rw [bnd_right]; exact p
    obtain ⟨b, rfl, p⟩ := tru_inv (P := fun r => PB F g w σ Q r) p (fun z => z)
    cases r1 with
    | d r => cases r; exact ⟨b, rfl, p w1 H1 e1 R1⟩)
theorem ST.not {t : TT} {m : Env → M Bool} (h : ST F t m) : ST F (tNot t) (fun ρ => bnd (m ρ) fun b => ret (!b)) := fun g w ρ S σ H Q R E q =>
  h g w ρ S σ H _ R E (pb_bind (P := fun w r => PB F g w σ Q r) q (fun e S' w' H' c d p => p w' H' c d) (fun p => p) fun v S1 w1 H1 e1 R1 p => p w1 H1 e1 R1)
theorem ST.and {t u : TT} {m n : Env → M Bool} (h : ST F t m) (h2 : ST F u n) : ST F (tAnd t u) (fun ρ => bnd (m ρ) fun b => if b = true then n ρ else ret false) := fun g w ρ S σ H Q R E q =>
  h g w ρ S σ H _ R E (pb_bind (P := fun w r => PB F g w σ Q r) q (fun e S' w' H' c d p => p w' H' c d) (fun p => p) fun v S1 w1 H1 e1 R1 p => by
    cases v with
    | true => exact h2 g w1 ρ S1 σ H1 Q R1 (E.mono e1) (p.ext e1)
    | false => exact p w1 H1 e1 R1)
theorem ST.or {t u : TT} {m n : Env → M Bool} (h : ST F t m) (h2 : ST F u n) : ST F (tOr t u) (fun ρ => bnd (m ρ) fun b => if b = true then ret true else n ρ) := fun g w ρ S σ H Q R E q =>
  h g w ρ S σ H _ R E (pb_bind (P := fun w r => PB F g w σ Q r) q (fun e S' w' H' c d p => p w' H' c d) (fun p => p) fun v S1 w1 H1 e1 R1 p => by
    cases v with
    | true => exact p w1 H1 e1 R1
    | false => exact h2 g w1 ρ S1 σ H1 Q R1 (E.mono e1) (p.ext e1))
/-- a if t else b -/
theorem SE.ite {t : TT} {ta tb : TE} {m : Env → M Bool} {ma mb : Env → M Val} (h : ST F t m) (ha : SE F ta ma) (hb : SE F tb mb) : SE F (tIf t ta tb) (fun ρ => bnd (m ρ) fun b => if b = true then ma ρ else mb ρ) := fun g w ρ S σ H Q R E q =>
  h g w ρ S σ H _ R E (pb_bind (P := fun w r => PO F (RV F.K) g w σ Q r) q (fun e S' w' H' c d p => p w' H' c d) (fun p => p) fun v S1 w1 H1 e1 R1 p => by
    cases v with
    | true => exact ha g w1 ρ S1 σ H1 Q R1 (E.mono e1) (p.ext e1)
    | false => exact hb g w1 ρ S1 σ H1 Q R1 (E.mono e1) (p.ext e1))
/-- and, or, not as values -/
theorem SE.tru {ta : TE} {ma : Env → M Val} {f : Bool → Env → M Val} {k : TE → Bool → TE} (ha : SE F ta ma) {tb : Bool → TE}
    (hb : ∀ b, SE F (tb b) (f b)) : SE F (fun σ H Q => ta σ H fun x H1 => ∃ c, x = .bl c ∧ tb c σ H1 Q) (fun ρ => bnd (ma ρ) fun v => bnd (truB v) fun b => f b ρ) := fun g w ρ S σ H Q R E q =>
  ha g w ρ S σ H _ R E (po_bind (P := fun w r => PO F (RV F.K) g w σ Q r) q (fun e S' w' H' c d p => p w' H' c d) (fun p => p) fun v S1 w1 H1 x e1 R1 r1 p => by
    obtain ⟨b, rfl, p⟩ := tru_inv (P := fun r => PO F (RV F.K) g w σ Q r) p (fun z => z)
    cases r1 with
    | d r => cases r; exact ⟨b, rfl, hb b g w1 ρ S1 σ H1 Q R1 (E.mono e1) (p.ext e1)⟩)
def SO (t : TO) (m : Env → M (Option Int)) : Prop := ∀ g w ρ S σ H Q, RS F.K g w S H → RE F.K w ρ σ → PB F g w σ Q (m ρ S) → t σ H Q
theorem SO.none : SO (F := F) tNoPart (fun _ => ret none) := fun g w ρ S σ H Q R E h => h w H (.refl _) R
theorem SO.some {t : TE} {m : Env → M Val} (h : SE F t m) : SO (F := F) (tPart t) (fun ρ => bnd (m ρ) fun v => bnd (partI v) fun i => ret (some i)) := fun g w ρ S σ H Q R E q =>
  h g w ρ S σ H _ R E (po_bind (P := fun w r => PB F g w σ Q r) q (fun e S' w' H' c d p => p w' H' c d) (fun p => p) fun v S1 w1 H1 x e1 R1 r1 p => by
    cases v with
    | d y =>
      cases y <;> first | exact p.elim | skip
      cases r1 with
      | d r => cases r; exact ⟨_, rfl, p w1 H1 e1 R1⟩
    | _ => exact p.elim)
theorem pg_bind {α β : Type} {P : Wd → Res β → Prop} {Q1 : α → Hp → Prop} {m : M α} {f : α → M β} {S : List Cell} {g : Gh} {w : Wd} {σ : St}
    (h : P w (bnd m f S)) (hx : ∀ e S' w' H' c d, P w (.ex e S') → Ext w w' → RS F.K g w' S' H' → RX F.cA w' e c d H' → F.W c d σ H') (hn : ¬ P w .no)
    (k : ∀ v S' w' H', Ext w w' → RS F.K g w' S' H' → P w (f v S') → Q1 v H') : PB F g w σ Q1 (m S) := by
  unfold bnd at h
  cases e : m S with
  | ok v S' => rw [e] at h; exact fun w' H' e R => k v S' w' H' e R h
  | ex _ S' => rw [e] at h; exact fun w' H' c d e2 R r => hx _ S' w' H' c d h e2 R r
  | no => rw [e] at h; exact hn h
theorem SE.slice {ta : TE} {tl th : TO} {ma : Env → M Val} {ml mh : Env → M (Option Int)} {mu : Bool} (ha : SE F ta ma) (hl : SO (F := F) tl ml) (hh : SO (F := F) th mh) :
    SE F (tSl (rSlX F.K) ta tl th) (fun ρ => bnd (ma ρ) fun x => bnd (ml ρ) fun l => bnd (mh ρ) fun h => bnd (viewc x) fun x => bnd (lift (cutD x l h)) (mkRes mu)) := fun g w ρ S σ H Q R E q =>
  ha g w ρ S σ H _ R E (po_bind (P := fun w r => PO F (RV F.K) g w σ Q r) q (fun e S' w' H' c d p => p w' H' c d) (fun p => p) fun v S1 w1 H1 x e1 R1 r1 p =>
    hl g w1 ρ S1 σ H1 _ R1 (E.mono e1) (pg_bind (P := fun w r => PO F (RV F.K) g w σ Q r) (p.ext e1) (fun e S' w' H' c d p => p w' H' c d) (fun p => p) fun l S2 w2 H2 e2 R2 p2 =>
      hh g w2 ρ S2 σ H2 _ R2 (E.mono (e1.trans e2)) (pg_bind (P := fun w r => PO F (RV F.K) g w σ Q r) (p2.ext e2) (fun e S' w' H' c d p => p w' H' c d) (fun p => p) fun h S3 w3 H3 e3 R3 p3 =>
        cut_snd R3 (r1.mono (e2.trans e3)) (p3.ext e3))))
theorem SE.rev {ta : TE} {ma : Env → M Val} {mu : Bool} (ha : SE F ta ma) :
    SE F (tRevL F.K ta) (fun ρ => bnd (ma ρ) fun x => bnd (viewc x) fun x => bnd (lift (revD x)) (mkRes mu)) := fun g w ρ S σ H Q R E q =>
  ha g w ρ S σ H _ R E (po_bind (P := fun w r => PO F (RV F.K) g w σ Q r) q (fun e S' w' H' c d p => p w' H' c d) (fun p => p) fun v S1 w1 H1 x e1 R1 r1 p => by
    obtain ⟨d, ed, _, p⟩ := po_viewc p
    obtain ⟨z, ez, p⟩ := po_lift p
    cases d <;> first | (cases ez; done) | skip
    obtain rfl := Option.some.inj ez
    exact rev_snd (a := v) (d := .none) R1 (R1.vw r1 ed) (p.ext e1))
end
end Ev
end
section
set_option Elab.async false
set_option linter.all false
set_option maxRecDepth 100000
namespace Ev
open PySem PySem.Spec L2
def MTy.T : MTy → String
  | .list => "list" | .str => "str" | .dict => "dict"
def rMe (K : PySem.W.Frag) : ME → V → List V → Hp → VK → Prop
  | .append => rAppend
  | .pop0 => rPop
  | .pop1 => rPopAt
  | .extend => rExtend
  | .join => fun x xs H Q => ∃ a p, ∃ ys : List Str, x = .str a ∧ xs = [.ref p] ∧ (SqL K H p (ys.map V.str) ∨ SqT K H p (ys.map V.str)) ∧ (ys.map (·.length)).sum + ys.length * a.length ≤ 16777216 ∧ Q (.str (Txt.join a ys)) H
  | _ => fun _ _ _ _ => False
def meId : ME → Option (Str × String)
  | .append => some ("append", "list.append")
  | .pop0 => some ("pop", "list.pop")
  | .pop1 => some ("pop", "list.pop")
  | .extend => some ("extend", "list.extend")
  | .join => some ("join", "str.join")
  | _ => none
section
variable {F : Fx} {g : Gh} {w : Wd} {S : List Cell} {H : Hp} {σ : St} {Q : VK}
theorem RVs.append {K : PySem.W.Frag} : ∀ {x y : List Val} {v u : List V}, RVs K w x v → RVs K w y u → RVs K w (x ++ y) (v ++ u)
  | _, _, _, _, .nil, s => s
  | _, _, _, _, .cons a b, s => .cons a (RVs.append b s)
theorem RVs.dropLast {K : PySem.W.Frag} : ∀ {x : List Val} {v : List V}, RVs K w x v → RVs K w x.dropLast v.dropLast
  | _, _, .nil => .nil
  | _, _, .cons _ .nil => .nil
  | _, _, .cons a (.cons b c) => .cons a (RVs.dropLast (.cons b c))
theorem RVs.eraseIdx {K : PySem.W.Frag} : ∀ {x : List Val} {v : List V} (i : Nat), RVs K w x v → RVs K w (x.eraseIdx i) (v.eraseIdx i)
  | _, _, _, .nil => .nil
  | _, _, 0, .cons _ b => b
  | _, _, i + 1, .cons a b => .cons a (RVs.eraseIdx i b)
theorem RVs.set {K : PySem.W.Frag} {u : Val} {y : V} (r : RV K w u y) : ∀ {x : List Val} {v : List V} (i : Nat), RVs K w x v → RVs K w (x.set i u) (v.set i y)
  | _, _, _, .nil => .nil
  | _, _, 0, .cons _ b => .cons r b
  | _, _, i + 1, .cons a b => .cons a (RVs.set r i b)
theorem none_RV {K : PySem.W.Frag} : RV K w (.d .none) .non := .d .none
/-- a written store is a store -/
theorem set_fin {n : Nat} {c c' : Cell} {o : HO} {v : Val} {x : V} (R : RS F.K g w S H) (e : S[n]? = some c) (l : c.live = true) (r : RC F.K w c' o) (l' : c'.live = true) (rv : RV F.K w v x)
    (h : PO F (RV F.K) g w σ Q (.ok v (S.set n c'))) : Q x (upd H (w.α n) o) := h w _ x (.refl _) (R.set e l r l') rv
theorem tyOk_list {v : Val} {x : V} (R : RS F.K g w S H) (r : RV F.K w v x) (h : tyOk .list v S = true) : tyV F.K "list" x H := by
  cases r with
  | @r n hn =>
    have h : (match S[n]? with
      | some (.lst _) => true
      | _ => false) = true := h
    split at h
    · rename_i xs e
      obtain ⟨o, a, b, _⟩ := R.cell n _ e rfl
      cases b with
      | lst b => exact .inl ⟨rfl, _, .of a⟩
    · cases h
  | d _ => cases h
  | t _ _ => cases h
  | k _ => cases h
theorem me_snd (m : ME) {nm : Str} {id : String} (hm : meId m = some (nm, id)) {v : Val} {vs : List Val} {x : V} {xs : List V} (R : RS F.K g w S H) (rv : RV F.K w v x) (rs : RVs F.K w vs xs) (h : PO F (RV F.K) g w σ Q (meM m v vs S)) :
    rMe F.K m x xs H Q := by
  unfold meM at h
  split at h
  all_goals first | (cases hm; done) | skip
  · split at h
    · rename_i n v' _ ys e
      obtain ⟨hl, h⟩ := po_ite h
      obtain ⟨o, a, b, _⟩ := R.cell n _ e rfl
      cases b with
      | lst b =>
        cases rv
        cases rs with
        | cons r1 r2 =>
          cases r2
          exact ⟨_, _, _, rfl, rfl, a, by rw [← b.length]; exact hl, set_fin R e rfl (.lst (b.append (.cons r1 .nil))) rfl none_RV h⟩
    · exact h.elim
  · split at h
    · rename_i n _ ys e
      split at h
      · rename_i v' ev
        obtain ⟨o, a, b, _⟩ := R.cell n _ e rfl
        cases b with
        | lst b =>
          cases rv
          cases rs
          obtain ⟨u, eu, ru⟩ := b.get ev
          exact ⟨_, _, u, rfl, rfl, a, by rw [← b.length]; exact eu, set_fin R e rfl (.lst b.dropLast) rfl ru h⟩
      · exact h.elim
    · exact h.elim
  · split at h
    · rename_i n i _ ys e
      split at h
      · rename_i j ej
        split at h
        · rename_i v' ev
          obtain ⟨o, a, b, _⟩ := R.cell n _ e rfl
          cases b with
          | lst b =>
            cases rv
            cases rs with
            | cons r1 r2 =>
              cases r2
              cases r1 with
              | d r1 =>
                cases r1
                obtain ⟨u, eu, ru⟩ := b.get ev
                obtain ⟨h1, h2, h3, h4⟩ := ixN_seq ej
                obtain ⟨hi, h⟩ := po_ite h
                exact ⟨_, _, i, j, u, rfl, rfl, a, hi.1, hi.2, by rw [← b.length]; exact h1, eu, set_fin R e rfl (.lst (b.eraseIdx j)) rfl ru h⟩
        · exact h.elim
      · exact h.elim
    · exact h.elim
  · rename_i z v'
    cases rv with
    | d rz =>
      cases rz
      cases rs with
      | cons r1 r2 =>
        cases r2
        split at h
        · rename_i xs' e
          obtain ⟨d, ed, q⟩ := po_liftS h
          cases es : strsL xs' with
          | none => rw [es] at ed; cases ed
          | some ys =>
            rw [es] at ed
            have ed : (if (ys.map (·.length)).sum + ys.length * z.length ≤ 16777216 then some (PyData.str (Txt.join z ys)) else none) = some d := ed
            split at ed
            · rename_i hl
              obtain rfl := Option.some.inj ed
              have rt := R.vw r1 e
              cases rt with
              | flat e => cases e
              | list s rd =>
                rw [strs_of rd es] at s
                exact ⟨z, _, ys, rfl, rfl, .inl s, hl, q w H _ (.refl _) R (.d (.str _))⟩
            · cases ed
        · rename_i xs' e
          obtain ⟨d, ed, q⟩ := po_liftS h
          cases es : strsL xs' with
          | none => rw [es] at ed; cases ed
          | some ys =>
            rw [es] at ed
            have ed : (if (ys.map (·.length)).sum + ys.length * z.length ≤ 16777216 then some (PyData.str (Txt.join z ys)) else none) = some d := ed
            split at ed
            · rename_i hl
              obtain rfl := Option.some.inj ed
              have rt := R.vw r1 e
              cases rt with
              | flat e => cases e
              | tuple s rd =>
                rw [strs_of rd es] at s
                exact ⟨z, _, ys, rfl, rfl, .inr s, hl, q w H _ (.refl _) R (.d (.str _))⟩
            · cases ed
        · exact h.elim
  · split at h
    · rename_i n v' _ _ ys zs e ev
      obtain ⟨hl, h⟩ := po_ite h
      obtain ⟨o, a, b, _⟩ := R.cell n _ e rfl
      cases b with
      | lst b =>
        cases rv
        cases rs with
        | cons r1 r2 =>
          cases r2
          have ru := R.vwd r1 ev
          cases ru with
          | flat e => cases e
          | list ea rd => exact ⟨_, _, _, _, rfl, rfl, a, ea, by rw [← b.length, ← rd.length]; exact hl, set_fin R e rfl (.lst (b.append (rd.map_some (F := F) (w := w)))) rfl none_RV h⟩
    · exact h.elim
  · exact h.elim
/-- o.m(args) -/
theorem SE.me (m : ME) {nm : Str} {id : String} (hm : meId m = some (nm, id)) {to : TE} {mo : Env → M Val} {t : TA} {ma : Env → M (List Val)} (ho : SE F to mo) (ha : SA F t ma) :
    SE F (tBM F.K m.ty.T (rMe F.K m) to t) (fun ρ => bnd (mo ρ) fun x => bnd (tyM m.ty x) fun _ => bnd (ma ρ) (meM m x)) := fun g w ρ S σ H Q R E h =>
  ho g w ρ S σ H _ R E (po_bind (P := fun w r => PO F (RV F.K) g w σ Q r) h (fun e S' w' H' c d p => p w' H' c d) (fun p => p) fun v S1 w1 H1 x e1 R1 r1 p => by
    have p' : tyOk m.ty v S1 = true ∧ PO F (RV F.K) g w σ Q (bnd (ma ρ) (meM m v) S1) := by
      unfold bnd tyM at p
      by_cases hk : tyOk m.ty v S1 = true
      · rw [if_pos hk] at p; exact ⟨hk, p⟩
      · rw [if_neg hk] at p; exact p.elim
    obtain ⟨hk, p⟩ := p'
    refine ⟨?_, ha g w1 ρ S1 σ H1 _ R1 (E.mono e1) (pa_bind (P := fun w r => PO F (RV F.K) g w σ Q r) (p.ext e1) (fun e S' w' H' c d p => p w' H' c d) (fun p => p) fun vs S2 w2 H2 xs e2 R2 r2 p2 => me_snd m hm R2 (r1.mono e2) r2 (p2.ext e2))⟩
    cases m <;> first | (cases hm; done) | skip
    · cases v with
      | d y =>
        cases y <;> first | exact Bool.noConfusion (show false = true from hk) | skip
        cases r1 with
        | d r => cases r; exact (rfl : "str" = "str")
      | _ => exact Bool.noConfusion (show false = true from hk)
    all_goals exact tyOk_list R1 r1 hk)
end
end Ev
end
section
set_option Elab.async false
set_option linter.all false
set_option maxRecDepth 100000
namespace Ev
open PySem PySem.Spec L2
section
variable {F : Fx}
theorem wipe_set {σ : St} {i : Nat} {x : Option V} : ∀ {vs : List Nat}, i ∈ vs → wipe (σ.set i x) vs = wipe σ vs
  | v :: vs, h => by
    show (wipe (σ.set i x) vs).set v none = (wipe σ vs).set v none
    by_cases hi : i ∈ vs
    · rw [wipe_set hi]
    · rcases List.mem_cons.mp h with rfl | h
      · apply List.ext_getElem?
        intro j
        by_cases hj : i = j
        · subst hj
          by_cases hl : i < σ.length
          · rw [List.getElem?_set_self (by rw [wipe_length]; simpa using hl), List.getElem?_set_self (by rw [wipe_length]; exact hl)]
          · rw [List.getElem?_eq_none (by simp [wipe_length]; omega), List.getElem?_eq_none (by simp [wipe_length]; omega)]
        · rw [List.getElem?_set_ne hj, List.getElem?_set_ne hj]
          by_cases hjv : j ∈ vs
          · have w0 : ∀ (σ : St) (vs : List Nat), j ∈ vs → j < σ.length → (wipe σ vs)[j]? = some none := by
              intro σ vs
              induction vs with
              | nil => intro h; cases h
              | cons u vs ih =>
                intro h hl
                show ((wipe σ vs).set u none)[j]? = _
                by_cases e : u = j
                · subst e
                  rw [List.getElem?_set_self (by rw [wipe_length]; exact hl)]
                · rw [List.getElem?_set_ne e]
                  rcases List.mem_cons.mp h with e' | h
                  · exact (e e'.symm).elim
                  · exact ih h hl
            by_cases hl : j < σ.length
            · rw [w0 _ _ hjv (by simpa using hl), w0 _ _ hjv hl]
            · rw [List.getElem?_eq_none (by simp [wipe_length]; omega), List.getElem?_eq_none (by simp [wipe_length]; omega)]
          · rw [wipe_out hjv, wipe_out hjv, List.getElem?_set_ne hj]
      · exact (hi h).elim
/-- but for these places it is the same -/
def Same (own : List Nat) (σ σ' : St) : Prop := ∀ vs : List Nat, (∀ i, i ∈ own → i ∈ vs) → wipe σ' vs = wipe σ vs
theorem Same.refl {own : List Nat} (σ : St) : Same own σ σ := fun _ _ => rfl
theorem Same.trans {own : List Nat} {a b c : St} (x : Same own a b) (y : Same own b c) : Same own a c := fun vs h => (y vs h).trans (x vs h)
theorem Same.more {own own' : List Nat} {a b : St} (x : Same own a b) (h : ∀ i, i ∈ own → i ∈ own') : Same own' a b := fun vs k => x vs fun i hi => k i (h i hi)
def PG' (g : Gh) (w : Wd) (own : List Nat) (σ : St) (Q : St → Hp → Prop) (r : Res Env) : Prop := match r with
  | .ok ρ' S' => ∀ w' σ' H', Ext w w' → RS F.K g w' S' H' → RE F.K w' ρ' σ' → Same own σ σ' → Q σ' H'
  | .ex _ _ => False
  | .no => False
def SG (own : List Nat) (t : TG) (f : Val → Env → M Env) : Prop := ∀ g w ρ S σ H Q v x, RS F.K g w S H → RE F.K w ρ σ → RV F.K w v x → PG' (F := F) g w own σ Q (f v ρ S) → t x σ H Q
def SGs (own : List Nat) (t : TGs) (f : List Val → Env → M Env) : Prop := ∀ g w ρ S σ H Q vs xs, RS F.K g w S H → RE F.K w ρ σ → RVs F.K w vs xs → PG' (F := F) g w own σ Q (f vs ρ S) → t xs σ H Q
theorem SG.name (i : Nat) : SG (F := F) [i] (gName i) (asgT (.var i)) := fun g w ρ S σ H Q v x R E r h => h w _ H (.refl _) R (E.set i r) fun vs k => wipe_set (k i (by simp))
theorem SG.tup {own : List Nat} {n : Nat} {t : TGs} {ts : List Tg} (h : SGs (F := F) own t (asgTs ts)) (hn : ∀ vs ρ S, asgTs ts vs ρ S ≠ .no → vs.length = n) : SG (F := F) own (gTup F.K n t) (asgT (.tup ts)) := fun g w ρ S σ H Q v x R E r p => by
  cases v with
  | d y =>
    cases y with
    | tuple ys =>
      have p : PG' (F := F) g w own σ Q (asgTs ts (ys.map .d) ρ S) := p
      cases r with
      | d r =>
        cases r with
        | tuple e rd =>
          have rs := RDs.map_some (F := F) (w := w) rd
          refine ⟨_, _, rfl, .of (R.le _ _ e), ?_, h g w ρ S σ H Q _ _ R E rs p⟩
          rw [← rs.length]
          exact hn _ ρ S (fun z => by rw [z] at p; exact p)
    | _ => exact p.elim
  | t ys =>
    have p : PG' (F := F) g w own σ Q (asgTs ts ys ρ S) := p
    cases r with
    | t e rs =>
      refine ⟨_, _, rfl, .of (R.le _ _ e), ?_, h g w ρ S σ H Q _ _ R E rs p⟩
      rw [← rs.length]
      exact hn _ ρ S (fun z => by rw [z] at p; exact p)
  | _ => exact p.elim
theorem SGs.nil : SGs (F := F) [] gNil (asgTs []) := fun g w ρ S σ H Q vs xs R E r h => by
  cases vs with
  | nil => cases r; exact ⟨rfl, h w σ H (.refl _) R E (.refl _)⟩
  | cons _ _ => exact h.elim
theorem SGs.cons {own own' : List Nat} {t : TG} {u : TGs} {a : Tg} {as : List Tg} (h : SG (F := F) own t (asgT a)) (h2 : SGs (F := F) own' u (asgTs as)) : SGs (F := F) (own ++ own') (gCons t u) (asgTs (a :: as)) := fun g w ρ S σ H Q vs xs R E r p => by
  cases vs with
  | nil => exact p.elim
  | cons v vs =>
    cases r with
    | @cons _ x _ xs r1 r2 =>
      have p : PG' (F := F) g w (own ++ own') σ Q (bnd (asgT a v ρ) (fun ρ' => asgTs as vs ρ') S) := p
      refine ⟨x, xs, rfl, h g w ρ S σ H _ v x R E r1 ?_⟩
      unfold bnd at p
      cases e : asgT a v ρ S with
      | ok ρ1 S1 =>
        rw [e] at p
        have p : PG' (F := F) g w (own ++ own') σ Q (asgTs as vs ρ1 S1) := p
        intro w1 σ1 H1 e1 R1 E1 m1
        refine h2 g w1 ρ1 S1 σ1 H1 Q vs xs R1 E1 (r2.mono e1) ?_
        cases e2 : asgTs as vs ρ1 S1 with
        | ok ρ2 S2 => rw [e2] at p; exact fun w2 σ2 H2 x2 R2 E2 m2 => p w2 σ2 H2 (e1.trans x2) R2 E2 ((m1.more fun i hi => List.mem_append_left _ hi).trans (m2.more fun i hi => List.mem_append_right _ hi))
        | ex _ _ => rw [e2] at p; exact p
        | no => rw [e2] at p; exact p
      | ex _ _ => rw [e] at p; exact p
      | no => rw [e] at p; exact p
theorem asgT_noex : ∀ (n : Nat) (t : Tg), sizeOf t < n → ∀ (v : Val) (ρ : Env) (S : List Cell) (e' : Exn) (S' : List Cell), asgT t v ρ S ≠ .ex e' S' := by
  intro n
  induction n with
  | zero => intro t h; omega
  | succ n ih =>
    intro t ht v ρ S e' S' he
    cases t with
    | var i => cases he
    | tup ts =>
      have ls : ∀ (ts' : List Tg), sizeOf ts' < n + 1 → ∀ (vs : List Val) (ρ : Env) (S : List Cell), asgTs ts' vs ρ S ≠ .ex e' S' := by
        intro ts'
        induction ts' with
        | nil => intro _ vs ρ S he; cases vs <;> cases he
        | cons a as ih2 =>
          intro hs vs ρ S he
          cases vs with
          | nil => cases he
          | cons v vs =>
            have he : bnd (asgT a v ρ) (fun ρ' => asgTs as vs ρ') S = .ex e' S' := he
            unfold bnd at he
            have sa : sizeOf a < n := by simp at hs; omega
            cases ea : asgT a v ρ S with
            | ok _ _ => rw [ea] at he; exact ih2 (by simp at hs ⊢; omega) vs _ _ he
            | ex _ _ => exact ih a sa _ _ _ _ _ ea
            | no => rw [ea] at he; cases he
      have hs : sizeOf ts < n + 1 := by simp at ht; omega
      cases v with
      | d y => cases y <;> first | (cases he; done) | exact ls ts hs _ _ _ he
      | t ys => exact ls ts hs _ _ _ he
      | _ => cases he
theorem asgTs_length : ∀ (ts : List Tg) (vs : List Val) (ρ : Env) (S : List Cell), asgTs ts vs ρ S ≠ .no → vs.length = ts.length
  | [], [], _, _, _ => rfl
  | [], _ :: _, _, _, h => (h rfl).elim
  | _ :: _, [], _, _, h => (h rfl).elim
  | t :: ts, v :: vs, ρ, S, h => by
    have h : bnd (asgT t v ρ) (fun ρ' => asgTs ts vs ρ') S ≠ .no := h
    unfold bnd at h
    cases e : asgT t v ρ S with
    | ok ρ' S' => rw [e] at h; exact congrArg (· + 1) (asgTs_length ts vs ρ' S' h)
    | ex _ _ => exact (asgT_noex _ t (Nat.lt_succ_self _) _ _ _ _ _ e).elim
    | no => rw [e] at h; exact (h rfl).elim
theorem pf_bind {β : Type} {P : Wd → Res β → Prop} {Q1 : VK} {m : M Val} {f : Val → M β} {S : List Cell} {g : Gh} {w : Wd} {σ : St}
    (h : P w (bnd m f S)) (hx : ∀ e S' w' H' c d, P w (.ex e S') → Ext w w' → RS F.K g w' S' H' → RX F.cA w' e c d H' → F.W c d σ H') (hn : ¬ P w .no)
    (k : ∀ v S' w' H' x, Ext w w' → RS F.K g w' S' H' → RV F.K w' v x → P w (f v S') → Q1 x H') : PO F (RV F.K) g w σ Q1 (m S) := po_bind h hx hn k
theorem pf_ex {g : Gh} {w : Wd} {D : Ends} (σ : St) : ∀ e S' w' H' c d, PF F g w D (.ex e S') → Ext w w' → RS F.K g w' S' H' → RX F.cA w' e c d H' → F.W c d σ H' := fun e S' w' H' c d p => p w' σ H' c d
theorem SS.next : SS F tNext (fun ρ => ret (.nx ρ)) := fun g w ρ S σ H D R E h => h w σ H (.refl _) R E
theorem SS.brk : SS F tBreak (fun ρ => ret (.bk ρ)) := fun g w ρ S σ H D R E h => h w σ H (.refl _) R E
theorem SS.cnt : SS F tCont (fun ρ => ret (.ct ρ)) := fun g w ρ S σ H D R E h => h w σ H (.refl _) R E
theorem SS.retN : SS F tRetN (fun ρ => ret (.rt (.d .none))) := fun g w ρ S σ H D R E h => h w H .non (.refl _) R (.d .none)
theorem SS.ret {t : TE} {m : Env → M Val} (h : SE F t m) : SS F (tRet t) (fun ρ => bnd (m ρ) fun v => ret (.rt v)) := fun g w ρ S σ H D R E p =>
  h g w ρ S σ H _ R E (po_bind (P := fun w r => PF F g w D r) p (pf_ex σ) (fun p => p) fun v S1 w1 H1 x e1 R1 r1 p => p w1 H1 x e1 R1 r1)
theorem SS.drop {t : TE} {m : Env → M Val} (h : SE F t m) : SS F (tDrop t) (fun ρ => bnd (m ρ) fun _ => Ev.ret (.nx ρ)) := fun g w ρ S σ H D R E p =>
  h g w ρ S σ H _ R E (po_bind (P := fun w r => PF F g w D r) p (pf_ex σ) (fun p => p) fun v S1 w1 H1 x e1 R1 r1 p => p w1 σ H1 e1 R1 (E.mono e1))
theorem SS.asg {t : TE} {m : Env → M Val} {gt : TG} {a : Tg} {own : List Nat} (h : SE F t m) (ha : SG (F := F) own gt (asgT a)) : SS F (tAsg t gt) (fun ρ => bnd (m ρ) fun v => bnd (asgT a v ρ) fun ρ' => Ev.ret (.nx ρ')) := fun g w ρ S σ H D R E p =>
  h g w ρ S σ H _ R E (po_bind (P := fun w r => PF F g w D r) p (pf_ex σ) (fun p => p) fun v S1 w1 H1 x e1 R1 r1 p => by
    refine ha g w1 ρ S1 σ H1 _ v x R1 (E.mono e1) r1 ?_
    unfold bnd at p
    cases e : asgT a v ρ S1 with
    | ok ρ2 S2 => rw [e] at p; exact fun w2 σ2 H2 e2 R2 E2 _ => p w2 σ2 H2 (e1.trans e2) R2 E2
    | ex _ _ => exact (asgT_noex _ a (Nat.lt_succ_self _) _ _ _ _ _ e).elim
    | no => rw [e] at p; exact p)
theorem SS.seq {t u : TS} {m n : Env → M Fl} (h : SS F t m) (h2 : SS F u n) : SS F (tSeq t u) (fun ρ => bnd (m ρ) fun f => match f with
    | .nx ρ' => n ρ'
    | f => Ev.ret f) := fun g w ρ S σ H D R E p => by
  refine h g w ρ S σ H _ R E ?_
  dsimp only at p
  unfold bnd at p
  cases e : m ρ S with
  | ok f S1 =>
    rw [e] at p
    cases f with
    | nx ρ1 => exact fun w1 σ1 H1 e1 R1 E1 => h2 g w1 ρ1 S1 σ1 H1 D R1 E1 (PF.ext e1 p)
    | rt v => exact p
    | bk ρ1 => exact p
    | ct ρ1 => exact p
  | ex _ _ => rw [e] at p; exact p
  | no => rw [e] at p; exact p
theorem SS.if_ {c : TT} {t u : TS} {mc : Env → M Bool} {m n : Env → M Fl} (hc : ST F c mc) (h : SS F t m) (h2 : SS F u n) : SS F (tIfS c t u) (fun ρ => bnd (mc ρ) fun b => if b = true then m ρ else n ρ) := fun g w ρ S σ H D R E p =>
  hc g w ρ S σ H _ R E (pb_bind (P := fun w r => PF F g w D r) p (pf_ex σ) (fun p => p) fun b S1 w1 H1 e1 R1 p => by
    cases b with
    | true => exact h g w1 ρ S1 σ H1 D R1 (E.mono e1) (PF.ext e1 p)
    | false => exact h2 g w1 ρ S1 σ H1 D R1 (E.mono e1) (PF.ext e1 p))
theorem SS.while_ {c : TT} {t : TS} {mc : Env → M Bool} {m : Env → M Fl} (n : Nat) (hc : ST F c mc) (h : SS F t m) : SS F (tWhile c t) (fun ρ => whileL mc m n ρ) := fun g w ρ S σ H D R E p => by
  refine ⟨fun k σ H => ∃ w' ρ S, RS F.K g w' S H ∧ RE F.K w' ρ σ ∧ PF F g w' D (whileL mc m k ρ S), ⟨n, w, ρ, S, R, E, p⟩, ?_⟩
  rintro k σ1 H1 ⟨w1, ρ1, S1, R1, E1, p1⟩
  cases k with
  | zero => exact p1.elim
  | succ k =>
    refine hc g w1 ρ1 S1 σ1 H1 _ R1 E1 (pb_bind (P := fun w r => PF F g w D r) p1 (pf_ex σ1) (fun p => p) fun b S2 w2 H2 e2 R2 p2 => ?_)
    cases b with
    | false => exact p2 w2 σ1 H2 e2 R2 (E1.mono e2)
    | true =>
      refine ⟨fun σ H => ∃ w' ρ S, RS F.K g w' S H ∧ RE F.K w' ρ σ ∧ PF F g w' D (whileL mc m k ρ S), fun σ' H' q => ⟨k, Nat.lt_succ_self k, q⟩, ?_⟩
      refine h g w2 ρ1 S2 σ1 H2 _ R2 (E1.mono e2) ?_
      have p2 : PF F g w1 D (bnd (m ρ1) (fun f => (match f with
        | .nx ρ' => whileL mc m k ρ'
        | .ct ρ' => whileL mc m k ρ'
        | .bk ρ' => Ev.ret (.nx ρ')
        | .rt w => Ev.ret (.rt w))) S2) := p2
      unfold bnd at p2
      cases e : m ρ1 S2 with
      | ok f S3 =>
        rw [e] at p2
        cases f with
        | nx ρ3 => exact fun w3 σ3 H3 e3 R3 E3 => ⟨w3, ρ3, S3, R3, E3, PF.ext (e2.trans e3) p2⟩
        | ct ρ3 => exact fun w3 σ3 H3 e3 R3 E3 => ⟨w3, ρ3, S3, R3, E3, PF.ext (e2.trans e3) p2⟩
        | bk ρ3 => exact fun w3 σ3 H3 e3 => p2 w3 σ3 H3 (e2.trans e3)
        | rt v => exact fun w3 H3 x e3 => p2 w3 H3 x (e2.trans e3)
      | ex _ _ => rw [e] at p2; exact fun w3 σ3 H3 c d e3 => p2 w3 σ3 H3 c d (e2.trans e3)
      | no => rw [e] at p2; exact p2
/-- an iterator gives these values, one by one -/
def Gle (g g' : Gh) : Prop := ∀ b o, g.out b = some o → g'.out b = some o
theorem Gle.refl (g : Gh) : Gle g g := fun _ _ h => h
def ItOk (F : Fx) (g : Gh) (w : Wd) (vs : List Val) (J : L2.It) : Prop := ∀ g' w1 S H, Gle g g' → Ext w w1 → RS F.K g' w1 S H → ∀ i : Nat,
  (∀ v, vs[i]? = some v → J.go i H ∧ ∀ x H', J.yld i H x H' → ∃ w2, Ext w1 w2 ∧ RS F.K g' w2 S H' ∧ RV F.K w2 v x) ∧ (vs.length ≤ i → J.stop i H)
def PI' (g : Gh) (w : Wd) (σ : St) (Q : L2.It → Hp → Prop) (r : Res (List Val)) : Prop := match r with
  | .ok vs S' => ∀ w' H' J, Ext w w' → RS F.K g w' S' H' → ItOk F g w' vs J → Q J H'
  | .ex e S' => ∀ w' H' c d, Ext w w' → RS F.K g w' S' H' → RX F.cA w' e c d H' → F.W c d σ H'
  | .no => False
def SI (t : TI) (m : Env → M (List Val)) : Prop := ∀ g w ρ S σ H Q, RS F.K g w S H → RE F.K w ρ σ → PI' (F := F) g w σ Q (m ρ S) → t σ H Q
theorem SS.for_ {wi : TI} {gt : TG} {tb : TS} {mi : Env → M (List Val)} {fa : Val → Env → M Env} {m : Env → M Fl} {own : List Nat} (hi : SI (F := F) wi mi) (hg : SG (F := F) own gt fa) (hn : ∀ v ρ S e' S', fa v ρ S ≠ .ex e' S') (hb : SS F tb m) :
    SS F (tFor wi gt tb) (fun ρ => bnd (mi ρ) fun vs => forL (fun v ρ => bnd (fa v ρ) fun ρ' => m ρ') vs ρ) := fun g w ρ S σ H D R E p => by
  refine hi g w ρ S σ H _ R E ?_
  dsimp only at p
  unfold bnd at p
  cases ei : mi ρ S with
  | ex _ _ => rw [ei] at p; exact fun w' H' c d => p w' σ H' c d
  | no => rw [ei] at p; exact p
  | ok vs S1 =>
    rw [ei] at p
    intro w1 H1 J e1 R1 ok
    have p : PF F g w1 D (forL (fun v ρ => bnd (fa v ρ) fun ρ' => m ρ') vs ρ S1) := PF.ext e1 p
    refine ⟨fun i k σ H => ∃ w' ρ S, Ext w1 w' ∧ RS F.K g w' S H ∧ RE F.K w' ρ σ ∧ k = vs.length - i ∧ i ≤ vs.length ∧ PF F g w' D (forL (fun v ρ => bnd (fa v ρ) fun ρ' => m ρ') (vs.drop i) ρ S),
      ⟨vs.length, w1, ρ, S1, .refl _, R1, E.mono e1, rfl, Nat.zero_le _, p⟩, ?_⟩
    rintro i k σ2 H2 ⟨w2, ρ2, S2, e2, R2, E2, rfl, hl, p2⟩
    by_cases hi : i < vs.length
    · have ev : vs[i]? = some vs[i] := List.getElem?_eq_getElem hi
      obtain ⟨go, yl⟩ := (ok g w2 S2 H2 (.refl g) e2 R2 i).1 _ ev
      refine .inr ⟨go, fun σ H => ∃ w' ρ S, Ext w1 w' ∧ RS F.K g w' S H ∧ RE F.K w' ρ σ ∧ PF F g w' D (forL (fun v ρ => bnd (fa v ρ) fun ρ' => m ρ') (vs.drop (i + 1)) ρ S),
        fun σ' H' ⟨w', ρ', S', x1, x2, x3, x4⟩ => ⟨vs.length - (i + 1), by omega, w', ρ', S', x1, x2, x3, rfl, hi, x4⟩, fun x H3 y => ?_⟩
      obtain ⟨w3, e3, R3, r3⟩ := yl x H3 y
      rw [List.drop_eq_getElem_cons hi] at p2
      have p2 : PF F g w3 D (bnd (bnd (fa vs[i] ρ2) fun ρ' => m ρ') (fun f => (match f with
        | .nx ρ' => forL (fun v ρ => bnd (fa v ρ) fun ρ' => m ρ') (vs.drop (i + 1)) ρ'
        | .ct ρ' => forL (fun v ρ => bnd (fa v ρ) fun ρ' => m ρ') (vs.drop (i + 1)) ρ'
        | .bk ρ' => Ev.ret (.nx ρ')
        | .rt w => Ev.ret (.rt w))) S2) := PF.ext e3 p2
      rw [bnd_assoc] at p2
      refine hg g w3 ρ2 S2 σ2 H3 _ _ x R3 (E2.mono e3) r3 ?_
      unfold bnd at p2
      cases ea : fa vs[i] ρ2 S2 with
      | ex _ _ => exact (hn _ _ _ _ _ ea).elim
      | no => rw [ea] at p2; exact p2
      | ok ρ4 S4 =>
        rw [ea] at p2
        intro w4 σ4 H4 e4 R4 E4 _
        refine hb g w4 ρ4 S4 σ4 H4 _ R4 E4 ?_
        cases em : m ρ4 S4 with
        | ok f S5 =>
          simp only [em] at p2
          cases f with
          | nx ρ5 => exact fun w5 σ5 H5 e5 R5 E5 => ⟨w5, ρ5, S5, ((e2.trans e3).trans e4).trans e5, R5, E5, PF.ext (e4.trans e5) p2⟩
          | ct ρ5 => exact fun w5 σ5 H5 e5 R5 E5 => ⟨w5, ρ5, S5, ((e2.trans e3).trans e4).trans e5, R5, E5, PF.ext (e4.trans e5) p2⟩
          | bk ρ5 => exact fun w5 σ5 H5 e5 => p2 w5 σ5 H5 (e4.trans e5)
          | rt v => exact fun w5 H5 x e5 => p2 w5 H5 x (e4.trans e5)
        | ex _ _ => simp only [em] at p2; exact fun w5 σ5 H5 c d e5 => p2 w5 σ5 H5 c d (e4.trans e5)
        | no => simp only [em] at p2; exact p2
    · have hi' : i = vs.length := by omega
      subst hi'
      rw [List.drop_length] at p2
      exact .inl ⟨(ok g w2 S2 H2 (.refl g) e2 R2 _).2 (Nat.le_refl _), p2 w2 σ2 H2 (.refl _) R2 E2⟩
theorem RVs.at_get {K : PySem.W.Frag} {w : Wd} {vs : List Val} {xs : List V} (r : RVs K w vs xs) {i : Nat} {v : Val} {x : V} (h : vs[i]? = some v) (h2 : xs[i]? = some x) : RV K w v x := by
  obtain ⟨u, e, q⟩ := r.get h
  rw [e] at h2
  rw [← Option.some.inj h2]
  exact q
theorem RVs.get_V {K : PySem.W.Frag} {w : Wd} {vs : List Val} {xs : List V} (r : RVs K w vs xs) {i : Nat} {v : Val} (h : vs[i]? = some v) : ∃ x, xs[i]? = some x := let ⟨x, e, _⟩ := r.get h; ⟨x, e⟩
theorem Itl_ok {g : Gh} {w : Wd} {a : Addr} {xs : List V} {vs : List Val} (hl : ∀ g' w1 S H, Gle g g' → Ext w w1 → RS F.K g' w1 S H → SqL F.K H a xs) (rv : RVs F.K w vs xs) : ItOk F g w vs (Itl F.K a) := fun g' w1 S H gl e R i => by
  have q := hl g' w1 S H gl e R
  refine ⟨fun v ev => ⟨?_, fun x H' y => ?_⟩, fun hi => ⟨xs, q, by rw [← rv.length]; exact hi⟩⟩
  · obtain ⟨x, ex⟩ := rv.get_V ev
    exact ⟨xs, x, q, ex⟩
  · obtain ⟨rfl, y⟩ := y
    exact ⟨w1, .refl _, R, (rv.at_get ev (y xs q)).mono e⟩
theorem Itt_ok {g : Gh} {w : Wd} {a : Addr} {xs : List V} {vs : List Val} (hl : ∀ g' w1 S H, Gle g g' → Ext w w1 → RS F.K g' w1 S H → SqT F.K H a xs) (rv : RVs F.K w vs xs) : ItOk F g w vs (Itt F.K a) := fun g' w1 S H gl e R i => by
  have q := hl g' w1 S H gl e R
  refine ⟨fun v ev => ⟨?_, fun x H' y => ?_⟩, fun hi => ⟨xs, q, by rw [← rv.length]; exact hi⟩⟩
  · obtain ⟨x, ex⟩ := rv.get_V ev
    exact ⟨xs, x, q, ex⟩
  · obtain ⟨rfl, y⟩ := y
    exact ⟨w1, .refl _, R, (rv.at_get ev (y xs q)).mono e⟩
theorem Its_ok {g : Gh} {w : Wd} (z : Str) : ItOk F g w ((z.cps.toList.map fun c => PyData.str (sign c)).map .d) (Its z) := fun g' w1 S H gl e R i => by
  refine ⟨fun v ev => ?_, fun hi => ?_⟩
  · rw [List.map_map, List.getElem?_map] at ev
    obtain ⟨c, ec, rfl⟩ := Option.map_eq_some_iff.mp ev
    have hi : i < z.cps.size := by
      have := (List.getElem?_eq_some_iff.mp ec).1
      simpa using this
    refine ⟨hi, fun x H' y => ?_⟩
    obtain ⟨rfl, c', ec', rfl⟩ := y
    have : z.cps.toList[i]? = some c' := by rw [Array.getElem?_toList]; exact ec'
    rw [this] at ec
    obtain rfl := Option.some.inj ec
    exact ⟨w1, .refl _, R, .d (.str _)⟩
  · simp at hi
    exact hi
theorem rangeL_get : ∀ (n : Nat) (lo : Int) (i : Nat) (v : Val), (rangeL lo n)[i]? = some v → i < n ∧ v = .d (.int (lo + i))
  | 0, _, _, _, h => by simp [rangeL] at h
  | n + 1, lo, 0, v, h => by
    simp [rangeL] at h
    exact ⟨Nat.succ_pos _, by rw [← h]; simp⟩
  | n + 1, lo, i + 1, v, h => by
    obtain ⟨h1, h2⟩ := rangeL_get n (lo + 1) i v (by simpa [rangeL] using h)
    exact ⟨by omega, by rw [h2]; congr 2; omega⟩
theorem rangeL_length : ∀ (n : Nat) (lo : Int), (rangeL lo n).length = n
  | 0, _ => rfl
  | n + 1, lo => congrArg (· + 1) (rangeL_length n (lo + 1))
theorem Itr_ok {g : Gh} {w : Wd} (lo : Int) (n : Nat) : ItOk F g w (rangeL lo n) (Itr lo n) := fun g' w1 S H gl e R i => by
  refine ⟨fun v ev => ?_, fun hi => by rw [rangeL_length] at hi; exact hi⟩
  obtain ⟨hi, rfl⟩ := rangeL_get n lo i v ev
  refine ⟨hi, fun x H' y => ?_⟩
  obtain ⟨rfl, rfl⟩ := y
  exact ⟨w1, .refl _, R, .d (.int _)⟩
theorem enumL_get : ∀ (ds : List PyData) (k : Int) (i : Nat) (v : Val), (enumL k ds)[i]? = some v → ∃ d, ds[i]? = some d ∧ v = .d (.tuple [.int (k + i), d])
  | [], _, _, _, h => by simp [enumL] at h
  | d :: ds, k, 0, v, h => by
    simp [enumL] at h
    exact ⟨d, rfl, by rw [← h]; simp⟩
  | d :: ds, k, i + 1, v, h => by
    obtain ⟨e, h1, h2⟩ := enumL_get ds (k + 1) i v (by simpa [enumL] using h)
    exact ⟨e, by simpa using h1, by rw [h2]; congr 4; omega⟩
theorem enumL_length : ∀ (ds : List PyData) (k : Int), (enumL k ds).length = ds.length
  | [], _ => rfl
  | _ :: ds, k => congrArg (· + 1) (enumL_length ds (k + 1))
theorem Ite_ok {g : Gh} {w : Wd} {a : Addr} {xs : List V} {ds : List PyData} (hl : ∀ g' w1 S H, Gle g g' → Ext w w1 → RS F.K g' w1 S H → SqL F.K H a xs) (rd : RDs w.I ds xs) : ItOk F g w (enumL 0 ds) (Ite F.K a) := fun g' w1 S H gl e R i => by
  have q := hl g' w1 S H gl e R
  refine ⟨fun v ev => ?_, fun hi => ⟨xs, q, by rw [← rd.length, ← enumL_length ds 0]; exact hi⟩⟩
  obtain ⟨d, ed, rfl⟩ := enumL_get ds 0 i v ev
  obtain ⟨x, ex, rx⟩ := rd.get ed
  refine ⟨⟨xs, x, q, ex⟩, fun v H' y => ?_⟩
  obtain ⟨T, x', rfl, hT, rfl, y⟩ := y
  have e2 := y xs q
  rw [ex] at e2
  obtain rfl := Option.some.inj e2
  have e3 : Ext w1 (w1.put T (.tup [.int (i : Nat), x])) := .put (R.Ifree hT)
  refine ⟨_, e3, R.put hT, .d (.tuple upd_same (.cons ?_ (.cons (rx.mono (e.trans e3).I) .nil)))⟩
  rw [Int.zero_add]
  exact .int _
theorem zipL_get : ∀ (ds es : List PyData) (i : Nat) (v : Val), (zipL ds es)[i]? = some v → ∃ d e, ds[i]? = some d ∧ es[i]? = some e ∧ v = .d (.tuple [d, e])
  | [], _, _, _, h => by simp [zipL] at h
  | _ :: _, [], _, _, h => by simp [zipL] at h
  | d :: ds, e :: es, 0, v, h => by
    simp [zipL] at h
    exact ⟨d, e, rfl, rfl, h.symm⟩
  | d :: ds, e :: es, i + 1, v, h => by
    obtain ⟨d', e', h1, h2, h3⟩ := zipL_get ds es i v (by simpa [zipL] using h)
    exact ⟨d', e', by simpa using h1, by simpa using h2, h3⟩
theorem zipL_length : ∀ (ds es : List PyData), (zipL ds es).length = min ds.length es.length
  | [], _ => by simp [zipL]
  | _ :: _, [] => by simp [zipL]
  | _ :: ds, _ :: es => by simp only [zipL, List.length_cons, zipL_length ds es]; omega
theorem Itz_ok {g : Gh} {w : Wd} {a b : Addr} {xs ys : List V} {ds es : List PyData} (hl : ∀ g' w1 S H, Gle g g' → Ext w w1 → RS F.K g' w1 S H → SqL F.K H a xs ∧ SqL F.K H b ys) (rd : RDs w.I ds xs) (re : RDs w.I es ys) : ItOk F g w (zipL ds es) (Itz F.K a b) := fun g' w1 S H gl e R i => by
  obtain ⟨q, q'⟩ := hl g' w1 S H gl e R
  refine ⟨fun v ev => ?_, fun hi => ⟨xs, ys, q, q', by rw [zipL_length] at hi; rw [← rd.length, ← re.length]; omega⟩⟩
  obtain ⟨d, e', ed, ee, rfl⟩ := zipL_get ds es i v ev
  obtain ⟨x, ex, rx⟩ := rd.get ed
  obtain ⟨y, ey, ry⟩ := re.get ee
  refine ⟨⟨xs, ys, x, y, q, q', ex, ey⟩, fun v H' yl => ?_⟩
  obtain ⟨T, x', y', rfl, hT, rfl, z1, z2⟩ := yl
  have e2 := z1 xs q
  rw [ex] at e2
  obtain rfl := Option.some.inj e2
  have e2 := z2 ys q'
  rw [ey] at e2
  obtain rfl := Option.some.inj e2
  have e3 : Ext w1 (w1.put T (.tup [x, y])) := .put (R.Ifree hT)
  exact ⟨_, e3, R.put hT, .d (.tuple upd_same (.cons (rx.mono (e.trans e3).I) (.cons (ry.mono (e.trans e3).I) .nil)))⟩
/-- a list, a tuple, a text -/
def iAny (K : PySem.W.Frag) (tl : TE) : TI := fun σ H R => iList K tl σ H R ∨ iTup K tl σ H R ∨ iStr tl σ H R
theorem pi_or {X : Cx} {tg iter : Expr} {a b : TI} (h : PI X tg iter a) (h2 : PI X tg iter b) : PI X tg iter (fun σ H R => a σ H R ∨ b σ H R) :=
  ⟨fun pins s σ H R I q => q.elim (h.run pins s σ H R I) (h2.run pins s σ H R I)⟩
theorem pi_any {X : Cx} {tg l : Expr} {tl : TE} (hl : PE X l tl) : PI X tg l (iAny X.K tl) := pi_or (pi_list hl) (pi_or (pi_tup hl) (pi_str hl))
theorem viewI_res (v : Val) (S : List Cell) : (∃ d, viewI v S = .ok d S ∧ vw S v = some d ∧ ∀ n, v ≠ .r n) ∨ viewI v S = .no := by
  cases v with
  | r n => exact .inr rfl
  | t xs => exact .inr rfl
  | d x => exact .inl ⟨x, rfl, rfl, fun _ z => by cases z⟩
  | k x => exact .inl ⟨x, rfl, rfl, fun _ z => by cases z⟩
/-- what is read off a value that is no object of the store stays -/
theorem stays_l {g : Gh} {w : Wd} {S : List Cell} {v : Val} {x : V} {ds : List PyData} (r : RV F.K w v x) (h : vw S v = some (.list ds)) (hn : ∀ n, v ≠ .r n) :
    ∃ a xs, x = .ref a ∧ RDs w.I ds xs ∧ ∀ g' w1 S1 H1, Gle g g' → Ext w w1 → RS F.K g' w1 S1 H1 → SqL F.K H1 a xs := by
  cases r with
  | d r =>
    obtain rfl := Option.some.inj h
    cases r with
    | list e rd => exact ⟨_, _, rfl, rd, fun _ w1 S1 H1 _ x R => .of (R.le _ _ (x.I.o _ _ e rfl))⟩
  | r _ => exact absurd rfl (hn _)
  | t _ _ => cases h
  | k r =>
    obtain rfl := Option.some.inj h
    cases r with
    | list s e => exact ⟨_, _, rfl, flats_RD e, fun _ w1 S1 H1 _ x R => SqL.mono R.hle (SqL.mono x.I s)⟩
theorem stays_t {g : Gh} {w : Wd} {S : List Cell} {v : Val} {x : V} {ds : List PyData} (r : RV F.K w v x) (h : vw S v = some (.tuple ds)) (hn : ∀ n, v ≠ .r n) :
    ∃ a xs, x = .ref a ∧ RDs w.I ds xs ∧ ∀ g' w1 S1 H1, Gle g g' → Ext w w1 → RS F.K g' w1 S1 H1 → SqT F.K H1 a xs := by
  cases r with
  | d r =>
    obtain rfl := Option.some.inj h
    cases r with
    | tuple e rd => exact ⟨_, _, rfl, rd, fun _ w1 S1 H1 _ x R => .of (R.le _ _ (x.I.o _ _ e rfl))⟩
  | r _ => exact absurd rfl (hn _)
  | t _ _ => cases h
  | k r =>
    obtain rfl := Option.some.inj h
    cases r with
    | tuple s e => exact ⟨_, _, rfl, flats_RD e, fun _ w1 S1 H1 _ x R => SqT.mono R.hle (SqT.mono x.I s)⟩
theorem stays_s {w : Wd} {S : List Cell} {v : Val} {x : V} {z : Str} (r : RV F.K w v x) (h : vw S v = some (.str z)) (hn : ∀ n, v ≠ .r n) : x = .str z := by
  cases r with
  | d r =>
    obtain rfl := Option.some.inj h
    cases r; rfl
  | r _ => exact absurd rfl (hn _)
  | t _ _ => cases h
  | k r =>
    obtain rfl := Option.some.inj h
    cases r
theorem SI.any {tl : TE} {ma : Env → M Val} (ha : SE F tl ma) : SI (F := F) (iAny F.K tl) (fun ρ => bnd (ma ρ) fun v => bnd (viewI v) fun x => bnd (lift (itemsD x)) fun xs => Ev.ret (xs.map .d)) := fun g w ρ S σ H Q R E p => by
  dsimp only at p
  unfold bnd at p
  cases em : ma ρ S with
  | ex e S' => rw [em] at p; exact .inl (ha g w ρ S σ H _ R E (by rw [em]; exact fun w' H' c d => p w' H' c d))
  | no => rw [em] at p; exact p.elim
  | ok v S1 =>
    simp only [em] at p
    rcases viewI_res v S1 with ⟨d, e1, ev, hn⟩ | e1
    · simp only [e1] at p
      cases ei : itemsD d with
      | none => simp only [ei, lift] at p; exact p.elim
      | some ds =>
        simp only [ei, lift] at p
        have p : PI' (F := F) g w σ Q (.ok (ds.map .d) S1) := p
        cases d with
        | list xs =>
          obtain rfl : xs = ds := Option.some.inj ei
          refine .inl (ha g w ρ S σ H _ R E ?_)
          rw [em]
          intro w1 H1 x e1 R1 r1
          obtain ⟨a, vs, rfl, rd, st⟩ := stays_l (g := g) r1 ev hn
          exact ⟨_, rfl, ⟨_, st g w1 S1 H1 (.refl g) (.refl _) R1⟩, p w1 H1 _ e1 R1 (Itl_ok st (RDs.map_some (F := F) (w := w1) rd))⟩
        | tuple xs =>
          obtain rfl : xs = ds := Option.some.inj ei
          refine .inr (.inl (ha g w ρ S σ H _ R E ?_))
          rw [em]
          intro w1 H1 x e1 R1 r1
          obtain ⟨a, vs, rfl, rd, st⟩ := stays_t (g := g) r1 ev hn
          exact ⟨_, rfl, ⟨_, st g w1 S1 H1 (.refl g) (.refl _) R1⟩, p w1 H1 _ e1 R1 (Itt_ok st (RDs.map_some (F := F) (w := w1) rd))⟩
        | str z =>
          obtain rfl : _ = ds := Option.some.inj ei
          refine .inr (.inr (ha g w ρ S σ H _ R E ?_))
          rw [em]
          intro w1 H1 x e1 R1 r1
          obtain rfl := stays_s r1 ev hn
          exact ⟨_, rfl, p w1 H1 _ e1 R1 (Its_ok z)⟩
        | _ => cases ei
    · simp only [e1] at p; exact p.elim
end
end Ev
end
section
set_option Elab.async false
set_option linter.all false
set_option maxRecDepth 100000
namespace Ev
open PySem PySem.Spec L2
def Gh.hold (g : Gh) (w : Wd) (D : Addr) (o : HO) : Gh := ⟨upd g.out D o, w.I⟩
def Hp.del (H : Hp) (D : Addr) : Hp := fun b => if b = D then none else H b
theorem Hp.del_same {H : Hp} {D : Addr} : Hp.del H D D = none := if_pos rfl
theorem Hp.del_ne {H : Hp} {D b : Addr} (h : b ≠ D) : Hp.del H D b = H b := if_neg h
theorem Hp.upd_del {H : Hp} {D : Addr} {o : HO} (h : H D = some o) : upd (Hp.del H D) D o = H := by
  funext b
  by_cases hb : b = D
  · subst hb; rw [upd_same, h]
  · rw [upd_ne hb, Hp.del_ne hb]
section
variable {K : PySem.W.Frag} {g : Gh} {w w0 : Wd} {S : List Cell} {H : Hp} {D : Addr} {o o' : HO}
theorem RS.hold (R : RS K g w S H) (h : H D = none) : RS K (g.hold w D o) w S (upd H D o) where
  len := R.len
  le := fun b u e => by rw [upd_ne (ne_of_none e (R.Ifree h))]; exact R.le _ _ e
  out := fun b u e => by
    by_cases hb : b = D
    · subst hb
      have e : upd g.out b o b = some u := e
      rw [upd_same] at e ⊢; exact e
    · have e : upd g.out D o b = some u := e
      rw [upd_ne hb] at e ⊢; exact R.out _ _ e
  cell := fun n c e l => by
    obtain ⟨u, a, b, i, d⟩ := R.cell n c e l
    have ne : w.α n ≠ D := ne_of_none a h
    exact ⟨u, by rw [upd_ne ne]; exact a, b, i, by show upd g.out D o _ = none; rw [upd_ne ne]; exact d⟩
  inj := R.inj
  fr := fun b u e => .inl ⟨u, e⟩
theorem RS.held (R : RS K (g.hold w0 D o) w S H) : H D = some o := R.out D o upd_same
theorem RS.heldI (R : RS K (g.hold w0 D o) w S H) (h0 : w0.I D = none) : w.I D = none := by
  cases e : w.I D with
  | none => rfl
  | some u =>
    rcases R.fr D u e with ⟨v, q⟩ | q
    · have q : w0.I D = some v := q
      rw [h0] at q; cases q
    · have q : upd g.out D o D = none := q
      rw [upd_same] at q; cases q
theorem RS.heldα (R : RS K (g.hold w0 D o) w S H) {n : Nat} {c : Cell} (e : S[n]? = some c) (l : c.live = true) : w.α n ≠ D ∧ g.out (w.α n) = none := by
  obtain ⟨u, a, b, i, d⟩ := R.cell n c e l
  have d : upd g.out D o (w.α n) = none := d
  have ne : w.α n ≠ D := fun z => by rw [z, upd_same] at d; cases d
  rw [upd_ne ne] at d
  exact ⟨ne, d⟩
theorem RS.rehold (R : RS K (g.hold w0 D o) w S H) (h0 : w0.I D = none) : RS K (g.hold w0 D o') w S (upd H D o') where
  len := R.len
  le := fun b u e => by rw [upd_ne (ne_of_none e (R.heldI h0))]; exact R.le _ _ e
  out := fun b u e => by
    by_cases hb : b = D
    · subst hb
      have e : upd g.out b o' b = some u := e
      rw [upd_same] at e ⊢; exact e
    · have e : upd g.out D o' b = some u := e
      rw [upd_ne hb] at e ⊢; exact R.out _ _ (by show upd g.out D o b = _; rw [upd_ne hb]; exact e)
  cell := fun n c e l => by
    obtain ⟨u, a, b, i, d⟩ := R.cell n c e l
    obtain ⟨ne, d⟩ := R.heldα e l
    exact ⟨u, by rw [upd_ne ne]; exact a, b, i, by show upd g.out D o' _ = none; rw [upd_ne ne]; exact d⟩
  inj := R.inj
  fr := fun b u e => (R.fr b u e).elim .inl fun q => by
    have q : upd g.out D o b = none := q
    have ne : b ≠ D := fun z => by rw [z, upd_same] at q; cases q
    rw [upd_ne ne] at q
    exact .inr (by show upd g.out D o' b = none; rw [upd_ne ne]; exact q)
theorem RS.unhold {S0 : List Cell} {H0 : Hp} (R0 : RS K g w0 S0 H0) (h0 : H0 D = none) (R : RS K (g.hold w0 D o) w S H) : RS K g w S (Hp.del H D) where
  len := R.len
  le := fun b u e => by rw [Hp.del_ne (ne_of_none e (R.heldI (R0.Ifree h0)))]; exact R.le _ _ e
  out := fun b u e => by
    have ne : b ≠ D := ne_of_none e (R0.outfree h0)
    rw [Hp.del_ne ne]
    exact R.out _ _ (by show upd g.out D o b = _; rw [upd_ne ne]; exact e)
  cell := fun n c e l => by
    obtain ⟨u, a, b, i, d⟩ := R.cell n c e l
    obtain ⟨ne, d⟩ := R.heldα e l
    exact ⟨u, by rw [Hp.del_ne ne]; exact a, b, i, d⟩
  inj := R.inj
  fr := fun b u e => by
    rcases R.fr b u e with ⟨v, q⟩ | q
    · exact R0.fr b v q
    · have q : upd g.out D o b = none := q
      have ne : b ≠ D := fun z => by rw [z, upd_same] at q; cases q
      rw [upd_ne ne] at q
      exact .inr q
/-- it is let go: as an object of the store -/
theorem RS.held_new {S0 : List Cell} {H0 : Hp} (R0 : RS K g w0 S0 H0) (h0 : H0 D = none) (R : RS K (g.hold w0 D o) w S H) {c : Cell} (r : RC K w c o) : RS K g (w.new D) (S ++ [c]) H := by
  have := (RS.unhold R0 h0 R).new (p := D) (o := o) Hp.del_same r
  rwa [Hp.upd_del R.held] at this
/-- .. as what is never written -/
theorem RS.held_put {S0 : List Cell} {H0 : Hp} (R0 : RS K g w0 S0 H0) (h0 : H0 D = none) (R : RS K (g.hold w0 D o) w S H) : RS K g (w.put D o) S H := by
  have := (RS.unhold R0 h0 R).put (p := D) (o := o) Hp.del_same
  rwa [Hp.upd_del R.held] at this
end
theorem RVs.snoc {K : PySem.W.Frag} {w : Wd} : ∀ {vs : List Val} {xs : List V} {v : Val} {x : V}, RVs K w vs xs → RV K w v x → RVs K w (vs ++ [v]) (xs ++ [x])
  | _, _, _, _, .nil, r => .cons r .nil
  | _, _, _, _, .cons a b, r => .cons a (RVs.snoc b r)
def noF (F : Fx) : Fx := { F with W := fun _ _ _ _ => False }
theorem compL_step {β : Type} {body : Val → M (Option Val)} {v : Val} {rest acc : List Val} {k : List Val → M β} {S S1 : List Cell} {o : Option Val} (h : body v S = .ok o S1) :
    bnd (bnd (compL body (v :: rest)) fun r => Ev.ret (acc ++ r)) k S = bnd (bnd (compL body rest) fun r => Ev.ret ((acc ++ o.toList) ++ r)) k S1 := by
  have e : compL body (v :: rest) S = bnd (compL body rest) (fun r => Ev.ret (o.toList ++ r)) S1 := bnd_ok h
  cases e2 : compL body rest S1 with
  | ok r S2 =>
    have e3 : compL body (v :: rest) S = .ok (o.toList ++ r) S2 := by rw [e]; exact bnd_ok e2
    have e4 := bnd_ok (f := fun r => Ev.ret (acc ++ r)) e3
    have e5 := bnd_ok (f := fun r => Ev.ret ((acc ++ o.toList) ++ r)) e2
    rw [bnd_ok e4, bnd_ok e5, List.append_assoc]
  | ex x S2 =>
    have e3 : compL body (v :: rest) S = .ex x S2 := by rw [e]; unfold bnd; rw [e2]
    have e4 : bnd (compL body (v :: rest)) (fun r => Ev.ret (acc ++ r)) S = .ex x S2 := by unfold bnd; rw [e3]
    have e5 : bnd (compL body rest) (fun r => Ev.ret ((acc ++ o.toList) ++ r)) S1 = .ex x S2 := by unfold bnd; rw [e2]
    have e6 : bnd (bnd (compL body (v :: rest)) (fun r => Ev.ret (acc ++ r))) k S = .ex x S2 := by rw [bnd, e4]
    have e7 : bnd (bnd (compL body rest) (fun r => Ev.ret ((acc ++ o.toList) ++ r))) k S1 = .ex x S2 := by rw [bnd, e5]
    rw [e6, e7]
  | no =>
    have e3 : compL body (v :: rest) S = .no := by rw [e]; unfold bnd; rw [e2]
    have e4 : bnd (compL body (v :: rest)) (fun r => Ev.ret (acc ++ r)) S = .no := by unfold bnd; rw [e3]
    have e5 : bnd (compL body rest) (fun r => Ev.ret ((acc ++ o.toList) ++ r)) S1 = .no := by unfold bnd; rw [e2]
    have e6 : bnd (bnd (compL body (v :: rest)) (fun r => Ev.ret (acc ++ r))) k S = .no := by rw [bnd, e4]
    have e7 : bnd (bnd (compL body rest) (fun r => Ev.ret ((acc ++ o.toList) ++ r))) k S1 = .no := by rw [bnd, e5]
    rw [e6, e7]
theorem compL_len {body : Val → M (Option Val)} {us acc : List Val} {mu : Bool} {S : List Cell} (h : bnd (bnd (compL body us) fun r => Ev.ret (acc ++ r)) (mkList mu) S ≠ .no) (hx : ∀ v S e S', body v S ≠ .ex e S') : acc.length ≤ sizeLine := by
  have nx : ∀ (us : List Val) (S : List Cell) e S', compL body us S ≠ .ex e S' := by
    intro us
    induction us with
    | nil => intro S e S' h; cases h
    | cons v us ih =>
      intro S e S' h
      have h : bnd (body v) (fun o => bnd (compL body us) fun r => Ev.ret (o.toList ++ r)) S = .ex e S' := h
      unfold bnd at h
      cases eb : body v S with
      | ok o S1 =>
        simp only [eb] at h
        cases ec : compL body us S1 with
        | ok r S2 => simp only [ec] at h; cases h
        | ex _ _ => exact ih _ _ _ ec
        | no => simp only [ec] at h; cases h
      | ex _ _ => exact hx _ _ _ _ eb
      | no => simp only [eb] at h; cases h
  unfold bnd at h
  cases e : compL body us S with
  | ok r S2 =>
    simp only [e] at h
    have h : mkList mu (acc ++ r) S2 ≠ .no := h
    unfold mkList at h
    by_cases hl : (acc ++ r).length ≤ sizeLine
    · rw [List.length_append] at hl; omega
    · rw [if_neg hl] at h; exact (h rfl).elim
  | ex _ _ => exact (nx _ _ _ _ e).elim
  | no => simp only [e] at h; exact (h rfl).elim
theorem noex_ok {α : Type} {m : M α} {S S' : List Cell} {a : α} (h : noex m S = .ok a S') : m S = .ok a S' := by
  unfold noex at h
  cases e : m S with
  | ok b S1 => rw [e] at h; exact h
  | ex _ _ => rw [e] at h; cases h
  | no => rw [e] at h; cases h
theorem noex_ex {α : Type} {m : M α} {S S' : List Cell} {e : Exn} : noex m S ≠ .ex e S' := by
  unfold noex
  cases e : m S <;> intro h <;> cases h
theorem wipe_idem (σ : St) (vs : List Nat) : wipe (wipe σ vs) vs = wipe σ vs := by
  have go : ∀ us : List Nat, (∀ i, i ∈ us → i ∈ vs) → wipe (wipe σ us) vs = wipe σ vs := by
    intro us
    induction us with
    | nil => intro _; rfl
    | cons u us ih =>
      intro h
      show wipe ((wipe σ us).set u none) vs = _
      rw [wipe_set (h u (by simp)), ih fun i hi => h i (by simp [hi])]
  exact go vs fun _ h => h
section
variable {F : Fx}
theorem SE.comp {wi : TI} {gt : TG} {tt : TT} {te : TE} {mi : Env → M (List Val)} {a : Tg} {own vs : List Nat} {mt : Env → M Bool} {me : Env → M Val} (mu : Bool)
    (hi : SI (F := F) wi mi) (hg : SG (F := noF F) own gt (asgT a)) (ho : ∀ i, i ∈ own → i ∈ vs) (ht : ST (noF F) tt mt) (he : SE (noF F) te me) :
    SE F (tLc wi gt tt te vs) (fun ρ => bnd (mi ρ) fun us => bnd (compL (fun v => noex (bnd (asgT a v (wipeE ρ vs)) fun ρ' => bnd (mt ρ') fun b => if b = true then bnd (me ρ') fun x => Ev.ret (some x) else Ev.ret none)) us) (mkList mu)) := fun g w ρ S σ H Q R E p => by
  refine hi g w ρ S σ H _ R E ?_
  dsimp only at p
  unfold bnd at p
  cases ei : mi ρ S with
  | ex e S' => rw [ei] at p; exact fun w' H' c d => p w' H' c d
  | no => rw [ei] at p; exact p
  | ok us S1 =>
    rw [ei] at p
    intro w1 H1 J e1 R1 ok D hD
    generalize hbody : (fun v => noex (bnd (asgT a v (wipeE ρ vs)) fun ρ' => bnd (mt ρ') fun b => if b = true then bnd (me ρ') fun x => Ev.ret (some x) else Ev.ret none)) = body at p
    have p : PO F (RV F.K) g w σ Q (bnd (compL body us) (mkList mu) S1) := by rw [← hbody]; exact p
    have hx : ∀ v S e S', body v S ≠ .ex e S' := fun v S e S' h => by rw [← hbody] at h; exact noex_ex h
    have p : PO F (RV F.K) g w1 σ Q (bnd (bnd (compL body us) fun r => Ev.ret ([] ++ r)) (mkList mu) S1) := by
      have : bnd (bnd (compL body us) fun r => Ev.ret ([] ++ r)) (mkList mu) S1 = bnd (compL body us) (mkList mu) S1 := by
        unfold bnd
        cases e : compL body us S1 <;> simp
      rw [this]
      exact PO.ext e1 p
    refine ⟨fun i k H => ∃ w' S acc xs, Ext w1 w' ∧ RS F.K (g.hold w1 D (.lst xs)) w' S H ∧ RVs F.K w' acc xs ∧ k = us.length - i ∧ i ≤ us.length ∧ PO F (RV F.K) g w' σ Q (bnd (bnd (compL body (us.drop i)) fun r => Ev.ret (acc ++ r)) (mkList mu) S),
      ⟨us.length, w1, S1, [], [], .refl _, R1.hold hD, .nil, rfl, Nat.zero_le _, p⟩, ?_⟩
    rintro i k H2 ⟨w2, S2, acc, xs, e2, R2, rv2, rfl, hl, p2⟩
    have gl : Gle g (g.hold w1 D (.lst xs)) := fun b o e => by show upd g.out D _ b = _; rw [upd_ne (ne_of_none e (R1.outfree hD))]; exact e
    have it := ok _ w2 S2 H2 gl e2 R2 i
    by_cases hi : i < us.length
    · have ev : us[i]? = some us[i] := List.getElem?_eq_getElem hi
      obtain ⟨go, yl⟩ := it.1 _ ev
      refine .inr ⟨go, fun H => ∃ w' S acc xs, Ext w1 w' ∧ RS F.K (g.hold w1 D (.lst xs)) w' S H ∧ RVs F.K w' acc xs ∧ PO F (RV F.K) g w' σ Q (bnd (bnd (compL body (us.drop (i + 1))) fun r => Ev.ret (acc ++ r)) (mkList mu) S),
        fun H' ⟨w', S, acc, xs, a1, a2, a3, a4⟩ => ⟨us.length - (i + 1), by omega, w', S, acc, xs, a1, a2, a3, rfl, hi, a4⟩, fun x H3 y => ?_⟩
      obtain ⟨w3, e3, R3, r3⟩ := yl x H3 y
      rw [List.drop_eq_getElem_cons hi] at p2
      have p3 := PO.ext e3 p2
      have E3 : RE F.K w3 (wipeE ρ vs) (wipe σ vs) := ((E.mono (e1.trans e2)).wipe vs).mono e3
      refine hg (g.hold w1 D (.lst xs)) w3 _ S2 _ H3 _ us[i] x R3 E3 r3 ?_
      cases eb : body us[i] S2 with
      | no =>
        have z : bnd (bnd (compL body (us[i] :: us.drop (i + 1))) fun r => Ev.ret (acc ++ r)) (mkList mu) S2 = .no := by
          have z1 : compL body (us[i] :: us.drop (i + 1)) S2 = .no := by show bnd (body us[i]) _ S2 = _; unfold bnd; rw [eb]
          have z2 : bnd (compL body (us[i] :: us.drop (i + 1))) (fun r => Ev.ret (acc ++ r)) S2 = .no := by unfold bnd; rw [z1]
          rw [bnd, z2]
        rw [z] at p3
        exact p3.elim
      | ex _ _ => exact (hx _ _ _ _ eb).elim
      | ok o S4 =>
        rw [compL_step eb] at p3
        rw [← hbody] at eb
        have eb := noex_ok eb
        unfold bnd at eb
        cases ea : asgT a us[i] (wipeE ρ vs) S2 with
        | ex _ _ => rw [ea] at eb; cases eb
        | no => rw [ea] at eb; cases eb
        | ok ρ' S5 =>
          rw [ea] at eb
          intro w4 σ4 H4 e4 R4 E4 m4
          refine ⟨by rw [m4 vs ho, wipe_idem], ?_⟩
          refine ht _ w4 ρ' S5 σ4 H4 _ R4 E4 ?_
          cases et : mt ρ' S5 with
          | ex _ _ => simp only [et] at eb; cases eb
          | no => simp only [et] at eb; cases eb
          | ok b S6 =>
            simp only [et] at eb
            intro w5 H5 e5 R5
            cases b with
            | false =>
              have eb : Res.ok none S6 = .ok o S4 := eb
              cases eb
              have p4 := PO.ext (e4.trans e5) p3
              rw [show acc ++ (none : Option Val).toList = acc from List.append_nil acc] at p4
              rw [if_neg (by decide)]
              exact ⟨w5, _, acc, xs, ((e2.trans e3).trans e4).trans e5, R5, rv2.mono ((e3.trans e4).trans e5), p4⟩
            | true =>
              have eb : bnd (me ρ') (fun x => Ev.ret (some x)) S6 = .ok o S4 := eb
              unfold bnd at eb
              rw [if_pos rfl]
              refine he _ w5 ρ' S6 σ4 H5 _ R5 (E4.mono e5) ?_
              cases em : me ρ' S6 with
              | ex _ _ => rw [em] at eb; cases eb
              | no => rw [em] at eb; cases eb
              | ok y S7 =>
                rw [em] at eb
                have eb : Res.ok (some y) S7 = .ok o S4 := eb
                cases eb
                intro w6 H6 yv e6 R6 r6
                have e26 := ((e3.trans e4).trans e5).trans e6
                have p4 := PO.ext ((e4.trans e5).trans e6) p3
                have rv6 := RVs.snoc (rv2.mono e26) r6
                refine ⟨xs, R6.held, ?_, w6, _, acc ++ [y], xs ++ [yv], e2.trans e26, R6.rehold (R1.Ifree hD), rv6, p4⟩
                have hlen := compL_len (fun z => by rw [z] at p4; exact p4) hx
                rw [← rv2.length]
                simp only [Option.toList, List.length_append, List.length_cons, List.length_nil] at hlen
                omega
    · have hi' : i = us.length := by omega
      subst hi'
      rw [List.drop_length] at p2
      refine .inl ⟨it.2 (Nat.le_refl _), ?_⟩
      have p2 : PO F (RV F.K) g w2 σ Q (mkList mu (acc ++ []) S2) := p2
      rw [List.append_nil] at p2
      unfold mkList at p2
      by_cases hz : acc.length ≤ sizeLine
      · rw [if_pos hz] at p2
        cases mu with
        | true =>
          have p2 : PO F (RV F.K) g w2 σ Q (.ok (.r S2.length) (S2 ++ [.lst acc])) := p2
          have e3 : Ext w2 (w2.new D) := .new
          refine p2 (w2.new D) H2 (.ref D) e3 (RS.held_new R1 hD R2 (.lst rv2)) ?_
          have r : RV F.K (w2.new D) (.r w2.k) (.ref ((w2.new D).α w2.k)) := .r (Nat.lt_succ_self _)
          rw [Wd.new_at] at r
          rw [R2.len]
          exact r
        | false =>
          cases ea : allD acc with
          | none => simp only [ea] at p2; exact p2.elim
          | some ds =>
            simp only [ea] at p2
            have p2 : PO F (RV F.K) g w2 σ Q (.ok (.d (.list ds)) S2) := p2
            have e3 : Ext w2 (w2.put D (.lst xs)) := .put (R2.heldI (R1.Ifree hD))
            exact p2 _ H2 (.ref D) e3 (RS.held_put R1 hD R2) (.d (.list upd_same ((rv2.data ea).mono e3.I)))
      · rw [if_neg hz] at p2; exact p2.elim
end
end Ev
end
section
set_option Elab.async false
set_option linter.all false
set_option maxRecDepth 100000
namespace Ev
open PySem PySem.Spec L2
section
variable {F : Fx}
theorem pi_bind {β : Type} {P : Wd → Res β → Prop} {Q1 : List V → Hp → Prop} {m : M (List Val)} {f : List Val → M β} {S : List Cell} {g : Gh} {w : Wd} {σ : St}
    (h : P w (bnd m f S)) (hx : ∀ e S' w' H' c d, P w (.ex e S') → Ext w w' → RS F.K g w' S' H' → RX F.cA w' e c d H' → F.W c d σ H') (hn : ¬ P w .no)
    (k : ∀ v S' w' H' x, Ext w w' → RS F.K g w' S' H' → RVs F.K w' v x → P w (f v S') → Q1 x H') : PA' F g w σ Q1 (m S) := pa_bind h hx hn k
theorem PI'.ext {g : Gh} {w w' : Wd} {σ : St} {Q : L2.It → Hp → Prop} {r : Res (List Val)} (e : Ext w w') (h : PI' (F := F) g w σ Q r) : PI' (F := F) g w' σ Q r := by
  match r, h with
  | .ok v S', h => exact fun w2 H2 J e2 => h w2 H2 J (e.trans e2)
  | .ex _ S', h => exact fun w2 H2 c d e2 => h w2 H2 c d (e.trans e2)
  | .no, h => exact h
theorem SI.args {t : TA} {m : Env → M (List Val)} {f : List Val → M (List Val)} {r : List V → Hp → (L2.It → Hp → Prop) → Prop} (ha : SA F t m)
    (hr : ∀ g w S σ H Q us xs, RS F.K g w S H → RVs F.K w us xs → PI' (F := F) g w σ Q (f us S) → r xs H Q) : SI (F := F) (fun σ H R => t σ H fun vs H1 => r vs H1 R) (fun ρ => bnd (m ρ) f) := fun g w ρ S σ H Q R E h =>
  ha g w ρ S σ H _ R E (pa_bind (P := fun w r => PI' (F := F) g w σ Q r) h (fun e S' w' H' c d p => p w' H' c d) (fun p => p) fun u S1 w1 H1 x e1 R1 r1 p => hr g w1 S1 σ H1 Q u x R1 r1 (p.ext e1))
theorem SI.one {t : TE} {m : Env → M Val} {f : Val → M (List Val)} {r : V → Hp → (L2.It → Hp → Prop) → Prop} (ha : SE F t m)
    (hr : ∀ g w S σ H Q us xs, RS F.K g w S H → RV F.K w us xs → PI' (F := F) g w σ Q (f us S) → r xs H Q) : SI (F := F) (fun σ H R => t σ H fun vs H1 => r vs H1 R) (fun ρ => bnd (m ρ) f) := fun g w ρ S σ H Q R E h =>
  ha g w ρ S σ H _ R E (po_bind (P := fun w r => PI' (F := F) g w σ Q r) h (fun e S' w' H' c d p => p w' H' c d) (fun p => p) fun u S1 w1 H1 x e1 R1 r1 p => hr g w1 S1 σ H1 Q u x R1 r1 (p.ext e1))
section
variable {g : Gh} {w : Wd} {S : List Cell} {σ : St} {H : Hp} {Q : L2.It → Hp → Prop}
theorem pi_guard {b : Bool} {m : M (List Val)} (h : PI' (F := F) g w σ Q (guardM b m S)) : b = true ∧ PI' (F := F) g w σ Q (m S) := by
  cases b with
  | true => exact ⟨rfl, h⟩
  | false => exact h.elim
theorem okR_iff {i : Int} (h : okR i = true) : -(2 ^ 62) ≤ i ∧ i < 2 ^ 62 := by
  unfold okR at h
  simpa using h
theorem pi_viewI {v : Val} {f : PyData → M (List Val)} (h : PI' (F := F) g w σ Q (bnd (viewI v) f S)) : ∃ d, vw S v = some d ∧ (∀ n, v ≠ .r n) ∧ PI' (F := F) g w σ Q (f d S) := by
  rcases viewI_res v S with ⟨d, e, ev, hn⟩ | e
  · unfold bnd at h
    rw [e] at h
    exact ⟨d, ev, hn, h⟩
  · unfold bnd at h
    rw [e] at h
    exact h.elim
theorem rng1_snd {us : List Val} {xs : List V} (R : RS F.K g w S H) (r : RVs F.K w us xs) (hl : us.length = 1) (h : PI' (F := F) g w σ Q (rngM us S)) : ∃ j : Int, xs = [.int j] ∧ -(2 ^ 62) ≤ j ∧ j < 2 ^ 62 ∧ Q (Itr 0 j.toNat) H := by
  unfold rngM at h
  split at h
  · rename_i n
    cases r with
    | cons a b =>
      cases b
      cases a with
      | d a =>
        cases a
        obtain ⟨b, q⟩ := pi_guard h
        exact ⟨n, rfl, (okR_iff b).1, (okR_iff b).2, q w H _ (.refl _) R (Itr_ok 0 n.toNat)⟩
  · simp at hl
  · exact h.elim
theorem rng2_snd {us : List Val} {xs : List V} (R : RS F.K g w S H) (r : RVs F.K w us xs) (hl : us.length = 2) (h : PI' (F := F) g w σ Q (rngM us S)) :
    ∃ i j : Int, xs = [.int i, .int j] ∧ (-(2 ^ 62) ≤ i ∧ i < 2 ^ 62 ∧ -(2 ^ 62) ≤ j ∧ j < 2 ^ 62) ∧ Q (Itr i (j - i).toNat) H := by
  unfold rngM at h
  split at h
  · simp at hl
  · rename_i lo hi
    cases r with
    | cons a b =>
      cases b with
      | cons b c =>
        cases c
        cases a with
        | d a =>
          cases a
          cases b with
          | d b =>
            cases b
            obtain ⟨b, q⟩ := pi_guard h
            have b' : okR lo = true ∧ okR hi = true := by simpa using b
            exact ⟨lo, hi, rfl, ⟨(okR_iff b'.1).1, (okR_iff b'.1).2, (okR_iff b'.2).1, (okR_iff b'.2).2⟩, q w H _ (.refl _) R (Itr_ok lo _)⟩
  · exact h.elim
theorem enu_snd {us : List Val} {xs : List V} (R : RS F.K g w S H) (r : RVs F.K w us xs) (h : PI' (F := F) g w σ Q (enuM us S)) : ∃ a ys, xs = [.ref a] ∧ SqL F.K H a ys ∧ Q (Ite F.K a) H := by
  unfold enuM at h
  split at h
  · rename_i v
    obtain ⟨d, ed, hn, h⟩ := pi_viewI h
    cases r with
    | cons r0 b =>
      cases b
      cases d with
      | list ds =>
        obtain ⟨a, ys, rfl, rd, st⟩ := stays_l (g := g) r0 ed hn
        exact ⟨a, ys, rfl, st g w S H (.refl g) (.refl w) R, h w H _ (.refl _) R (Ite_ok st rd)⟩
      | _ => exact h.elim
  · exact h.elim
theorem ItzT_ok {a b : Addr} {xs ys : List V} {ds es : List PyData} (hl : ∀ g' w1 S H, Gle g g' → Ext w w1 → RS F.K g' w1 S H → SqT F.K H a xs ∧ SqT F.K H b ys) (rd : RDs w.I ds xs) (re : RDs w.I es ys) : ItOk F g w (zipL ds es) (RZ.ItzT F.K a b) := fun g' w1 S H gl e R i => by
  obtain ⟨q, q'⟩ := hl g' w1 S H gl e R
  refine ⟨fun v ev => ?_, fun hi => ⟨xs, ys, q, q', by rw [zipL_length] at hi; rw [← rd.length, ← re.length]; omega⟩⟩
  obtain ⟨d, e', ed, ee, rfl⟩ := zipL_get ds es i v ev
  obtain ⟨x, ex, rx⟩ := rd.get ed
  obtain ⟨y, ey, ry⟩ := re.get ee
  refine ⟨⟨xs, ys, x, y, q, q', ex, ey⟩, fun v H' yl => ?_⟩
  obtain ⟨T, x', y', rfl, hT, rfl, z1, z2⟩ := yl
  have e2 := z1 xs q
  rw [ex] at e2
  obtain rfl := Option.some.inj e2
  have e2 := z2 ys q'
  rw [ey] at e2
  obtain rfl := Option.some.inj e2
  have e3 : Ext w1 (w1.put T (.tup [x, y])) := .put (R.Ifree hT)
  exact ⟨_, e3, R.put hT, .d (.tuple upd_same (.cons (rx.mono (e.trans e3).I) (.cons (ry.mono (e.trans e3).I) .nil)))⟩
theorem zip_snd {us : List Val} {xs : List V} (R : RS F.K g w S H) (r : RVs F.K w us xs) (h : PI' (F := F) g w σ Q (zipM us S)) :
    ∃ a b ys zs, xs = [.ref a, .ref b] ∧ ((SqL F.K H a ys ∧ SqL F.K H b zs ∧ Q (Itz F.K a b) H) ∨ (SqT F.K H a ys ∧ SqT F.K H b zs ∧ Q (RZ.ItzT F.K a b) H)) := by
  unfold zipM at h
  split at h
  · rename_i v u
    obtain ⟨d, ed, hn, h⟩ := pi_viewI h
    obtain ⟨e, ee, hn2, h⟩ := pi_viewI h
    cases r with
    | cons r0 b =>
      cases b with
      | cons r1 c =>
        cases c
        cases d with
        | list ds =>
          cases e with
          | list es =>
            obtain ⟨a, ys, rfl, rd, st⟩ := stays_l (g := g) r0 ed hn
            obtain ⟨b, zs, rfl, re, st2⟩ := stays_l (g := g) r1 ee hn2
            exact ⟨a, b, ys, zs, rfl, .inl ⟨st g w S H (.refl g) (.refl w) R, st2 g w S H (.refl g) (.refl w) R, h w H _ (.refl _) R (Itz_ok (fun g' w1 S H gl e R => ⟨st g' w1 S H gl e R, st2 g' w1 S H gl e R⟩) rd re)⟩⟩
          | _ => exact h.elim
        | tuple ds =>
          cases e with
          | tuple es =>
            obtain ⟨a, ys, rfl, rd, st⟩ := stays_t (g := g) r0 ed hn
            obtain ⟨b, zs, rfl, re, st2⟩ := stays_t (g := g) r1 ee hn2
            exact ⟨a, b, ys, zs, rfl, .inr ⟨st g w S H (.refl g) (.refl w) R, st2 g w S H (.refl g) (.refl w) R, h w H _ (.refl _) R (ItzT_ok (fun g' w1 S H gl e R => ⟨st g' w1 S H gl e R, st2 g' w1 S H gl e R⟩) rd re)⟩⟩
          | _ => exact h.elim
        | _ => exact h.elim
  · exact h.elim
theorem get_rev {α : Type} {xs : List α} {i : Nat} (h : i < xs.length) : xs.reverse[i]? = xs[xs.length - 1 - i]? := List.getElem?_reverse h
theorem Itv_ok {a : Addr} {xs : List V} {ds : List PyData} (hl : ∀ g' w1 S H, Gle g g' → Ext w w1 → RS F.K g' w1 S H → SqL F.K H a xs) (rd : RDs w.I ds xs) : ItOk F g w (ds.reverse.map .d) (Itv F.K a xs.length) := fun g' w1 S H gl e R i => by
  have q := hl g' w1 S H gl e R
  have lr : (ds.reverse.map Val.d).length = xs.length := by rw [List.length_map, List.length_reverse, rd.length]
  refine ⟨fun v ev => ?_, fun hi => by rw [lr] at hi; exact hi⟩
  have hi : i < xs.length := by rw [← lr]; exact (List.getElem?_eq_some_iff.mp ev).1
  rw [List.getElem?_map, get_rev (by rw [rd.length]; exact hi), rd.length] at ev
  obtain ⟨d, ed, rfl⟩ := Option.map_eq_some_iff.mp ev
  obtain ⟨x, ex, rx⟩ := rd.get ed
  refine ⟨⟨hi, xs, x, q, ex⟩, fun v H' y => ?_⟩
  obtain ⟨rfl, y⟩ := y
  have e2 := y xs q
  rw [ex] at e2
  obtain rfl := Option.some.inj e2
  exact ⟨w1, .refl _, R, .d (rx.mono e.I)⟩
theorem ItvT_ok {a : Addr} {xs : List V} {ds : List PyData} (hl : ∀ g' w1 S H, Gle g g' → Ext w w1 → RS F.K g' w1 S H → SqT F.K H a xs) (rd : RDs w.I ds xs) : ItOk F g w (ds.reverse.map .d) (RT.ItvT F.K a xs.length) := fun g' w1 S H gl e R i => by
  have q := hl g' w1 S H gl e R
  have lr : (ds.reverse.map Val.d).length = xs.length := by rw [List.length_map, List.length_reverse, rd.length]
  refine ⟨fun v ev => ?_, fun hi => by rw [lr] at hi; exact hi⟩
  have hi : i < xs.length := by rw [← lr]; exact (List.getElem?_eq_some_iff.mp ev).1
  rw [List.getElem?_map, get_rev (by rw [rd.length]; exact hi), rd.length] at ev
  obtain ⟨d, ed, rfl⟩ := Option.map_eq_some_iff.mp ev
  obtain ⟨x, ex, rx⟩ := rd.get ed
  refine ⟨⟨hi, xs, x, q, ex⟩, fun v H' y => ?_⟩
  obtain ⟨rfl, y⟩ := y
  have e2 := y xs q
  rw [ex] at e2
  obtain rfl := Option.some.inj e2
  exact ⟨w1, .refl _, R, .d (rx.mono e.I)⟩
theorem rev_it_snd {v : Val} {x : V} (R : RS F.K g w S H) (r : RV F.K w v x) (h : PI' (F := F) g w σ Q (revM v S)) :
    ∃ (a : Addr) (xs : List V), x = .ref a ∧ ((SqL F.K H a xs ∧ Q (Itv F.K a xs.length) H) ∨ (SqT F.K H a xs ∧ Q (RT.ItvT F.K a xs.length) H)) := by
  unfold revM at h
  obtain ⟨d, ed, hn, h⟩ := pi_viewI h
  cases d with
  | list ds =>
    obtain ⟨a, ys, rfl, rd, st⟩ := stays_l (g := g) r ed hn
    exact ⟨a, ys, rfl, .inl ⟨st g w S H (.refl g) (.refl w) R, h w H _ (.refl _) R (Itv_ok st rd)⟩⟩
  | tuple ds =>
    obtain ⟨a, ys, rfl, rd, st⟩ := stays_t (g := g) r ed hn
    exact ⟨a, ys, rfl, .inr ⟨st g w S H (.refl g) (.refl w) R, h w H _ (.refl _) R (ItvT_ok st rd)⟩⟩
  | _ => exact h.elim
end
theorem SI.rng1 {ta : TA} {m : Env → M (List Val)} (ha : SA F ta m) (hl : ∀ ρ S vs S', m ρ S = .ok vs S' → vs.length = 1) : SI (F := F) (iRng1 ta) (fun ρ => bnd (m ρ) rngM) := fun g w ρ S σ H Q R E h =>
  ha g w ρ S σ H _ R E (by
    dsimp only at h
    unfold bnd at h
    cases e : m ρ S with
    | ok vs S1 => rw [e] at h; exact fun w1 H1 xs e1 R1 r1 => rng1_snd R1 r1 (hl _ _ _ _ e) (PI'.ext e1 h)
    | ex _ _ => rw [e] at h; exact fun w' H' c d => h w' H' c d
    | no => rw [e] at h; exact h)
theorem SI.rng2 {ta : TA} {m : Env → M (List Val)} (ha : SA F ta m) (hl : ∀ ρ S vs S', m ρ S = .ok vs S' → vs.length = 2) : SI (F := F) (iRng2 ta) (fun ρ => bnd (m ρ) rngM) := fun g w ρ S σ H Q R E h =>
  ha g w ρ S σ H _ R E (by
    dsimp only at h
    unfold bnd at h
    cases e : m ρ S with
    | ok vs S1 => rw [e] at h; exact fun w1 H1 xs e1 R1 r1 => rng2_snd R1 r1 (hl _ _ _ _ e) (PI'.ext e1 h)
    | ex _ _ => rw [e] at h; exact fun w' H' c d => h w' H' c d
    | no => rw [e] at h; exact h)
theorem SI.enu {ta : TA} {m : Env → M (List Val)} (ha : SA F ta m) : SI (F := F) (iEnum F.K ta) (fun ρ => bnd (m ρ) enuM) := SI.args ha fun g w S σ H Q us xs R r h => enu_snd R r h
theorem SI.zip {ta : TA} {m : Env → M (List Val)} (ha : SA F ta m) : SI (F := F) (RZ.iZipA F.K ta) (fun ρ => bnd (m ρ) zipM) := SI.args ha fun g w S σ H Q us xs R r h => zip_snd R r h
theorem SI.rev {ta : TE} {m : Env → M Val} (ha : SE F ta m) : SI (F := F) (RT.iRevA F.K ta) (fun ρ => bnd (m ρ) revM) := SI.one ha fun g w S σ H Q us xs R r h => rev_it_snd R r h

theorem SE.andV {ta tb : TE} {ma mb : Env → M Val} (ha : SE F ta ma) (hb : SE F tb mb) : SE F (tAndV ta tb) (fun ρ => bnd (ma ρ) fun v => bnd (truB v) fun b => if b = true then mb ρ else Ev.ret (.d (.bool false))) := fun g w ρ S σ H Q R E q =>
  ha g w ρ S σ H _ R E (po_bind (P := fun w r => PO F (RV F.K) g w σ Q r) q (fun e S' w' H' c d p => p w' H' c d) (fun p => p) fun v S1 w1 H1 x e1 R1 r1 p => by
    obtain ⟨b, rfl, p⟩ := tru_inv (P := fun r => PO F (RV F.K) g w σ Q r) p (fun z => z)
    cases r1 with
    | d r1 =>
      cases r1
      refine ⟨b, rfl, ?_⟩
      cases b with
      | true => exact hb g w1 ρ S1 σ H1 Q R1 (E.mono e1) (p.ext e1)
      | false => exact p w1 H1 _ e1 R1 (.d (.bool false)))
theorem SE.orV {ta tb : TE} {ma mb : Env → M Val} (ha : SE F ta ma) (hb : SE F tb mb) : SE F (tOrV ta tb) (fun ρ => bnd (ma ρ) fun v => bnd (truB v) fun b => if b = true then Ev.ret (.d (.bool true)) else mb ρ) := fun g w ρ S σ H Q R E q =>
  ha g w ρ S σ H _ R E (po_bind (P := fun w r => PO F (RV F.K) g w σ Q r) q (fun e S' w' H' c d p => p w' H' c d) (fun p => p) fun v S1 w1 H1 x e1 R1 r1 p => by
    obtain ⟨b, rfl, p⟩ := tru_inv (P := fun r => PO F (RV F.K) g w σ Q r) p (fun z => z)
    cases r1 with
    | d r1 =>
      cases r1
      refine ⟨b, rfl, ?_⟩
      cases b with
      | false => exact hb g w1 ρ S1 σ H1 Q R1 (E.mono e1) (p.ext e1)
      | true => exact p w1 H1 _ e1 R1 (.d (.bool true)))
theorem SE.notV {ta : TE} {ma : Env → M Val} (ha : SE F ta ma) : SE F (tNotV ta) (fun ρ => bnd (ma ρ) fun v => bnd (truB v) fun b => Ev.ret (.d (.bool (!b)))) := fun g w ρ S σ H Q R E q =>
  ha g w ρ S σ H _ R E (po_bind (P := fun w r => PO F (RV F.K) g w σ Q r) q (fun e S' w' H' c d p => p w' H' c d) (fun p => p) fun v S1 w1 H1 x e1 R1 r1 p => by
    obtain ⟨b, rfl, p⟩ := tru_inv (P := fun r => PO F (RV F.K) g w σ Q r) p (fun z => z)
    cases r1 with
    | d r1 =>
      cases r1
      exact ⟨b, rfl, p w1 H1 _ e1 R1 (.d (.bool _))⟩)
theorem SE.neg {ta : TE} {ma : Env → M Val} (ha : SE F ta ma) : SE F (tUn (rU fun i => .int (-i)) ta) (fun ρ => bnd (ma ρ) negM) := SE.one ha fun g w S σ H Q u x R r h => by
  unfold negM at h
  split at h
  · cases r with
    | d r =>
      cases r
      exact ⟨_, rfl, h w H _ (.refl _) R (.d (.int _))⟩
  · exact h.elim
end
end Ev
end
section
set_option Elab.async false
set_option linter.all false
set_option maxRecDepth 100000
namespace Ev
open PySem PySem.Spec L2
section
variable {F : Fx}
theorem lift_res {α : Type} (o : Option α) (S : List Cell) : (∃ a, o = some a ∧ lift o S = .ok a S) ∨ lift o S = .no := by
  cases o with
  | none => exact .inr rfl
  | some a => exact .inl ⟨a, rfl, rfl⟩
/-- it leaves the store as it is -/
def Pure {α : Type} (m : M α) : Prop := ∀ S, (∃ a, m S = .ok a S) ∨ m S = .no
theorem Pure.lift {α : Type} (o : Option α) : Pure (Ev.lift o) := fun S => (lift_res o S).elim (fun ⟨a, _, h⟩ => .inl ⟨a, h⟩) .inr
theorem Pure.fail {α : Type} : Pure (Ev.fail (α := α)) := fun _ => .inr rfl
theorem Pure.ret {α : Type} (a : α) : Pure (Ev.ret a) := fun _ => .inl ⟨a, rfl⟩
theorem Pure.bnd {α β : Type} {m : M α} {f : α → M β} (h : Pure m) (h2 : ∀ a, Pure (f a)) : Pure (Ev.bnd m f) := fun S => by
  unfold Ev.bnd
  rcases h S with ⟨a, e⟩ | e
  · rw [e]; exact h2 a S
  · rw [e]; exact .inr rfl
theorem Pure.view (v : Val) : Pure (Ev.view v) := fun S => by
  unfold Ev.view
  cases e : vw S v with
  | none => exact .inr rfl
  | some a => exact .inl ⟨a, rfl⟩
theorem Pure.viewd (v : Val) : Pure (Ev.viewd v) := fun S => by
  unfold Ev.viewd
  cases e : vwd S v with
  | none => exact .inr rfl
  | some a => exact .inl ⟨a, rfl⟩
theorem inM_pure (a b : Val) : Pure (inM a b) := by
  unfold inM
  refine .bnd (.viewd a) fun x => ?_
  cases b with
  | r n =>
    intro S
    dsimp only
    cases S[n]? with
    | none => exact Pure.bnd (.view _) (fun y => .lift _) S
    | some c =>
      cases c with
      | dk kvs =>
        dsimp only
        cases keyOf x with
        | none => exact .inr rfl
        | some k => exact .inl ⟨_, rfl⟩
      | dt kvs =>
        dsimp only
        cases keysOf x with
        | none => exact .inr rfl
        | some k => exact .inl ⟨_, rfl⟩
      | _ => exact Pure.bnd (.view _) (fun y => .lift _) S
  | _ => exact .bnd (.view _) fun y => .lift _
theorem cmpM_pure (o : COp) (a b : Val) : Pure (cmpM o a b) := by
  cases o with
  | in_ => exact inM_pure a b
  | nin => exact .bnd (inM_pure a b) fun r => .ret _
  | _ => exact .bnd (.view _) fun x => .bnd (.view _) fun y => .lift _
theorem SE.chn {o p : COp} {ta tb tc : TE} {ma mb mc : Env → M Val} (ha : SE F ta ma) (hb : SE F tb mb) (hc : SE F tc mc) :
    SE F (tChain (rCmp F.K o) (rCmp F.K p) ta tb tc) (fun ρ => bnd (ma ρ) fun x => bnd (mb ρ) fun y => bnd (cmpM o x y) fun r => if r = true then bnd (mc ρ) fun z => bnd (cmpM p y z) fun r => Ev.ret (.d (.bool r)) else Ev.ret (.d (.bool false))) := fun g w ρ S σ H Q R E h =>
  ha g w ρ S σ H _ R E (po_bind (P := fun w r => PO F (RV F.K) g w σ Q r) h (fun e S' w' H' c d p => p w' H' c d) (fun p => p) fun u S1 w1 H1 x e1 R1 r1 p1 =>
    hb g w1 ρ S1 σ H1 _ R1 (E.mono e1) (po_bind (P := fun w r => PO F (RV F.K) g w σ Q r) (p1.ext e1) (fun e S' w' H' c d p => p w' H' c d) (fun p => p) fun v S2 w2 H2 y e2 R2 r2 p2 => by
      have p2 := p2.ext e2
      refine cmp_snd (σ := σ) o R2 (r1.mono e2) r2 ?_
      rcases cmpM_pure o u v S2 with ⟨r, er⟩ | er
      · have p2 : PO F (RV F.K) g w2 σ Q (bnd (cmpM o u v) _ S2) := p2
        rw [bnd_ok er] at p2
        rw [bnd_ok er]
        intro w3 H3 z e3 R3 r3
        cases r3 with
        | d r3 =>
          cases r3
          refine ⟨r, rfl, ?_⟩
          cases r with
          | false => exact p2 w3 H3 _ e3 R3 (.d (.bool false))
          | true =>
            rw [if_pos rfl]
            exact hc g w3 ρ S2 σ H3 _ R3 (E.mono ((e1.trans e2).trans e3)) (po_bind (P := fun w r => PO F (RV F.K) g w σ Q r) (p2.ext e3) (fun e S' w' H' c d p => p w' H' c d) (fun p => p) fun z S4 w4 H4 zv e4 R4 r4 p4 =>
              cmp_snd p R4 (r2.mono (e3.trans e4)) r4 (p4.ext e4))
      · have p2 : PO F (RV F.K) g w2 σ Q (bnd (cmpM o u v) _ S2) := p2
        unfold bnd at p2
        rw [er] at p2
        exact p2.elim))

theorem RKV.put {κ : Type} [DecidableEq κ] {K : PySem.W.Frag} {w : Wd} (k : κ) {u : Val} {y : V} (ry : RV K w u y) {x : List (κ × Val)} {v : List (κ × V)} (r : RKV K w x v) : RKV K w (storeK x k u) (putK v k y) := by
  have ha : ∀ {x : List (κ × Val)} {v : List (κ × V)}, RKV K w x v → (x.any fun kv => decide (kv.1 = k)) = (v.any fun kv => decide (kv.1 = k)) := by
    intro x v r
    induction r with
    | nil => rfl
    | cons h _ ih => rw [List.any_cons, List.any_cons, ih, h.1]
  have hm : ∀ {x : List (κ × Val)} {v : List (κ × V)}, RKV K w x v → RKV K w (x.map fun kv => if kv.1 = k then (kv.1, u) else kv) (v.map fun kv => if kv.1 = k then (kv.1, y) else kv) := by
    intro x v r
    induction r with
    | nil => exact .nil
    | cons h _ ih =>
      rename_i p q _ _ _
      rw [List.map_cons, List.map_cons]
      refine .cons ?_ ih
      by_cases e : p.1 = k
      · rw [if_pos e, if_pos (h.1 ▸ e)]; exact ⟨h.1, ry⟩
      · rw [if_neg e, if_neg (fun z => e (h.1.trans z))]; exact h
  have hs : ∀ {x : List (κ × Val)} {v : List (κ × V)}, RKV K w x v → RKV K w (x ++ [(k, u)]) (v ++ [(k, y)]) := by
    intro x v r
    induction r with
    | nil => exact .cons ⟨rfl, ry⟩ .nil
    | cons h _ ih => exact .cons h ih
  unfold storeK putK
  rw [ha r]
  split
  · exact hm r
  · exact hs r
theorem RKV.length {κ : Type} {K : PySem.W.Frag} {w : Wd} {x : List (κ × Val)} {v : List (κ × V)} (r : RKV K w x v) : x.length = v.length := Paired.length r
def rPut : TSet := fun o i v H Q => rSetL o i v H Q ∨ rSetD o i v H Q
theorem set_put {X : Cx} (hu : X.A.units + 1 < cLine) : PSet X rPut := fun pins s σ H o i v ov iv u Q I ro ri rv h =>
  h.elim (set_list pins s σ H o i v ov iv u Q I ro ri rv) (set_dict hu pins s σ H o i v ov iv u Q I ro ri rv)
theorem put_snd {g : Gh} {w : Wd} {S : List Cell} {σ : St} {H : Hp} {P : Unit → Hp → Prop} {x y v : Val} {o i z : V} (R : RS F.K g w S H) (rx : RV F.K w x o) (ry : RV F.K w y i) (rv : RV F.K w v z) (h : PB F g w σ P (putM x y v S)) :
    rPut o i z H (P ()) := by
  unfold putM at h
  cases ry with
  | @d y i ry =>
    have ru := ry.ru R
    cases rx with
    | @r n hn =>
      have fin : ∀ {c c' : Cell} {u : HO}, S[n]? = some c → c.live = true → RC F.K w c' u → c'.live = true → PB F g w σ P (.ok () (S.set n c')) → P () (upd H (w.α n) u) := fun {c c' u} ec l r l' h => h w _ (.refl _) (R.set ec l r l')
      cases ec : S[n]? with
      | none => simp only [ec] at h; exact h.elim
      | some c =>
        cases c with
        | lst xs =>
          obtain ⟨ho, a1, b1, _⟩ := R.cell n _ ec rfl
          cases b1 with
          | lst b1 =>
            cases y with
            | int k =>
              simp only [ec] at h
              cases ej : ixN xs.length k with
              | none => simp only [ej] at h; exact h.elim
              | some j =>
                simp only [ej] at h
                cases ry
                exact .inl ⟨_, _, k, j, rfl, rfl, a1, by rw [← b1.length]; exact ej, fin ec rfl (.lst (RVs.set rv j b1)) rfl h⟩
            | _ => simp only [ec] at h; exact h.elim
        | dk kvs =>
          obtain ⟨ho, a1, b1, _⟩ := R.cell n _ ec rfl
          cases b1 with
          | dk b1 =>
            simp only [ec] at h
            cases ek : keyOf y with
            | none => simp only [ek] at h; exact h.elim
            | some k =>
              simp only [ek] at h
              by_cases hl : kvs.length < sizeLine
              · rw [if_pos hl] at h
                have hv : i = kV k := by
                  cases ru with
                  | flat e2 => exact Option.some.inj (e2.symm.trans (keyOf_flat ek))
                  | _ => cases ek
                exact .inr ⟨_, _, rfl, .inl ⟨_, k, a1, hv, by rw [← b1.length]; exact hl, rfl⟩, fin ec rfl (.dk (RKV.put k rv b1)) rfl h⟩
              · rw [if_neg hl] at h; exact h.elim
        | dt kvs =>
          obtain ⟨ho, a1, b1, _⟩ := R.cell n _ ec rfl
          cases b1 with
          | dt b1 =>
            simp only [ec] at h
            cases ek : keysOf y with
            | none => simp only [ek] at h; exact h.elim
            | some k =>
              simp only [ek] at h
              by_cases hl : kvs.length < sizeLine
              · rw [if_pos hl] at h
                obtain ⟨b, rfl, eb⟩ := ru.keys ek
                exact .inr ⟨_, _, rfl, .inr ⟨_, k, b, a1, rfl, eb, by rw [← b1.length]; exact hl, rfl⟩, fin ec rfl (.dt (RKV.put k rv b1)) rfl h⟩
              · rw [if_neg hl] at h; exact h.elim
        | _ => simp only [ec] at h; exact h.elim
    | _ => exact h.elim
  | _ => cases x <;> exact h.elim
/-- o[i] = e -/
theorem SS.sub {te to ti : TE} {me mo mi : Env → M Val} (he : SE F te me) (ho : SE F to mo) (hi : SE F ti mi) :
    SS F (tAsg te (gSub to ti rPut)) (fun ρ => bnd (me ρ) fun v => bnd (mo ρ) fun x => bnd (mi ρ) fun y => bnd (putM x y v) fun _ => Ev.ret (.nx ρ)) := fun g w ρ S σ H D R E p =>
  he g w ρ S σ H _ R E (po_bind (P := fun w r => PF F g w D r) p (pf_ex σ) (fun p => p) fun v S1 w1 H1 x e1 R1 r1 p =>
    ho g w1 ρ S1 σ H1 _ R1 (E.mono e1) (po_bind (P := fun w r => PF F g w D r) (PF.ext e1 p) (pf_ex σ) (fun p => p) fun v2 S2 w2 H2 x2 e2 R2 r2 p2 =>
      hi g w2 ρ S2 σ H2 _ R2 (E.mono (e1.trans e2)) (po_bind (P := fun w r => PF F g w D r) (PF.ext e2 p2) (pf_ex σ) (fun p => p) fun v3 S3 w3 H3 x3 e3 R3 r3 p3 =>
        put_snd (σ := σ) (P := fun _ H' => D.nx σ H') R3 (r2.mono e3) r3 (r1.mono (e2.trans e3)) (by
          have p3 := PF.ext e3 p3
          unfold bnd at p3
          cases e : putM v2 v3 v S3 with
          | ok u S4 => rw [e] at p3; exact fun w4 H4 e4 R4 => p3 w4 σ H4 e4 R4 (E.mono (((e1.trans e2).trans e3).trans e4))
          | ex _ _ => rw [e] at p3; exact fun w' H' c d => p3 w' σ H' c d
          | no => rw [e] at p3; exact p3))))
/-- a, b = x, y -/
theorem SS.par {i j : Nat} {ta : TA} {m : Env → M (List Val)} (ha : SA F ta m) : SS F (tPar i j ta) (fun ρ => bnd (m ρ) (parM [i, j] ρ)) := fun g w ρ S σ H D R E p =>
  ha g w ρ S σ H _ R E (pa_bind (P := fun w r => PF F g w D r) p (pf_ex σ) (fun p => p) fun vs S1 w1 H1 xs e1 R1 r1 p => by
    cases r1 with
    | nil => exact p.elim
    | cons a b =>
      cases b with
      | nil => exact p.elim
      | cons b c =>
        cases c with
        | nil => exact ⟨_, _, rfl, p w1 _ H1 e1 R1 (((E.mono e1).set i a).set j b)⟩
        | cons _ _ => exact p.elim)
theorem SS.par3 {i j l : Nat} {ta : TA} {m : Env → M (List Val)} (ha : SA F ta m) : SS F (tPar3 i j l ta) (fun ρ => bnd (m ρ) (parM [i, j, l] ρ)) := fun g w ρ S σ H D R E p =>
  ha g w ρ S σ H _ R E (pa_bind (P := fun w r => PF F g w D r) p (pf_ex σ) (fun p => p) fun vs S1 w1 H1 xs e1 R1 r1 p => by
    cases r1 with
    | nil => exact p.elim
    | cons a b =>
      cases b with
      | nil => exact p.elim
      | cons b c =>
        cases c with
        | nil => exact p.elim
        | cons c d =>
          cases d with
          | nil => exact ⟨_, _, _, rfl, p w1 _ H1 e1 R1 ((((E.mono e1).set i a).set j b).set l c)⟩
          | cons _ _ => exact p.elim)
def opA : BOp → Option Operator
  | .add => some .Add
  | .sub => some .Sub
  | _ => none
def rAug : BOp → TIp
  | .add => fun x y H Q => rI0 (fun i j => .int (i + j)) x y H Q ∨ ∃ i j, x = .str i ∧ y = .str j ∧ i.length + j.length ≤ sizeLine ∧ Q (.str (i ++ j)) H
  | .sub => rI0 fun i j => .int (i - j)
  | _ => fun _ _ _ _ => False
theorem aug_snd (o : BOp) {g : Gh} {w : Wd} {S : List Cell} {σ : St} {H : Hp} {Q : VK} {a b : Val} {x y : V} (R : RS F.K g w S H) (ra : RV F.K w a x) (rb : RV F.K w b y) (h : PO F (RV F.K) g w σ Q (augM o a b S)) : rAug o x y H Q := by
  unfold augM at h
  split at h
  · cases ra with
    | d ra =>
      cases ra
      cases rb with
      | d rb => cases rb; exact .inl ⟨_, _, rfl, rfl, h w H _ (.refl _) R (.d (.int _))⟩
  · cases ra with
    | d ra =>
      cases ra
      cases rb with
      | d rb => cases rb; exact ⟨_, _, rfl, rfl, h w H _ (.refl _) R (.d (.int _))⟩
  · rename_i x y
    by_cases hl : x.length + y.length ≤ sizeLine
    · rw [if_pos hl] at h
      cases ra with
      | d ra =>
        cases ra
        cases rb with
        | d rb => cases rb; exact .inr ⟨_, _, rfl, rfl, hl, h w H _ (.refl _) R (.d (.str _))⟩
    · rw [if_neg hl] at h; exact h.elim
  · exact h.elim
theorem SS.aug {i : Nat} (o : BOp) {te : TE} {me : Env → M Val} (he : SE F te me) :
    SS F (tAug i te (rAug o)) (fun ρ => bnd (lift (ρ[i]?.join)) fun v => bnd (me ρ) fun w => bnd (augM o v w) fun x => Ev.ret (.nx (ρ.set i (some x)))) := fun g w ρ S σ H D R E p => by
  dsimp only at p
  cases ev : ρ[i]?.join with
  | none => rw [ev] at p; exact p.elim
  | some v =>
    rw [ev] at p
    have p : PF F g w D (bnd (me ρ) (fun w => bnd (augM o v w) fun x => Ev.ret (.nx (ρ.set i (some x)))) S) := p
    have ev' : ρ[i]? = some (some v) := by
      cases e : ρ[i]? with
      | none => rw [e] at ev; cases ev
      | some o => rw [e] at ev; have : o = some v := ev; rw [this]
    obtain ⟨x, ex, rx⟩ := E.at_ i v ev'
    refine ⟨x, ex, he g w ρ S σ H _ R E (po_bind (P := fun w r => PF F g w D r) p (pf_ex σ) (fun p => p) fun v2 S2 w2 H2 x2 e2 R2 r2 p2 => ?_)⟩
    refine aug_snd (σ := σ) o R2 (rx.mono e2) r2 (po_bind (P := fun w r => PF F g w D r) (PF.ext e2 p2) (pf_ex σ) (fun p => p) fun v3 S3 w3 H3 x3 e3 R3 r3 p3 => ?_)
    exact PF.ext e3 p3 w3 _ H3 (.refl _) R3 ((E.mono (e2.trans e3)).set i r3)

def SPs (trs : List (TE × TE)) (m : Env → M (List (Key × Val))) : Prop := ∀ g w ρ S σ H (Q : List (V × V) → Hp → Prop), RS F.K g w S H → RE F.K w ρ σ → (match m ρ S with
  | .ok kvs S' => ∀ w' H' ps, Ext w w' → RS F.K g w' S' H' → RKV F.K w' kvs ps → Q (ps.map fun kv => (kV kv.1, kv.2)) H'
  | .ex e S' => ∀ w' H' c d, Ext w w' → RS F.K g w' S' H' → RX F.cA w' e c d H' → F.W c d σ H'
  | .no => False) → tPairs trs σ H Q
theorem SPs.nil : SPs (F := F) [] (fun _ => Ev.ret []) := fun g w ρ S σ H Q R E h => h w H [] (.refl _) R .nil
def PPr (g : Gh) (w : Wd) (σ : St) (Q : List (V × V) → Hp → Prop) (r : Res (List (Key × Val))) : Prop := match r with
  | .ok kvs S' => ∀ w' H' ps, Ext w w' → RS F.K g w' S' H' → RKV F.K w' kvs ps → Q (ps.map fun kv => (kV kv.1, kv.2)) H'
  | .ex e S' => ∀ w' H' c d, Ext w w' → RS F.K g w' S' H' → RX F.cA w' e c d H' → F.W c d σ H'
  | .no => False
theorem PPr.ext {g : Gh} {w w' : Wd} {σ : St} {Q : List (V × V) → Hp → Prop} {r : Res (List (Key × Val))} (e : Ext w w') (h : PPr (F := F) g w σ Q r) : PPr (F := F) g w' σ Q r := by
  match r, h with
  | .ok v S', h => exact fun w2 H2 J e2 => h w2 H2 J (e.trans e2)
  | .ex _ S', h => exact fun w2 H2 c d e2 => h w2 H2 c d (e.trans e2)
  | .no, h => exact h
theorem SPs.cons {tk tv : TE} {trs : List (TE × TE)} {mk mv : Env → M Val} {m : Env → M (List (Key × Val))} (hk : SE F tk mk) (hv : SE F tv mv) (hr : SPs (F := F) trs m) :
    SPs (F := F) ((tk, tv) :: trs) (fun ρ => bnd (mk ρ) fun x => bnd (mv ρ) fun v => bnd (keyM x) fun k => bnd (m ρ) fun kvs => Ev.ret ((k, v) :: kvs)) := fun g w ρ S σ H Q R E p =>
  hk g w ρ S σ H _ R E (po_bind (P := fun w r => PPr (F := F) g w σ Q r) p (fun e S' w' H' c d p => p w' H' c d) (fun p => p) fun v1 S1 w1 H1 x1 e1 R1 r1 p1 =>
    hv g w1 ρ S1 σ H1 _ R1 (E.mono e1) (po_bind (P := fun w r => PPr (F := F) g w σ Q r) (p1.ext e1) (fun e S' w' H' c d p => p w' H' c d) (fun p => p) fun v2 S2 w2 H2 x2 e2 R2 r2 p2 => by
      have p2 := p2.ext e2
      cases v1 with
      | d y =>
        have p2 : PPr (F := F) g w2 σ Q (bnd (lift (keyOf y)) (fun k => bnd (m ρ) fun kvs => Ev.ret ((k, v2) :: kvs)) S2) := p2
        cases ek : keyOf y with
        | none => rw [ek] at p2; exact p2.elim
        | some k =>
          rw [ek] at p2
          have p2 : PPr (F := F) g w2 σ Q (bnd (m ρ) (fun kvs => Ev.ret ((k, v2) :: kvs)) S2) := p2
          have hx : x1 = kV k := by
            cases r1 with
            | d r1 => cases r1 <;> first | (cases ek; done) | (cases ek; rfl)
          subst hx
          refine hr g w2 ρ S2 σ H2 _ R2 (E.mono (e1.trans e2)) ?_
          unfold bnd at p2
          cases em : m ρ S2 with
          | ok kvs S3 => rw [em] at p2; exact fun w3 H3 ps e3 R3 r3 => p2 w3 H3 ((k, x2) :: ps) e3 R3 (.cons ⟨rfl, r2.mono e3⟩ r3)
          | ex _ _ => rw [em] at p2; exact p2
          | no => rw [em] at p2; exact p2
      | _ => exact p2.elim))
theorem RKV.merge {K : PySem.W.Frag} {w : Wd} {x : List (Key × Val)} {v : List (Key × V)} (r : RKV K w x v) : RKV K w (mergeD x) (mergeK [] v) := by
  have go : ∀ {x : List (Key × Val)} {v : List (Key × V)}, RKV K w x v → ∀ {a : List (Key × Val)} {b : List (Key × V)}, RKV K w a b → RKV K w (x.foldl (fun acc kv => storeK acc kv.1 kv.2) a) (mergeK b v) := by
    intro x v r
    induction r with
    | nil => intro a b h; exact h
    | cons h _ ih =>
      rename_i p q _ _ _
      intro a b hab
      refine ih ?_
      have := RKV.put (κ := Key) p.1 h.2 hab
      rw [show p.1 = q.1 from h.1] at this
      show RKV K w (storeK a p.1 p.2) (putK b q.1 q.2)
      rw [show p.1 = q.1 from h.1]; exact this
  exact go r .nil
theorem SE.dct {trs : List (TE × TE)} {m : Env → M (List (Key × Val))} (mu : Bool) (h : SPs (F := F) trs m) : SE F (tDisp trs) (fun ρ => bnd (m ρ) (mkDict mu)) := fun g w ρ S σ H Q R E p D hD => by
  refine h (g.hold w D (.dK [])) w ρ S σ _ _ (R.hold hD) E ?_
  dsimp only at p
  unfold bnd at p
  cases em : m ρ S with
  | ex e S' =>
    rw [em] at p
    exact fun w' H' c d e' R' rx => by
      have e3 : Ext w' (w'.put D (.dK [])) := .put (R'.heldI (R.Ifree hD))
      obtain ⟨a1, b1, c1, d1, e1, f1⟩ := rx
      exact p _ H' c d (e'.trans e3) (RS.held_put R hD R') ⟨a1, b1, c1, d1, e1, f1.mono e3.I⟩
  | no => rw [em] at p; exact p
  | ok kvs S1 =>
    rw [em] at p
    intro w1 H1 ps e1 R1 r1
    have p : PO F (RV F.K) g w σ Q (mkDict mu kvs S1) := p
    unfold mkDict at p
    by_cases hl : kvs.length ≤ 15
    · rw [if_pos hl] at p
      refine ⟨R1.held, ps, rfl, by rw [← r1.length]; exact hl, ?_⟩
      have rm := RKV.merge r1
      have R2 := R1.rehold (o' := .dK (mergeK [] ps)) (R.Ifree hD)
      cases mu with
      | true =>
        have p : PO F (RV F.K) g w σ Q (.ok (.r S1.length) (S1 ++ [.dk (mergeD kvs)])) := p
        have e3 : Ext w1 (w1.new D) := .new
        refine p (w1.new D) _ (.ref D) (e1.trans e3) (RS.held_new R hD R2 (.dk rm)) ?_
        have r : RV F.K (w1.new D) (.r w1.k) (.ref ((w1.new D).α w1.k)) := .r (Nat.lt_succ_self _)
        rw [Wd.new_at] at r
        rw [R1.len]
        exact r
      | false =>
        cases ea : dkD (mergeD kvs) with
        | none => simp only [ea] at p; exact p.elim
        | some ds =>
          simp only [ea] at p
          have p : PO F (RV F.K) g w σ Q (.ok (.d (.dict ds)) S1) := p
          have e3 : Ext w1 (w1.put D (.dK (mergeK [] ps))) := .put (R1.heldI (R.Ifree hD))
          exact p _ _ (.ref D) (e1.trans e3) (RS.held_put R hD R2) (.d (.dk (.inl upd_same) ((RKV.dk rm ea).mono e3.I)))
    · rw [if_neg hl] at p; exact p.elim
theorem SE.dnil : SE F tDNewK (fun _ => Ev.ret (.d (.dict []))) := fun g w ρ S σ H Q R E h p hp => h _ _ _ (.put (R.Ifree hp)) (R.put hp) (.d (.dk (.inl upd_same) .nil))
theorem SE.dnew (tk : Bool) : SE F (if tk = true then tDNewT else tDNewK) (fun _ => alloc (if tk = true then .dt [] else .dk [])) := fun g w ρ S σ H Q R E h => by
  cases tk with
  | true => exact new_snd R (.dt (kvs := []) (ps := []) .nil) h
  | false => exact new_snd R (.dk (kvs := []) (ps := []) .nil) h
def GlobOk (K : PySem.W.Frag) (v : Val) (x : V) : Prop := ∀ w, RV K w v x
theorem SE.glob {v : Val} {x : V} (h : GlobOk F.K v x) : SE F (tC x) (fun _ => Ev.ret v) := fun g w ρ S σ H Q R E p => p w H x (.refl _) R (h w)
end
end Ev
end
section
set_option Elab.async false
set_option linter.all false
set_option maxRecDepth 100000
namespace Ev
open PySem PySem.Spec L2
open PyProof.Rows hiding St IsTup
structure FnG (P : Program) (w : World) (K : PySem.W.Frag) (mg : Str → Option Value) (base : Heap) (CX : CXT) (k : Nat) (f : Addr) (fd : FuncData) (ps : List Str) (sp : Sp) : Prop where
  len : ∀ vs H Q E, sp vs H Q E → vs.length = ps.length
  run : ∀ (A : Around) (outer : List PySem.Env) (s : Shared) (H : Hp) (args : Args) (us : List Value) (vs : List V) (Q : VK) (E : XK), A.guards = some [] → Room k A → Env0 P w K mg base A outer s H → BindsTo s fd args (ps.zip us) → Vals vs us → sp vs H Q E →
    codeAny (model P w) A (.call (.ref f) args) (CR CX outer P w H s Q E) s
theorem FnG.imp {P : Program} {w : World} {K : PySem.W.Frag} {mg : Str → Option Value} {base : Heap} {CX : CXT} {k : Nat} {f : Addr} {fd : FuncData} {ps : List Str} {sp sp' : Sp} (F : FnG P w K mg base CX k f fd ps sp)
    (h : ∀ vs H Q E, sp' vs H Q E → sp vs H Q E) : FnG P w K mg base CX k f fd ps sp' :=
  ⟨fun vs H Q E q => F.len vs H Q E (h _ _ _ _ q), fun A outer s H args us vs Q E hg hr he hb hv hs => F.run A outer s H args us vs Q E hg hr he hb hv (h _ _ _ _ hs)⟩
theorem guards_deeper {A : Around} {env : PySem.Env} (h : A.guards = some []) : (A.deeper env).guards = some [] := h
/-- a def's body keeps its promise (as fn_of tells it, the guards told on) -/
theorem fnG_of {CX : CXT} {P : Program} {w : World} {K : PySem.W.Frag} {mg : Str → Option Value} {base : Heap} {k : Nat} {f : Addr} {x qual : Str} {params : Arguments} {body : List Stmt} {scope : Scope} {fd : FuncData} {N ps : List Str} {sp : Sp}
    (D : FunD K x qual params body scope [] [] f fd) (S : FnScope N ps scope) (len : ∀ vs H Q E, sp vs H Q E → vs.length = ps.length)
    (hbody : ∀ (cdv : Value) (A : Around) (outer : List PySem.Env) (s : Shared) (H : Hp) (vs : List V) (Q : VK) (E : XK), A.guards = some [] → Room k (A.deeper (envOfC qual scope s.heap.objs.size f cdv)) → sp vs H Q E →
      ∃ t, PSs (cxOf CX P w K mg base N qual scope f cdv A outer s H E) body t ∧ t { nx := fun _ H' => Q .non H', rt := Q } (start N vs) H) : FnG P w K mg base CX (k + 1) f fd ps sp := by
  obtain ⟨oc, od, dV, kV, doc, pm, an, cdv, ct, osl, rfl, lk, hcd, _, _⟩ := D.ex
  refine ⟨len, fun A outer s H args us vs Q E hgd hr e0 hb r hsp => ?_⟩
  have hl := len _ _ _ _ hsp
  have hin : ∀ b o, K.lookup b = some o → s.heap.get? b = some o := fun b o e => (e0.bs b o (e0.mod.kin b o e)).1
  have lim : s.heap.NoLimit := e0.mod.nolimit.keeps fun b o e => (e0.bs b o e).1
  refine codeAny_call_function hr.depth (hin _ _ lk) rfl S.co S.gen rfl (PySem.W.codeRec_of hin hcd) (hb _ _ _ _ ?_)
  refine wpAny_newFunctionEnv_cells S.kind (fun y hy => ?_) fun env he s1 x => ?_
  · rcases S.par y.1 (List.of_mem_zip hy).1 with q | q
    · exact .inl q
    · exact .inr ⟨q, PySem.W.cellsFrom_some _ _ _ (.inl q)⟩
  · subst he
    refine ⟨lim.keeps x.toInCall.keep, codeAny_func ?_⟩
    obtain ⟨t, ht, hq⟩ := hbody cdv A outer s H vs Q E hgd (hr.deeper _) hsp
    refine wpAny_mono (ht.run [] s1 (start N vs) H _ (inv_start S hr.hd e0 hl r x) hq) (fun fl s' hs => ?_) fun e s' hs => hs
    cases fl with
    | ret u => obtain ⟨v, σ', H', J, rv, q⟩ := hs; exact ⟨v, H', J.os, J.bare, J.base, J.hok, rv, q⟩
    | next => obtain ⟨σ', H', J, q⟩ := hs; exact ⟨.non, H', J.os, J.bare, J.base, J.hok, rfl, q⟩
    | brk => obtain ⟨_, _, _, q⟩ := hs; exact q.elim
    | cont => obtain ⟨_, _, _, q⟩ := hs; exact q.elim
section
variable {X : Cx} {CX : CXT} {k : Nat} {f : Addr} {fd : FuncData} {ps ks : List Str} {sp : Sp} {x : Str} {p pos : Pos} {e : Expr} {es : List Expr} {kws : List Keyword} {t tk : TA} {W : WX}
/-- what a body wants of exceptions is met by a callee that lets them out so -/
def PassesW (CX : CXT) (X : Cx) (W : WX) : Prop := ∀ (pins : List (Addr × Obj)) (σ : St) (H : Hp) (s : Shared) (e : Value) (s' : Shared), Inv X pins σ H s → CX X.stack H s (fun c d H' => W c d σ H') e s' → X.xe e s'
theorem run_fnG {pins : List (Addr × Obj)} {σ : St} {H : Hp} {s : Shared} {Q : VK} {args : Args} {us : List Value} {vs : List V} (F : FnG X.prog X.w X.K X.mg X.base CX k f fd ps sp) (hg : X.A.guards = some []) (hr : Room k X.A) (hb : BindsTo s fd args (ps.zip us)) (hx : PassesW CX X W)
    (I : Inv X pins σ H s) (r : Vals vs us) (h : sp vs H Q fun c d H' => W c d σ H') : codeAny (model X.prog X.w) X.A (.call (.ref f) args) (fun r s' => match r with
      | .ok (.ret u) => EP X pins σ Q u s'
      | .ok _ => False
      | .error e => X.xe e s') s := by
  refine codeAny_mono (F.run X.A X.stack s H args us vs Q _ hg hr I.env0 hb r h) fun r s' hq => ?_
  cases r with
  | error e => exact hx pins σ H s e s' I hq
  | ok fl =>
    cases fl with
    | ret u => exact I.after hq
    | next => exact hq.elim
    | brk => exact hq.elim
    | cont => exact hq.elim
def tCallG (W : WX) (sp : Sp) (t : TA) : TE := fun σ H Q => t σ H fun vs H1 => sp vs H1 Q fun c d H' => W c d σ H'
def tCallGK (W : WX) (sp : Sp) (g : List V → List V → List V) (t tk : TA) : TE := fun σ H Q => t σ H fun vs H1 => tk σ H1 fun zs H2 => sp (g vs zs) H2 Q fun c d H' => W c d σ H'
/-- f(e, ..) -/
theorem pe_callG (F : FnG X.prog X.w X.K X.mg X.base CX k f fd ps sp) (hgd : X.A.guards = some []) (hr : Room k X.A) (hg : Gl X x) (hm : X.mg x = some (.ref f)) (hk : PySem.W.keepIn X.K (.ref f) = true) (hb : Binds X.K fd ps []) (hx : PassesW CX X W)
    (ha : PA X (e :: es) t) (hdb : (x == ("__debug__" : Str)) = false) (he : starEach (e :: es) X.env = (false, eval e X.env) :: starEach es X.env) (hpl : (backTo pos (starEach es X.env)).any (·.1) = false) :
    PE X (.Call (.Name x p) (e :: es) [] pos) (tCallG W sp t) := by
  refine ⟨fun pins s σ H Q I h => ?_⟩
  refine wpAny_Call_Name_kw (ld_glob I hg hm ?_ hdb)
  refine PySem.W.callWith_K (h₀ := X.base) I.ok.mod.kin hk (thn (ha.run pos pins s σ H _ I h) fun us s1 ⟨vs, H1, I1, r, q⟩ => ⟨I1.kIn, ?_⟩) he hpl
  have hl : (us ++ []).length = ps.length := by rw [List.append_nil, ← r.length]; exact F.len _ _ _ _ q
  have hb' := hb s1 us I1.kIn hl
  rw [List.append_nil] at hb'
  refine wpAny_call (codeAny_mono (run_fnG F hgd hr hb' hx I1 r q) fun r s' z => ?_)
  rcases r with e | (v | _ | _ | _) <;> first | exact z | exact z.elim
/-- f() -/
theorem pe_callG0 (F : FnG X.prog X.w X.K X.mg X.base CX k f fd ps sp) (hgd : X.A.guards = some []) (hr : Room k X.A) (hg : Gl X x) (hm : X.mg x = some (.ref f)) (hk : PySem.W.keepIn X.K (.ref f) = true) (hb : Binds X.K fd ps []) (hx : PassesW CX X W)
    (hdb : (x == ("__debug__" : Str)) = false) : PE X (.Call (.Name x p) [] [] pos) (tCallG W sp tNil) := by
  refine ⟨fun pins s σ H Q I h => ?_⟩
  refine wpAny_Call_Name_kw (ld_glob I hg hm ?_ hdb)
  have h : sp [] H Q _ := h
  have hl : (([] : List Value) ++ []).length = ps.length := by
    have := F.len _ _ _ _ h
    simpa using this
  refine PySem.W.callWith_K0 I.kIn hk (wpAny_call (codeAny_mono (run_fnG F hgd hr (hb s [] I.kIn hl) hx I .nil h) fun r s' z => ?_))
  rcases r with e | (v | _ | _ | _) <;> first | exact z | exact z.elim
/-- f(e, .., k = v, ..) -/
theorem pe_callGK {g : List Value → List Value → List Value} {gV : List V → List V → List V} (F : FnG X.prog X.w X.K X.mg X.base CX k f fd ps sp) (hgd : X.A.guards = some []) (hr : Room k X.A) (hg : Gl X x) (hm : X.mg x = some (.ref f)) (hk : PySem.W.keepIn X.K (.ref f) = true) (hb : KBinds X.K fd ps ks g gV) (hx : PassesW CX X W)
    (ha : PA X (e :: es) t) (hkw : PK X kws tk) (hall : (backToKw pos (keywordEach kws X.env)).all (·.1.isSome) = true) (hks : (backToKw pos (keywordEach kws X.env)).filterMap (·.1) = ks)
    (hdb : (x == ("__debug__" : Str)) = false) (he : starEach (e :: es) X.env = (false, eval e X.env) :: starEach es X.env)
    (hpl : ((backTo pos (starEach (e :: es) X.env)).any (·.1) || (backToKw pos (keywordEach kws X.env)).any (·.1.isNone)) = false) :
    PE X (.Call (.Name x p) (e :: es) kws pos) (tCallGK W sp gV t tk) := by
  refine ⟨fun pins s σ H Q I h => ?_⟩
  refine wpAny_Call_Name_kw (ld_glob I hg hm ?_ hdb)
  refine PySem.W.callWith_KW (h₀ := X.base) I.ok.mod.kin hk hall (thn (ha.run pos pins s σ H _ I h) fun us s1 ⟨vs, H1, I1, r, q⟩ => ?_) hpl he
  refine thn (hkw.run pos pins s1 σ H1 _ I1 q) fun ws s2 ⟨zs, H2, I2, rz, q2⟩ => ⟨I2.kIn, ?_⟩
  rw [hks]
  have r2 := hb.rel r rz
  have hl : (g us ws).length = ps.length := by rw [← r2.length]; exact F.len _ _ _ _ q2
  refine wpAny_call (codeAny_mono (run_fnG F hgd hr (hb.to s2 us ws I2.kIn hl) hx I2 r2 q2) fun r s' z => ?_)
  rcases r with e | (v | _ | _ | _) <;> first | exact z | exact z.elim
end
theorem law_callG {P : Program} {w : World} {K : PySem.W.Frag} {mg mb : Str → Option Value} {CX : CXT} {k : Nat} {fa a : Addr} {fd : FuncData} {x : Str} {sp : Sp} {s₁ : Shared} {vs : List Value} {ns : List Int}
    (KX : K.In s₁.heap) (hns : s₁.heap.Ns mainGlobals mg) (hb : s₁.heap.Ns builtinsNs mb) (hbb : ∀ x : Str, x ≠ "__name__" → mb x = bootBuiltins x) (hlim : s₁.heap.NoLimit) (hg : s₁.gens = #[])
    (ha : s₁.heap.get? a = some { cls := .type "list", data := .seq vs.toArray }) (hi : IntsAre vs ns) (hl : ns.length ≤ sizeLine) (hr : Room k callerA)
    (F : ∀ base : Heap, K.In base → base.Ns mainGlobals mg → FnG P w K mg base CX k fa fd [x] sp) (hbind : ∀ (s : Shared) (u : Value), BindsTo s fd ⟨[u], []⟩ [(x, u)])
    (hsp : ∀ H : Hp, Only H → SqL K H a (ns.map V.int) → sp [.ref a] H (fun v _ => v = .bl true) fun _ _ _ => False)
    (hCX : ∀ H e s', CX [] H s₁ (fun _ _ _ => False) e s' → False) :
    codeAny (model P w) callerA (.call (.ref fa) ⟨[.ref a], []⟩) (fun r s' => r = .ok (.ret (.bool true)) ∧ OldK s₁.heap s'.heap ∧ s'.os = s₁.os ∧ AllBare s'.gens) s₁ := by
  have rv := vals_ints hi
  have lenV := hi.length
  -- H: nothing, or the script alone
  have core : ∀ H : Hp, Only H → SqL K H a (ns.map V.int) → HOk P w H s₁.heap → (∀ b, H b ≠ none → b = a ∧ K.lookup a = none) →
      codeAny (model P w) callerA (.call (.ref fa) ⟨[.ref a], []⟩) (fun r s' => r = .ok (.ret (.bool true)) ∧ OldK s₁.heap s'.heap ∧ s'.os = s₁.os ∧ AllBare s'.gens) s₁ := by
    intro H hO hS hok hA
    have free : ∀ {b : Addr}, (b = a → K.lookup a ≠ none) ∨ (∃ o : Obj, s₁.heap.get? b = some o ∧ ∀ vs n, o.data ≠ .seq vs n) → H b = none := fun {b} h => by
      cases q : H b with
      | none => rfl
      | some u =>
        obtain ⟨e1, e2⟩ := hA b (by rw [q]; exact Option.some_ne_none u)
        rcases h with h | ⟨o, e, n⟩
        · exact (h e1 e2).elim
        · rw [e1, ha] at e
          cases e
          exact (n _ _ rfl).elim
    have nsK : ∀ {b : Addr} {m : Str → Option Value}, s₁.heap.Ns b m → (hidT s₁.heap H).Ns b m := fun {b m} ⟨o, es, ep, e, d, r⟩ =>
      ⟨o, es, ep, hidT_get e (free (.inr ⟨o, e, fun vs n z => by rw [d] at z; cases z⟩)), d, r⟩
    have hKb : K.In (hidT s₁.heap H) := fun b o e => hidT_get (KX b o e) (free (.inl fun z n => by rw [← z, e] at n; cases n))
    have hM : Mod K mg (hidT s₁.heap H) := ⟨hKb, nsK hns, ⟨mb, nsK hb, hbb⟩, let ⟨mc, h1, h2⟩ := hlim; ⟨mc, nsK h1, h2⟩⟩
    have e0 : Env0 P w K mg (hidT s₁.heap H) callerA [] s₁ H := ⟨rfl, hM, fun b o e => of_hidT e, Nat.le_of_eq (hidT_size _ _), trivial, (fun b hb => absurd (show b ∈ ([] : List Addr) from hb) (by simp)), hok, .of_eq hg⟩
    refine codeAny_mono ((F _ hKb (nsK hns)).run callerA [] s₁ H ⟨[.ref a], []⟩ [.ref a] [.ref a] _ _ rfl hr e0 (hbind s₁ (.ref a)) (.cons rfl .nil) (hsp H hO hS)) fun r s' h => ?_
    cases r with
    | error e => exact (hCX H e s' h).elim
    | ok fl =>
      cases fl with
      | next => exact h.elim
      | brk => exact h.elim
      | cont => exact h.elim
      | ret u =>
        obtain ⟨v, H', os, bare, un, hok', r', q⟩ := h
        obtain rfl : v = .bl true := q
        obtain rfl : u = Value.bool true := r'
        refine ⟨rfl, OldK.of_keep fun b o e => ?_, os, bare⟩
        rcases hO b with z | ⟨ob, xs, z⟩
        · exact un.keep b o e z (by intro z; exact absurd (show b ∈ ([] : List Addr) from z) (by simp)) (by simp)
        · obtain ⟨e1, _⟩ := hok b _ z
          obtain ⟨e2, _⟩ := hok' b _ (un.frzs b ob _ z)
          rw [e] at e1; cases e1
          exact e2
  cases hk : K.lookup a with
  | some o =>
    have e := KX a o hk
    rw [ha] at e
    cases e
    exact core (fun _ => none) (fun _ => .inl rfl) (.inr ⟨_, vs.toArray, _, hk, rfl, rfl, rfl, by rw [List.size_toArray, lenV]; exact hl, by simpa using rv⟩) (fun b u z => by have z' : (none : Option HO) = some u := z; cases z') fun b z => absurd rfl z
  | none =>
    have at_ : ∀ b u, (if b = a then some (HO.frz { cls := .type "list", data := .seq vs.toArray } (.lst (ns.map V.int))) else none) = some u → b = a ∧ u = .frz { cls := .type "list", data := .seq vs.toArray } (.lst (ns.map V.int)) := fun b u z => by
      by_cases hb : b = a
      · rw [if_pos hb] at z; cases z; exact ⟨hb, rfl⟩
      · rw [if_neg hb] at z; cases z
    refine core (fun b => if b = a then some (.frz { cls := .type "list", data := .seq vs.toArray } (.lst (ns.map V.int))) else none) (fun b => ?_) (.inl (.inr ⟨{ cls := .type "list", data := .seq vs.toArray }, if_pos rfl⟩)) (fun b u z => ?_) fun b z => ?_
    · by_cases hb : b = a
      · exact .inr ⟨_, _, if_pos hb⟩
      · exact .inl (if_neg hb)
    · obtain ⟨rfl, rfl⟩ := at_ b u z
      exact ⟨ha, by rw [List.length_map]; exact hl, vs, _, rv, ha⟩
    · obtain ⟨u, q⟩ := Option.ne_none_iff_exists'.mp z
      exact ⟨(at_ b u q).1, hk⟩
theorem walk_ofG {l : PySem.W.OpenLaw} {n k : Nat} {q : Program} {loose : List Str} {XP : (Str → Option Value) → Heap → Prop} {YP : World → Heap → Prop} {d : DefRec} {CX : World → CXT} {x : Str}
    (hn : l.most = some n) (hn2 : n ≤ sizeLine) (hdf : d.params.defaults = []) (hr : Room k callerA)
    (F : ∀ (w : World) (mg : Str → Option Value) (fa : Addr) (h : Heap), YP w h → h.Ns mainGlobals mg → mg d.name = some (.ref fa) →
      ∃ (K : PySem.W.Frag) (fd : FuncData) (sp : Sp), K.In h ∧ (∀ (s : Shared) (u : Value), BindsTo s fd ⟨[u], []⟩ [(x, u)]) ∧
        (∀ (H : Hp) (a : Addr) (ns : List Int), ns.length ≤ n → (∀ z ∈ ns, Builtin.Int.intBits z ≤ 1048576) → Only H → SqL K H a (ns.map V.int) → sp [.ref a] H (fun v _ => v = .bl true) fun _ _ _ => False) ∧
        ∀ base : Heap, K.In base → base.Ns mainGlobals mg → FnG l.prog w K mg base (CX w) k fa fd [x] sp)
    (hCX : ∀ (w : World) (H : Hp) (s : Shared) (e : Value) (s' : Shared), CX w [] H s (fun _ _ _ => False) e s' → False) :
    PySem.W.WalkO q loose XP YP l.row.toRowW d [] (fun f vs => PySem.call f vs) := by
  refine Att.attach_callB hn hdf fun w s₀ s₁ mg mb fa o pm cd doc a vs ns G Y ho hd hcd hmg hobj hints hlen hbits hg => ?_
  obtain ⟨K, fd, sp, KX, hb, hsp, hF⟩ := F w mg fa _ Y G.T.g hmg
  exact law_callG KX G.T.g G.T.b G.T.builtins G.T.nolimit hg hobj hints (Nat.le_trans hlen hn2) hr hF hb (fun H hO hS => hsp H a ns hlen hbits hO hS) fun H e s' => hCX w H s₁ e s'
end Ev
end
section
set_option Elab.async false
set_option linter.all false
set_option maxRecDepth 100000
namespace Ev
open PySem PySem.Spec L2
section
variable {K : PySem.W.Frag}
mutual
theorem RV.under {w : Wd} {k : Nat} : ∀ {v : Val} {x : V}, Ev.below k v = true → RV K w v x → RV K ⟨w.I, w.α, k⟩ v x
  | .d _, _, _, .d r => .d r
  | .k _, _, _, .k r => .k r
  | .r n, _, h, .r _ => RV.r (w := ⟨w.I, w.α, k⟩) (by unfold Ev.below at h; exact of_decide_eq_true h)
  | .t xs, _, h, .t e r => .t e (RVs.under (by unfold Ev.below at h; exact h) r)
theorem RVs.under {w : Wd} {k : Nat} : ∀ {v : List Val} {x : List V}, Ev.belowL k v = true → RVs K w v x → RVs K ⟨w.I, w.α, k⟩ v x
  | [], _, _, .nil => .nil
  | v :: vs, _, h, .cons a b => by
    unfold Ev.belowL at h
    have h : Ev.below k v = true ∧ belowL k vs = true := by simpa using h
    exact .cons (RV.under h.1 a) (RVs.under h.2 b)
end
theorem RKV.under {κ : Type} {w : Wd} {k : Nat} : ∀ {v : List (κ × Val)} {x : List (κ × V)}, Ev.belowL k (v.map (·.2)) = true → RKV K w v x → RKV K ⟨w.I, w.α, k⟩ v x
  | [], _, _, .nil => .nil
  | v :: vs, _, h, .cons a b => by
    unfold Ev.belowL at h
    have h : Ev.below k v.2 = true ∧ belowL k (vs.map (·.2)) = true := by simpa using h
    exact .cons ⟨a.1, RV.under h.1 a.2⟩ (RKV.under h.2 b)
theorem RC.under {w : Wd} {k : Nat} {c : Cell} {o : HO} (h : belowC k c = true) (r : RC K w c o) : RC K ⟨w.I, w.α, k⟩ c o := by
  cases r with
  | lst r => exact .lst (r.under h)
  | lk r => exact .lk (r.under h)
  | dk r => exact .dk (RKV.under h r)
  | dt r => exact .dt (RKV.under h r)
theorem take_get {α : Type} {l : List α} {k n : Nat} {c : α} (h : (l.take k)[n]? = some c) : n < k ∧ l[n]? = some c := by
  have hn : n < (l.take k).length := (List.getElem?_eq_some_iff.mp h).1
  have hk : n < k := by rw [List.length_take] at hn; omega
  rw [List.getElem?_take_of_lt hk] at h
  exact ⟨hk, h⟩
/-- the objects of a call are let go -/
theorem RS.trim {g : Gh} {w w1 : Wd} {S1 : List Cell} {H : Hp} {v : Val} {x : V} (R : RS K g w1 S1 H) (e : Ext w w1) (rv : RV K w1 v x) :
    ∃ w2, Ext w w2 ∧ RS K g w2 (Ev.trim w.k v S1) H ∧ RV K w2 v x := by
  unfold Ev.trim
  by_cases h : (Ev.below w.k v && (S1.take w.k).all (belowC w.k)) = true
  · rw [if_pos h]
    have h : Ev.below w.k v = true ∧ (S1.take w.k).all (belowC w.k) = true := by simpa using h
    refine ⟨⟨w1.I, w1.α, w.k⟩, ⟨e.I, Nat.le_refl _, e.α⟩, ⟨?_, R.le, R.out, fun n c ec l => ?_, fun n m c c' a la b lb => ?_, R.fr⟩, rv.under h.1⟩
    · rw [List.length_take, R.len]
      exact Nat.min_eq_left e.k
    · obtain ⟨hk, ec'⟩ := take_get ec
      obtain ⟨o, a, b, i, d⟩ := R.cell n c ec' l
      exact ⟨o, a, b.under (List.all_eq_true.mp h.2 c (List.mem_of_getElem? ec)), i, d⟩
    · exact R.inj n m c c' (take_get a).2 la (take_get b).2 lb
  · rw [if_neg h]
    exact ⟨w1, e, R, rv⟩
/-- a call with data alone begins: nothing of the store is seen -/
theorem RS.enter {g : Gh} {w : Wd} {S : List Cell} {H : Hp} (R : RS K g w S H) : RS K ⟨H, w.I⟩ ⟨w.I, w.α, 0⟩ [] H :=
  ⟨rfl, R.le, fun _ _ h => h, fun n c e => by simp at e, fun n m c c' e => by simp at e, fun b o h => .inl ⟨o, h⟩⟩
theorem RVs.enter {w : Wd} : ∀ {vs : List Val} {xs : List V}, RVs K w vs xs → (allD vs).isSome = true → RVs K ⟨w.I, w.α, 0⟩ vs xs
  | [], _, .nil, _ => .nil
  | .d x :: r, _, .cons (.d a) b, h => .cons (.d a) (RVs.enter b (by
    have h : ((allD r).map (x :: ·)).isSome = true := h
    rwa [Option.isSome_map] at h))
  | .r _ :: _, _, _, h => by cases h
  | .t _ :: _, _, _, h => by cases h
  | .k _ :: _, _, _, h => by cases h
/-- .. ends -/
theorem RS.back {g : Gh} {w w1 : Wd} {S S1 : List Cell} {H H1 J : Hp} (R : RS K g w S H) (R1 : RS K ⟨H, w.I⟩ w1 S1 H1) (e : Ext ⟨w.I, w.α, 0⟩ w1) (hJ : Hle w1.I J) (le : ∀ b o, J b = some o → H1 b = some o)
    (fr : ∀ b o, J b = some o → w1.I b = some o ∨ H b = none) : Ext w ⟨J, w.α, w.k⟩ ∧ RS K g ⟨J, w.α, w.k⟩ S H1 := by
  have ex : Ext w ⟨J, w.α, w.k⟩ := ⟨Hle.trans (J := w1.I) e.I hJ, Nat.le_refl _, fun _ _ => rfl⟩
  refine ⟨ex, ⟨R.len, le, fun b o h => R1.out b o (R.out b o h), fun n c ec l => ?_, R.inj, fun b o h => ?_⟩⟩
  · obtain ⟨o, a, b, i, d⟩ := R.cell n c ec l
    refine ⟨o, R1.out _ _ a, b.mono ex, ?_, d⟩
    show J (w.α n) = none
    cases q : J (w.α n) with
    | none => rfl
    | some u =>
      rcases fr _ _ q with z | z
      · rcases R1.fr _ _ z with ⟨u', z⟩ | z
        · have z : w.I (w.α n) = some u' := z
          rw [i] at z; cases z
        · have z : H (w.α n) = none := z
          rw [a] at z; cases z
      · rw [a] at z; cases z
  · have no : H b = none → g.out b = none := fun z => by
      cases q : g.out b with
      | none => rfl
      | some u => rw [R.out _ _ q] at z; cases z
    rcases fr b o h with z | z
    · rcases R1.fr b o z with ⟨u, z⟩ | z
      · exact R.fr b u z
      · exact .inr (no z)
    · exact .inr (no z)
theorem RS.freeze {g : Gh} {w w1 : Wd} {S S1 : List Cell} {H H1 : Hp} {v : Val} {x : V} {y : PyData} (R : RS K g w S H) (R1 : RS K ⟨H, w.I⟩ w1 S1 H1) (e : Ext ⟨w.I, w.α, 0⟩ w1) (rv : RV K w1 v x) (h : Ev.freeze S1 v = some y) :
    ∃ w2, Ext w w2 ∧ RS K g w2 S H1 ∧ RV K w2 (.d y) x := by
  cases rv with
  | d r =>
    obtain rfl := Option.some.inj h
    obtain ⟨a, b⟩ := R.back R1 e (.refl _) R1.le fun b o z => .inl z
    exact ⟨_, a, b, .d r⟩
  | @r n hn =>
    have h : (match S1[n]? with
      | some (.lst xs) => (allD xs).map PyData.list
      | some (.dk kvs) => (dkD kvs).map PyData.dict
      | some (.dt kvs) => (dtD kvs).map PyData.dict
      | _ => none) = some y := h
    have put : ∀ (c : Cell) (o : HO), S1[n]? = some c → c.live = true → (∀ o', RC K w1 c o' → H1 (w1.α n) = some o' → o' = o) → Ext w ⟨upd w1.I (w1.α n) o, w.α, w.k⟩ ∧ RS K g ⟨upd w1.I (w1.α n) o, w.α, w.k⟩ S H1 ∧ Hle w1.I (upd w1.I (w1.α n) o) := fun c o ec l ho => by
      obtain ⟨o', a, b, i, d⟩ := R1.cell n c ec l
      have d : H (w1.α n) = none := d
      obtain rfl := ho o' b a
      have hj : Hle w1.I (upd w1.I (w1.α n) o') := .of fun b u z => by rw [upd_ne (fun q => by rw [q, i] at z; cases z)]; exact z
      have up : ∀ b u, upd w1.I (w1.α n) o' b = some u → (b = w1.α n ∧ u = o') ∨ w1.I b = some u := fun b u z => by
        by_cases hb : b = w1.α n
        · rw [hb, upd_same] at z; exact .inl ⟨hb, (Option.some.inj z).symm⟩
        · rw [upd_ne hb] at z; exact .inr z
      obtain ⟨x1, x2⟩ := R.back R1 e hj (fun b u z => (up b u z).elim (fun ⟨q1, q2⟩ => by rw [q1, q2]; exact a) (R1.le b u)) fun b u z => (up b u z).elim (fun ⟨q1, _⟩ => .inr (by rw [q1]; exact d)) .inl
      exact ⟨x1, x2, hj⟩
    cases ec : S1[n]? with
    | none => rw [ec] at h; cases h
    | some c =>
      rw [ec] at h
      cases c with
      | lst xs =>
        obtain ⟨ds, ed, rfl⟩ := Option.map_eq_some_iff.mp (show (allD xs).map PyData.list = some y from h)
        obtain ⟨o, a, b, _⟩ := R1.cell n _ ec rfl
        obtain ⟨x1, x2, x3⟩ := put _ o ec rfl fun o' _ a' => by rw [a] at a'; exact (Option.some.inj a').symm
        cases b with
        | lst b => exact ⟨_, x1, x2, .d (.list upd_same ((b.data ed).mono x3))⟩
      | dk xs =>
        obtain ⟨ds, ed, rfl⟩ := Option.map_eq_some_iff.mp (show (dkD xs).map PyData.dict = some y from h)
        obtain ⟨o, a, b, _⟩ := R1.cell n _ ec rfl
        obtain ⟨x1, x2, x3⟩ := put _ o ec rfl fun o' _ a' => by rw [a] at a'; exact (Option.some.inj a').symm
        cases b with
        | dk b => exact ⟨_, x1, x2, .d (.dk (.inl upd_same) ((RKV.dk b ed).mono x3))⟩
      | dt xs =>
        obtain ⟨ds, ed, rfl⟩ := Option.map_eq_some_iff.mp (show (dtD xs).map PyData.dict = some y from h)
        obtain ⟨o, a, b, _⟩ := R1.cell n _ ec rfl
        obtain ⟨x1, x2, x3⟩ := put _ o ec rfl fun o' _ a' => by rw [a] at a'; exact (Option.some.inj a').symm
        cases b with
        | dt b => exact ⟨_, x1, x2, .d (.dt (.inl upd_same) ((RKV.dt b ed).mono x3))⟩
      | _ => cases h
  | t _ _ => cases h
  | k _ => cases h
theorem RVs.get_at {w : Wd} : ∀ {vs : List Val} {xs : List V} {i : Nat} {v : Val}, RVs K w vs xs → vs[i]? = some v → ∃ x, xs[i]? = some x ∧ RV K w v x
  | _, _, 0, _, .cons a _, h => by simp at h; subst h; exact ⟨_, rfl, a⟩
  | _, _, i + 1, _, .cons _ b, h => by
    obtain ⟨x, e, r⟩ := RVs.get_at b (show _ = some _ by simpa using h)
    exact ⟨x, by simpa using e, r⟩
  | _, _, _, _, .nil, h => by simp at h
theorem RE.start {w : Wd} {N : List Str} {n : Nat} (hN : N.length = n) {vs : List Val} {xs : List V} (r : RVs K w vs xs) : RE K w (startE n vs) (L2.start N xs) := by
  refine ⟨by unfold startE L2.start; simp [r.length, hN], fun i v h => ?_⟩
  unfold startE at h
  unfold L2.start
  by_cases hi : i < vs.length
  · rw [List.getElem?_append_left (by simpa using hi), List.getElem?_map] at h
    obtain ⟨u, eu, q⟩ := Option.map_eq_some_iff.mp h
    obtain rfl := Option.some.inj q
    obtain ⟨x, ex, rx⟩ := r.get_at eu
    exact ⟨x, by rw [List.getElem?_append_left (by rw [List.length_map, ← r.length]; exact hi), List.getElem?_map, ex]; rfl, rx⟩
  · rw [List.getElem?_append_right (by simpa using hi), List.getElem?_replicate] at h
    split at h <;> cases h
end
def spEv (K : PySem.W.Frag) (cA : Str → Addr) (np : Nat) (m : List Val → M Val) : Sp := fun vs H Q E => ∃ g w S args, RS K g w S H ∧ RVs K w args vs ∧ args.length = np ∧ PO ⟨K, cA, fun c d _ H => E c d H⟩ (RV K) g w [] Q (m args S)
theorem spEv_len {K : PySem.W.Frag} {cA : Str → Addr} {np : Nat} {m : List Val → M Val} {vs : List V} {H : Hp} {Q : VK} {E : XK} (h : spEv K cA np m vs H Q E) : vs.length = np := by
  obtain ⟨g, w, S, args, _, r, l, _⟩ := h
  rw [← r.length]; exact l
theorem PO.of_W {F : Fx} {g : Gh} {w : Wd} {σ : St} {Q : VK} {r : Res Val} (h : PO F (RV F.K) g w σ Q r) : PO ⟨F.K, F.cA, fun c d _ H => F.W c d σ H⟩ (RV F.K) g w [] Q r := by
  match r, h with
  | .ok v S', h => exact h
  | .ex _ S', h => exact h
  | .no, h => exact h
theorem SE.call {F : Fx} {t : TA} {ma : Env → M (List Val)} {np : Nat} {m : List Val → M Val} (ha : SA F t ma) (hl : ∀ vs S, m vs S ≠ .no → vs.length = np) :
    SE F (tCallG F.W (spEv F.K F.cA np m) t) (fun ρ => bnd (ma ρ) m) := fun g w ρ S σ H Q R E h =>
  ha g w ρ S σ H _ R E (pa_bind (P := fun w r => PO F (RV F.K) g w σ Q r) h (fun e S' w' H' c d p => p w' H' c d) (fun p => p) fun us S1 w1 H1 xs e1 R1 r1 p =>
    ⟨g, w1, S1, us, R1, r1, hl us S1 (fun z => by rw [z] at p; exact p), (p.ext e1).of_W⟩)
theorem SE.callK {F : Fx} {t tk : TA} {ma mk : Env → M (List Val)} {np : Nat} {m : List Val → M Val} {o : List Val → List Val → Option (List Val)} {gV : List V → List V → List V} (ha : SA F t ma) (hk : SA F tk mk)
    (hl : ∀ vs S, m vs S ≠ .no → vs.length = np) (ho : ∀ w vs ws us xs ys, RVs F.K w vs xs → RVs F.K w ws ys → o vs ws = some us → RVs F.K w us (gV xs ys)) :
    SE F (tCallGK F.W (spEv F.K F.cA np m) gV t tk) (fun ρ => bnd (ma ρ) fun vs => bnd (mk ρ) fun ws => (match o vs ws with
      | some us => m us
      | none => fail)) := fun g w ρ S σ H Q R E h =>
  ha g w ρ S σ H _ R E (pa_bind (P := fun w r => PO F (RV F.K) g w σ Q r) h (fun e S' w' H' c d p => p w' H' c d) (fun p => p) fun us S1 w1 H1 xs e1 R1 r1 p =>
    hk g w1 ρ S1 σ H1 _ R1 (E.mono e1) (pa_bind (P := fun w r => PO F (RV F.K) g w σ Q r) (p.ext e1) (fun e S' w' H' c d p => p w' H' c d) (fun p => p) fun ws S2 w2 H2 ys e2 R2 r2 p2 => by
      cases eo : o us ws with
      | none => rw [eo] at p2; exact p2.elim
      | some zs =>
        rw [eo] at p2
        have p2 : PO F (RV F.K) g w1 σ Q (m zs S2) := p2
        exact ⟨g, w2, S2, zs, R2, ho w2 us ws zs xs ys (r1.mono e2) r2 eo, hl zs S2 (fun z => by rw [z] at p2; exact p2), (p2.ext e2).of_W⟩))
/-- a def's body, as the evaluator runs it -/
theorem call_body {K : PySem.W.Frag} {cA : Str → Addr} {C : Cfg} {fd : Fn} {N : List Str} (hN : N.length = fd.nslots) {g : Gh} {w : Wd} {S : List Cell} {H : Hp} {Q : VK} {E : XK} {args : List Val} {vs : List V} {t : TS}
    (R : RS K g w S H) (ra : RVs K w args vs) (hs : SS ⟨K, cA, fun c d _ H => E c d H⟩ t (fun ρ => seqL (fun s ρ => ex C bodyFuel s ρ) fd.body ρ))
    (p : PO ⟨K, cA, fun c d _ H => E c d H⟩ (RV K) g w [] Q (callB C fd args S)) : t { nx := fun _ H' => Q .non H', rt := Q } (L2.start N vs) H := by
  unfold callB at p
  by_cases hl : args.length = fd.np
  · rw [if_pos hl] at p
    by_cases hsh : fd.shared = true
    · rw [if_pos hsh] at p
      refine hs g w _ S _ H _ R (RE.start hN ra) ?_
      unfold runB bnd at p
      dsimp only
      cases e : seqL (fun s ρ => ex C bodyFuel s ρ) fd.body (startE fd.nslots args) S with
      | no => simp only [e] at p; exact p.elim
      | ex _ _ => simp only [e] at p; exact fun w' σ' H' c d => p w' H' c d
      | ok f S1 =>
        simp only [e] at p
        cases f with
        | rt v =>
          intro w1 H1 x e1 R1 r1
          obtain ⟨w2, a, b, c⟩ := R1.trim e1 r1
          rw [← R.len] at b
          exact p w2 H1 x a b c
        | nx ρ =>
          intro w1 σ1 H1 e1 R1 _
          obtain ⟨w2, a, b, c⟩ := R1.trim (v := .d .none) e1 (.d .none)
          rw [← R.len] at b
          exact p w2 H1 .non a b c
        | bk _ => exact p.elim
        | ct _ => exact p.elim
    · rw [if_neg hsh] at p
      cases ed : allD args with
      | none => simp only [ed] at p; exact p.elim
      | some ds =>
        simp only [ed] at p
        refine hs ⟨H, w.I⟩ ⟨w.I, w.α, 0⟩ _ [] _ H _ R.enter (RE.start hN (ra.enter (by rw [ed]; rfl))) ?_
        unfold runB bnd at p
        dsimp only
        cases e : seqL (fun s ρ => ex C bodyFuel s ρ) fd.body (startE fd.nslots args) [] with
        | no => simp only [e] at p; exact p.elim
        | ex x S1 =>
          simp only [e] at p
          intro w1 σ' H1 c d e1 R1 rx
          obtain ⟨a, b⟩ := R.back R1 e1 (.refl _) R1.le fun b o z => .inl z
          exact p _ H1 c d a b rx
        | ok f S1 =>
          simp only [e] at p
          cases f with
          | rt v =>
            intro w1 H1 x e1 R1 r1
            have p : PO ⟨K, cA, fun c d _ H => E c d H⟩ (RV K) g w [] Q (match Ev.freeze S1 v with
              | some x => .ok (.d x) S
              | none => .no) := p
            cases ef : Ev.freeze S1 v with
            | none => rw [ef] at p; exact p.elim
            | some y =>
              rw [ef] at p
              obtain ⟨w2, a, b, c⟩ := R.freeze R1 e1 r1 ef
              exact p w2 H1 x a b c
          | nx ρ =>
            intro w1 σ1 H1 e1 R1 _
            obtain ⟨w2, a, b, c⟩ := R.freeze R1 e1 (.d .none) (show Ev.freeze S1 (.d .none) = some .none from rfl)
            exact p w2 H1 .non a b c
          | bk _ => exact p.elim
          | ct _ => exact p.elim
  · rw [if_neg hl] at p; exact p.elim
theorem callB_len {C : Cfg} {fd : Fn} {vs : List Val} {S : List Cell} (h : callB C fd vs S ≠ .no) : vs.length = fd.np := by
  unfold callB at h
  by_cases hl : vs.length = fd.np
  · exact hl
  · rw [if_neg hl] at h; exact (h rfl).elim
end Ev
end
section
set_option Elab.async false
set_option linter.all false
set_option maxRecDepth 100000
namespace Ev
open PySem PySem.Spec L2
section
variable {P : Program} {w : World} {H I : Hp} {h : Heap}
theorem key_reads {k : Key} {v : Value} (e : keyIs k v = true) : Reads h v (keyD k) [] := by
  rcases keyIs_shape e with ⟨i, t, rfl, rfl⟩ | ⟨x, t, rfl, rfl⟩
  · exact .int i t
  · exact .str x t
theorem rel_key {k : Key} {v : Value} (e : RelV (kV k) v) : Reads h v (keyD k) [] := by
  cases k with
  | inl i => obtain ⟨t, rfl⟩ := e; exact .int i t
  | inr x => obtain ⟨t, rfl⟩ := e; exact .str x t
theorem keys_reads : ∀ {ks : List Key} {its : List Value}, Vals (ks.map kV) its → ReadsAll h its (ks.map keyD) []
  | [], _, .nil => .nil
  | k :: ks, _, .cons a b => by
    have := ReadsAll.cons (rel_key (h := h) a) (keys_reads b)
    exact this
/-- all of it stands in H -/
def Tr (H : Hp) (as : List Addr) : Prop := ∀ b ∈ as, ∃ o, H b = some o
theorem Tr.nil : Tr H [] := fun b h => by simp at h
theorem Tr.append {as bs : List Addr} (a : Tr H as) (b : Tr H bs) : Tr H (as ++ bs) := fun c h => (List.mem_append.mp h).elim (a c) (b c)
theorem Tr.cons {a : Addr} {o : HO} {bs : List Addr} (e : H a = some o) (b : Tr H bs) : Tr H (a :: bs) := fun c h => (List.mem_cons.mp h).elim (fun z => ⟨o, z ▸ e⟩) (b c)
theorem rd_at {a : Addr} {u : HO} (r : Rd H a u) : ∃ o, H a = some o := r.elim (fun e => ⟨_, e⟩) fun ⟨o, e⟩ => ⟨_, e⟩
section
variable (ok : HOk P w H h)
include ok
theorem lst_reads {a : Addr} {xs : List V} (e : H a = some (.lst xs)) {ds : List PyData} (ih : ∀ its, Vals xs its → ∃ as, ReadsAll h its ds as ∧ Tr H as) : ∃ as, Reads h (.ref a) (.list ds) as ∧ Tr H as := by
  obtain ⟨_, its, n, r, eo⟩ := (show ObjOk P w H h a (.lst xs) from ok a _ e)
  obtain ⟨as, r1, t1⟩ := ih its r
  exact ⟨a :: as, .list eo rfl rfl (by simpa using r1), .cons e t1⟩
theorem tup_reads {a : Addr} {xs : List V} (e : H a = some (.tup xs)) {ds : List PyData} (ih : ∀ its, Vals xs its → ∃ as, ReadsAll h its ds as ∧ Tr H as) : ∃ as, Reads h (.ref a) (.tuple ds) as ∧ Tr H as := by
  obtain ⟨_, its, r, o, h1, h2, n, h3⟩ := (show ObjOk P w H h a (.tup xs) from ok a _ e)
  obtain ⟨as, r1, t1⟩ := ih its r
  exact ⟨as, .tuple h1 h2 h3 (by simpa using r1), t1⟩
theorem dk_reads {a : Addr} {kvs : List (Key × V)} {ps : List (PyData × PyData)} (e : Rd H a (.dK kvs)) (hk : ps.map (·.1) = kvs.map fun p => keyD p.1) (ih : ∀ its, Vals (kvs.map (·.2)) its → ∃ as, ReadsAll h its (ps.map (·.2)) as ∧ Tr H as) : ∃ as, Reads h (.ref a) (.dict ps) as ∧ Tr H as := by
  obtain ⟨_, _, vs, kv, o, es, ep, h1, h2, h3, _, h5, _⟩ := dk_rd ok e
  have go : ∀ {es : List DictEntry} {vs : List (Key × Value)}, Pairs (mixKind P w) es vs → ∀ {kvs : List (Key × V)}, KV kvs vs → ReadsAll h (es.map (·.key)) (kvs.map fun p => keyD p.1) [] ∧ Vals (kvs.map (·.2)) (es.map (·.val)) := by
    intro es vs p
    induction p with
    | nil => intro kvs r; cases r; exact ⟨.nil, .nil⟩
    | @cons e kv es vs q1 q2 _ ih =>
      intro kvs r
      cases r with
      | @cons x _ _ _ r1 r2 =>
        obtain ⟨i1, i2⟩ := ih r2
        refine ⟨?_, .cons (show RelV x.2 e.val by rw [q2]; exact r1.2) i2⟩
        have k1 : Reads h e.key (keyD x.1) [] := key_reads (by rw [r1.1]; exact q1)
        exact ReadsAll.cons k1 i1
  obtain ⟨g1, g2⟩ := go h5 kv
  obtain ⟨as, r1, t1⟩ := ih _ g2
  obtain ⟨u, eu⟩ := rd_at e
  exact ⟨a :: [] ++ as, .dict h1 h2.1 h3 (by rw [hk]; exact g1) r1, .cons eu t1⟩
theorem dt_reads {a : Addr} {kvs : List (List Key × V)} {ps : List (PyData × PyData)} (e : Rd H a (.dT kvs)) (hk : ps.map (·.1) = kvs.map fun p => keysD p.1) (ih : ∀ its, Vals (kvs.map (·.2)) its → ∃ as, ReadsAll h its (ps.map (·.2)) as ∧ Tr H as) : ∃ as, Reads h (.ref a) (.dict ps) as ∧ Tr H as := by
  obtain ⟨_, _, xs, kt, o, es, ep, h1, h2, h3, h4, _⟩ := dt_rd ok e
  have go : ∀ {kvs : List (List Key × V)} {xs : List (List Key × Addr × Value)}, KT H kvs xs → ReadsAll h ((xs.map (entryOfKey (tupleKind (mixKind P w)))).map (·.key)) (kvs.map fun p => keysD p.1) [] ∧ Vals (kvs.map (·.2)) ((xs.map (entryOfKey (tupleKind (mixKind P w)))).map (·.val)) := by
    intro kvs xs r
    induction r with
    | nil => exact ⟨.nil, .nil⟩
    | @cons p q ps qs r1 _ ih =>
      refine ⟨?_, .cons r1.2.2 ih.2⟩
      obtain ⟨_, its, rv, o, t1, t2, n, t3⟩ := (show ObjOk P w H h q.2.1 (.tup (p.1.map kV)) from ok _ _ r1.2.1)
      have k1 : Reads h (.ref q.2.1) (keysD p.1) [] := .tuple t1 t2 t3 (by simpa using keys_reads rv)
      exact ReadsAll.cons k1 ih.1
  obtain ⟨g1, g2⟩ := go kt
  rw [← h4] at g1 g2
  obtain ⟨as, r1, t1⟩ := ih _ g2
  obtain ⟨u, eu⟩ := rd_at e
  exact ⟨a :: [] ++ as, .dict h1 h2.1 h3 (by rw [hk]; exact g1) r1, .cons eu t1⟩
end
theorem RDk.keys : ∀ {ps : List (PyData × PyData)} {kvs : List (Key × V)}, RDk I ps kvs → ps.map (·.1) = kvs.map fun p => keyD p.1
  | _, _, .nil => rfl
  | _, _, .cons _ r => by rw [List.map_cons, List.map_cons, RDk.keys r]
theorem RDt.keys : ∀ {ps : List (PyData × PyData)} {kvs : List (List Key × V)}, RDt I ps kvs → ps.map (·.1) = kvs.map fun p => keysD p.1
  | _, _, .nil => rfl
  | _, _, .cons _ r => by rw [List.map_cons, List.map_cons, RDt.keys r]
section
variable (ok : HOk P w H h) (le : ∀ b o, I b = some o → H b = some o)
include ok le
theorem rd_le {a : Addr} {u : HO} (r : Rd I a u) : Rd H a u := r.elim (fun e => .inl (le _ _ e)) fun ⟨o, e⟩ => .inr ⟨o, le _ _ e⟩
mutual
theorem RD.reads : ∀ {d : PyData} {x : V}, RD I d x → ∀ u, RelV x u → ∃ as, Reads h u d as ∧ Tr H as
  | _, _, .none, u, r => by cases (show u = .none from r); exact ⟨[], .none, .nil⟩
  | _, _, .bool b, u, r => by cases (show u = .bool b from r); exact ⟨[], .bool b, .nil⟩
  | _, _, .int i, u, r => by obtain ⟨t, rfl⟩ := r; exact ⟨[], .int i t, .nil⟩
  | _, _, .str s, u, r => by obtain ⟨t, rfl⟩ := r; exact ⟨[], .str s t, .nil⟩
  | _, _, .list (a := a) e rd, u, r => by cases (show u = .ref a from r); exact lst_reads ok (le _ _ e) (RDs.reads rd)
  | _, _, .tuple (a := a) e rd, u, r => by cases (show u = .ref a from r); exact tup_reads ok (le _ _ e) (RDs.reads rd)
  | _, _, .dk (a := a) e rd, u, r => by cases (show u = .ref a from r); exact dk_reads ok (rd_le ok le e) rd.keys (RDk.reads rd)
  | _, _, .dt (a := a) e rd, u, r => by cases (show u = .ref a from r); exact dt_reads ok (rd_le ok le e) rd.keys (RDt.reads rd)
theorem RDs.reads : ∀ {ds : List PyData} {xs : List V}, RDs I ds xs → ∀ us, Vals xs us → ∃ as, ReadsAll h us ds as ∧ Tr H as
  | _, _, .nil, _, .nil => ⟨[], .nil, .nil⟩
  | _, _, .cons a b, _, .cons r1 r2 => by
    obtain ⟨as, a1, a2⟩ := RD.reads a _ r1
    obtain ⟨bs, b1, b2⟩ := RDs.reads b _ r2
    exact ⟨as ++ bs, .cons a1 b1, a2.append b2⟩
theorem RDk.reads : ∀ {ps : List (PyData × PyData)} {kvs : List (Key × V)}, RDk I ps kvs → ∀ us, Vals (kvs.map (·.2)) us → ∃ as, ReadsAll h us (ps.map (·.2)) as ∧ Tr H as
  | _, _, .nil, _, .nil => ⟨[], .nil, .nil⟩
  | _, _, .cons a b, _, .cons r1 r2 => by
    obtain ⟨as, a1, a2⟩ := RD.reads a _ r1
    obtain ⟨bs, b1, b2⟩ := RDk.reads b _ r2
    exact ⟨as ++ bs, .cons a1 b1, a2.append b2⟩
theorem RDt.reads : ∀ {ps : List (PyData × PyData)} {kvs : List (List Key × V)}, RDt I ps kvs → ∀ us, Vals (kvs.map (·.2)) us → ∃ as, ReadsAll h us (ps.map (·.2)) as ∧ Tr H as
  | _, _, .nil, _, .nil => ⟨[], .nil, .nil⟩
  | _, _, .cons a b, _, .cons r1 r2 => by
    obtain ⟨as, a1, a2⟩ := RD.reads a _ r1
    obtain ⟨bs, b1, b2⟩ := RDt.reads b _ r2
    exact ⟨as ++ bs, .cons a1 b1, a2.append b2⟩
end
theorem RU.reads {d : PyData} {x : V} (r : RU H I d x) (u : Value) (ru : RelV x u) : ∃ as, Reads h u d as ∧ Tr H as := by
  cases r with
  | flat e =>
    exact RD.reads ok le (flat_RD e) u ru
  | @list a _ _ e rd => cases (show u = .ref a from ru); exact lst_reads ok e (RDs.reads ok le rd)
  | @tuple a _ _ e rd => cases (show u = .ref a from ru); exact tup_reads ok e (RDs.reads ok le rd)
  | @dk a _ _ e rd => cases (show u = .ref a from ru); exact dk_reads ok e rd.keys (RDk.reads ok le rd)
  | @dt a _ _ e rd => cases (show u = .ref a from ru); exact dt_reads ok e rd.keys (RDt.reads ok le rd)
end
end
def rRepr : V → Hp → VK → Prop := fun v H Q => ∃ I d, (∀ b o, I b = some o → H b = some o) ∧ RU H I d v ∧ (d.showable = true ∧ d.depth ≤ 100 ∧ d.shown.length ≤ sizeLine) ∧ Q (.str d.shown) H
theorem call_repr {X : Cx} (hg : X.A.guards = some []) (hu : X.A.units + 102 < cLine) (hs : ∃ o, X.K.lookup sysModules = some o) : CallR X (.builtin "repr") (fun xs H Q => ∃ x, xs = [x] ∧ rRepr x H Q) := by
  intro pins s σ H xs us Q I r h
  obtain ⟨x, rfl, J, d, le, ru, ⟨h1, h2, h3⟩, q⟩ := h
  obtain ⟨u, rfl, rx⟩ := vals1 r
  obtain ⟨as, rd, tr⟩ := RU.reads I.hok le ru u rx
  have fin : ∀ (t tk : Tok) (h' : Heap), (∀ b o, s.heap.get? b = some o → h'.get? b = some o) → EP X pins σ Q (.str d.shown t) { s with heap := h', toks := tk } := fun t tk h' k => ⟨.str d.shown, H, I.kept k, ⟨t, rfl⟩, q⟩
  have no : sysModules ∉ as := fun m => by
    obtain ⟨o, e⟩ := tr _ m
    obtain ⟨o2, e2⟩ := hs
    have := (I.bs _ _ (I.ok.mod.kin _ _ e2)).2
    rw [e] at this; cases this
  have go : ∀ a, u = .ref a → wpAny (model X.prog X.w) X.A (call (.builtin "repr") [u]) (EP X pins σ Q) X.xe s := fun a e => by
    subst e
    exact repr_of_reads' rd h1 (fun _ => no) hg (by omega) (fun _ _ e => e) (fun h' t tk k => fin t tk h' k) h3
  cases ru with
  | flat e =>
    cases d <;> first | (cases e; done) | skip
    all_goals obtain rfl := Option.some.inj e
    · cases (show u = .none from rx); exact PySem.P.repr_of_none (fin _ _ _ fun _ _ e => e)
    · rename_i b; cases (show u = .bool b from rx)
      exact PySem.P.repr_of_bool (fin _ _ _ fun _ _ e => e)
    · obtain ⟨t, rfl⟩ := rx
      exact PySem.P.repr_of_int (of_decide_eq_true h1) (fin _ _ _ fun _ _ e => e)
    · obtain ⟨t, rfl⟩ := rx
      exact PySem.P.repr_of_str (fin _ _ _ fun _ _ e => e) h3
  | list _ _ => exact go _ rx
  | tuple _ _ => exact go _ rx
  | dk _ _ => exact go _ rx
  | dt _ _ => exact go _ rx
theorem SE.rep {F : Fx} {ta : TE} {ma : Ev.Env → M Val} (ha : SE F ta ma) : SE F (tCB (fun xs H Q => ∃ x, xs = [x] ∧ rRepr x H Q) (tCons ta tNil)) (fun ρ => bnd (ma ρ) reprM) := fun g w ρ S σ H Q R E h =>
  ha g w ρ S σ H _ R E (po_bind (P := fun w r => PO F (RV F.K) g w σ Q r) h (fun e S' w' H' c d p => p w' H' c d) (fun p => p) fun v S1 w1 H1 x e1 R1 r1 p => by
    obtain ⟨d, ed, p⟩ := po_viewd p
    obtain ⟨y, ey, p⟩ := po_lift p
    unfold reprD at ey
    split at ey
    · rename_i c
      obtain rfl := Option.some.inj ey
      exact ⟨x, rfl, w1.I, d, R1.le, R1.vwd r1 ed, c, p w1 H1 _ e1 R1 (.d (.str _))⟩
    · cases ey)
end Ev
end
section
set_option Elab.async false
set_option linter.all false
set_option maxRecDepth 100000
namespace Ev
open PySem PySem.Spec L2
def noStar : Expr → Bool
  | .Starred _ _ => false
  | _ => true
theorem star_cons {e : Expr} (h : noStar e = true) (es : List Expr) (env : PySem.Env) : starEach (e :: es) env = (false, eval e env) :: starEach es env := by
  cases e <;> first | (cases h; done) | rfl
theorem star_none (pos : Pos) (env : PySem.Env) : ∀ {es : List Expr}, es.all noStar = true → (backTo pos (starEach es env)).any (·.1) = false
  | [], _ => rfl
  | e :: es, h => by
    have h : noStar e = true ∧ es.all noStar = true := by simpa using h
    rw [star_cons h.1]
    show (false || (backTo pos (starEach es env)).any (·.1)) = false
    rw [star_none pos env h.2]; rfl
theorem star_all (pos : Pos) (env : PySem.Env) : ∀ {es : List Expr}, es.all noStar = true → (backTo pos (starEach es env)).all (fun x => !x.1) = true
  | [], _ => rfl
  | e :: es, h => by
    have h : noStar e = true ∧ es.all noStar = true := by simpa using h
    rw [star_cons h.1]
    show (true && (backTo pos (starEach es env)).all (fun x => !x.1)) = true
    rw [star_all pos env h.2]; rfl
theorem asg_each {e : Expr} (h : noStar e = true) (es : List Expr) (env : PySem.Env) : assignEach (e :: es) env = (false, assign e env) :: assignEach es env := by
  cases e <;> first | (cases h; done) | rfl
theorem asg_len (env : PySem.Env) : ∀ {es : List Expr}, es.all noStar = true → (assignEach es env).length = es.length
  | [], _ => rfl
  | e :: es, h => by
    have h : noStar e = true ∧ es.all noStar = true := by simpa using h
    rw [asg_each h.1, List.length_cons, asg_len env h.2, List.length_cons]
theorem asg_find (env : PySem.Env) : ∀ {es : List Expr}, es.all noStar = true → (assignEach es env).findIdx? (·.1) = none
  | [], _ => rfl
  | e :: es, h => by
    have h : noStar e = true ∧ es.all noStar = true := by simpa using h
    rw [asg_each h.1, List.findIdx?_cons, asg_find env h.2]
    rfl
/-- an expression whose test is its value's truth -/
def plainT : Expr → Bool
  | .UnaryOp .Not _ _ => false
  | .BoolOp _ _ _ => false
  | .IfExp _ _ _ _ => false
  | .Compare _ _ _ _ => false
  | _ => true
theorem plain_true {e : Expr} (h : plainT e = true) (env : PySem.Env) (whole : Sem Value) : PySem.isTrue e env whole = (do let v ← whole; standAt e.pos; holding [v] (truthy v)) := by
  cases e with
  | UnaryOp op _ _ => cases op <;> first | (cases h; done) | (unfold PySem.isTrue; rfl)
  | BoolOp _ _ _ => cases h
  | IfExp _ _ _ _ => cases h
  | Compare _ _ _ _ => cases h
  | _ => unfold PySem.isTrue; rfl
def plainI : Expr → Bool
  | .Slice _ _ _ _ => false
  | _ => true
theorem plain_ix {e : Expr} (h : plainI e = true) : PlainIx e := fun o i => by
  cases e <;> first | (cases h; done) | rfl
def notSet : Expr → Bool
  | .Set _ _ _ => false
  | _ => true
theorem no_marks {op : CmpOp} {e : Expr} (h : notSet e = true) : behindInMarks op e = false := by
  cases e <;> first | (cases h; done) | rfl
theorem no_last {op op' : CmpOp} {b c : Expr} (h : notSet c = true) : lastMarks [op, op'] [b, c] = false := by
  show behindInMarks op' c = false
  exact no_marks h
theorem not_folded {e : Expr} (h : notSet e = true) (env : PySem.Env) (x : Value) : foldedSetIterable e env x = pure x := by
  cases e <;> first | (cases h; done) | rfl
def notCall : Expr → Bool
  | .Call (.Name x _) [] [] _ => decide (x ≠ "super")
  | _ => true
theorem attr_base {o : Expr} (h : notCall o = true) (m : Str) (env : PySem.Env) (whole : Sem Value) : attributeBase o m env whole = whole := by
  unfold attributeBase
  split
  · rename_i x p pos
    have h : x ≠ "super" := by simpa [notCall] using h
    have h2 : (x != "super") = true := by simpa using h
    rw [h2]
    rfl
  · rfl
def notComp : Expr → Bool
  | .ListComp _ _ _ _ => false
  | .SetComp _ _ _ _ => false
  | .DictComp _ _ _ _ _ => false
  | _ => true
theorem no_swap {e : Expr} (h : notComp e = true) (t : Option Expr) (l : Nat) (env : PySem.Env) : swapsWith e t l env = pure false := by
  cases e <;> first | (cases h; done) | rfl
theorem no_swapS {e : Expr} (h : notComp e = true) (t : Expr) (l : Nat) (env : PySem.Env) : swapsWithSole [t] e l env = pure false := by
  show swapsWith e (some t) l env = pure false
  exact no_swap h _ l env
def notName : Expr → Bool
  | .Name _ _ => false
  | _ => true
/-- a comprehension behind a target that is no name -/
theorem no_swapT {e t : Expr} (h : notName t = true) (l : Nat) (env : PySem.Env) : swapsWithSole [t] e l env = pure false := by
  show swapsWith e (some t) l env = pure false
  unfold swapsWith
  cases e <;> first | rfl | (cases t <;> first | (cases h; done) | rfl)
def notSeq : Expr → Bool
  | .Tuple _ _ _ => false
  | .List _ _ => false
  | _ => true
theorem no_stores {t e : Expr} (h : notSeq t = true) (env : PySem.Env) : swappedStores [t] e env = pure none := by
  unfold swappedStores
  cases t <;> first | (cases h; done) | rfl
def notTup : Expr → Bool
  | .Tuple _ _ _ => false
  | _ => true
theorem no_stores' {t e : Expr} (h : notTup e = true) (env : PySem.Env) : swappedStores [t] e env = pure none := by
  unfold swappedStores
  cases t <;> first | rfl | (cases e <;> first | (cases h; done) | rfl)
theorem asg_one {t : Expr} (h : noStar t = true) (env : PySem.Env) : (assignEach [t] env).map (·.2) = [assign t env] := by
  rw [asg_each h]; rfl
theorem kw_names (pos : Pos) (env : PySem.Env) : ∀ {kws : List Keyword} {ks : List Str}, kws.map (·.arg) = ks.map some → (backToKw pos (keywordEach kws env)).filterMap (·.1) = ks ∧ (backToKw pos (keywordEach kws env)).all (·.1.isSome) = true ∧ (backToKw pos (keywordEach kws env)).any (·.1.isNone) = false
  | [], ks, h => by
    cases ks with
    | nil => exact ⟨rfl, rfl, rfl⟩
    | cons _ _ => simp at h
  | ⟨n, e, p⟩ :: kws, ks, h => by
    cases ks with
    | nil => simp at h
    | cons k ks =>
      have h' : n = some k ∧ kws.map (·.arg) = ks.map some := by simpa using h
      obtain ⟨rfl, h'⟩ := h'
      obtain ⟨a, b, c⟩ := kw_names pos env h'
      refine ⟨?_, ?_, ?_⟩
      · show k :: (backToKw pos (keywordEach kws env)).filterMap (·.1) = _
        rw [a]
      · show (true && (backToKw pos (keywordEach kws env)).all (·.1.isSome)) = true
        rw [b]; rfl
      · show (false || (backToKw pos (keywordEach kws env)).any (·.1.isNone)) = false
        rw [c]; rfl
end Ev
end
section
set_option Elab.async false
set_option linter.all false
set_option maxRecDepth 100000
namespace Ev
open PySem PySem.Spec L2
structure PInf where
  Γ : Tab
  G : List (Str × Val)
  gv : Str → V
  bis : List Str
  kws : List (Str × Nat × List Str)
/-- what is seen of a body: its scope, its names, the comprehension around -/
structure CT where
  sc : Scope
  N : List Str
  blk : Option Scope
def CT.fnb (Θ : CT) (x : Str) : Bool := match Θ.blk with
  | none => true
  | some s => s.names.lookup x == some .cell
/-- positional values first, then the keywords' -/
def gP {α : Type} (np nk : Nat) (is : List Nat) (us ws : List α) : List α := if us.length = np ∧ ws.length = nk then is.filterMap fun i => (us ++ ws)[i]? else []
structure Gd (CX : CXT) (Pn : PInf) (k : Nat) (F : Fx) (Θ : CT) (X : Cx) : Prop where
  K : X.K = F.K
  calm : X.calm = true
  nN : X.N = Θ.N
  nd : X.N.Nodup
  sc : X.env.scope = Θ.sc
  fn : ∀ x, X.fn x = Θ.fnb x
  gd : X.A.guards = some []
  room : Room k X.A
  sysm : ∃ o, F.K.lookup sysModules = some o
  glob : ∀ p ∈ Pn.G, GlobOk F.K p.2 (Pn.gv p.1) ∧ ∃ u, X.mg p.1 = some u ∧ RelV (Pn.gv p.1) u
  bi : ∀ x ∈ Pn.bis, X.mg x = none
  fns : ∀ f fd, lookF Pn.Γ f = some fd → ∃ a fdata ps, X.mg f = some (.ref a) ∧ PySem.W.keepIn X.K (.ref a) = true ∧ Binds X.K fdata ps [] ∧ FnG X.prog X.w X.K X.mg X.base CX k a fdata ps (spEv F.K F.cA fd.np (callF Pn.Γ Pn.G k f)) ∧
    ∀ n ks is, (f, n, ks) ∈ Pn.kws → kwF Pn.Γ f ks n = some is → KBinds X.K fdata ps ks (gP n ks.length is) (gP n ks.length is)
  px : PassesW CX X F.W
theorem Gd.units {CX : CXT} {Pn : PInf} {k : Nat} {F : Fx} {Θ : CT} {X : Cx} (g : Gd CX Pn k F Θ X) : X.A.units + 102 < cLine := by have := g.room.un; omega
def CT.inner (Θ : CT) (s : Scope) : CT := ⟨relS s Θ.sc, Θ.N, some s⟩
theorem Gd.blk {CX : CXT} {Pn : PInf} {k : Nat} {F : Fx} {Θ : CT} {X : Cx} (hCX : ∀ outer H s e s', CX outer H s (fun _ _ _ => False) e s' → False) (g : Gd CX Pn k F Θ X) (s : Shared) (H : Hp) (scope : Scope) (C : Addr) (cl : List (Str × Addr)) (fp : List Addr) :
    Gd CX Pn k (noF F) (Θ.inner scope) (X.blk s H scope (compEnvC scope cl C X.env) fp) where
  K := g.K
  calm := g.calm
  nN := g.nN
  nd := g.nd
  sc := by
    show relabel scope X.env = relS scope Θ.sc
    rw [← g.sc]; rfl
  fn := fun x => rfl
  gd := g.gd
  room := g.room
  sysm := g.sysm
  glob := g.glob
  bi := g.bi
  fns := g.fns
  px := fun pins σ H s e s' _ h => hCX _ _ _ _ _ h
def visB (sc : Scope) (x : Str) : Bool := match sc.names.lookup x with
  | some .local => true
  | some .cell => true
  | some .free => true
  | _ => false
def locB (sc : Scope) (x : Str) : Bool := match sc.names.lookup x with
  | some .local => true
  | some .cell => true
  | _ => false
def glB (sc : Scope) (x : Str) : Bool := match sc.names.lookup x with
  | some .globalImplicit => true
  | _ => false
theorem visB_ok {sc : Scope} {x : Str} (h : visB sc x = true) : Vis sc x := by
  unfold visB at h
  split at h
  · rename_i e; exact .inl e
  · rename_i e; exact .inr (.inl e)
  · rename_i e; exact .inr (.inr e)
  · cases h
theorem locB_ok {sc : Scope} {x : Str} (h : locB sc x = true) : Loc sc x := by
  unfold locB at h
  split at h
  · rename_i e; exact .inl e
  · rename_i e; exact .inr e
  · cases h
theorem glB_ok {X : Cx} {sc : Scope} (e : X.env.scope = sc) {x : Str} (h : glB sc x = true) : Gl X x := by
  unfold glB at h
  split at h
  · rename_i q
    show X.env.scope.names.lookup x = _
    rw [e]; exact q
  · cases h
def okN (x : Str) : Bool := decide (x ≠ "__debug__") && decide (x ≠ "__classdict__") && decide (x ≠ "__name__")
theorem okN_ok {x : Str} (h : okN x = true) : (x == ("__debug__" : Str)) = false ∧ (x == ("__classdict__" : Str)) = false ∧ x ≠ "__name__" := by
  unfold okN at h
  simp only [Bool.and_eq_true, decide_eq_true_eq] at h
  obtain ⟨⟨a, b⟩, c⟩ := h
  exact ⟨by simpa using a, by simpa using b, c⟩
def vBin : Expr → Option (Expr × Operator × Expr)
  | .BinOp a o b _ => some (a, o, b)
  | _ => none
def vUn : Expr → Option (UnaryOp × Expr)
  | .UnaryOp o a _ => some (o, a)
  | _ => none
def vCmp : Expr → Option (Expr × CmpOp × Expr)
  | .Compare a [o] [b] _ => some (a, o, b)
  | _ => none
def vChn : Expr → Option (Expr × CmpOp × Expr × CmpOp × Expr)
  | .Compare a [o, p] [b, c] _ => some (a, o, b, p, c)
  | _ => none
def vBool : Expr → Option (BoolOp × List Expr)
  | .BoolOp o es _ => some (o, es)
  | _ => none
def vName : Expr → Option Str
  | .Name x _ => some x
  | _ => none
def vCall : Expr → Option (Str × List Expr × List Keyword)
  | .Call (.Name f _) es ks _ => some (f, es, ks)
  | _ => none
def vMeth : Expr → Option (Expr × Str × List Expr)
  | .Call (.Attribute o m ap) es [] cp => if (ap.endLine == cp.line) = true then some (o, m, es) else none
  | _ => none
def vSub : Expr → Option (Expr × Expr)
  | .Subscript a i _ => some (a, i)
  | _ => none
def vSl : Expr → Option (Expr × Option Expr × Option Expr)
  | .Subscript a (.Slice lo hi none _) _ => some (a, lo, hi)
  | _ => none
def vRev : Expr → Option Expr
  | .Subscript a (.Slice none none (some (.UnaryOp .USub (.Constant (.int 1) _ _) _)) _) _ => some a
  | _ => none
def vTup : Expr → Option (List Expr)
  | .Tuple es _ _ => some es
  | _ => none
def vLst : Expr → Option (List Expr)
  | .List es _ => some es
  | _ => none
def vDict : Expr → Option (List (Option Expr) × List Expr)
  | .Dict ks vs _ => some (ks, vs)
  | _ => none
def vIf : Expr → Option (Expr × Expr × Expr)
  | .IfExp c a b _ => some (c, a, b)
  | _ => none
def vConst : Expr → Option Const
  | .Constant c _ _ => some c
  | _ => none
def vLc : Expr → Option (Expr × Expr × Expr × List Expr × Scope)
  | .ListComp el [⟨tg, it, ifs, 0⟩] sc _ => some (el, tg, it, ifs, sc)
  | _ => none
def constF : Const → Option V
  | .none => some .non
  | .bool b => some (.bl b)
  | .int i => some (.int i)
  | .str s => some (.str s)
  | _ => none
def tyE (Pn : PInf) (Θ : CT) (e : Expr) (t : Ty) : Bool := match vName e with
  | some x => decide (x = Str.ofString t.name) && glB Θ.sc x && Pn.bis.contains x
  | none => false
def all2 {α β : Type} (f : α → β → Bool) : List α → List β → Bool
  | [], [] => true
  | a :: r, b :: s => f a b && all2 f r s
  | _, _ => false
def opt2 {α β : Type} (f : α → β → Bool) : Option α → Option β → Bool
  | none, none => true
  | some a, some b => f a b
  | _, _ => false
/-- targets -/
def ckG : Nat → CT → Expr → Tg → Bool
  | 0, _, _, _ => false
  | n + 1, Θ, e, t => match t with
    | .var i => (match vName e with
      | some x => decide (Θ.N[i]? = some x) && locB Θ.sc x && (Θ.fnb x || decide (Θ.sc.names.lookup x = some .local))
      | none => false)
    | .tup ts => (match vTup e with
      | some es => es.all noStar && all2 (ckG n Θ) es ts
      | none => false)
def slots : Nat → Tg → List Nat
  | 0, _ => []
  | n + 1, t => match t with
    | .var i => [i]
    | .tup ts => (ts.map (slots n)).flatten
def biName (Pn : PInf) (Θ : CT) (x : Str) (n : String) : Bool := decide (x = Str.ofString n) && glB Θ.sc x && Pn.bis.contains x
section
variable (Pn : PInf)
def ckI (ck : CT → Expr → X → Bool) (Θ : CT) (tg e : Expr) (it : It) : Bool := match it with
  | .ex a => ck Θ e a
  | .rng xs => (match vCall e with
    | some (f, es, []) => biName Pn Θ f "range" && es.all noStar && all2 (ck Θ) es xs && (xs.length == 1 || xs.length == 2)
    | _ => false)
  | .enu a => (match vCall e with
    | some (f, [b], []) => biName Pn Θ f "enumerate" && noStar b && ck Θ b a && (vTup tg).isSome
    | _ => false)
  | .zip a b => (match vCall e with
    | some (f, [c, d], []) => biName Pn Θ f "zip" && noStar c && noStar d && ck Θ c a && ck Θ d b && (vTup tg).isSome
    | _ => false)
  | .rev a => (match vCall e with
    | some (f, [b], []) => biName Pn Θ f "reversed" && noStar b && ck Θ b a
    | _ => false)
def stepE (cE cT : CT → Expr → X → Bool) (Θ : CT) (e : Expr) (x : X) : Bool := match x with
    | .var i => (match vName e with
      | some x => decide (Θ.N[i]? = some x) && visB Θ.sc x && okN x
      | none => false)
    | .c c => (match vConst e with
      | some c' => decide (c = c') && (constF c).isSome
      | none => false)
    | .g j => (match vName e with
      | some x => decide ((Pn.G[j]?).map (·.1) = some x) && glB Θ.sc x && okN x
      | none => false)
    | .tup xs => (match vTup e with
      | some es => es.all noStar && all2 (cE Θ) es xs
      | none => false)
    | .lst _ xs => (match vLst e with
      | some es => es.all noStar && all2 (cE Θ) es xs
      | none => false)
    | .dnil => (match vDict e with
      | some ([], []) => true
      | _ => false)
    | .dnew _ => (match vDict e with
      | some ([], []) => true
      | _ => false)
    | .dct _ ps => (match vDict e with
      | some (ks, vs) => all2 (fun (k : Option Expr) (p : X × X) => match k with
          | some k => cE Θ k p.1
          | none => false) ks ps && all2 (fun (v : Expr) (p : X × X) => cE Θ v p.2) vs ps && !ps.isEmpty && decide (ps.length ≤ 15)
      | none => false)
    | .bin _ o a b => (match vBin e with
      | some (ea, op, eb) => decide (op = opB o) && cE Θ ea a && cE Θ eb b
      | none => false)
    | .neg a => (match vUn e with
      | some (.USub, ea) => cE Θ ea a
      | _ => false)
    | .cmp o a b => (match vCmp e with
      | some (ea, op, eb) => decide (op = opC o) && notSet eb && cE Θ ea a && cE Θ eb b
      | none => false)
    | .chn o p a b c => (match vChn e with
      | some (ea, op, eb, op', ec) => decide (op = opC o) && decide (op' = opC p) && notSet ec && cE Θ ea a && cE Θ eb b && cE Θ ec c
      | none => false)
    | .and_ xs => (match vBool e with
      | some (.And, es) => !xs.isEmpty && all2 (cE Θ) es xs
      | _ => false)
    | .or_ xs => (match vBool e with
      | some (.Or, es) => !xs.isEmpty && all2 (cE Θ) es xs
      | _ => false)
    | .not_ a => (match vUn e with
      | some (.Not, ea) => cE Θ ea a
      | _ => false)
    | .ite t a b => (match vIf e with
      | some (et, ea, eb) => cT Θ et t && cE Θ ea a && cE Θ eb b
      | none => false)
    | .idx a i => (match vSub e with
      | some (ea, ei) => plainI ei && cE Θ ea a && cE Θ ei i
      | none => false)
    | .sl _ a lo hi => (match vSl e with
      | some (ea, el, eh) => cE Θ ea a && opt2 (cE Θ) el lo && opt2 (cE Θ) eh hi
      | none => false)
    | .rev _ a => (match vRev e with
      | some ea => cE Θ ea a
      | none => false)
    | .call f xs => (match vCall e with
      | some (f', es, []) => decide (f = f') && glB Θ.sc f && okN f && (lookF Pn.Γ f).isSome && es.all noStar && all2 (cE Θ) es xs
      | _ => false)
    | .callk f xs ks => (match vCall e with
      | some (f', es, kws) => decide (f = f') && glB Θ.sc f && okN f && (lookF Pn.Γ f).isSome && (kwF Pn.Γ f (ks.map (·.1)) xs.length).isSome && decide ((f, xs.length, ks.map (·.1)) ∈ Pn.kws) && es.all noStar && all2 (cE Θ) es xs &&
          decide (kws.map (·.arg) = (ks.map (·.1)).map some) && all2 (fun (w : Keyword) (p : Str × X) => cE Θ w.value p.2) kws ks
      | _ => false)
    | .bi _ b xs => (match vCall e, fnB b with
      | some (f, es, []), some (nm, _) => biName Pn Θ f nm && es.all noStar && !es.isEmpty && all2 (cE Θ) es xs
      | _, _ => false)
    | .rep a => (match vCall e with
      | some (f, [ea], []) => biName Pn Θ f "repr" && noStar ea && cE Θ ea a
      | _ => false)
    | .isi ts a => (match vCall e with
      | some (f, [ea, et], []) => biName Pn Θ f "isinstance" && noStar ea && cE Θ ea a && (match ts with
        | [t] => tyE Pn Θ et t
        | ts => (match vTup et with
          | some ets => all2 (tyE Pn Θ) ets ts && decide (ts.length ≤ 10)
          | none => false))
      | _ => false)
    | .me m o xs => (match vMeth e, meId m with
      | some (eo, nm, es), some (nm', _) => decide (nm = nm') && notCall eo && es.all noStar && decide (es.length < 20) && cE Θ eo o && all2 (cE Θ) es xs
      | _, _ => false)
    | .comp _ el tg it ts own => (match vLc e with
      | some (eel, etg, eit, eifs, sc) => blkC Θ.N Θ.sc sc (own.map fun i => ((Θ.N[i]?).getD "", i)) && ckG 9 (Θ.inner sc) etg tg && (slots 9 tg).all (fun i => own.contains i) && ckI Pn cE Θ etg eit it && notSet eit &&
          (match eifs, ts with
            | [], [] => true
            | [ec], [c] => cT (Θ.inner sc) ec c
            | _, _ => false) && cE (Θ.inner sc) eel el
      | none => false)
/-- a test -/
def stepT (cE cT cE' : CT → Expr → X → Bool) (Θ : CT) (e : Expr) (x : X) : Bool := match x with
    | .and_ xs => (match vBool e with
      | some (.And, es) => !xs.isEmpty && all2 (cT Θ) es xs
      | _ => false)
    | .or_ xs => (match vBool e with
      | some (.Or, es) => !xs.isEmpty && all2 (cT Θ) es xs
      | _ => false)
    | .not_ a => (match vUn e with
      | some (.Not, ea) => cT Θ ea a
      | _ => false)
    | .cmp o a b => (match vCmp e with
      | some (ea, op, eb) => decide (op = opC o) && notSet eb && cE Θ ea a && cE Θ eb b
      | none => false)
    | .chn o p a b c => (match vChn e with
      | some (ea, op, eb, op', ec) => decide (op = opC o) && decide (op' = opC p) && notSet ec && cE Θ ea a && cE Θ eb b && cE Θ ec c
      | none => false)
    | x => plainT e && cE' Θ e x
def ckB : Nat → (CT → Expr → X → Bool) × (CT → Expr → X → Bool)
  | 0 => (fun _ _ _ => false, fun _ _ _ => false)
  | n + 1 => (stepE Pn (ckB n).1 (ckB n).2, stepT (ckB n).1 (ckB n).2 (stepE Pn (ckB n).1 (ckB n).2))
def ckE (n : Nat) : CT → Expr → X → Bool := (ckB Pn n).1
def ckT (n : Nat) : CT → Expr → X → Bool := (ckB Pn n).2
theorem ckE_succ (n : Nat) : ckE Pn (n + 1) = stepE Pn (ckE Pn n) (ckT Pn n) := rfl
theorem ckT_succ (n : Nat) : ckT Pn (n + 1) = stepT (ckE Pn n) (ckT Pn n) (ckE Pn (n + 1)) := rfl
end
end Ev
end
section
set_option Elab.async false
set_option linter.all false
set_option maxRecDepth 100000
namespace Ev
open PySem PySem.Spec L2
open PyProof.Rows hiding St IsTup
theorem all2_len {α β : Type} {f : α → β → Bool} : ∀ {a : List α} {b : List β}, all2 f a b = true → a.length = b.length
  | [], [], _ => rfl
  | x :: a, y :: b, h => by
    have h : f x y = true ∧ all2 f a b = true := by simpa [all2] using h
    exact congrArg (· + 1) (all2_len h.2)
  | [], _ :: _, h => by cases h
  | _ :: _, [], h => by cases h
def Cf (Pn : PInf) (k : Nat) : Cfg := ⟨callF Pn.Γ Pn.G k, kwF Pn.Γ, Pn.G⟩
section
variable {CX : CXT} {Pn : PInf} {k : Nat} {K : PySem.W.Frag} {cA : Str → Addr}
def OkE (CX : CXT) (Pn : PInf) (k : Nat) (K : PySem.W.Frag) (cA : Str → Addr) (W : WX) (Θ : CT) (e : Expr) (m : Ev.Env → M Val) : Prop := ∃ t, (∀ X, Gd CX Pn k ⟨K, cA, W⟩ Θ X → PE X e t) ∧ SE ⟨K, cA, W⟩ t m
def OkT (CX : CXT) (Pn : PInf) (k : Nat) (K : PySem.W.Frag) (cA : Str → Addr) (W : WX) (Θ : CT) (e : Expr) (m : Ev.Env → M Bool) : Prop := ∃ t, (∀ X, Gd CX Pn k ⟨K, cA, W⟩ Θ X → PT X e t) ∧ ST ⟨K, cA, W⟩ t m
def OkA (CX : CXT) (Pn : PInf) (k : Nat) (K : PySem.W.Frag) (cA : Str → Addr) (W : WX) (Θ : CT) (es : List Expr) (m : Ev.Env → M (List Val)) : Prop := ∃ t, (∀ X, Gd CX Pn k ⟨K, cA, W⟩ Θ X → PA X es t) ∧ SA ⟨K, cA, W⟩ t m
def OkI (CX : CXT) (Pn : PInf) (k : Nat) (K : PySem.W.Frag) (cA : Str → Addr) (W : WX) (Θ : CT) (tg e : Expr) (m : Ev.Env → M (List Val)) : Prop := ∃ t, (∀ X, Gd CX Pn k ⟨K, cA, W⟩ Θ X → PI X tg e t) ∧ SI (F := ⟨K, cA, W⟩) t m
def OkG (CX : CXT) (Pn : PInf) (k : Nat) (K : PySem.W.Frag) (cA : Str → Addr) (W : WX) (Θ : CT) (e : Expr) (t : Tg) (own : List Nat) : Prop := ∃ g, (∀ X, Gd CX Pn k ⟨K, cA, W⟩ Θ X → PG X e g) ∧ SG (F := ⟨K, cA, W⟩) own g (asgT t)
theorem vName_ok {e : Expr} {x : Str} (h : vName e = some x) : ∃ p, e = .Name x p := by cases e <;> cases h; exact ⟨_, rfl⟩
theorem vTup_ok {e : Expr} {x : List Expr} (h : vTup e = some x) : ∃ kk p, e = .Tuple x kk p := by cases e <;> cases h; exact ⟨_, _, rfl⟩
theorem vLst_ok {e : Expr} {x : List Expr} (h : vLst e = some x) : ∃ p, e = .List x p := by cases e <;> cases h; exact ⟨_, rfl⟩
theorem vConst_ok {e : Expr} {x : Const} (h : vConst e = some x) : ∃ kk p, e = .Constant x kk p := by cases e <;> cases h; exact ⟨_, _, rfl⟩
theorem vBin_ok {e : Expr} {x} (h : vBin e = some x) : ∃ p, e = .BinOp x.1 x.2.1 x.2.2 p := by cases e <;> cases h; exact ⟨_, rfl⟩
theorem vUn_ok {e : Expr} {x} (h : vUn e = some x) : ∃ p, e = .UnaryOp x.1 x.2 p := by cases e <;> cases h; exact ⟨_, rfl⟩
theorem vBool_ok {e : Expr} {x} (h : vBool e = some x) : ∃ p, e = .BoolOp x.1 x.2 p := by cases e <;> cases h; exact ⟨_, rfl⟩
theorem vSub_ok {e : Expr} {x} (h : vSub e = some x) : ∃ p, e = .Subscript x.1 x.2 p := by cases e <;> cases h; exact ⟨_, rfl⟩
theorem vIf_ok {e : Expr} {x} (h : vIf e = some x) : ∃ p, e = .IfExp x.1 x.2.1 x.2.2 p := by cases e <;> cases h; exact ⟨_, rfl⟩
theorem vDict_ok {e : Expr} {x} (h : vDict e = some x) : ∃ p, e = .Dict x.1 x.2 p := by cases e <;> cases h; exact ⟨_, rfl⟩
theorem vCmp_ok {e : Expr} {x} (h : vCmp e = some x) : ∃ p, e = .Compare x.1 [x.2.1] [x.2.2] p := by
  unfold vCmp at h
  split at h
  · cases h; exact ⟨_, rfl⟩
  · cases h
theorem vChn_ok {e : Expr} {x} (h : vChn e = some x) : ∃ p, e = .Compare x.1 [x.2.1, x.2.2.2.1] [x.2.2.1, x.2.2.2.2] p := by
  unfold vChn at h
  split at h
  · cases h; exact ⟨_, rfl⟩
  · cases h
theorem vCall_ok {e : Expr} {x} (h : vCall e = some x) : ∃ p q, e = .Call (.Name x.1 p) x.2.1 x.2.2 q := by
  unfold vCall at h
  split at h
  · cases h; exact ⟨_, _, rfl⟩
  · cases h
theorem vMeth_ok {e : Expr} {x} (h : vMeth e = some x) : ∃ p q, e = .Call (.Attribute x.1 x.2.1 p) x.2.2 [] q ∧ (p.endLine == q.line) = true := by
  unfold vMeth at h
  split at h
  · split at h
    · rename_i c; cases h; exact ⟨_, _, rfl, c⟩
    · cases h
  · cases h
theorem vSl_ok {e : Expr} {x} (h : vSl e = some x) : ∃ p q, e = .Subscript x.1 (.Slice x.2.1 x.2.2 none p) q := by
  unfold vSl at h
  split at h
  · cases h; exact ⟨_, _, rfl⟩
  · cases h
theorem vRev_ok {e : Expr} {x} (h : vRev e = some x) : ∃ kk p1 p2 p3 q, e = .Subscript x (.Slice none none (some (.UnaryOp .USub (.Constant (.int 1) kk p1) p2)) p3) q := by
  unfold vRev at h
  split at h
  · cases h; exact ⟨_, _, _, _, _, rfl⟩
  · cases h
theorem vLc_ok {e : Expr} {x} (h : vLc e = some x) : ∃ p, e = .ListComp x.1 [⟨x.2.1, x.2.2.1, x.2.2.2.1, 0⟩] x.2.2.2.2 p := by
  unfold vLc at h
  split at h
  · cases h; exact ⟨_, rfl⟩
  · cases h
theorem fnB_boot : ∀ b n f, fnB b = some (n, f) → bootBuiltins (Str.ofString n) = some f ∧ Str.ofString n ≠ "__name__" ∧ (Str.ofString n == ("__debug__" : Str)) = false := fun b n f h => by
  cases b <;> first | (cases h; done) | skip
  all_goals obtain ⟨rfl, rfl⟩ : _ = n ∧ _ = f := by simpa [fnB] using h
  all_goals refine ⟨?_, by decide +kernel, by decide +kernel⟩
  all_goals decide +kernel
theorem biName_ok {Θ : CT} {x : Str} {n : String} (h : biName Pn Θ x n = true) : x = Str.ofString n ∧ glB Θ.sc x = true ∧ x ∈ Pn.bis := by
  unfold biName at h
  simp only [Bool.and_eq_true, decide_eq_true_eq, List.contains_iff_mem] at h
  exact ⟨h.1.1, h.1.2, h.2⟩
section
variable {W : WX} {Θ : CT}
/-- targets -/
theorem ckG_ok : ∀ (n : Nat) {e : Expr} {t : Tg}, ckG n Θ e t = true → OkG CX Pn k K cA W Θ e t (slots n t)
  | 0, _, _, h => by cases h
  | n + 1, e, .var i, h => by
    have h' : (match vName e with
      | some x => decide (Θ.N[i]? = some x) && locB Θ.sc x && (Θ.fnb x || decide (Θ.sc.names.lookup x = some .local))
      | none => false) = true := h
    clear h
    split at h'
    · rename_i x ex
      obtain ⟨p, rfl⟩ := vName_ok ex
      simp only [Bool.and_eq_true, Bool.or_eq_true, decide_eq_true_eq] at h'
      obtain ⟨⟨h1, h2⟩, h3⟩ := h'
      refine ⟨gName i, fun X g => pg_name g.nd (by rw [g.nN]; exact h1) (by rw [g.sc]; exact locB_ok h2) ?_, SG.name i⟩
      rcases h3 with h3 | h3
      · exact .inl (by rw [g.fn]; exact h3)
      · exact .inr (by rw [g.sc]; exact h3)
    · cases h'
  | n + 1, e, .tup ts, h => by
    have h' : (match vTup e with
      | some es => es.all noStar && all2 (ckG n Θ) es ts
      | none => false) = true := h
    clear h
    split at h'
    · rename_i es ex
      obtain ⟨kk, p, rfl⟩ := vTup_ok ex
      have h : es.all noStar = true ∧ all2 (ckG n Θ) es ts = true := by simpa using h'
      have go : ∀ {es : List Expr} {ts : List Tg}, es.all noStar = true → all2 (ckG n Θ) es ts = true → ∃ g, (∀ X, Gd CX Pn k ⟨K, cA, W⟩ Θ X → PGs X es g) ∧ SGs (F := ⟨K, cA, W⟩) ((ts.map (slots n)).flatten) g (asgTs ts) := by
        intro es
        induction es with
        | nil =>
          intro ts _ h2
          cases ts with
          | nil => exact ⟨gNil, fun X g => pgs_nil, SGs.nil⟩
          | cons _ _ => cases h2
        | cons e es ih =>
          intro ts h1 h2
          cases ts with
          | nil => cases h2
          | cons t ts =>
            have h1 : noStar e = true ∧ es.all noStar = true := by simpa using h1
            have h2 : ckG n Θ e t = true ∧ all2 (ckG n Θ) es ts = true := by simpa [all2] using h2
            obtain ⟨g1, a1, b1⟩ := ckG_ok n h2.1
            obtain ⟨g2, a2, b2⟩ := ih h1.2 h2.2
            exact ⟨gCons g1 g2, fun X g => pgs_cons (a1 X g) (a2 X g) (by rw [asg_each h1.1]; rfl), SGs.cons b1 b2⟩
      obtain ⟨g, a, b⟩ := go h.1 h.2
      have hl := all2_len h.2
      refine ⟨gTup K es.length g, fun X gd => ?_, SG.tup b fun vs ρ S z => by rw [hl]; exact asgTs_length ts vs ρ S z⟩
      have := pg_tup (pos := p) (k := kk) gd.calm (a X gd) (asg_len X.env h.1) (asg_find X.env h.1)
      rw [gd.K] at this
      exact this
    · cases h'
end
section
variable {n : Nat} {cE cT : CT → Expr → X → Bool}
variable (hE : ∀ W Θ e x, cE Θ e x = true → OkE CX Pn k K cA W Θ e (ev (Cf Pn k) n x)) (hT : ∀ W Θ e x, cT Θ e x = true → OkT CX Pn k K cA W Θ e (fun ρ => bnd (ev (Cf Pn k) n x ρ) truB))
variable {W : WX} {Θ : CT}
include hE in
theorem ckA_ok : ∀ {es : List Expr} {xs : List X}, es.all noStar = true → all2 (cE Θ) es xs = true → OkA CX Pn k K cA W Θ es (fun ρ => mapE (fun e => ev (Cf Pn k) n e ρ) xs)
  | [], [], _, _ => ⟨tNil, fun X g => pa_nil, SA.nil⟩
  | e :: es, x :: xs, h1, h2 => by
    have h1 : noStar e = true ∧ es.all noStar = true := by simpa using h1
    have h2 : cE Θ e x = true ∧ all2 (cE Θ) es xs = true := by simpa [all2] using h2
    obtain ⟨t1, a1, b1⟩ := hE W Θ e x h2.1
    obtain ⟨t2, a2, b2⟩ := ckA_ok h1.2 h2.2
    exact ⟨tCons t1 t2, fun X g => pa_cons (a1 X g) (a2 X g) (star_cons h1.1 _ _), SA.cons b1 b2⟩
  | [], _ :: _, _, h => by cases h
  | _ :: _, [], _, h => by cases h
theorem mapE_len {f : X → M Val} : ∀ {xs : List X} {S : List Cell} {vs : List Val} {S' : List Cell}, mapE f xs S = .ok vs S' → vs.length = xs.length
  | [], _, _, _, h => by cases h; rfl
  | x :: xs, S, vs, S', h => by
    have h : bnd (f x) (fun v => bnd (mapE f xs) fun vs => Ev.ret (v :: vs)) S = .ok vs S' := h
    unfold bnd at h
    cases e1 : f x S with
    | ok v S1 =>
      simp only [e1] at h
      cases e2 : mapE f xs S1 with
      | ok us S2 => simp only [e2] at h; cases h; exact congrArg (· + 1) (mapE_len e2)
      | ex _ _ => simp only [e2] at h; cases h
      | no => simp only [e2] at h; cases h
    | ex _ _ => simp only [e1] at h; cases h
    | no => simp only [e1] at h; cases h
include hE in
theorem ckI_ok {tg e : Expr} {it : It} (h : ckI Pn cE Θ tg e it = true) : OkI CX Pn k K cA W Θ tg e (fun ρ => itE (fun e => ev (Cf Pn k) n e ρ) it) := by
  cases it with
  | ex a =>
    obtain ⟨t, a1, b1⟩ := hE W Θ e a h
    refine ⟨iAny K t, fun X g => ?_, SI.any b1⟩
    have := pi_any (X := X) (tg := tg) (a1 X g)
    rw [g.K] at this
    exact this
  | rng xs =>
    have h' : (match vCall e with
      | some (f, es, []) => biName Pn Θ f "range" && es.all noStar && all2 (cE Θ) es xs && (xs.length == 1 || xs.length == 2)
      | _ => false) = true := h
    clear h
    split at h'
    · rename_i f es ex
      obtain ⟨p, q, rfl⟩ := vCall_ok ex
      simp only [Bool.and_eq_true, Bool.or_eq_true, beq_iff_eq] at h'
      obtain ⟨⟨⟨h1, h2⟩, h3⟩, h4⟩ := h'
      obtain ⟨rfl, hg, hb⟩ := biName_ok h1
      have hl := all2_len h3
      obtain ⟨t, a1, b1⟩ := ckA_ok hE (W := W) h2 h3
      match es, xs, h2, h3, h4, hl, a1, b1 with
      | [ea], [xa], h2, h3, h4, hl, a1, b1 =>
        have h2 : noStar ea = true := by simpa using h2
        refine ⟨iRng1 t, fun X g => pi_range1 (glB_ok g.sc hg) (g.bi _ hb) (a1 X g) (star_cons h2 _ _), SI.rng1 b1 fun ρ S vs S' e => ?_⟩
        exact mapE_len e
      | [ea, eb], [xa, xb], h2, h3, h4, hl, a1, b1 =>
        have h2 : noStar ea = true ∧ noStar eb = true := by simpa using h2
        refine ⟨iRng2 t, fun X g => pi_range2 (glB_ok g.sc hg) (g.bi _ hb) (a1 X g) (by rw [star_cons h2.1, star_cons h2.2]; rfl) (by rw [star_cons h2.2]; rfl), SI.rng2 b1 fun ρ S vs S' e => ?_⟩
        exact mapE_len e
      | [], xs, _, _, h4, hl, _, _ => simp at hl; rw [← hl] at h4; simp at h4
      | _ :: _ :: _ :: _, xs, _, _, h4, hl, _, _ => simp at hl; rw [← hl] at h4; simp at h4
      | [_], [], _, _, _, hl, _, _ => simp at hl
      | [_], _ :: _ :: _, _, _, _, hl, _, _ => simp at hl
      | [_, _], [], _, _, _, hl, _, _ => simp at hl
      | [_, _], [_], _, _, _, hl, _, _ => simp at hl
      | [_, _], _ :: _ :: _ :: _, _, _, _, hl, _, _ => simp at hl
    · cases h'
  | enu a =>
    have h' : (match vCall e with
      | some (f, [b], []) => biName Pn Θ f "enumerate" && noStar b && cE Θ b a && (vTup tg).isSome
      | _ => false) = true := h
    clear h
    split at h'
    · rename_i f b ex
      obtain ⟨p, q, rfl⟩ := vCall_ok ex
      simp only [Bool.and_eq_true] at h'
      obtain ⟨⟨⟨h1, h2⟩, h3⟩, h4⟩ := h'
      obtain ⟨rfl, hg, hb⟩ := biName_ok h1
      obtain ⟨es, et⟩ := Option.isSome_iff_exists.mp h4
      obtain ⟨kk, pt, rfl⟩ := vTup_ok et
      obtain ⟨t, a1, b1⟩ := ckA_ok hE (W := W) (es := [b]) (xs := [a]) (by simpa using h2) (by simpa [all2] using h3)
      refine ⟨iEnum K t, fun X g => ?_, SI.enu b1⟩
      have := pi_enum (X := X) (pos := q) (p := p) (tpos := pt) (elts := es) (kk := kk) (glB_ok g.sc hg) (g.bi _ hb) (a1 X g) (star_cons h2 _ _)
      rw [g.K] at this
      exact this
    · cases h'
  | zip a b =>
    have h' : (match vCall e with
      | some (f, [c, d], []) => biName Pn Θ f "zip" && noStar c && noStar d && cE Θ c a && cE Θ d b && (vTup tg).isSome
      | _ => false) = true := h
    clear h
    split at h'
    · rename_i f c d ex
      obtain ⟨p, q, rfl⟩ := vCall_ok ex
      simp only [Bool.and_eq_true] at h'
      obtain ⟨⟨⟨⟨⟨h1, h2⟩, h3⟩, h4⟩, h5⟩, h6⟩ := h'
      obtain ⟨rfl, hg, hb⟩ := biName_ok h1
      obtain ⟨es, et⟩ := Option.isSome_iff_exists.mp h6
      obtain ⟨kk, pt, rfl⟩ := vTup_ok et
      obtain ⟨t, a1, b1⟩ := ckA_ok hE (W := W) (es := [c, d]) (xs := [a, b]) (by show (noStar c && (noStar d && true)) = true; rw [h2, h3]; rfl) (by show (cE Θ c a && (cE Θ d b && true)) = true; rw [h4, h5]; rfl)
      refine ⟨RZ.iZipA K t, fun X g => ?_, SI.zip b1⟩
      have := RZ.pi_zipA (X := X) (pos := q) (p := p) (tpos := pt) (elts := es) (kk := kk) (glB_ok g.sc hg) (g.bi _ hb) (a1 X g) (star_cons h2 _ _) (star_none _ _ (by simp [h3]))
      rw [g.K] at this
      exact this
    · cases h'
  | rev a =>
    have h' : (match vCall e with
      | some (f, [b], []) => biName Pn Θ f "reversed" && noStar b && cE Θ b a
      | _ => false) = true := h
    clear h
    split at h'
    · rename_i f b ex
      obtain ⟨p, q, rfl⟩ := vCall_ok ex
      simp only [Bool.and_eq_true] at h'
      obtain ⟨⟨h1, h2⟩, h3⟩ := h'
      obtain ⟨rfl, hg, hb⟩ := biName_ok h1
      obtain ⟨t, a1, b1⟩ := hE W Θ b a h3
      refine ⟨RT.iRevA K t, fun X g => ?_, SI.rev b1⟩
      have := RT.pi_revA (X := X) (tg := tg) (pos := q) (p := p) (glB_ok g.sc hg) (g.bi _ hb) (a1 X g) (star_cons h2 _ _)
      rw [g.K] at this
      exact this
    · cases h'
end
end
end Ev
end
section
set_option Elab.async false
set_option linter.all false
set_option maxRecDepth 100000
namespace Ev
open PySem PySem.Spec L2
open PyProof.Rows hiding St IsTup
/-- f(k = v, ..) -/
theorem pe_callGK0 {X : Cx} {CX : CXT} {k : Nat} {f : Addr} {fd : FuncData} {ps ks : List Str} {sp : Sp} {x : Str} {p pos : Pos} {kws : List Keyword} {tk : TA} {W : WX} {g : List Value → List Value → List Value} {gV : List V → List V → List V} (F : FnG X.prog X.w X.K X.mg X.base CX k f fd ps sp) (hgd : X.A.guards = some []) (hr : Room k X.A) (hg : Gl X x) (hm : X.mg x = some (.ref f)) (hk : PySem.W.keepIn X.K (.ref f) = true) (hb : KBinds X.K fd ps ks g gV) (hx : PassesW CX X W)
    (hkw : PK X kws tk) (hall : (backToKw pos (keywordEach kws X.env)).all (·.1.isSome) = true) (hks : (backToKw pos (keywordEach kws X.env)).filterMap (·.1) = ks)
    (hdb : (x == ("__debug__" : Str)) = false) (hpl : (backToKw pos (keywordEach kws X.env)).any (·.1.isNone) = false) :
    PE X (.Call (.Name x p) [] kws pos) (tCallGK W sp gV tNil tk) := by
  refine ⟨fun pins s σ H Q I h => ?_⟩
  refine wpAny_Call_Name_kw (ld_glob I hg hm ?_ hdb)
  have h : tk σ H (fun zs H2 => sp (gV [] zs) H2 Q fun c d H' => W c d σ H') := h
  refine PySem.W.callWith_KW0 (h₀ := X.base) I.ok.mod.kin hk hall (thn (hkw.run pos pins s σ H _ I h) fun ws s2 ⟨zs, H2, I2, rz, q2⟩ => ⟨I2.kIn, ?_⟩) (by show (false || _) = false; rw [hpl]; rfl)
  rw [hks]
  have r2 := hb.rel (vs := []) (us := []) .nil rz
  have hl : (g [] ws).length = ps.length := by rw [← r2.length]; exact F.len _ _ _ _ q2
  refine wpAny_call (codeAny_mono (run_fnG F hgd hr (hb.to s2 [] ws I2.kIn hl) hx I2 r2 q2) fun r s' z => ?_)
  rcases r with e | (v | _ | _ | _) <;> first | exact z | exact z.elim
theorem mapM_RVs {K : PySem.W.Frag} {w : Wd} {l : List Val} {xs : List V} (r : RVs K w l xs) : ∀ {is : List Nat} {us : List Val}, is.mapM (fun i => l[i]?) = some us → RVs K w us (is.filterMap fun i => xs[i]?)
  | [], us, h => by
    simp at h
    subst h
    exact .nil
  | i :: is, us, h => by
    rw [List.mapM_cons] at h
    cases e1 : l[i]? with
    | none => rw [e1] at h; cases h
    | some v =>
      rw [e1] at h
      cases e2 : is.mapM (fun i => l[i]?) with
      | none => rw [e2] at h; cases h
      | some vs =>
        rw [e2] at h
        have h : some (v :: vs) = some us := h
        obtain rfl := Option.some.inj h
        obtain ⟨x, ex, rx⟩ := r.get_at e1
        rw [List.filterMap_cons, ex]
        exact .cons rx (mapM_RVs r e2)
theorem RVs.app {K : PySem.W.Frag} {w : Wd} : ∀ {x y : List Val} {v u : List V}, RVs K w x v → RVs K w y u → RVs K w (x ++ y) (v ++ u)
  | _, _, _, _, .nil, s => s
  | _, _, _, _, .cons a b, s => .cons a (RVs.app b s)
theorem kwOrder_RVs {K : PySem.W.Frag} {np nk : Nat} {is : List Nat} (w : Wd) (vs ws us : List Val) (xs ys : List V) (a : RVs K w vs xs) (b : RVs K w ws ys) (h : kwOrder np nk is vs ws = some us) : RVs K w us (gP np nk is xs ys) := by
  unfold kwOrder at h
  split at h
  · rename_i c
    unfold gP
    rw [if_pos (by rw [← a.length, ← b.length]; exact c)]
    exact mapM_RVs (a.app b) h
  · cases h
theorem Vals.mapF {xs : List V} {us : List Value} (r : Vals xs us) : ∀ is : List Nat, Vals (is.filterMap fun i => xs[i]?) (is.filterMap fun i => us[i]?)
  | [] => .nil
  | i :: is => by
    have ih := Vals.mapF r is
    rw [List.filterMap_cons, List.filterMap_cons]
    cases e : xs[i]? with
    | some x =>
      obtain ⟨u, eu, ru⟩ := r.get e
      rw [eu]
      exact .cons ru ih
    | none =>
      have : us[i]? = none := List.getElem?_eq_none (by rw [← r.length]; exact List.getElem?_eq_none_iff.mp e)
      rw [this]
      exact ih
theorem gP_rel {np nk : Nat} {is : List Nat} {vs : List V} {us : List Value} {zs : List V} {ws : List Value} (a : Vals vs us) (b : Vals zs ws) : Vals (gP np nk is vs zs) (gP np nk is us ws) := by
  unfold gP
  rw [a.length, b.length]
  split
  · exact Vals.mapF (a.append b) is
  · exact .nil
section
variable {CX : CXT} {Pn : PInf} {k : Nat} {K : PySem.W.Frag} {cA : Str → Addr}
theorem callF_len {Γ : Tab} {G : List (Str × Val)} {k : Nat} {f : Str} {fd : Fn} (h : lookF Γ f = some fd) (vs : List Val) (S : List Cell) (hn : callF Γ G k f vs S ≠ .no) : vs.length = fd.np := by
  cases k with
  | zero => exact (hn rfl).elim
  | succ k =>
    have e : callF Γ G (k + 1) f vs = callB ⟨callF Γ G k, kwF Γ, G⟩ fd vs := by
      show (match lookF Γ f with
        | some fd => callB ⟨callF Γ G k, kwF Γ, G⟩ fd vs
        | none => fail) = _
      rw [h]
    rw [e] at hn
    exact callB_len hn
theorem ty_boot (t : Ty) : bootBuiltins (Str.ofString t.name) = some (.type t.name) ∧ Str.ofString t.name ≠ "__name__" ∧ (Str.ofString t.name == ("__debug__" : Str)) = false := by
  cases t <;> exact ⟨by decide +kernel, by decide +kernel, by decide +kernel⟩
theorem tyE_ok {Θ : CT} {e : Expr} {t : Ty} (h : tyE Pn Θ e t = true) {W : WX} : noStar e = true ∧ ∀ X, Gd CX Pn k ⟨K, cA, W⟩ Θ X → PE X e (tC (.ty t.name)) := by
  unfold tyE at h
  split at h
  · rename_i x ex
    obtain ⟨p, rfl⟩ := vName_ok ex
    simp only [Bool.and_eq_true, decide_eq_true_eq, List.contains_iff_mem] at h
    obtain ⟨⟨rfl, hg⟩, hb⟩ := h
    obtain ⟨b1, b2, b3⟩ := ty_boot t
    exact ⟨rfl, fun X g => pe_bltn (glB_ok g.sc hg) (g.bi _ hb) b1 rfl b2 b3⟩
  · cases h
section
variable {n : Nat} {cE cT : CT → Expr → X → Bool}
variable (hCX : ∀ outer H s e s', CX outer H s (fun _ _ _ => False) e s' → False) (hG : ∀ p ∈ Pn.G, GlobOk K p.2 (Pn.gv p.1))
variable (hE : ∀ W Θ e x, cE Θ e x = true → OkE CX Pn k K cA W Θ e (ev (Cf Pn k) n x)) (hT : ∀ W Θ e x, cT Θ e x = true → OkT CX Pn k K cA W Θ e (fun ρ => bnd (ev (Cf Pn k) n x ρ) truB))
variable {W : WX} {Θ : CT}
include hE in
theorem and_ok {p : Pos} : ∀ {es : List Expr} {xs : List X}, xs ≠ [] → all2 (cE Θ) es xs = true → OkE CX Pn k K cA W Θ (.BoolOp .And es p) (fun ρ => andE (fun e => ev (Cf Pn k) n e ρ) xs)
  | [], [], h, _ => (h rfl).elim
  | [e], [x], _, h => by
    have h : cE Θ e x = true := by simpa [all2] using h
    obtain ⟨t, a, b⟩ := hE W Θ e x h
    exact ⟨t, fun X g => pe_one (a X g), b⟩
  | e :: e2 :: es, x :: x2 :: xs, _, h => by
    have h : cE Θ e x = true ∧ all2 (cE Θ) (e2 :: es) (x2 :: xs) = true := by
      have : (cE Θ e x && all2 (cE Θ) (e2 :: es) (x2 :: xs)) = true := h
      simpa using this
    obtain ⟨t, a, b⟩ := hE W Θ e x h.1
    obtain ⟨t2, a2, b2⟩ := and_ok (p := p) (List.cons_ne_nil x2 xs) h.2
    exact ⟨tAndV t t2, fun X g => pe_and (a X g) (a2 X g), SE.andV b b2⟩
  | [], _ :: _, _, h => by cases h
  | _ :: _, [], _, h => by cases h
  | [_], _ :: _ :: _, _, h => by simp [all2] at h
  | _ :: _ :: _, [_], _, h => by simp [all2] at h
include hE in
theorem or_ok {p : Pos} : ∀ {es : List Expr} {xs : List X}, xs ≠ [] → all2 (cE Θ) es xs = true → OkE CX Pn k K cA W Θ (.BoolOp .Or es p) (fun ρ => orE (fun e => ev (Cf Pn k) n e ρ) xs)
  | [], [], h, _ => (h rfl).elim
  | [e], [x], _, h => by
    have h : cE Θ e x = true := by simpa [all2] using h
    obtain ⟨t, a, b⟩ := hE W Θ e x h
    exact ⟨t, fun X g => pe_one (a X g), b⟩
  | e :: e2 :: es, x :: x2 :: xs, _, h => by
    have h : cE Θ e x = true ∧ all2 (cE Θ) (e2 :: es) (x2 :: xs) = true := by
      have : (cE Θ e x && all2 (cE Θ) (e2 :: es) (x2 :: xs)) = true := h
      simpa using this
    obtain ⟨t, a, b⟩ := hE W Θ e x h.1
    obtain ⟨t2, a2, b2⟩ := or_ok (p := p) (List.cons_ne_nil x2 xs) h.2
    exact ⟨tOrV t t2, fun X g => pe_or (a X g) (a2 X g), SE.orV b b2⟩
  | [], _ :: _, _, h => by cases h
  | _ :: _, [], _, h => by cases h
  | [_], _ :: _ :: _, _, h => by simp [all2] at h
  | _ :: _ :: _, [_], _, h => by simp [all2] at h
include hE in
theorem opt_ok {e : Option Expr} {x : Option X} (h : opt2 (cE Θ) e x = true) : ∃ t, (∀ X, Gd CX Pn k ⟨K, cA, W⟩ Θ X → L2.PO X e t) ∧ SO (F := ⟨K, cA, W⟩) t (fun ρ => optE (fun e => ev (Cf Pn k) n e ρ) x) := by
  cases e with
  | none =>
    cases x with
    | none => exact ⟨tNoPart, fun X g => po_none, SO.none⟩
    | some _ => cases h
  | some e =>
    cases x with
    | none => cases h
    | some x =>
      obtain ⟨t, a, b⟩ := hE W Θ e x h
      exact ⟨tPart t, fun X g => po_some (a X g), SO.some b⟩
include hE in
theorem prs_ok {p : Pos} : ∀ {ks : List (Option Expr)} {vs : List Expr} {ps : List (X × X)}, all2 (fun (k : Option Expr) (p : X × X) => match k with
          | some k => cE Θ k p.1
          | none => false) ks ps = true → all2 (fun (v : Expr) (p : X × X) => cE Θ v p.2) vs ps = true →
    ks.all (·.isSome) = true ∧ ∃ trs, (∀ X, Gd CX Pn k ⟨K, cA, W⟩ Θ X → PPs X p ks vs trs) ∧ SPs (F := ⟨K, cA, W⟩) trs (fun ρ => prsE (fun e => ev (Cf Pn k) n e ρ) ps)
  | [], [], [], _, _ => ⟨rfl, [], fun X g => pps_nil, SPs.nil⟩
  | k :: ks, v :: vs, q :: ps, h1, h2 => by
    have h1 := Bool.and_eq_true_iff.mp (show (_ && _) = true from h1)
    have h2 := Bool.and_eq_true_iff.mp (show (_ && _) = true from h2)
    cases k with
    | none => exact Bool.noConfusion (show false = true from h1.1)
    | some ke =>
      obtain ⟨t1, a1, b1⟩ := hE W Θ ke q.1 h1.1
      obtain ⟨t2, a2, b2⟩ := hE W Θ v q.2 h2.1
      obtain ⟨hs, trs, a3, b3⟩ := prs_ok (p := p) h1.2 h2.2
      exact ⟨by simpa using hs, (t1, t2) :: trs, fun X g => pps_cons (a1 X g) (a2 X g) (a3 X g), SPs.cons b1 b2 b3⟩
  | [], _, _ :: _, h, _ => by cases h
  | _ :: _, _, [], h, _ => by cases h
  | _, [], _ :: _, _, h => by cases h
  | _, _ :: _, [], _, h => by cases h
include hE in
theorem kws_ok : ∀ {kws : List Keyword} {ks : List (Str × X)}, all2 (fun (w : Keyword) (p : Str × X) => cE Θ w.value p.2) kws ks = true → ∃ t, (∀ X, Gd CX Pn k ⟨K, cA, W⟩ Θ X → PK X kws t) ∧ SA ⟨K, cA, W⟩ t (fun ρ => mapE (fun e => ev (Cf Pn k) n e ρ) (ks.map (·.2)))
  | [], [], _ => ⟨tNil, fun X g => pk_nil, SA.nil⟩
  | ⟨nm, e, kp⟩ :: kws, (_, x) :: ks, h => by
    have h : cE Θ e x = true ∧ all2 (fun (w : Keyword) (p : Str × X) => cE Θ w.value p.2) kws ks = true := by simpa [all2] using h
    obtain ⟨t1, a1, b1⟩ := hE W Θ e x h.1
    obtain ⟨t2, a2, b2⟩ := kws_ok h.2
    exact ⟨tCons t1 t2, fun X g => pk_cons (a1 X g) (a2 X g), SA.cons b1 b2⟩
  | [], _ :: _, h => by cases h
  | _ :: _, [], h => by cases h
theorem const_ok {c : Const} (h : (constF c).isSome = true) {kk : Nat} {p : Pos} : OkE CX Pn k K cA W Θ (.Constant c kk p) (fun _ => lift ((constD c).map .d)) := by
  cases c <;> first | (cases h; done) | skip
  · exact ⟨tC .non, fun X g => pe_non, SE.const (x := .none) rfl⟩
  · rename_i b; exact ⟨tC (.bl b), fun X g => pe_bl, SE.const (x := .bool b) rfl⟩
  · rename_i b; exact ⟨tC (.int b), fun X g => pe_int, SE.const (x := .int b) rfl⟩
  · rename_i b; exact ⟨tC (.str b), fun X g => pe_str, SE.const (x := .str b) rfl⟩
include hE in
theorem cmp_ok {o : COp} {a b : X} {ea eb : Expr} {p : Pos} (h1 : notSet eb = true) (h2 : cE Θ ea a = true) (h3 : cE Θ eb b = true) :
    ∃ t, (∀ X, Gd CX Pn k ⟨K, cA, W⟩ Θ X → PE X (.Compare ea [opC o] [eb] p) t ∧ PT X (.Compare ea [opC o] [eb] p) (tTest t)) ∧ SE ⟨K, cA, W⟩ t (fun ρ => bnd (ev (Cf Pn k) n a ρ) fun x => bnd (ev (Cf Pn k) n b ρ) fun y => bnd (cmpM o x y) fun r => Ev.ret (.d (.bool r))) := by
  obtain ⟨t1, a1, b1⟩ := hE W Θ ea a h2
  obtain ⟨t2, a2, b2⟩ := hE W Θ eb b h3
  refine ⟨tOp (rCmp K o) t1 t2, fun X g => ?_, SE.two b1 b2 fun g w S σ H Q u v x y R r1 r2 h => cmp_snd (F := ⟨K, cA, W⟩) o R r1 r2 h⟩
  have hu : X.A.units + 70 < cLine := by have := g.units; omega
  have e1 := pe_cmpR (pos := p) (op_cmp (X := X) hu o) (a1 X g) (a2 X g) (no_marks h1)
  have e2 := pt_cmpR (pos := p) (op_cmp (X := X) hu o) (a1 X g) (a2 X g) (no_marks h1)
  rw [g.K] at e1 e2
  exact ⟨e1, e2⟩
include hE in
theorem chn_ok {o q : COp} {a b c : X} {ea eb ec : Expr} {p : Pos} (h1 : notSet ec = true) (h2 : cE Θ ea a = true) (h3 : cE Θ eb b = true) (h4 : cE Θ ec c = true) :
    ∃ t, (∀ X, Gd CX Pn k ⟨K, cA, W⟩ Θ X → PE X (.Compare ea [opC o, opC q] [eb, ec] p) t ∧ PT X (.Compare ea [opC o, opC q] [eb, ec] p) (tTest t)) ∧ SE ⟨K, cA, W⟩ t (fun ρ => bnd (ev (Cf Pn k) n a ρ) fun x => bnd (ev (Cf Pn k) n b ρ) fun y => bnd (cmpM o x y) fun r => if r = true then bnd (ev (Cf Pn k) n c ρ) fun z => bnd (cmpM q y z) fun r => Ev.ret (.d (.bool r)) else Ev.ret (.d (.bool false))) := by
  obtain ⟨t1, a1, b1⟩ := hE W Θ ea a h2
  obtain ⟨t2, a2, b2⟩ := hE W Θ eb b h3
  obtain ⟨t3, a3, b3⟩ := hE W Θ ec c h4
  refine ⟨tChain (rCmp K o) (rCmp K q) t1 t2 t3, fun X g => ?_, SE.chn (F := ⟨K, cA, W⟩) b1 b2 b3⟩
  have hu : X.A.units + 70 < cLine := by have := g.units; omega
  have e1 := pe_chain (pos := p) (op_cmp (X := X) hu o) (op_cmp (X := X) hu q) (a1 X g) (a2 X g) (a3 X g) (no_last h1)
  have e2 := pt_chain (pos := p) (op_cmp (X := X) hu o) (op_cmp (X := X) hu q) (a1 X g) (a2 X g) (a3 X g) (no_last h1)
  rw [g.K] at e1 e2
  exact ⟨e1, e2⟩
theorem call_bi' {X : Cx} (hc : X.calm = true) {b : BI} {nm : String} {f : Value} (h : fnB b = some (nm, f)) {Θ : CT} {e : Expr} {es : List Expr} {t : TA} {p q : Pos} (hg : Gl X (Str.ofString nm)) (hm : X.mg (Str.ofString nm) = none) (ha : PA X (e :: es) t) (h1 : noStar e = true) (h2 : es.all noStar = true) :
    PE X (.Call (.Name (Str.ofString nm) p) (e :: es) [] q) (tCB (rBi X.K b) t) := by
  have hcr := call_bi (X := X) hc b nm f h
  obtain ⟨b1, b2, b3⟩ := fnB_boot b nm f h
  have : (∃ id, f = .builtin id) ∨ ∃ T, f = .type T := by
    cases b <;> first | (cases h; done) | skip
    all_goals obtain ⟨rfl, rfl⟩ : _ = nm ∧ _ = f := by simpa [fnB] using h
    all_goals first | exact .inl ⟨_, rfl⟩ | exact .inr ⟨_, rfl⟩
  rcases this with ⟨id, rfl⟩ | ⟨T, rfl⟩
  · exact pe_callB hcr hg hm b1 ha b2 b3 (star_cons h1 _ _) (star_none _ _ h2)
  · exact pe_callTy hcr hg hm b1 ha b2 b3 (star_cons h1 _ _) (star_none _ _ h2)
theorem me_pe {X : Cx} (m : ME) {nm : Str} {id : String} (hm : meId m = some (nm, id)) {o : Expr} {es : List Expr} {to : TE} {t : TA} {ap cp : Pos} (ho : PE X o to) (ha : PA X es t) (h0 : es = [] → t = tNil) (h1 : notCall o = true) (h2 : es.all noStar = true) (h3 : es.length < 20) (hl : (ap.endLine == cp.line) = true) :
    PE X (.Call (.Attribute o nm ap) es [] cp) (tBM X.K m.ty.T (rMe X.K m) to t) := by
  have key : ∀ {T id : String} {r : V → List V → Hp → VK → Prop} (pa : PlainAttrs T) (slot : Slot T nm id) (hty : typeOf (.builtin id) = pure (.type "method_descriptor")) (hm : MtR X id r), PE X (.Call (.Attribute o nm ap) es [] cp) (tBM X.K T r to t) := fun {T id r} pa slot hty hm => by
    cases es with
    | nil =>
      obtain rfl := h0 rfl
      exact pe_bm0 pa slot hty hm ho (attr_base h1 _ _ _) hl
    | cons e es =>
      have h2' : noStar e = true ∧ es.all noStar = true := by simpa using h2
      refine pe_bm pa slot hty hm ho ha (attr_base h1 _ _ _) ?_ hl (star_cons h2'.1 _ _) (star_none _ _ h2'.2)
      rw [star_all cp X.env h2]
      show (true && true && decide ((e :: es).length + 0 + 0 < 30)) = true
      have : (e :: es).length + 0 + 0 < 30 := by omega
      simp only [this, decide_true]; rfl
  cases m <;> first | (cases hm; done) | skip
  all_goals obtain ⟨rfl, rfl⟩ : _ = nm ∧ _ = id := by simpa [meId] using hm
  · exact key F.plainAttrs_str F.slot_str_join F.type_str_join mt_join
  · exact key F.plainAttrs_list F.slot_list_append F.type_list_append mt_append
  · exact key F.plainAttrs_list F.slot_list_pop F.type_list_pop mt_pop
  · exact key F.plainAttrs_list F.slot_list_pop F.type_list_pop mt_popAt
  · exact key F.plainAttrs_list F.slot_list_extend F.type_list_extend mt_extend
end
end
end Ev
end
section
set_option Elab.async false
set_option linter.all false
set_option maxRecDepth 100000
namespace Ev
open PySem PySem.Spec L2
open PyProof.Rows hiding St IsTup
section
variable {CX : CXT} {Pn : PInf} {k : Nat} {K : PySem.W.Frag} {cA : Str → Addr}
variable {n : Nat} {cE cT : CT → Expr → X → Bool}
variable (hCX : ∀ outer H s e s', CX outer H s (fun _ _ _ => False) e s' → False) (hG : ∀ p ∈ Pn.G, GlobOk K p.2 (Pn.gv p.1))
variable (hE : ∀ W Θ e x, cE Θ e x = true → OkE CX Pn k K cA W Θ e (ev (Cf Pn k) n x)) (hT : ∀ W Θ e x, cT Θ e x = true → OkT CX Pn k K cA W Θ e (fun ρ => bnd (ev (Cf Pn k) n x ρ) truB))
include hCX hG hE hT
theorem stepE_ok : ∀ W Θ e x, stepE Pn cE cT Θ e x = true → OkE CX Pn k K cA W Θ e (ev (Cf Pn k) (n + 1) x) := by
  intro W Θ e x h
  unfold stepE at h
  cases x with
  | var i =>
    dsimp only at h
    split at h
    · rename_i x ex
      obtain ⟨p, rfl⟩ := vName_ok ex
      simp only [Bool.and_eq_true, decide_eq_true_eq] at h
      obtain ⟨⟨h1, h2⟩, h3⟩ := h
      obtain ⟨o1, o2, o3⟩ := okN_ok h3
      exact ⟨tVar i, fun X g => pe_var (by rw [g.nN]; exact h1) (by rw [g.sc]; exact visB_ok h2) o1 o2, SE.var i⟩
    · cases h
  | c c =>
    dsimp only at h
    split at h
    · rename_i c' ex
      obtain ⟨kk, p, rfl⟩ := vConst_ok ex
      simp only [Bool.and_eq_true, decide_eq_true_eq] at h
      obtain ⟨rfl, h2⟩ := h
      exact const_ok h2
    · cases h
  | g j =>
    dsimp only at h
    split at h
    · rename_i x ex
      obtain ⟨p, rfl⟩ := vName_ok ex
      simp only [Bool.and_eq_true, decide_eq_true_eq] at h
      obtain ⟨⟨h1, h2⟩, h3⟩ := h
      obtain ⟨o1, o2, o3⟩ := okN_ok h3
      obtain ⟨q, eq, rfl⟩ := Option.map_eq_some_iff.mp h1
      have hq := List.mem_of_getElem? eq
      refine ⟨tC (Pn.gv q.1), fun X g => ?_, ?_⟩
      · obtain ⟨_, u, hm, r⟩ := g.glob q hq
        exact pe_glob (glB_ok g.sc h2) hm r o1
      · have := SE.glob (F := ⟨K, cA, W⟩) (v := q.2) (x := Pn.gv q.1) (hG q hq)
        have e : ev (Cf Pn k) (n + 1) (.g j) = fun _ => Ev.ret q.2 := by
          funext ρ
          show lift ((Pn.G[j]?).map (·.2)) = _
          rw [eq]; rfl
        rw [e]
        exact this
    · cases h
  | tup xs =>
    dsimp only at h
    split at h
    · rename_i es ex
      obtain ⟨kk, p, rfl⟩ := vTup_ok ex
      obtain ⟨h1, h2⟩ := Bool.and_eq_true_iff.mp h
      obtain ⟨t, a, b⟩ := ckA_ok hE (W := W) h1 h2
      exact ⟨tTup t, fun X g => pe_tup (a X g), SA.then_ b fun g w S σ H Q us xs R r h => tup_snd (F := ⟨K, cA, W⟩) R r h⟩
    · cases h
  | lst mu xs =>
    dsimp only at h
    split at h
    · rename_i es ex
      obtain ⟨p, rfl⟩ := vLst_ok ex
      obtain ⟨h1, h2⟩ := Bool.and_eq_true_iff.mp h
      obtain ⟨t, a, b⟩ := ckA_ok hE (W := W) h1 h2
      exact ⟨tLst t, fun X g => pe_lst (a X g), SA.then_ b fun g w S σ H Q us xs R r h => lst_snd (F := ⟨K, cA, W⟩) R r h⟩
    · cases h
  | dnil =>
    dsimp only at h
    split at h
    · rename_i ex
      obtain ⟨p, rfl⟩ := vDict_ok ex
      exact ⟨tDNewK, fun X g => pe_dnewK, SE.dnil⟩
    · cases h
  | dnew tk =>
    dsimp only at h
    split at h
    · rename_i ex
      obtain ⟨p, rfl⟩ := vDict_ok ex
      refine ⟨if tk = true then tDNewT else tDNewK, fun X g => ?_, SE.dnew tk⟩
      cases tk with
      | true => exact pe_dnewT
      | false => exact pe_dnewK
    · cases h
  | dct mu ps =>
    dsimp only at h
    split at h
    · rename_i ks vs ex
      obtain ⟨p, rfl⟩ := vDict_ok ex
      simp only [Bool.and_eq_true, decide_eq_true_eq] at h
      obtain ⟨⟨⟨h1, h2⟩, h3⟩, h4⟩ := h
      have l1 := all2_len h1
      have l2 := all2_len h2
      obtain ⟨hs, trs, a, b⟩ := prs_ok hE (W := W) (p := p) h1 h2
      refine ⟨tDisp trs, fun X g => pe_disp (a X g) hs (by rw [l1, l2]) (fun z => ?_) (by rw [l1]; exact h4), SE.dct mu b⟩
      have z : ks = [] := z
      rw [z] at l1
      have : ps = [] := List.length_eq_zero_iff.mp l1.symm
      rw [this] at h3
      exact Bool.noConfusion h3
    · cases h
  | bin mu o a b =>
    dsimp only at h
    split at h
    · rename_i ea op eb ex
      obtain ⟨p, rfl⟩ := vBin_ok ex
      simp only [Bool.and_eq_true, decide_eq_true_eq] at h
      obtain ⟨⟨rfl, h2⟩, h3⟩ := h
      obtain ⟨t1, a1, b1⟩ := hE W Θ ea a h2
      obtain ⟨t2, a2, b2⟩ := hE W Θ eb b h3
      refine ⟨tOp (rBin K o) t1 t2, fun X g => ?_, SE.two b1 b2 fun g w S σ H Q u v x y R r1 r2 h => bin_snd (F := ⟨K, cA, W⟩) o R r1 r2 h⟩
      have e1 := pe_op (pos := p) (op_bin (X := X) o) (a1 X g) (a2 X g)
      rw [g.K] at e1
      exact e1
    · cases h
  | neg a =>
    dsimp only at h
    split at h
    · rename_i ea ex
      obtain ⟨p, rfl⟩ := vUn_ok ex
      obtain ⟨t1, a1, b1⟩ := hE W Θ ea a h
      exact ⟨tUn (rU fun i => .int (-i)) t1, fun X g => pe_un un_neg (a1 X g), SE.neg b1⟩
    · cases h
  | cmp o a b =>
    dsimp only at h
    split at h
    · rename_i ea op eb ex
      obtain ⟨p, rfl⟩ := vCmp_ok ex
      simp only [Bool.and_eq_true, decide_eq_true_eq] at h
      obtain ⟨⟨⟨rfl, h1⟩, h2⟩, h3⟩ := h
      obtain ⟨t, a1, b1⟩ := cmp_ok hE (W := W) (o := o) (p := p) h1 h2 h3
      exact ⟨t, fun X g => (a1 X g).1, b1⟩
    · cases h
  | chn o q a b c =>
    dsimp only at h
    split at h
    · rename_i ea op eb op' ec ex
      obtain ⟨p, rfl⟩ := vChn_ok ex
      simp only [Bool.and_eq_true, decide_eq_true_eq] at h
      obtain ⟨⟨⟨⟨⟨rfl, rfl⟩, h1⟩, h2⟩, h3⟩, h4⟩ := h
      obtain ⟨t, a1, b1⟩ := chn_ok hE (W := W) (o := o) (q := q) (p := p) h1 h2 h3 h4
      exact ⟨t, fun X g => (a1 X g).1, b1⟩
    · cases h
  | and_ xs =>
    dsimp only at h
    split at h
    · rename_i es ex
      obtain ⟨p, rfl⟩ := vBool_ok ex
      obtain ⟨h1, h2⟩ := Bool.and_eq_true_iff.mp h
      exact and_ok hE (fun z => by rw [z] at h1; exact Bool.noConfusion h1) h2
    · cases h
  | or_ xs =>
    dsimp only at h
    split at h
    · rename_i es ex
      obtain ⟨p, rfl⟩ := vBool_ok ex
      obtain ⟨h1, h2⟩ := Bool.and_eq_true_iff.mp h
      exact or_ok hE (fun z => by rw [z] at h1; exact Bool.noConfusion h1) h2
    · cases h
  | not_ a =>
    dsimp only at h
    split at h
    · rename_i ea ex
      obtain ⟨p, rfl⟩ := vUn_ok ex
      obtain ⟨t1, a1, b1⟩ := hE W Θ ea a h
      exact ⟨tNotV t1, fun X g => pe_not (a1 X g), SE.notV b1⟩
    · cases h
  | ite t a b =>
    dsimp only at h
    split at h
    · rename_i et ea eb ex
      obtain ⟨p, rfl⟩ := vIf_ok ex
      simp only [Bool.and_eq_true] at h
      obtain ⟨⟨h1, h2⟩, h3⟩ := h
      obtain ⟨t0, a0, b0⟩ := hT W Θ et t h1
      obtain ⟨t1, a1, b1⟩ := hE W Θ ea a h2
      obtain ⟨t2, a2, b2⟩ := hE W Θ eb b h3
      refine ⟨tIf t0 t1 t2, fun X g => pe_ifExp (a0 X g) (a1 X g) (a2 X g), ?_⟩
      have e : ev (Cf Pn k) (n + 1) (.ite t a b) = fun ρ => bnd (bnd (ev (Cf Pn k) n t ρ) truB) fun c => if c = true then ev (Cf Pn k) n a ρ else ev (Cf Pn k) n b ρ := by
        funext ρ
        rw [bnd_assoc]; rfl
      rw [e]
      exact SE.ite b0 b1 b2
    · cases h
  | idx a i =>
    dsimp only at h
    split at h
    · rename_i ea ei ex
      obtain ⟨p, rfl⟩ := vSub_ok ex
      simp only [Bool.and_eq_true] at h
      obtain ⟨⟨h1, h2⟩, h3⟩ := h
      obtain ⟨t1, a1, b1⟩ := hE W Θ ea a h2
      obtain ⟨t2, a2, b2⟩ := hE W Θ ei i h3
      refine ⟨tOp (rIxX K) t1 t2, fun X g => ?_, SE.two b1 b2 fun g w S σ H Q u v x y R r1 r2 h => idx_snd (F := ⟨K, cA, W⟩) R r1 r2 h⟩
      have hu : X.A.units + 1 < cLine := by have := g.units; omega
      have e1 := pe_ix (pos := p) (ix_X (X := X) hu) (a1 X g) (a2 X g) (plain_ix h1)
      rw [g.K] at e1
      exact e1
    · cases h
  | sl mu a lo hi =>
    dsimp only at h
    split at h
    · rename_i ea el eh ex
      obtain ⟨p, q, rfl⟩ := vSl_ok ex
      simp only [Bool.and_eq_true] at h
      obtain ⟨⟨h1, h2⟩, h3⟩ := h
      obtain ⟨t1, a1, b1⟩ := hE W Θ ea a h1
      obtain ⟨t2, a2, b2⟩ := opt_ok hE (W := W) h2
      obtain ⟨t3, a3, b3⟩ := opt_ok hE (W := W) h3
      refine ⟨tSl (rSlX K) t1 t2 t3, fun X g => ?_, SE.slice (F := ⟨K, cA, W⟩) b1 b2 b3⟩
      have e1 := pe_slice (pos := q) (p2 := p) (sl_X (X := X)) (a1 X g) (a2 X g) (a3 X g)
      rw [g.K] at e1
      exact e1
    · cases h
  | rev mu a =>
    dsimp only at h
    split at h
    · rename_i ea ex
      obtain ⟨kk, p1, p2, p3, q, rfl⟩ := vRev_ok ex
      obtain ⟨t1, a1, b1⟩ := hE W Θ ea a h
      refine ⟨tRevL K t1, fun X g => ?_, SE.rev (F := ⟨K, cA, W⟩) b1⟩
      have e1 := pe_revL (X := X) (k := kk) (p1 := p1) (p2 := p2) (p3 := p3) (pos := q) (a1 X g)
      rw [g.K] at e1
      exact e1
    · cases h
  | call f xs =>
    dsimp only at h
    split at h
    · rename_i f' es ex
      obtain ⟨p, q, rfl⟩ := vCall_ok ex
      simp only [Bool.and_eq_true, decide_eq_true_eq] at h
      obtain ⟨⟨⟨⟨⟨rfl, h2⟩, h3⟩, h4⟩, h5⟩, h6⟩ := h
      obtain ⟨o1, o2, o3⟩ := okN_ok h3
      obtain ⟨fd, hf⟩ := Option.isSome_iff_exists.mp h4
      cases es with
      | nil =>
        cases xs with
        | cons _ _ => cases h6
        | nil =>
          refine ⟨tCallG W (spEv K cA fd.np (callF Pn.Γ Pn.G k f)) tNil, fun X g => ?_, SE.call (F := ⟨K, cA, W⟩) SA.nil fun vs S z => callF_len hf vs S z⟩
          obtain ⟨a, fdata, ps, m1, m2, m3, m4, _⟩ := g.fns f fd hf
          exact pe_callG0 m4 g.gd g.room (glB_ok g.sc h2) m1 m2 m3 g.px o1
      | cons e es =>
        obtain ⟨t, a1, b1⟩ := ckA_ok hE (W := W) h5 h6
        have h5' : noStar e = true ∧ es.all noStar = true := by simpa using h5
        refine ⟨tCallG W (spEv K cA fd.np (callF Pn.Γ Pn.G k f)) t, fun X g => ?_, SE.call (F := ⟨K, cA, W⟩) b1 fun vs S z => callF_len hf vs S z⟩
        obtain ⟨a, fdata, ps, m1, m2, m3, m4, _⟩ := g.fns f fd hf
        exact pe_callG m4 g.gd g.room (glB_ok g.sc h2) m1 m2 m3 g.px (a1 X g) o1 (star_cons h5'.1 _ _) (star_none _ _ h5'.2)
    · cases h
  | callk f xs ks =>
    dsimp only at h
    split at h
    · rename_i f' es kws ex
      obtain ⟨p, q, rfl⟩ := vCall_ok ex
      simp only [Bool.and_eq_true, decide_eq_true_eq] at h
      obtain ⟨⟨⟨⟨⟨⟨⟨⟨⟨rfl, h2⟩, h3⟩, h4⟩, h7⟩, h8⟩, h5⟩, h6⟩, h9⟩, h10⟩ := h
      obtain ⟨o1, o2, o3⟩ := okN_ok h3
      obtain ⟨fd, hf⟩ := Option.isSome_iff_exists.mp h4
      obtain ⟨is, his⟩ := Option.isSome_iff_exists.mp h7
      obtain ⟨tk, ak, bk⟩ := kws_ok hE (W := W) h10
      have el : (ks.map (·.1)).length = ks.length := List.length_map _
      have fin : ∀ {t : TA} {ma : Ev.Env → M (List Val)}, SA ⟨K, cA, W⟩ t ma → (ma = fun ρ => mapE (fun e => ev (Cf Pn k) n e ρ) xs) → SE ⟨K, cA, W⟩ (tCallGK W (spEv K cA fd.np (callF Pn.Γ Pn.G k f)) (gP xs.length (ks.map (·.1)).length is) t tk) (ev (Cf Pn k) (n + 1) (.callk f xs ks)) := fun {t ma} b e => by
        have := SE.callK (F := ⟨K, cA, W⟩) (m := callF Pn.Γ Pn.G k f) (o := kwOrder xs.length ks.length is) (gV := gP xs.length ks.length is) b bk (fun vs S z => callF_len hf vs S z) (fun w vs ws us xs' ys r1 r2 h => kwOrder_RVs w vs ws us xs' ys r1 r2 h)
        rw [el]
        have e2 : ev (Cf Pn k) (n + 1) (.callk f xs ks) = fun ρ => bnd (mapE (fun e => ev (Cf Pn k) n e ρ) xs) fun vs => bnd (mapE (fun e => ev (Cf Pn k) n e ρ) (ks.map (·.2))) fun ws => (match kwOrder xs.length ks.length is vs ws with
          | some us => callF Pn.Γ Pn.G k f us
          | none => fail) := by
          funext ρ
          show (bnd _ fun vs => bnd _ fun ws => (match kwF Pn.Γ f (ks.map (·.1)) xs.length with
            | some is => (match kwOrder xs.length ks.length is vs ws with
              | some us => callF Pn.Γ Pn.G k f us
              | none => fail)
            | none => fail)) = _
          rw [his]
        rw [e2]
        rw [e] at this
        exact this
      obtain ⟨k1, k2, k3⟩ : (∀ X : Cx, (backToKw q (keywordEach kws X.env)).filterMap (·.1) = ks.map (·.1)) ∧ (∀ X : Cx, (backToKw q (keywordEach kws X.env)).all (·.1.isSome) = true) ∧ ∀ X : Cx, (backToKw q (keywordEach kws X.env)).any (·.1.isNone) = false :=
        ⟨fun X => (kw_names q X.env h9).1, fun X => (kw_names q X.env h9).2.1, fun X => (kw_names q X.env h9).2.2⟩
      cases es with
      | nil =>
        cases xs with
        | cons _ _ => cases h6
        | nil =>
          refine ⟨_, fun X g => ?_, fin SA.nil rfl⟩
          obtain ⟨a, fdata, ps, m1, m2, m3, m4, m5⟩ := g.fns f fd hf
          exact pe_callGK0 m4 g.gd g.room (glB_ok g.sc h2) m1 m2 (m5 _ _ _ h8 his) g.px (ak X g) (k2 X) (k1 X) o1 (k3 X)
      | cons e es =>
        obtain ⟨t, a1, b1⟩ := ckA_ok hE (W := W) h5 h6
        have h5' : noStar e = true ∧ es.all noStar = true := by simpa using h5
        refine ⟨_, fun X g => ?_, fin b1 rfl⟩
        obtain ⟨a, fdata, ps, m1, m2, m3, m4, m5⟩ := g.fns f fd hf
        exact pe_callGK m4 g.gd g.room (glB_ok g.sc h2) m1 m2 (m5 _ _ _ h8 his) g.px (a1 X g) (ak X g) (k2 X) (k1 X) o1 (star_cons h5'.1 _ _) (by rw [star_none _ _ h5, k3 X]; rfl)
    · cases h
  | bi mu b xs =>
    dsimp only at h
    split at h
    · rename_i f es nm fv ex eb
      obtain ⟨p, q, rfl⟩ := vCall_ok ex
      simp only [Bool.and_eq_true] at h
      obtain ⟨⟨⟨h1, h2⟩, h3⟩, h4⟩ := h
      obtain ⟨rfl, hg, hb⟩ := biName_ok h1
      obtain ⟨t, a1, b1⟩ := ckA_ok hE (W := W) h2 h4
      cases es with
      | nil => exact Bool.noConfusion h3
      | cons e es =>
        have h2' : noStar e = true ∧ es.all noStar = true := by simpa using h2
        refine ⟨tCB (rBi K b) t, fun X g => ?_, SA.then_ b1 fun g w S σ H Q us xs R r h => bi_snd (F := ⟨K, cA, W⟩) b eb R r h⟩
        have e1 := call_bi' (X := X) g.calm eb (Θ := Θ) (p := p) (q := q) (glB_ok g.sc hg) (g.bi _ hb) (a1 X g) h2'.1 h2'.2
        rw [g.K] at e1
        exact e1
    · cases h
  | rep a =>
    dsimp only at h
    split at h
    · rename_i f ea ex
      obtain ⟨p, q, rfl⟩ := vCall_ok ex
      simp only [Bool.and_eq_true] at h
      obtain ⟨⟨h1, h2⟩, h3⟩ := h
      obtain ⟨rfl, hg, hb⟩ := biName_ok h1
      obtain ⟨t, a1, b1⟩ := hE W Θ ea a h3
      have bk : ("repr" : Str) ≠ "__name__" := by decide +kernel
      have bk2 : (("repr" : Str) == ("__debug__" : Str)) = false := by decide +kernel
      refine ⟨_, fun X g => ?_, SE.rep b1⟩
      exact pe_callB (call_repr g.gd g.units (by rw [g.K]; exact g.sysm)) (glB_ok g.sc hg) (g.bi _ hb) PyProof.Rows.boot_repr (pa_cons (a1 X g) pa_nil (star_cons h2 _ _)) bk bk2 (star_cons h2 _ _) rfl
    · cases h
  | isi ts a =>
    dsimp only at h
    split at h
    · rename_i f ea et ex
      obtain ⟨p, q, rfl⟩ := vCall_ok ex
      simp only [Bool.and_eq_true] at h
      obtain ⟨⟨⟨h1, h2⟩, h3⟩, h4⟩ := h
      obtain ⟨rfl, hg, hb⟩ := biName_ok h1
      obtain ⟨t, a1, b1⟩ := hE W Θ ea a h3
      have bk : ("isinstance" : Str) ≠ "__name__" := by decide +kernel
      have bk2 : (("isinstance" : Str) == ("__debug__" : Str)) = false := by decide +kernel
      split at h4
      · rename_i ty
        obtain ⟨n2, hty⟩ := tyE_ok (CX := CX) (k := k) (K := K) (cA := cA) (W := W) h4
        refine ⟨tCB (rIsX K) (tCons t (tCons (tC (.ty ty.name)) tNil)), fun X g => ?_, ?_⟩
        · have := pe_callB (X := X) (pos := q) (p := p) call_isX (glB_ok g.sc hg) (g.bi _ hb) PyProof.Rows.boot_isinstance (pa_cons (a1 X g) (pa_cons (hty X g) pa_nil (star_cons n2 _ _)) (star_cons h2 _ _)) bk bk2 (star_cons h2 _ _) (star_none _ _ (by simpa using n2))
          rw [g.K] at this
          exact this
        · have := SE.isi (F := ⟨K, cA, W⟩) (t := ty) b1
          have e : ev (Cf Pn k) (n + 1) (.isi [ty] a) = fun ρ => bnd (ev (Cf Pn k) n a ρ) fun v => bnd (view v) fun d => Ev.ret (.d (.bool (isT d ty))) := by
            funext ρ
            show bnd _ (isiM [ty]) = _
            congr 1
            funext v
            show bnd (view v) _ = _
            congr 1
            funext d
            show Ev.ret (Val.d (.bool (isT d ty || false))) = _
            rw [Bool.or_false]
          rw [e]
          exact this
      · split at h4
        · rename_i ets ex2
          obtain ⟨kk, pt, rfl⟩ := vTup_ok ex2
          simp only [Bool.and_eq_true, decide_eq_true_eq] at h4
          have go : ∀ {ets : List Expr} {ts : List Ty}, all2 (tyE Pn Θ) ets ts = true → ets.all noStar = true ∧ ∃ tt : TA, (∀ X, Gd CX Pn k ⟨K, cA, W⟩ Θ X → PA X ets tt) ∧ ∀ σ H (Q : List V → Hp → Prop), Q (ts.map fun t => V.ty t.name) H → tt σ H Q := by
            intro ets
            induction ets with
            | nil =>
              intro ts h
              cases ts with
              | nil => exact ⟨rfl, tNil, fun X g => pa_nil, fun σ H Q q => q⟩
              | cons _ _ => cases h
            | cons e ets ih =>
              intro ts h
              cases ts with
              | nil => cases h
              | cons ty ts =>
                obtain ⟨h1, h2⟩ := Bool.and_eq_true_iff.mp (show (_ && _) = true from h)
                obtain ⟨n2, hty⟩ := tyE_ok (CX := CX) (k := k) (K := K) (cA := cA) (W := W) h1
                obtain ⟨n3, tt, a2, b2⟩ := ih h2
                exact ⟨by simp only [List.all_cons, n2, n3]; rfl, tCons (tC (.ty ty.name)) tt, fun X g => pa_cons (hty X g) (a2 X g) (star_cons n2 _ _), fun σ H Q q => b2 σ H _ q⟩
          obtain ⟨n3, tt, a2, b2⟩ := go h4.1
          refine ⟨tCB (rIsXT K) (tCons t (tCons (tTup tt) tNil)), fun X g => ?_, SE.isiT (F := ⟨K, cA, W⟩) b1 b2 (Nat.le_trans h4.2 (by rw [sizeLine_eq]; decide))⟩
          have := pe_callB (X := X) (pos := q) (p := p) call_isXT (glB_ok g.sc hg) (g.bi _ hb) PyProof.Rows.boot_isinstance (pa_cons (a1 X g) (pa_cons (pe_tup (x1 := kk) (pos := pt) (a2 X g)) pa_nil (star_cons rfl _ _)) (star_cons h2 _ _)) bk bk2 (star_cons h2 _ _) (star_none _ _ rfl)
          rw [g.K] at this
          exact this
        · cases h4
    · cases h
  | me m o xs =>
    dsimp only at h
    split at h
    · rename_i eo nm es nm' id ex em
      obtain ⟨p, q, rfl, hl⟩ := vMeth_ok ex
      simp only [Bool.and_eq_true, decide_eq_true_eq] at h
      obtain ⟨⟨⟨⟨⟨rfl, h1⟩, h2⟩, h3⟩, h4⟩, h5⟩ := h
      obtain ⟨to, ao, bo⟩ := hE W Θ eo o h4
      have fin : ∀ {t : TA}, (∀ X, Gd CX Pn k ⟨K, cA, W⟩ Θ X → PA X es t) → SA ⟨K, cA, W⟩ t (fun ρ => mapE (fun e => ev (Cf Pn k) n e ρ) xs) → (es = [] → t = tNil) → OkE CX Pn k K cA W Θ (.Call (.Attribute eo nm p) es [] q) (ev (Cf Pn k) (n + 1) (.me m o xs)) := fun {t} a1 b1 h0 => by
        refine ⟨tBM K m.ty.T (rMe K m) to t, fun X g => ?_, SE.me (F := ⟨K, cA, W⟩) m em bo b1⟩
        have := me_pe (X := X) m em (ap := p) (cp := q) (ao X g) (a1 X g) h0 h1 h2 h3 hl
        rw [g.K] at this
        exact this
      cases es with
      | nil =>
        cases xs with
        | nil => exact fin (fun X g => pa_nil) SA.nil fun _ => rfl
        | cons _ _ => cases h5
      | cons e es =>
        obtain ⟨t, a1, b1⟩ := ckA_ok hE (W := W) h2 h5
        exact fin a1 b1 fun z => by cases z
    · cases h
  | comp mu el tg it ts own =>
    dsimp only at h
    split at h
    · rename_i eel etg eit eifs sc ex
      obtain ⟨p, rfl⟩ := vLc_ok ex
      simp only [Bool.and_eq_true] at h
      obtain ⟨⟨⟨⟨⟨⟨h1, h2⟩, h3⟩, h4⟩, h5⟩, h6⟩, h7⟩ := h
      obtain ⟨ti, ai, bi⟩ := ckI_ok hE (W := W) h4
      obtain ⟨tg', ag, bg⟩ := ckG_ok (CX := CX) (Pn := Pn) (k := k) (K := K) (cA := cA) (W := fun _ _ _ _ => False) 9 h2
      obtain ⟨te, ae, be⟩ := hE (fun _ _ _ _ => False) (Θ.inner sc) eel el h7
      have htt : ∃ tt, (∀ X, Gd CX Pn k ⟨K, cA, fun _ _ _ _ => False⟩ (Θ.inner sc) X → PTs X eifs tt) ∧ ST ⟨K, cA, fun _ _ _ _ => False⟩ tt (fun ρ => testsE (fun e => ev (Cf Pn k) n e ρ) ts) := by
        split at h6
        · exact ⟨tYes, fun X g => pts_nil, fun g w ρ S σ H Q R E h => h w H (.refl _) R⟩
        · rename_i ec c
          obtain ⟨tt, at_, bt⟩ := hT (fun _ _ _ _ => False) (Θ.inner sc) ec c h6
          refine ⟨tt, fun X g => pts_one (at_ X g), ?_⟩
          have e : (fun ρ => testsE (fun e => ev (Cf Pn k) n e ρ) [c]) = fun ρ => bnd (ev (Cf Pn k) n c ρ) truB := by
            funext ρ
            show (bnd (ev (Cf Pn k) n c ρ) fun v => bnd (truB v) fun b => if b = true then Ev.ret true else Ev.ret false) = _
            congr 1
            funext v
            have : (fun b => if b = true then Ev.ret true else Ev.ret false) = (Ev.ret : Bool → M Bool) := by
              funext b
              cases b <;> rfl
            rw [this, bnd_right]
          rw [e]
          exact bt
        · cases h6
      obtain ⟨tt, at_, bt⟩ := htt
      have eo : (own.map fun (i : Nat) => (((Θ.N[i]?).getD "" : Str), i)).map (·.2) = own := by
        rw [List.map_map]
        exact List.map_id _
      refine ⟨tLc ti tg' tt te own, fun X g => ?_, SE.comp (F := ⟨K, cA, W⟩) mu bi bg (fun i hi => ?_) bt be⟩
      · have := pe_lc (X := X) (pos := p) (own := own.map fun (i : Nat) => (((Θ.N[i]?).getD "" : Str), i)) g.calm g.nd (ai X g) (blkOk_by (by rw [g.nN, g.sc]; exact h1)) (fun s H C cl fp => ag _ (g.blk hCX s H sc C cl fp)) (fun s H C cl fp => at_ _ (g.blk hCX s H sc C cl fp)) (fun s H C cl fp => ae _ (g.blk hCX s H sc C cl fp)) (fun x => not_folded h5 _ x)
        rw [eo] at this
        exact this
      · have := List.all_eq_true.mp h3 i hi
        simpa using this
    · cases h
end
end Ev
end
section
set_option Elab.async false
set_option linter.all false
set_option maxRecDepth 100000
namespace Ev
open PySem PySem.Spec L2
open PyProof.Rows hiding St IsTup
section
variable {CX : CXT} {Pn : PInf} {k : Nat} {K : PySem.W.Frag} {cA : Str → Addr}
section
variable {n : Nat} {cE cT cE' : CT → Expr → X → Bool}
variable (hE : ∀ W Θ e x, cE Θ e x = true → OkE CX Pn k K cA W Θ e (ev (Cf Pn k) n x)) (hT : ∀ W Θ e x, cT Θ e x = true → OkT CX Pn k K cA W Θ e (fun ρ => bnd (ev (Cf Pn k) n x ρ) truB))
variable (hE' : ∀ W Θ e x, cE' Θ e x = true → OkE CX Pn k K cA W Θ e (ev (Cf Pn k) (n + 1) x))
variable {W : WX} {Θ : CT}
include hT in
theorem andT_ok {p : Pos} : ∀ {es : List Expr} {xs : List X}, xs ≠ [] → all2 (cT Θ) es xs = true →
    ∃ t, (∀ X, Gd CX Pn k ⟨K, cA, W⟩ Θ X → PW X (.BoolOp .And es p) t) ∧ ST ⟨K, cA, W⟩ t (fun ρ => bnd (andE (fun e => ev (Cf Pn k) n e ρ) xs) truB)
  | [], [], h, _ => (h rfl).elim
  | [e], [x], _, h => by
    have h : cT Θ e x = true := by simpa [all2] using h
    obtain ⟨t, a, b⟩ := hT W Θ e x h
    exact ⟨t, fun X g => pw_and1 (a X g), b⟩
  | e :: e2 :: es, x :: x2 :: xs, _, h => by
    have h := Bool.and_eq_true_iff.mp (show (cT Θ e x && all2 (cT Θ) (e2 :: es) (x2 :: xs)) = true from h)
    obtain ⟨t, a, b⟩ := hT W Θ e x h.1
    obtain ⟨t2, a2, b2⟩ := andT_ok (p := p) (List.cons_ne_nil x2 xs) h.2
    refine ⟨tAnd t t2, fun X g => pw_and (a X g) (a2 X g), ?_⟩
    have := ST.and b b2
    have e : (fun ρ => bnd (andE (fun e => ev (Cf Pn k) n e ρ) (x :: x2 :: xs)) truB) = fun ρ => bnd (bnd (ev (Cf Pn k) n x ρ) truB) fun b => if b = true then bnd (andE (fun e => ev (Cf Pn k) n e ρ) (x2 :: xs)) truB else Ev.ret false := by
      funext ρ
      show bnd (bnd (ev (Cf Pn k) n x ρ) fun v => bnd (truB v) fun b => if b = true then andE (fun e => ev (Cf Pn k) n e ρ) (x2 :: xs) else Ev.ret (Val.d (.bool false))) truB = _
      rw [bnd_assoc, bnd_assoc]
      congr 1
      funext v
      rw [bnd_assoc]
      congr 1
      funext b
      rw [bnd_ite]
      rfl
    rw [e]
    exact this
  | [], _ :: _, _, h => by cases h
  | _ :: _, [], _, h => by cases h
  | [_], _ :: _ :: _, _, h => by simp [all2] at h
  | _ :: _ :: _, [_], _, h => by simp [all2] at h
include hT in
theorem orT_ok {p : Pos} : ∀ {es : List Expr} {xs : List X}, xs ≠ [] → all2 (cT Θ) es xs = true →
    ∃ t, (∀ X, Gd CX Pn k ⟨K, cA, W⟩ Θ X → PW X (.BoolOp .Or es p) t) ∧ ST ⟨K, cA, W⟩ t (fun ρ => bnd (orE (fun e => ev (Cf Pn k) n e ρ) xs) truB)
  | [], [], h, _ => (h rfl).elim
  | [e], [x], _, h => by
    have h : cT Θ e x = true := by simpa [all2] using h
    obtain ⟨t, a, b⟩ := hT W Θ e x h
    exact ⟨t, fun X g => pw_or1 (a X g), b⟩
  | e :: e2 :: es, x :: x2 :: xs, _, h => by
    have h := Bool.and_eq_true_iff.mp (show (cT Θ e x && all2 (cT Θ) (e2 :: es) (x2 :: xs)) = true from h)
    obtain ⟨t, a, b⟩ := hT W Θ e x h.1
    obtain ⟨t2, a2, b2⟩ := orT_ok (p := p) (List.cons_ne_nil x2 xs) h.2
    refine ⟨tOr t t2, fun X g => pw_or (a X g) (a2 X g), ?_⟩
    have := ST.or b b2
    have e : (fun ρ => bnd (orE (fun e => ev (Cf Pn k) n e ρ) (x :: x2 :: xs)) truB) = fun ρ => bnd (bnd (ev (Cf Pn k) n x ρ) truB) fun b => if b = true then Ev.ret true else bnd (orE (fun e => ev (Cf Pn k) n e ρ) (x2 :: xs)) truB := by
      funext ρ
      show bnd (bnd (ev (Cf Pn k) n x ρ) fun v => bnd (truB v) fun b => if b = true then Ev.ret (Val.d (.bool true)) else orE (fun e => ev (Cf Pn k) n e ρ) (x2 :: xs)) truB = _
      rw [bnd_assoc, bnd_assoc]
      congr 1
      funext v
      rw [bnd_assoc]
      congr 1
      funext b
      rw [bnd_ite]
      rfl
    rw [e]
    exact this
  | [], _ :: _, _, h => by cases h
  | _ :: _, [], _, h => by cases h
  | [_], _ :: _ :: _, _, h => by simp [all2] at h
  | _ :: _ :: _, [_], _, h => by simp [all2] at h
include hE hT hE' in
theorem stepT_ok : ∀ W Θ e x, stepT cE cT cE' Θ e x = true → OkT CX Pn k K cA W Θ e (fun ρ => bnd (ev (Cf Pn k) (n + 1) x ρ) truB) := by
  intro W Θ e x h
  unfold stepT at h
  split at h
  · split at h
    · rename_i es ex
      obtain ⟨p, rfl⟩ := vBool_ok ex
      obtain ⟨h1, h2⟩ := Bool.and_eq_true_iff.mp h
      obtain ⟨t, a, b⟩ := andT_ok hT (W := W) (p := p) (fun z => by rw [z] at h1; exact Bool.noConfusion h1) h2
      exact ⟨t, fun X g => (a X g).pt, b⟩
    · cases h
  · split at h
    · rename_i es ex
      obtain ⟨p, rfl⟩ := vBool_ok ex
      obtain ⟨h1, h2⟩ := Bool.and_eq_true_iff.mp h
      obtain ⟨t, a, b⟩ := orT_ok hT (W := W) (p := p) (fun z => by rw [z] at h1; exact Bool.noConfusion h1) h2
      exact ⟨t, fun X g => (a X g).pt, b⟩
    · cases h
  · rename_i a
    split at h
    · rename_i ea ex
      obtain ⟨p, rfl⟩ := vUn_ok ex
      obtain ⟨t1, a1, b1⟩ := hT W Θ ea a h
      refine ⟨tNot t1, fun X g => pt_not (a1 X g), ?_⟩
      have := ST.not b1
      have e : (fun ρ => bnd (ev (Cf Pn k) (n + 1) (.not_ a) ρ) truB) = fun ρ => bnd (bnd (ev (Cf Pn k) n a ρ) truB) fun b => Ev.ret (!b) := by
        funext ρ
        show bnd (bnd (ev (Cf Pn k) n a ρ) fun v => bnd (truB v) fun b => Ev.ret (Val.d (.bool (!b)))) truB = _
        rw [bnd_assoc, bnd_assoc]
        congr 1
        funext v
        rw [bnd_assoc]
        rfl
      rw [e]
      exact this
    · cases h
  · rename_i o a b
    split at h
    · rename_i ea op eb ex
      obtain ⟨p, rfl⟩ := vCmp_ok ex
      simp only [Bool.and_eq_true, decide_eq_true_eq] at h
      obtain ⟨⟨⟨rfl, h1⟩, h2⟩, h3⟩ := h
      obtain ⟨t, a1, b1⟩ := cmp_ok hE (W := W) (o := o) (p := p) h1 h2 h3
      exact ⟨tTest t, fun X g => (a1 X g).2, ST.val b1⟩
    · cases h
  · rename_i o q a b c
    split at h
    · rename_i ea op eb op' ec ex
      obtain ⟨p, rfl⟩ := vChn_ok ex
      simp only [Bool.and_eq_true, decide_eq_true_eq] at h
      obtain ⟨⟨⟨⟨⟨rfl, rfl⟩, h1⟩, h2⟩, h3⟩, h4⟩ := h
      obtain ⟨t, a1, b1⟩ := chn_ok hE (W := W) (o := o) (q := q) (p := p) h1 h2 h3 h4
      exact ⟨tTest t, fun X g => (a1 X g).2, ST.val b1⟩
    · cases h
  · obtain ⟨h1, h2⟩ := Bool.and_eq_true_iff.mp h
    obtain ⟨t, a, b⟩ := hE' W Θ e x h2
    exact ⟨tTest t, fun X g => pt_val (a X g) (fun whole => plain_true h1 _ whole), ST.val b⟩
end
section
variable (hCX : ∀ outer H s e s', CX outer H s (fun _ _ _ => False) e s' → False) (hG : ∀ p ∈ Pn.G, GlobOk K p.2 (Pn.gv p.1))
include hCX hG
theorem ck_ok : ∀ n : Nat, (∀ W Θ e x, ckE Pn n Θ e x = true → OkE CX Pn k K cA W Θ e (ev (Cf Pn k) n x)) ∧ (∀ W Θ e x, ckT Pn n Θ e x = true → OkT CX Pn k K cA W Θ e (fun ρ => bnd (ev (Cf Pn k) n x ρ) truB))
  | 0 => ⟨fun W Θ e x h => (by cases h), fun W Θ e x h => (by cases h)⟩
  | n + 1 => by
    obtain ⟨h1, h2⟩ := ck_ok n
    have e1 : ∀ W Θ e x, ckE Pn (n + 1) Θ e x = true → OkE CX Pn k K cA W Θ e (ev (Cf Pn k) (n + 1) x) := stepE_ok hCX hG h1 h2
    exact ⟨e1, stepT_ok h1 h2 e1⟩
end
end
end Ev
end
section
set_option Elab.async false
set_option linter.all false
set_option maxRecDepth 100000
namespace Ev
open PySem PySem.Spec L2
open PyProof.Rows hiding St IsTup
def swNames (sc : Scope) (ts : List Expr) : List Str := ts.filterMap fun
  | .Name id pos => if (sc.names.lookup id == some .local && pos.line == (ts.head?.map (·.pos.line)).getD 0) = true then some id else none
  | _ => none
def swC (sc : Scope) (ts vs : List Expr) : Nat :=
  if (!(ts.length == 2 || ts.length == 3) || vs.length != ts.length) = true then 0
  else if (vs.any fun | .Starred .. => true | _ => false) = true then 0
  else if ((swNames sc ts).length != ts.length || (swNames sc ts).eraseDups.length != (swNames sc ts).length) = true then 0
  else if vs.all (foldedForSure 8) = true then 0
  else if vs.all (constantsAlone 8) = true then 1 else 2
theorem sw_eq {sc : Scope} {env : PySem.Env} (he : env.scope = sc) (hk : sc.kind = .function) (ts vs : List Expr) (k1 k2 : Nat) (p1 p2 : Pos) :
    (swC sc ts vs = 0 → swappedStores [.Tuple ts k1 p1] (.Tuple vs k2 p2) env = pure none) ∧ (swC sc ts vs = 2 → swappedStores [.Tuple ts k1 p1] (.Tuple vs k2 p2) env = pure (some (swNames sc ts))) := by
  subst he
  have hb : env.blockKind = .function := by unfold Env.blockKind; rw [hk]; rfl
  have e : swappedStores [.Tuple ts k1 p1] (.Tuple vs k2 p2) env = (if (!(ts.length == 2 || ts.length == 3) || vs.length != ts.length) = true then pure none
    else if (vs.any fun | .Starred .. => true | _ => false) = true then pure none
    else if ((swNames env.scope ts).length != ts.length || (swNames env.scope ts).eraseDups.length != (swNames env.scope ts).length) = true then pure none
    else if vs.all (foldedForSure 8) = true then pure none
    else if vs.all (constantsAlone 8) = true then unsupported "assign.tuple-of-constant-expressions:order-of-the-stores" else pure (some (swNames env.scope ts))) := by
    unfold swappedStores
    simp only [hb]
    rw [show (ScopeKind.function != ScopeKind.function) = false from rfl, Bool.or_false]
    rfl
  rw [e]
  unfold swC
  constructor
  · intro h
    split at h
    · rename_i c; rw [if_pos c]
    · rename_i c; rw [if_neg c]
      split at h
      · rename_i c; rw [if_pos c]
      · rename_i c; rw [if_neg c]
        split at h
        · rename_i c; rw [if_pos c]
        · rename_i c; rw [if_neg c]
          split at h
          · rename_i c; rw [if_pos c]
          · split at h <;> cases h
  · intro h
    split at h
    · cases h
    · rename_i c; rw [if_neg c]
      split at h
      · cases h
      · rename_i c; rw [if_neg c]
        split at h
        · cases h
        · rename_i c; rw [if_neg c]
          split at h
          · cases h
          · rename_i c; rw [if_neg c]
            split at h
            · cases h
            · rename_i c; rw [if_neg c]

theorem sub_asg {o i : Expr} (h : plainI i = true) (pos : Pos) (env : PySem.Env) (v : Value) : assign (.Subscript o i pos) env v = (do
      let ov ← holding [v] (eval o env)
      let iv ← holding [v, ov] (eval i env)
      standAt pos
      holding [v, ov, iv] (setItem ov iv v)
      release [v, ov, iv] []) := by
  cases i <;> first | (cases h; done) | rfl
def vAsg : Stmt → Option (Expr × Expr)
  | .Assign [t] e _ => some (t, e)
  | _ => none
theorem vAsg_ok {s : Stmt} {x} (h : vAsg s = some x) : ∃ p, s = .Assign [x.1] x.2 p := by
  unfold vAsg at h
  split at h
  · cases h; exact ⟨_, rfl⟩
  · cases h
def vAug : Stmt → Option (Str × Operator × Expr)
  | .AugAssign (.Name x _) op e _ => some (x, op, e)
  | _ => none
theorem vAug_ok {s : Stmt} {x} (h : vAug s = some x) : ∃ p q, s = .AugAssign (.Name x.1 p) x.2.1 x.2.2 q := by
  unfold vAug at h
  split at h
  · cases h; exact ⟨_, _, rfl⟩
  · cases h
def vExp : Stmt → Option Expr
  | .Expr e _ => some e
  | _ => none
theorem vExp_ok {s : Stmt} {x} (h : vExp s = some x) : ∃ p, s = .Expr x p := by cases s <;> cases h; exact ⟨_, rfl⟩
def vRet : Stmt → Option (Option Expr)
  | .Return e _ => some e
  | _ => none
theorem vRet_ok {s : Stmt} {x} (h : vRet s = some x) : ∃ p, s = .Return x p := by cases s <;> cases h; exact ⟨_, rfl⟩
def vIfS : Stmt → Option (Expr × List Stmt × List Stmt)
  | .If c a b _ => some (c, a, b)
  | _ => none
theorem vIfS_ok {s : Stmt} {x} (h : vIfS s = some x) : ∃ p, s = .If x.1 x.2.1 x.2.2 p := by cases s <;> cases h; exact ⟨_, rfl⟩
def vFor : Stmt → Option (Expr × Expr × List Stmt)
  | .For t i b [] _ => some (t, i, b)
  | _ => none
theorem vFor_ok {s : Stmt} {x} (h : vFor s = some x) : ∃ p, s = .For x.1 x.2.1 x.2.2 [] p := by
  unfold vFor at h
  split at h
  · cases h; exact ⟨_, rfl⟩
  · cases h
def vWhl : Stmt → Option (Expr × List Stmt)
  | .While c b [] _ => some (c, b)
  | _ => none
theorem vWhl_ok {s : Stmt} {x} (h : vWhl s = some x) : ∃ p, s = .While x.1 x.2 [] p := by
  unfold vWhl at h
  split at h
  · cases h; exact ⟨_, rfl⟩
  · cases h
/-- how it is stored: as any value -/
def asgOk (Θ : CT) (t e : Expr) : Bool := match vTup t, vTup e with
  | some ts, some vs => decide (swC Θ.sc ts vs = 0) && decide (Θ.sc.kind = .function)
  | some _, none => true
  | none, _ => (vName t).isSome && (notComp e || (vLc e).isSome)
def ckS (Pn : PInf) : Nat → CT → Stmt → T → Bool
  | 0, _, _, _ => false
  | n + 1, Θ, s, t => match t with
    | .asg tg x => (match vAsg s with
      | some (te, e) => ckG 9 Θ te tg && ckE Pn n Θ e x && noStar te && asgOk Θ te e
      | none => false)
    | .par is es => (match vAsg s with
      | some (te, e) => (match vTup te, vTup e with
        | some ts, some vs => decide (Θ.sc.kind = .function) && decide (swC Θ.sc ts vs = 2) && vs.all noStar && all2 (ckE Pn n Θ) vs es && decide (is.Nodup) &&
            all2 (fun e i => match vName e with
              | some x => decide (Θ.N[i]? = some x) && decide (Θ.sc.names.lookup x = some .local)
              | none => false) ts is && decide (swNames Θ.sc ts = ts.filterMap vName)
        | _, _ => false)
      | none => false)
    | .sub o i x => (match vAsg s with
      | some (te, e) => (match vSub te with
        | some (eo, ei) => plainI ei && ckE Pn n Θ e x && ckE Pn n Θ eo o && ckE Pn n Θ ei i
        | none => false)
      | none => false)
    | .aug i o x => (match vAug s with
      | some (y, op, e) => decide (opA o = some op) && decide (Θ.N[i]? = some y) && locB Θ.sc y && (Θ.fnb y || decide (Θ.sc.names.lookup y = some .local)) && ckE Pn n Θ e x
      | none => false)
    | .ex x => (match vExp s with
      | some e => notComp e && ckE Pn n Θ e x
      | none => false)
    | .rtn none => (match vRet s with
      | some none => true
      | _ => false)
    | .rtn (some x) => (match vRet s with
      | some (some e) => ckE Pn n Θ e x
      | _ => false)
    | .if_ t a b => (match vIfS s with
      | some (et, ea, eb) => ckT Pn n Θ et t && all2 (ckS Pn n Θ) ea a && all2 (ckS Pn n Θ) eb b
      | none => false)
    | .for_ tg it b => (match vFor s with
      | some (et, ei, eb) => ckG 9 Θ et tg && ckI Pn (ckE Pn n) Θ et ei it && notSet ei && all2 (ckS Pn n Θ) eb b
      | none => false)
    | .while_ t b => (match vWhl s with
      | some (et, eb) => ckT Pn n Θ et t && all2 (ckS Pn n Θ) eb b
      | none => false)
    | .brk => (match s with
      | .Break _ => true
      | _ => false)
    | .cnt => (match s with
      | .Continue _ => true
      | _ => false)
    | .pass => (match s with
      | .Pass _ => true
      | _ => false)
section
variable {CX : CXT} {Pn : PInf} {k : Nat} {K : PySem.W.Frag} {cA : Str → Addr}
def OkS (CX : CXT) (Pn : PInf) (k : Nat) (K : PySem.W.Frag) (cA : Str → Addr) (W : WX) (Θ : CT) (s : Stmt) (m : Ev.Env → M Fl) : Prop := ∃ t, (∀ X, Gd CX Pn k ⟨K, cA, W⟩ Θ X → PassesOwn (model X.prog X.w) X.A X.env X.xe → PS X s t) ∧ SS ⟨K, cA, W⟩ t m
def OkB (CX : CXT) (Pn : PInf) (k : Nat) (K : PySem.W.Frag) (cA : Str → Addr) (W : WX) (Θ : CT) (s : List Stmt) (m : Ev.Env → M Fl) : Prop := ∃ t, (∀ X, Gd CX Pn k ⟨K, cA, W⟩ Θ X → PassesOwn (model X.prog X.w) X.A X.env X.xe → PSs X s t) ∧ SS ⟨K, cA, W⟩ t m
theorem body_ok {n : Nat} {cS : CT → Stmt → T → Bool} {W : WX} {Θ : CT} (hS : ∀ s t, cS Θ s t = true → OkS CX Pn k K cA W Θ s (ex (Cf Pn k) n t)) : ∀ {ss : List Stmt} {ts : List T}, all2 (cS Θ) ss ts = true → OkB CX Pn k K cA W Θ ss (seqL (fun s ρ => ex (Cf Pn k) n s ρ) ts)
  | [], [], _ => ⟨tNext, fun X g p => pss_nil, SS.next⟩
  | s :: ss, t :: ts, h => by
    have h := Bool.and_eq_true_iff.mp (show (cS Θ s t && all2 (cS Θ) ss ts) = true from h)
    obtain ⟨t1, a1, b1⟩ := hS s t h.1
    obtain ⟨t2, a2, b2⟩ := body_ok hS h.2
    exact ⟨tSeq t1 t2, fun X g p => pss_cons (a1 X g p) (a2 X g p), SS.seq b1 b2⟩
  | [], _ :: _, h => by cases h
  | _ :: _, [], h => by cases h
theorem ip_aug {X : Cx} : ∀ {o : BOp} {op : Operator}, opA o = some op → PIp X op (rAug o) := fun {o op} h => by
  cases o <;> first | (cases h; done) | skip
  · obtain rfl : _ = op := Option.some.inj h
    exact (iop_add (X := X)).or iop_add_str
  · obtain rfl : _ = op := Option.some.inj h
    exact iop_sub (X := X)
section
variable (hCX : ∀ outer H s e s', CX outer H s (fun _ _ _ => False) e s' → False) (hG : ∀ p ∈ Pn.G, GlobOk K p.2 (Pn.gv p.1))
variable {W : WX} {Θ : CT}
include hCX hG
/-- name = [.. for ..] on one line -/
theorem lc_ok {n : Nat} {y : Str} {py : Pos} {el etg eit : Expr} {ifs : List Expr} {sc : Scope} {pos spos : Pos} {i : Nat} {x : X} (hx : ckE Pn n Θ (.ListComp el [⟨etg, eit, ifs, 0⟩] sc pos) x = true) (hi : Θ.N[i]? = some y) (hl : locB Θ.sc y = true) (hf : (Θ.fnb y || decide (Θ.sc.names.lookup y = some .local)) = true) :
    OkS CX Pn k K cA W Θ (.Assign [.Name y py] (.ListComp el [⟨etg, eit, ifs, 0⟩] sc pos) spos) (fun ρ => bnd (ev (Cf Pn k) n x ρ) fun v => bnd (asgT (.var i) v ρ) fun ρ' => Ev.ret (.nx ρ')) := by
  cases n with
  | zero => cases hx
  | succ m =>
    obtain ⟨hE, hT⟩ := ck_ok (k := k) (cA := cA) hCX hG m
    obtain ⟨hE', _⟩ := ck_ok (k := k) (cA := cA) hCX hG (m + 1)
    obtain ⟨t0, a0, b0⟩ := hE' W Θ _ _ hx
    cases x with
    | comp mu xel tg it ts own =>
      have hx' : stepE Pn (ckE Pn m) (ckT Pn m) Θ (.ListComp el [⟨etg, eit, ifs, 0⟩] sc pos) (.comp mu xel tg it ts own) = true := hx
      unfold stepE at hx'
      dsimp only [vLc] at hx'
      simp only [Bool.and_eq_true] at hx'
      obtain ⟨⟨⟨⟨⟨⟨h1, h2⟩, h3⟩, h4⟩, h5⟩, h6⟩, h7⟩ := hx'
      obtain ⟨ti, ai, bi⟩ := ckI_ok hE (W := W) h4
      obtain ⟨tg', ag, bg⟩ := ckG_ok (CX := CX) (Pn := Pn) (k := k) (K := K) (cA := cA) (W := fun _ _ _ _ => False) 9 h2
      obtain ⟨te, ae, be⟩ := hE (fun _ _ _ _ => False) (Θ.inner sc) el xel h7
      have htt : ∃ tt, (∀ X, Gd CX Pn k ⟨K, cA, fun _ _ _ _ => False⟩ (Θ.inner sc) X → PTs X ifs tt) ∧ ST ⟨K, cA, fun _ _ _ _ => False⟩ tt (fun ρ => testsE (fun e => ev (Cf Pn k) m e ρ) ts) := by
        split at h6
        · exact ⟨tYes, fun X g => pts_nil, fun g w ρ S σ H Q R E h => h w H (.refl _) R⟩
        · rename_i ec c
          obtain ⟨tt, at_, bt⟩ := hT (fun _ _ _ _ => False) (Θ.inner sc) ec c h6
          refine ⟨tt, fun X g => pts_one (at_ X g), ?_⟩
          have e : (fun ρ => testsE (fun e => ev (Cf Pn k) m e ρ) [c]) = fun ρ => bnd (ev (Cf Pn k) m c ρ) truB := by
            funext ρ
            show (bnd (ev (Cf Pn k) m c ρ) fun v => bnd (truB v) fun b => if b = true then Ev.ret true else Ev.ret false) = _
            congr 1
            funext v
            have : (fun b => if b = true then Ev.ret true else Ev.ret false) = (Ev.ret : Bool → M Bool) := by
              funext b
              cases b <;> rfl
            rw [this, bnd_right]
          rw [e]
          exact bt
        · cases h6
      obtain ⟨tt, at_, bt⟩ := htt
      have eo : (own.map fun (i : Nat) => (((Θ.N[i]?).getD "" : Str), i)).map (·.2) = own := by
        rw [List.map_map]
        exact List.map_id _
      have hse : SE ⟨K, cA, W⟩ (tLc ti tg' tt te own) (ev (Cf Pn k) (m + 1) (.comp mu xel tg it ts own)) := SE.comp (F := ⟨K, cA, W⟩) mu bi bg (fun i hi => by
        have := List.all_eq_true.mp h3 i hi
        simpa using this) bt be
      refine ⟨tAsg (tLc ti tg' tt te own) (gName i), fun X g _ => ?_, SS.asg hse (SG.name i)⟩
      have hlc : PE X (.ListComp el [⟨etg, eit, ifs, 0⟩] sc pos) (tLc ti tg' tt te own) := by
        have := pe_lc (X := X) (pos := pos) (own := own.map fun (i : Nat) => (((Θ.N[i]?).getD "" : Str), i)) g.calm g.nd (ai X g) (blkOk_by (by rw [g.nN, g.sc]; exact h1)) (fun s H C cl fp => ag _ (g.blk hCX s H sc C cl fp)) (fun s H C cl fp => at_ _ (g.blk hCX s H sc C cl fp)) (fun s H C cl fp => ae _ (g.blk hCX s H sc C cl fp)) (fun x => not_folded h5 _ x)
        rw [eo] at this
        exact this
      have hpg : PG X (.Name y py) (gName i) := pg_name g.nd (by rw [g.nN]; exact hi) (by rw [g.sc]; exact locB_ok hl) (by
        rcases Bool.or_eq_true_iff.mp hf with q | q
        · exact .inl (by rw [g.fn]; exact q)
        · exact .inr (by rw [g.sc]; exact of_decide_eq_true q))
      have hsw : ∃ b, swapsWith (.ListComp el [⟨etg, eit, ifs, 0⟩] sc pos) (some (.Name y py)) spos.line X.env = pure b ∧ (b = true → X.env.scope.names.lookup y = some .local) := by
        refine ⟨_, rfl, fun z => ?_⟩
        simp only [Bool.and_eq_true, beq_iff_eq] at z
        exact z.1.1.2
      obtain ⟨b, hb, hb2⟩ := hsw
      cases b with
      | false => exact ps_asg hlc hpg hb (no_stores rfl _) rfl
      | true =>
        have := ps_setLc (X := X) (pos := pos) (spos := spos) (i := i) (py := py) (own := own.map fun (i : Nat) => (((Θ.N[i]?).getD "" : Str), i)) g.calm g.nd (by rw [g.nN]; exact hi) (hb2 rfl) hb (ai X g) (blkOk_by (by rw [g.nN, g.sc]; exact h1)) (fun s H C cl fp => ag _ (g.blk hCX s H sc C cl fp)) (fun s H C cl fp => at_ _ (g.blk hCX s H sc C cl fp)) (fun s H C cl fp => ae _ (g.blk hCX s H sc C cl fp)) (fun x => not_folded h5 _ x)
        rw [eo] at this
        exact this
    | _ => exact Bool.noConfusion (show false = true from hx)
theorem ckS_ok : ∀ (n : Nat) (s : Stmt) (t : T), ckS Pn n Θ s t = true → OkS CX Pn k K cA W Θ s (ex (Cf Pn k) n t)
  | 0, _, _, h => by cases h
  | n + 1, s, t, h => by
    obtain ⟨hE, hT⟩ := ck_ok (k := k) (cA := cA) hCX hG n
    have hB : ∀ {ss : List Stmt} {ts : List T}, all2 (ckS Pn n Θ) ss ts = true → OkB CX Pn k K cA W Θ ss (seqL (fun s ρ => ex (Cf Pn k) n s ρ) ts) := fun h => body_ok (fun s t => ckS_ok n s t) h
    unfold ckS at h
    cases t with
    | asg tg x =>
      dsimp only at h
      split at h
      · rename_i te e es
        obtain ⟨p, rfl⟩ := vAsg_ok es
        simp only [Bool.and_eq_true] at h
        obtain ⟨⟨⟨h1, h2⟩, h3⟩, h4⟩ := h
        obtain ⟨gt, ag, bg⟩ := ckG_ok (CX := CX) (Pn := Pn) (k := k) (K := K) (cA := cA) (W := W) 9 h1
        obtain ⟨t1, a1, b1⟩ := hE W Θ e x h2
        have gen : (∀ X, Gd CX Pn k ⟨K, cA, W⟩ Θ X → swapsWithSole [te] e p.line X.env = pure false ∧ swappedStores [te] e X.env = pure none) → OkS CX Pn k K cA W Θ (.Assign [te] e p) (ex (Cf Pn k) (n + 1) (.asg tg x)) := fun hs =>
          ⟨tAsg t1 gt, fun X g _ => ps_asg (a1 X g) (ag X g) (hs X g).1 (hs X g).2 (asg_one h3 _), SS.asg b1 bg⟩
        unfold asgOk at h4
        split at h4
        · rename_i ts vs e1 e2
          obtain ⟨k1, p1, rfl⟩ := vTup_ok e1
          obtain ⟨k2, p2, rfl⟩ := vTup_ok e2
          simp only [Bool.and_eq_true, decide_eq_true_eq] at h4
          exact gen fun X g => ⟨no_swapT rfl _ _, (sw_eq g.sc h4.2 ts vs k1 k2 p1 p2).1 h4.1⟩
        · rename_i ts e1 e2
          obtain ⟨k1, p1, rfl⟩ := vTup_ok e1
          exact gen fun X g => ⟨no_swapT rfl _ _, no_stores' (by cases e <;> first | rfl | cases e2) _⟩
        · rename_i e1
          simp only [Bool.and_eq_true, Bool.or_eq_true] at h4
          obtain ⟨y, ey⟩ := Option.isSome_iff_exists.mp h4.1
          obtain ⟨py, rfl⟩ := vName_ok ey
          cases tg with
          | tup ts => cases h1
          | var i =>
            have h1' : (decide (Θ.N[i]? = some y) && locB Θ.sc y && (Θ.fnb y || decide (Θ.sc.names.lookup y = some .local))) = true := h1
            simp only [Bool.and_eq_true, decide_eq_true_eq] at h1'
            rcases h4.2 with hc | hc
            · exact gen fun X g => ⟨no_swapS hc _ _ _, no_stores rfl _⟩
            · obtain ⟨q, eq⟩ := Option.isSome_iff_exists.mp hc
              obtain ⟨p', rfl⟩ := vLc_ok eq
              exact lc_ok hCX hG h2 h1'.1.1 h1'.1.2 h1'.2
      · cases h
    | par is es =>
      dsimp only at h
      split at h
      · rename_i te e e0
        obtain ⟨p, rfl⟩ := vAsg_ok e0
        split at h
        · rename_i ts vs e1 e2
          obtain ⟨k1, p1, rfl⟩ := vTup_ok e1
          obtain ⟨k2, p2, rfl⟩ := vTup_ok e2
          simp only [Bool.and_eq_true, decide_eq_true_eq] at h
          obtain ⟨⟨⟨⟨⟨⟨h1, h2⟩, h3⟩, h4⟩, h5⟩, h6⟩, h7⟩ := h
          obtain ⟨ta, a1, b1⟩ := ckA_ok hE (W := W) h3 h4
          have hlen : (ts.length = 2 ∨ ts.length = 3) ∧ vs.length = ts.length := by
            unfold swC at h2
            split at h2
            · cases h2
            · rename_i c
              have c' : (¬ts.length = 2 → ts.length = 3) ∧ vs.length = ts.length := by simpa using c
              exact ⟨by omega, c'.2⟩
          have l1 := all2_len h6
          have nm : ∀ {e : Expr} {i : Nat}, (match vName e with
              | some x => decide (Θ.N[i]? = some x) && decide (Θ.sc.names.lookup x = some .local)
              | none => false) = true → ∃ x px, e = .Name x px ∧ Θ.N[i]? = some x ∧ Θ.sc.names.lookup x = some .local := fun {e i} q => by
            split at q
            · rename_i x ex
              obtain ⟨px, rfl⟩ := vName_ok ex
              simp only [Bool.and_eq_true, decide_eq_true_eq] at q
              exact ⟨x, px, rfl, q.1, q.2⟩
            · cases q
          have hsw := fun (X : Cx) (g : Gd CX Pn k ⟨K, cA, W⟩ Θ X) => (sw_eq g.sc h1 ts vs k1 k2 p1 p2).2 h2
          rw [h7] at hsw
          match ts, is, vs, hlen, l1, h6, hsw, a1, h5 with
          | [t1, t2], [i, j], [va, vb], _, _, h6, hsw, a1, h5 =>
            have h6' := Bool.and_eq_true_iff.mp (show (_ && (_ && true)) = true from h6)
            have h6'' := Bool.and_eq_true_iff.mp h6'.2
            obtain ⟨x, px, rfl, x1, x2⟩ := nm h6'.1
            obtain ⟨y, py, rfl, y1, y2⟩ := nm h6''.1
            have hij : i ≠ j := by simpa using h5
            exact ⟨tPar i j ta, fun X g _ => ps_par g.calm g.nd (by rw [g.nN]; exact x1) (by rw [g.nN]; exact y1) hij (by rw [g.sc]; exact x2) (by rw [g.sc]; exact y2) (a1 X g) (hsw X g) (no_swapT rfl _ _), SS.par b1⟩
          | [t1, t2, t3], [i, j, l], [va, vb, vc], _, _, h6, hsw, a1, h5 =>
            have h6' := Bool.and_eq_true_iff.mp (show (_ && (_ && (_ && true))) = true from h6)
            have h6'' := Bool.and_eq_true_iff.mp h6'.2
            have h63 := Bool.and_eq_true_iff.mp h6''.2
            obtain ⟨x, px, rfl, x1, x2⟩ := nm h6'.1
            obtain ⟨y, py, rfl, y1, y2⟩ := nm h6''.1
            obtain ⟨z, pz, rfl, z1, z2⟩ := nm h63.1
            have h5' : (i ≠ j ∧ i ≠ l) ∧ j ≠ l := by simpa using h5
            exact ⟨tPar3 i j l ta, fun X g _ => ps_par3 g.calm g.nd (by rw [g.nN]; exact x1) (by rw [g.nN]; exact y1) (by rw [g.nN]; exact z1) h5'.1.1 h5'.1.2 h5'.2 (by rw [g.sc]; exact x2) (by rw [g.sc]; exact y2) (by rw [g.sc]; exact z2) (a1 X g) (hsw X g) (no_swapT rfl _ _), SS.par3 b1⟩
          | [], _, _, h, _, _, _, _, _ => simp at h
          | [_], _, _, h, _, _, _, _, _ => simp at h
          | _ :: _ :: _ :: _ :: _, _, _, h, _, _, _, _, _ => simp at h
          | [_, _], [], _, _, h, _, _, _, _ => simp at h
          | [_, _], [_], _, _, h, _, _, _, _ => simp at h
          | [_, _], _ :: _ :: _ :: _, _, _, h, _, _, _, _ => simp at h
          | [_, _], [_, _], [], h, _, _, _, _, _ => simp at h
          | [_, _], [_, _], [_], h, _, _, _, _, _ => simp at h
          | [_, _], [_, _], _ :: _ :: _ :: _, h, _, _, _, _, _ => simp at h
          | [_, _, _], [], _, _, h, _, _, _, _ => simp at h
          | [_, _, _], [_], _, _, h, _, _, _, _ => simp at h
          | [_, _, _], [_, _], _, _, h, _, _, _, _ => simp at h
          | [_, _, _], _ :: _ :: _ :: _ :: _, _, _, h, _, _, _, _ => simp at h
          | [_, _, _], [_, _, _], [], h, _, _, _, _, _ => simp at h
          | [_, _, _], [_, _, _], [_], h, _, _, _, _, _ => simp at h
          | [_, _, _], [_, _, _], [_, _], h, _, _, _, _, _ => simp at h
          | [_, _, _], [_, _, _], _ :: _ :: _ :: _ :: _, h, _, _, _, _, _ => simp at h
        · cases h
      · cases h
    | sub o i x =>
      dsimp only at h
      split at h
      · rename_i te e e0
        obtain ⟨p, rfl⟩ := vAsg_ok e0
        split at h
        · rename_i eo ei e1
          obtain ⟨p1, rfl⟩ := vSub_ok e1
          simp only [Bool.and_eq_true] at h
          obtain ⟨⟨⟨h1, h2⟩, h3⟩, h4⟩ := h
          obtain ⟨t1, a1, b1⟩ := hE W Θ e x h2
          obtain ⟨t2, a2, b2⟩ := hE W Θ eo o h3
          obtain ⟨t3, a3, b3⟩ := hE W Θ ei i h4
          refine ⟨tAsg t1 (gSub t2 t3 rPut), fun X g _ => ?_, SS.sub b1 b2 b3⟩
          have hu : X.A.units + 1 < cLine := by have := g.units; omega
          exact ps_asg (a1 X g) (pg_sub (a2 X g) (a3 X g) (set_put hu) (fun v => sub_asg h1 _ _ v)) (no_swapT rfl _ _) (no_stores rfl _) rfl
        · cases h
      · cases h
    | aug i o x =>
      dsimp only at h
      split at h
      · rename_i y op e e0
        obtain ⟨p, q, rfl⟩ := vAug_ok e0
        simp only [Bool.and_eq_true, Bool.or_eq_true, decide_eq_true_eq] at h
        obtain ⟨⟨⟨⟨h1, h2⟩, h3⟩, h4⟩, h5⟩ := h
        obtain ⟨t1, a1, b1⟩ := hE W Θ e x h5
        refine ⟨tAug i t1 (rAug o), fun X g _ => ps_aug g.nd (by rw [g.nN]; exact h2) (by rw [g.sc]; exact locB_ok h3) (a1 X g) (ip_aug h1) ?_, SS.aug o b1⟩
        rcases h4 with q | q
        · exact .inl (by rw [g.fn]; exact q)
        · exact .inr (by rw [g.sc]; exact q)
      · cases h
    | ex x =>
      dsimp only at h
      split at h
      · rename_i e e0
        obtain ⟨p, rfl⟩ := vExp_ok e0
        obtain ⟨h1, h2⟩ := Bool.and_eq_true_iff.mp h
        obtain ⟨t1, a1, b1⟩ := hE W Θ e x h2
        exact ⟨tDrop t1, fun X g _ => ps_expr (a1 X g) (no_swap h1 _ _ _), SS.drop b1⟩
      · cases h
    | rtn e =>
      cases e with
      | none =>
        dsimp only at h
        split at h
        · rename_i e0
          obtain ⟨p, rfl⟩ := vRet_ok e0
          exact ⟨tRetN, fun X g _ => ps_retN, SS.retN⟩
        · cases h
      | some x =>
        dsimp only at h
        split at h
        · rename_i e e0
          obtain ⟨p, rfl⟩ := vRet_ok e0
          obtain ⟨t1, a1, b1⟩ := hE W Θ e x h
          exact ⟨tRet t1, fun X g _ => ps_ret (a1 X g), SS.ret b1⟩
        · cases h
    | if_ t a b =>
      dsimp only at h
      split at h
      · rename_i et ea eb e0
        obtain ⟨p, rfl⟩ := vIfS_ok e0
        simp only [Bool.and_eq_true] at h
        obtain ⟨⟨h1, h2⟩, h3⟩ := h
        obtain ⟨t1, a1, b1⟩ := hT W Θ et t h1
        obtain ⟨t2, a2, b2⟩ := hB h2
        obtain ⟨t3, a3, b3⟩ := hB h3
        refine ⟨tIfS t1 t2 t3, fun X g p => ps_if (a1 X g) (a2 X g p) (a3 X g p), ?_⟩
        have e : ex (Cf Pn k) (n + 1) (.if_ t a b) = fun ρ => bnd (bnd (ev (Cf Pn k) n t ρ) truB) fun c => if c = true then seqL (fun s ρ => ex (Cf Pn k) n s ρ) a ρ else seqL (fun s ρ => ex (Cf Pn k) n s ρ) b ρ := by
          funext ρ
          rw [bnd_assoc]; rfl
        rw [e]
        exact SS.if_ b1 b2 b3
      · cases h
    | for_ tg it b =>
      dsimp only at h
      split at h
      · rename_i et ei eb e0
        obtain ⟨p, rfl⟩ := vFor_ok e0
        simp only [Bool.and_eq_true] at h
        obtain ⟨⟨⟨h1, h2⟩, h3⟩, h4⟩ := h
        obtain ⟨gt, ag, bg⟩ := ckG_ok (CX := CX) (Pn := Pn) (k := k) (K := K) (cA := cA) (W := W) 9 h1
        obtain ⟨ti, ai, bi⟩ := ckI_ok hE (W := W) h2
        obtain ⟨t2, a2, b2⟩ := hB h4
        exact ⟨tFor ti gt t2, fun X g p => ps_for p g.calm (ai X g) (ag X g) (a2 X g p) (fun x => not_folded h3 _ x), SS.for_ bi bg (fun v ρ S e' S' => asgT_noex _ tg (Nat.lt_succ_self _) v ρ S e' S') b2⟩
      · cases h
    | while_ t b =>
      dsimp only at h
      split at h
      · rename_i et eb e0
        obtain ⟨p, rfl⟩ := vWhl_ok e0
        obtain ⟨h1, h2⟩ := Bool.and_eq_true_iff.mp h
        obtain ⟨t1, a1, b1⟩ := hT W Θ et t h1
        obtain ⟨t2, a2, b2⟩ := hB h2
        exact ⟨tWhile t1 t2, fun X g p => ps_while p (a1 X g) (a2 X g p), SS.while_ whileFuel b1 b2⟩
      · cases h
    | brk =>
      dsimp only at h
      split at h
      · exact ⟨tBreak, fun X g _ => ps_break, SS.brk⟩
      · cases h
    | cnt =>
      dsimp only at h
      split at h
      · exact ⟨tCont, fun X g _ => ps_continue, SS.cnt⟩
      · cases h
    | pass =>
      dsimp only at h
      split at h
      · exact ⟨tNext, fun X g _ => ps_pass, SS.next⟩
      · cases h
end
end
end Ev
end
section
set_option Elab.async false
set_option linter.all false
set_option maxRecDepth 100000
namespace Ev
open PySem PySem.Spec L2
open PyProof.Rows hiding St IsTup
structure DInfo where
  params : Arguments
  body : List Stmt
  scope : Scope
  N : List Str
  ps : List Str
structure Facts (K : PySem.W.Frag) (mg : Str → Option Value) (Pn : PInf) (f : Str) (fd : Fn) (d : DInfo) (a : Addr) (fdata : FuncData) : Prop where
  mgf : mg f = some (.ref a)
  fn : FunD K f f d.params d.body d.scope [] [] a fdata
  scp : FnScope d.N d.ps d.scope
  binds : Binds K fdata d.ps []
  np : fd.np = d.ps.length
  ns : d.N.length = fd.nslots
  body : all2 (ckS Pn bodyFuel ⟨d.scope, d.N, none⟩) d.body fd.body = true
  kws : ∀ n ks is, (f, n, ks) ∈ Pn.kws → kwF Pn.Γ f ks n = some is → KBinds K fdata d.ps ks (gP n ks.length is) (gP n ks.length is)
section
variable {P : Program} {w : World} {K : PySem.W.Frag} {mg : Str → Option Value} {base : Heap} {Pn : PInf} {cA : Str → Addr} {aOf : Str → Addr} {fOf : Str → FuncData}
/-- exceptions as HandS.Exc has them -/
abbrev CXr (P : Program) (w : World) : CXT := L2.CX P w
theorem passesW_cx {N : List Str} {qual : Str} {scope : Scope} {f : Addr} {cd : Value} {A : Around} {outer : List PySem.Env} {s : Shared} {H : Hp} {E : XK} : PassesW (CXr P w) (cxOf (CXr P w) P w K mg base N qual scope f cd A outer s H E) (fun c d _ H => E c d H) := by
  have tk : Takes (cxOf (CXr P w) P w K mg base N qual scope f cd A outer s H E) (fun c d _ H => E c d H) := takes_of rfl rfl rfl rfl
  exact passes_call tk fun _ _ _ _ h => h
theorem all_ok (hs : ∃ o, K.lookup sysModules = some o) (hG : ∀ p ∈ Pn.G, GlobOk K p.2 (Pn.gv p.1)) (hg : ∀ p ∈ Pn.G, ∃ u, mg p.1 = some u ∧ RelV (Pn.gv p.1) u) (hb : ∀ x ∈ Pn.bis, mg x = none)
    (hCX : ∀ outer H s e s', CXr P w outer H s (fun _ _ _ => False) e s' → False)
    (hd : ∀ f fd, lookF Pn.Γ f = some fd → ∃ d, Facts K mg Pn f fd d (aOf f) (fOf f)) :
    ∀ (k : Nat) f fd, lookF Pn.Γ f = some fd → ∀ d, Facts K mg Pn f fd d (aOf f) (fOf f) → FnG P w K mg base (CXr P w) k (aOf f) (fOf f) d.ps (spEv K cA fd.np (callF Pn.Γ Pn.G k f))
  | 0, f, fd, hf, d, F => ⟨fun vs H Q E h => by rw [spEv_len h, F.np], fun A outer s H args us vs Q E _ _ _ _ _ h => by
      obtain ⟨_, _, _, _, _, _, _, p⟩ := h
      exact p.elim⟩
  | k + 1, f, fd, hf, d, F => by
    refine fnG_of F.fn F.scp (fun vs H Q E h => by rw [spEv_len h, F.np]) fun cdv A outer s H vs Q E hgd hr hsp => ?_
    obtain ⟨g, w', S, args, R, ra, la, p⟩ := hsp
    obtain ⟨t, a, b⟩ := body_ok (W := fun c d _ H => E c d H) (Θ := ⟨d.scope, d.N, none⟩) (fun s t h => ckS_ok (k := k) (cA := cA) (W := fun c d _ H => E c d H) hCX hG bodyFuel s t h) F.body
    refine ⟨t, a _ ⟨rfl, rfl, rfl, F.scp.nd, rfl, fun _ => rfl, hgd, hr, hs, fun q hq => ⟨hG q hq, hg q hq⟩, hb, fun f' fd' hf' => ?_, passesW_cx⟩ (passes_of rfl), ?_⟩
    · obtain ⟨d', F'⟩ := hd f' fd' hf'
      exact ⟨aOf f', fOf f', d'.ps, F'.mgf, F'.fn.kp, F'.binds, all_ok hs hG hg hb hCX hd k f' fd' hf' d' F', F'.kws⟩
    · have e : callF Pn.Γ Pn.G (k + 1) f args S = callB (Cf Pn k) fd args S := by
        show (match lookF Pn.Γ f with
          | some fd => callB ⟨callF Pn.Γ Pn.G k, kwF Pn.Γ, Pn.G⟩ fd args
          | none => fail) S = _
        rw [hf]; rfl
      rw [e] at p
      exact call_body F.ns R ra b p
end
end Ev
end
section
set_option Elab.async false
set_option linter.all false
set_option maxRecDepth 100000
namespace Ev
open PySem PySem.Spec L2
open PyProof.Rows hiding St IsTup
inductive CK where
  | int (i : Int)
  | str (s : Str)
  | tup (vs : List He.Dv)
  | lst (vs : List He.Dv)
def dvD : He.Dv → PyData
  | .bl b => .bool b
  | .int i => .int i
  | .str s => .str s
  | _ => .none
def dvB : He.Dv → Bool
  | .non => true
  | .bl _ => true
  | .int _ => true
  | .str _ => true
  | _ => false
theorem dv_flat (K : PySem.W.Frag) : ∀ {d : He.Dv}, dvB d = true → flatOf (dvD d) = some (d.v K) := fun {d} h => by cases d <;> first | (cases h; done) | rfl
theorem dvs_flat (K : PySem.W.Frag) : ∀ {ds : List He.Dv}, ds.all dvB = true → (ds.map dvD).map flatOf = (ds.map (He.Dv.v K)).map some
  | [], _ => rfl
  | d :: ds, h => by
    have h : dvB d = true ∧ ds.all dvB = true := by simpa using h
    rw [List.map_cons, List.map_cons, List.map_cons, List.map_cons, dv_flat K h.1, dvs_flat K h.2]
def CK.val : CK → Val
  | .int i => .d (.int i)
  | .str s => .d (.str s)
  | .tup vs => .k (.tuple (vs.map dvD))
  | .lst vs => .k (.list (vs.map dvD))
def CK.v (K : PySem.W.Frag) (x : Str) : CK → V
  | .int i => .int i
  | .str s => .str s
  | _ => .ref (He.ga K x)
def CK.ok (K : PySem.W.Frag) (x : Str) : CK → Bool
  | .int i => (He.Fa.int x i).ok K
  | .str s => (He.Fa.str x s).ok K
  | .tup vs => (He.Fa.glo x).ok K && He.tupB K x vs && vs.all dvB
  | .lst vs => (He.Fa.glo x).ok K && He.lstB K x vs && vs.all dvB
/-- the objects that are looked at: the module's values, their code -/
def asV (g : Addr → Option Obj) : List Addr :=
  let m := (match g mainGlobals with
    | some ⟨_, _, .dict es _, _⟩ => es.toList.flatMap fun e => He.refV e.val
    | _ => [])
  mainGlobals :: sysModules :: (m ++ m.flatMap fun a => match g a with
    | some ⟨_, _, .func fd, _⟩ => He.refV fd.code
    | _ => [])
def obsV (fa : List He.Fa) (fn : List He.DefD) (cs : List (Str × CK)) (K : PySem.W.Frag) : He.AlD :=
  ((fa.all fun f => f.ok K) && (fn.all fun d => d.ok K) && (cs.all fun c => c.2.ok K c.1) && (K.lookup sysModules).isSome, fn.map fun d => He.fnW K d.at_)
def SaysV (fa : List He.Fa) (fn : List He.DefD) (cs : List (Str × CK)) (K : PySem.W.Frag) : Prop := obsV fa fn cs K = He.valD fn
def obsVG (fa : List He.Fa) (fn : List He.DefD) (cs : List (Str × CK)) (g : Addr → Option Obj) : He.AlD := obsV fa fn cs (He.frG g (asV g))
def hookV (fa : List He.Fa) (fn : List He.DefD) (cs : List (Str × CK)) : PySem.W.Hook where
  α := He.AlD
  obs := fun s => obsVG fa fn cs s.heap.get?
  val := fun _ => He.valD fn
  says := fun _ h => ∃ K : PySem.W.Frag, K.In h ∧ SaysV fa fn cs K
  of := fun _ _ e => ⟨_, He.frG_in, e⟩
  keeps := fun _ _ _ ⟨K, hK, c⟩ k => ⟨K, PySem.W.Frag.In.keeps hK k, c⟩
theorem obsVG_eq {fa : List He.Fa} {fn : List He.DefD} {cs : List (Str × CK)} {g : Addr → Option Obj} {s : Shared} (h : ∀ a, g a = s.heap.get? a) : obsVG fa fn cs g = (hookV fa fn cs).obs s := by
  have e : g = s.heap.get? := funext h
  rw [e] <;> rfl
section
variable {fa : List He.Fa} {fn : List He.DefD} {cs : List (Str × CK)} {K : PySem.W.Frag}
theorem SaysV.all (c : SaysV fa fn cs K) : (∀ f ∈ fa, f.ok K = true) ∧ (∀ d ∈ fn, d.ok K = true) ∧ (∀ q ∈ cs, q.2.ok K q.1 = true) ∧ (∃ o, K.lookup sysModules = some o) ∧ fn.map (fun d => He.fnW K d.at_) = fn.map He.DefD.val := by
  have c1 : ((fa.all fun f => f.ok K) && (fn.all fun d => d.ok K) && (cs.all fun c => c.2.ok K c.1) && (K.lookup sysModules).isSome) = true := congrArg (fun z : He.AlD => z.1) c
  simp only [Bool.and_eq_true, List.all_eq_true] at c1
  obtain ⟨⟨⟨h1, h2⟩, h3⟩, h4⟩ := c1
  exact ⟨h1, h2, h3, Option.isSome_iff_exists.mp h4, congrArg (fun z : He.AlD => z.2) c⟩
theorem SaysV.def_ (c : SaysV fa fn cs K) {d : He.DefD} (h : d ∈ fn) : ∃ fd, FunD K d.name d.qual d.params d.body d.scope (d.dvs K) (d.kws K) (He.fAd K d.at_) fd := by
  obtain ⟨_, h2, _, _, e⟩ := c.all
  have : He.fnW K d.at_ = d.val := by
    have go : ∀ {l : List He.DefD}, l.map (fun d => He.fnW K d.at_) = l.map He.DefD.val → ∀ d ∈ l, He.fnW K d.at_ = d.val := by
      intro l
      induction l with
      | nil => intro _ d hd; cases hd
      | cons x l ih =>
        intro e d hd
        rw [List.map_cons, List.map_cons] at e
        obtain ⟨e1, e2⟩ := List.cons.inj e
        rcases List.mem_cons.mp hd with rfl | hd
        · exact e1
        · exact ih e2 d hd
    exact go e d h
  exact He.DefD.funD this (h2 d h)
theorem CK.glob {x : Str} {c : CK} (h : c.ok K x = true) : GlobOk K c.val (c.v K x) := fun w => by
  cases c with
  | int i => exact .d (.int i)
  | str s => exact .d (.str s)
  | tup vs =>
    have h : ((He.Fa.glo x).ok K && He.tupB K x vs && vs.all dvB) = true := h
    simp only [Bool.and_eq_true] at h
    exact .k (.tuple (He.tupB_ok h.1.2 w.I) (dvs_flat K h.2))
  | lst vs =>
    have h : ((He.Fa.glo x).ok K && He.lstB K x vs && vs.all dvB) = true := h
    simp only [Bool.and_eq_true] at h
    exact .k (.list (He.lstB_ok h.1.2 w.I) (dvs_flat K h.2))
theorem CK.mg {h : Heap} {mg : Str → Option Value} (X : K.In h) (G : h.Ns mainGlobals mg) {x : Str} {c : CK} (e : c.ok K x = true) : ∃ u, mg x = some u ∧ RelV (c.v K x) u := by
  cases c with
  | int i => obtain ⟨t, e⟩ := He.int_ok X G e; exact ⟨_, e, t, rfl⟩
  | str s => obtain ⟨t, e⟩ := He.str_ok X G e; exact ⟨_, e, t, rfl⟩
  | tup vs =>
    have e : ((He.Fa.glo x).ok K && He.tupB K x vs && vs.all dvB) = true := e
    simp only [Bool.and_eq_true] at e
    exact ⟨_, He.glo_ok X G e.1.1, rfl⟩
  | lst vs =>
    have e : ((He.Fa.glo x).ok K && He.lstB K x vs && vs.all dvB) = true := e
    simp only [Bool.and_eq_true] at e
    exact ⟨_, He.glo_ok X G e.1.1, rfl⟩
end
structure Dfn where
  f : Str
  fd : Fn
  d : DInfo
def Dfn.defD (e : Dfn) : He.DefD := ⟨(e.f, none), e.f, e.f, e.d.params, e.d.body, e.d.scope, [], []⟩
structure LawT where
  ds : List Dfn
  cs : List (Str × CK)
  bis : List Str
  kws : List (Str × Nat × List Str)
def LawT.Γ (L : LawT) : Tab := L.ds.map fun e => (e.f, e.fd)
def LawT.G (L : LawT) : List (Str × Val) := L.cs.map fun c => (c.1, c.2.val)
def LawT.pn (L : LawT) (gv : Str → V) : PInf := ⟨L.Γ, L.G, gv, L.bis, L.kws⟩
def LawT.fa (L : LawT) : List He.Fa := L.ds.map (fun e => He.Fa.glo e.f) ++ L.bis.map He.Fa.free
def LawT.fn (L : LawT) : List He.DefD := L.ds.map Dfn.defD
def LawT.hook (L : LawT) : PySem.W.Hook := hookV L.fa L.fn L.cs
/-- what is seen of a def's text -/
structure Stat (L : LawT) (e : Dfn) : Prop where
  scp : C8.scC e.d.N e.d.ps e.d.scope = true
  np : e.fd.np = e.d.ps.length
  ns : e.d.N.length = e.fd.nslots
  binds : ∀ (kV doc pm : Value) (an : Option Addr) (cdv ct : Value) (us : List Value), us.length = e.d.ps.length → bindArgs (PySem.W.fnOf e.f e.f e.d.params e.d.body e.d.scope .none kV doc pm an cdv ct) ⟨us, []⟩ = pure (e.d.ps.zip us)
  body : ∀ gv, all2 (ckS (L.pn gv) bodyFuel ⟨e.d.scope, e.d.N, none⟩) e.d.body e.fd.body = true
  kws : ∀ n ks is, (e.f, n, ks) ∈ L.kws → kwF L.Γ e.f ks n = some is → e.d.ps ≠ [] ∧ ∀ (kV doc pm : Value) (an : Option Addr) (cdv ct : Value) (us ws : List Value), us.length = n → ws.length = ks.length →
    bindArgs (PySem.W.fnOf e.f e.f e.d.params e.d.body e.d.scope .none kV doc pm an cdv ct) ⟨us, ks.zip ws⟩ = pure (e.d.ps.zip (gP n ks.length is us ws))
theorem no_kw {l : List (Str × Nat × List Str)} {f : Str} (h : l.all (fun q => !decide (q.1 = f)) = true) (n : Nat) (ks : List Str) : (f, n, ks) ∉ l := fun m => by
  have := List.all_eq_true.mp h _ m
  simp at this
theorem lookF_mem {L : LawT} {f : Str} {fd : Fn} (h : lookF L.Γ f = some fd) : ∃ e ∈ L.ds, e.f = f ∧ e.fd = fd := by
  unfold lookF at h
  obtain ⟨p, hp, rfl⟩ := Option.map_eq_some_iff.mp h
  have hm := List.mem_of_find?_eq_some hp
  have hf := List.find?_some hp
  obtain ⟨e, he, rfl⟩ := List.mem_map.mp hm
  exact ⟨e, he, of_decide_eq_true hf, rfl⟩
def gvOf (K : PySem.W.Frag) (cs : List (Str × CK)) (x : Str) : V := match cs.find? fun c => decide (c.1 = x) with
  | some c => c.2.v K c.1
  | none => .non
theorem gvOf_mem {K : PySem.W.Frag} {cs : List (Str × CK)} (nd : (cs.map (·.1)).Nodup) {c : Str × CK} (h : c ∈ cs) : gvOf K cs c.1 = c.2.v K c.1 := by
  have : cs.find? (fun d => decide (d.1 = c.1)) = some c := by
    induction cs with
    | nil => cases h
    | cons d cs ih =>
      rw [List.map_cons, List.nodup_cons] at nd
      rcases List.mem_cons.mp h with rfl | h
      · rw [List.find?_cons_of_pos (by simp)]
      · have hne : d.1 ≠ c.1 := fun z => nd.1 (z ▸ List.mem_map_of_mem h)
        rw [List.find?_cons_of_neg (by simpa using hne)]
        exact ih nd.2 h
  unfold gvOf
  rw [this]
theorem law_main {l : PySem.W.OpenLaw} {k : Nat} {q : Program} {loose : List Str} {XP : (Str → Option Value) → Heap → Prop} {d : DefRec} {L : LawT} {eL : Dfn} {x : Str}
    (hn : l.most = some 63) (hdf : d.params.defaults = []) (hr : Room k callerA) (hnd : (L.cs.map (·.1)).Nodup)
    (hS : ∀ e ∈ L.ds, Stat L e) (hne : d.name = eL.f) (hx : eL.d.ps = [x]) (hl : lookF L.Γ eL.f = some eL.fd) (hu : ∀ e ∈ L.ds, e.f = eL.f → e = eL) (hsf : ∀ f fd, lookF L.Γ f = some fd → ∀ e ∈ L.ds, e.f = f → e.fd = fd)
    (math : ∀ ns : List Int, ns.length ≤ 63 → (∀ z ∈ ns, Builtin.Int.intBits z ≤ 1048576) → ∃ S, callF L.Γ L.G k eL.f [.k (.list (ns.map .int))] [] = .ok (.d (.bool true)) S) :
    PySem.W.WalkO q loose XP L.hook.says l.row.toRowW d [] (fun f vs => PySem.call f vs) := by
  have hCX : ∀ (P : Program) (w : World) outer H s e s', CXr P w outer H s (fun _ _ _ => False) e s' → False := fun P w outer H s e s' h => by
    obtain ⟨_, _, _, _, _, _, _, _, _, _, _, _, z⟩ := h
    exact z
  refine walk_ofG (CX := fun w => CXr l.prog w) (x := x) (k := k) hn (by rw [sizeLine_eq]; decide) hdf hr (fun w mg fa h Y G hmg => ?_) fun w H s e s' z => hCX _ _ _ _ _ _ _ z
  obtain ⟨K, KX, c⟩ := Y
  obtain ⟨c1, c2, c3, c4, c5⟩ := c.all
  have glo : ∀ e ∈ L.ds, mg e.f = some (.ref (He.ga K e.f)) := fun e he => He.glo_ok KX G (c1 _ (List.mem_append_left _ (List.mem_map_of_mem he)))
  have fre : ∀ y ∈ L.bis, mg y = none := fun y hy => He.free_ok KX G (c1 _ (List.mem_append_right _ (List.mem_map_of_mem hy)))
  have fun_ : ∀ e : Dfn, ∃ fdata, e ∈ L.ds → FunD K e.f e.f e.d.params e.d.body e.d.scope [] [] (He.ga K e.f) fdata := fun e => by
    by_cases he : e ∈ L.ds
    · obtain ⟨fdata, h⟩ := c.def_ (List.mem_map_of_mem (f := Dfn.defD) he)
      exact ⟨fdata, fun _ => h⟩
    · exact ⟨⟨e.f, e.f, e.d.params, .stmts [], e.d.scope, 0, [], .none, .none, .none, .none, none, .none, .none, 0⟩, fun z => (he z).elim⟩
  obtain ⟨fDat, hfd⟩ := Classical.axiomOfChoice fun_
  let eOf : Str → Dfn := fun f => (L.ds.find? fun e => decide (e.f = f)).getD eL
  have eOf_mem : ∀ {f fd}, lookF L.Γ f = some fd → eOf f ∈ L.ds ∧ (eOf f).f = f := fun {f fd} h => by
    obtain ⟨e, he, e1, e2⟩ := lookF_mem h
    cases q : L.ds.find? fun e => decide (e.f = f) with
    | none =>
      have := List.find?_eq_none.mp q e he
      exact absurd e1 (by simpa using this)
    | some e' =>
      have h1 := List.mem_of_find?_eq_some q
      have h2 := List.find?_some q
      have : eOf f = e' := by show (L.ds.find? _).getD eL = _; rw [q]; rfl
      rw [this]
      exact ⟨h1, of_decide_eq_true h2⟩
  have hG : ∀ p ∈ (L.pn (gvOf K L.cs)).G, GlobOk K p.2 ((L.pn (gvOf K L.cs)).gv p.1) := fun p hp => by
    obtain ⟨q, hq, rfl⟩ := List.mem_map.mp hp
    show GlobOk K q.2.val (gvOf K L.cs q.1)
    rw [gvOf_mem hnd hq]
    exact CK.glob (c3 q hq)
  have hg : ∀ p ∈ (L.pn (gvOf K L.cs)).G, ∃ u, mg p.1 = some u ∧ RelV ((L.pn (gvOf K L.cs)).gv p.1) u := fun p hp => by
    obtain ⟨q, hq, rfl⟩ := List.mem_map.mp hp
    show ∃ u, mg q.1 = some u ∧ RelV (gvOf K L.cs q.1) u
    rw [gvOf_mem hnd hq]
    exact CK.mg KX G (c3 q hq)
  have fact : ∀ f fd, lookF L.Γ f = some fd → Facts K mg (L.pn (gvOf K L.cs)) f fd (eOf f).d (He.ga K f) (fDat (eOf f)) := fun f fd hf => by
    obtain ⟨m1, m2⟩ := eOf_mem hf
    have S := hS _ m1
    have F := hfd _ m1
    have e2 := hsf f fd hf _ m1 m2
    generalize eOf f = e at m1 m2 S F e2
    subst m2
    subst e2
    obtain ⟨oc, od, dV, kV, doc, pm, an, cdv, ct, osl, efd, lk, hcd, hD, hK⟩ := F.ex
    have hdV : dV = .none := by
      rcases hD with ⟨_, z⟩ | ⟨z, _⟩
      · exact z
      · exact (z rfl).elim
    subst hdV
    refine ⟨glo _ m1, F, C8.fnScope_by S.scp, F.bindsN S.binds, S.np, S.ns, S.body _, fun n ks is hk his => ⟨fun s us ws X hlen => ?_, fun a b => gP_rel a b⟩⟩
    obtain ⟨hps, hkb⟩ := S.kws n ks is hk his
    by_cases hc : us.length = n ∧ ws.length = ks.length
    · rw [efd]
      exact .of_eq (hkb kV doc pm an cdv ct us ws hc.1 hc.2)
    · have z : gP n ks.length is us ws = [] := by unfold gP; rw [if_neg hc]
      rw [z] at hlen
      exact (hps (List.length_eq_zero_iff.mp hlen.symm)).elim
  have FL := fact eL.f eL.fd hl
  have eL' : eOf eL.f = eL := hu _ (eOf_mem hl).1 (eOf_mem hl).2
  have hfa : fa = He.ga K eL.f := by
    have := FL.mgf
    rw [hne] at hmg
    rw [hmg] at this
    exact Value.ref.inj (Option.some.inj this)
  subst hfa
  refine ⟨K, fDat (eOf eL.f), spEv K (fun _ => 0) eL.fd.np (callF L.Γ L.G k eL.f), KX, fun s u => ?_, fun H a ns hlen hbits hO hSq => ?_, fun base KB GB => ?_⟩
  · have S := hS _ (eOf_mem hl).1
    have F := hfd _ (eOf_mem hl).1
    rw [eL'] at S F ⊢
    obtain ⟨oc, od, dV, kV, doc, pm, an, cdv, ct, osl, efd, lk, hcd, hD, hK⟩ := F.ex
    have hdV : dV = .none := by
      rcases hD with ⟨_, z⟩ | ⟨z, _⟩
      · exact z
      · exact (z rfl).elim
    subst hdV
    rw [efd]
    have := S.binds kV doc pm an cdv ct [u] (by rw [hx]; rfl)
    rw [hx] at this
    exact .of_eq this
  · obtain ⟨S, e⟩ := math ns hlen hbits
    refine ⟨⟨fun _ => none, H⟩, ⟨H, fun _ => 0, 0⟩, [], [.k (.list (ns.map .int))], ⟨rfl, fun _ _ h => h, fun _ _ h => (by cases h), fun n c h => (by simp at h), fun n m c c' h => (by simp at h), fun b o h => .inr rfl⟩, .cons (.k (.list hSq ?_)) .nil, ?_, ?_⟩
    · rw [List.map_map, List.map_map]; rfl
    · rw [FL.np, eL', hx]; rfl
    · rw [e]
      intro w' H' x' e1 R1 r1
      cases r1 with
      | d r1 => cases r1; rfl
  · have := all_ok (P := l.prog) (w := w) (base := base) (cA := fun _ => 0) (aOf := fun f => He.ga K f) (fOf := fun f => fDat (eOf f)) c4 hG hg fre (hCX _ _) (fun f fd hf => ⟨_, fact f fd hf⟩) k eL.f eL.fd hl _ FL
    rw [eL', hx] at this
    rw [eL']
    exact this
end Ev
end
section
set_option Elab.async false
set_option linter.all false
set_option maxRecDepth 100000
namespace Ev
open PySem PySem.Spec L2
/-- (an equation that simp keeps a proof of) -/
theorem noRfl {α : Sort _} {a b : α} (h : a = b) : a = b := h
section
variable {C : Cfg} {n : Nat} {ρ : Env} {S : List Cell}
theorem m_bnd {α β : Type} {m : M α} {f : α → M β} : bnd m f S = (match m S with
  | .ok a S' => f a S'
  | .ex e S' => .ex e S'
  | .no => .no) := noRfl rfl
theorem m_bok {α β : Type} {a : α} {S' : List Cell} {f : α → M β} : (match (Res.ok a S' : Res α) with
  | .ok a S' => f a S'
  | .ex e S' => .ex e S'
  | .no => .no) = f a S' := rfl
theorem e_var (i : Nat) : ev C (n + 1) (.var i) ρ = lift (ρ[i]?.join) := noRfl rfl
theorem e_c (c : Const) : ev C (n + 1) (.c c) ρ = lift ((constD c).map .d) := noRfl rfl
theorem e_g (j : Nat) : ev C (n + 1) (.g j) ρ = lift (C.glob[j]?.map (·.2)) := noRfl rfl
theorem e_tup (es : List X) : ev C (n + 1) (.tup es) ρ = bnd (mapE (fun e => ev C n e ρ) es) mkTup := noRfl rfl
theorem e_lst (mu : Bool) (es : List X) : ev C (n + 1) (.lst mu es) ρ = bnd (mapE (fun e => ev C n e ρ) es) (mkList mu) := noRfl rfl
theorem e_dnil : ev C (n + 1) .dnil ρ = ret (.d (.dict [])) := noRfl rfl
theorem e_dnew (tk : Bool) : ev C (n + 1) (.dnew tk) ρ = alloc (if tk = true then .dt [] else .dk []) := noRfl rfl
theorem e_dct (mu : Bool) (es : List (X × X)) : ev C (n + 1) (.dct mu es) ρ = bnd (prsE (fun e => ev C n e ρ) es) (mkDict mu) := noRfl rfl
theorem e_bin (mu : Bool) (o : BOp) (a b : X) : ev C (n + 1) (.bin mu o a b) ρ = bnd (ev C n a ρ) fun x => bnd (ev C n b ρ) fun y => binM mu o x y := noRfl rfl
theorem e_neg (a : X) : ev C (n + 1) (.neg a) ρ = bnd (ev C n a ρ) negM := noRfl rfl
theorem e_cmp (o : COp) (a b : X) : ev C (n + 1) (.cmp o a b) ρ = bnd (ev C n a ρ) fun x => bnd (ev C n b ρ) fun y => bnd (cmpM o x y) fun r => ret (.d (.bool r)) := noRfl rfl
theorem e_chn (o p : COp) (a b c : X) : ev C (n + 1) (.chn o p a b c) ρ = bnd (ev C n a ρ) fun x => bnd (ev C n b ρ) fun y => bnd (cmpM o x y) fun r => if r = true then bnd (ev C n c ρ) fun z => bnd (cmpM p y z) fun r => ret (.d (.bool r)) else ret (.d (.bool false)) := noRfl rfl
theorem e_and (es : List X) : ev C (n + 1) (.and_ es) ρ = andE (fun e => ev C n e ρ) es := noRfl rfl
theorem e_or (es : List X) : ev C (n + 1) (.or_ es) ρ = orE (fun e => ev C n e ρ) es := noRfl rfl
theorem e_not (a : X) : ev C (n + 1) (.not_ a) ρ = bnd (ev C n a ρ) fun x => bnd (truB x) fun b => ret (.d (.bool (!b))) := noRfl rfl
theorem e_ite (t a b : X) : ev C (n + 1) (.ite t a b) ρ = bnd (ev C n t ρ) fun x => bnd (truB x) fun c => if c = true then ev C n a ρ else ev C n b ρ := noRfl rfl
theorem e_idx (a i : X) : ev C (n + 1) (.idx a i) ρ = bnd (ev C n a ρ) fun x => bnd (ev C n i ρ) fun y => idxM x y := noRfl rfl
theorem e_sl (mu : Bool) (a : X) (lo hi : Option X) : ev C (n + 1) (.sl mu a lo hi) ρ = bnd (ev C n a ρ) fun x => bnd (optE (fun e => ev C n e ρ) lo) fun l => bnd (optE (fun e => ev C n e ρ) hi) fun h => bnd (viewc x) fun x => bnd (lift (cutD x l h)) (mkRes mu) := noRfl rfl
theorem e_rev (mu : Bool) (a : X) : ev C (n + 1) (.rev mu a) ρ = bnd (ev C n a ρ) fun x => bnd (viewc x) fun x => bnd (lift (revD x)) (mkRes mu) := noRfl rfl
theorem e_call (f : Str) (es : List X) : ev C (n + 1) (.call f es) ρ = bnd (mapE (fun e => ev C n e ρ) es) (C.call f) := noRfl rfl
theorem e_bi (mu : Bool) (b : BI) (es : List X) : ev C (n + 1) (.bi mu b es) ρ = bnd (mapE (fun e => ev C n e ρ) es) (biM mu b) := noRfl rfl
theorem e_rep (a : X) : ev C (n + 1) (.rep a) ρ = bnd (ev C n a ρ) reprM := noRfl rfl
theorem e_isi (ts : List Ty) (a : X) : ev C (n + 1) (.isi ts a) ρ = bnd (ev C n a ρ) (isiM ts) := noRfl rfl
theorem e_me (m : ME) (o : X) (es : List X) : ev C (n + 1) (.me m o es) ρ = bnd (ev C n o ρ) fun x => bnd (tyM m.ty x) fun _ => bnd (mapE (fun e => ev C n e ρ) es) (meM m x) := noRfl rfl
theorem e_comp (mu : Bool) (el : X) (tg : Tg) (it : It) (ts : List X) (own : List Nat) : ev C (n + 1) (.comp mu el tg it ts own) ρ = bnd (itE (fun e => ev C n e ρ) it) fun vs =>
    bnd (compL (fun v => noex (bnd (asgT tg v (wipeE ρ own)) fun ρ' => bnd (testsE (fun e => ev C n e ρ') ts) fun b => if b = true then bnd (ev C n el ρ') fun x => ret (some x) else ret none)) vs) (mkList mu) := noRfl rfl
theorem l_nil {f : X → M Val} : mapE f [] = ret [] := noRfl rfl
theorem l_cons {f : X → M Val} (e : X) (es : List X) : mapE f (e :: es) = bnd (f e) fun v => bnd (mapE f es) fun vs => ret (v :: vs) := noRfl rfl
theorem s_nil {f : T → Env → M Fl} : seqL f [] ρ = ret (.nx ρ) := noRfl rfl
theorem s_cons {f : T → Env → M Fl} (s : T) (r : List T) : seqL f (s :: r) ρ = bnd (f s ρ) fun g => (match g with
    | .nx ρ' => seqL f r ρ'
    | g => ret g) := noRfl rfl
theorem x_asg (tg : Tg) (e : X) : ex C (n + 1) (.asg tg e) ρ = bnd (ev C n e ρ) fun v => bnd (asgT tg v ρ) fun ρ' => ret (.nx ρ') := noRfl rfl
theorem x_rtn (e : X) : ex C (n + 1) (.rtn (some e)) ρ = bnd (ev C n e ρ) fun v => ret (.rt v) := noRfl rfl
theorem x_if (t : X) (a b : List T) : ex C (n + 1) (.if_ t a b) ρ = bnd (ev C n t ρ) fun v => bnd (truB v) fun c => if c = true then seqL (fun s ρ => ex C n s ρ) a ρ else seqL (fun s ρ => ex C n s ρ) b ρ := noRfl rfl
theorem x_ex (e : X) : ex C (n + 1) (.ex e) ρ = bnd (ev C n e ρ) fun _ => ret (.nx ρ) := noRfl rfl
theorem x_sub (o i e : X) : ex C (n + 1) (.sub o i e) ρ = bnd (ev C n e ρ) fun v => bnd (ev C n o ρ) fun x => bnd (ev C n i ρ) fun y => bnd (putM x y v) fun _ => ret (.nx ρ) := noRfl rfl
theorem x_for (tg : Tg) (it : It) (b : List T) : ex C (n + 1) (.for_ tg it b) ρ = bnd (itE (fun e => ev C n e ρ) it) fun vs => forL (fun v ρ => bnd (asgT tg v ρ) fun ρ' => seqL (fun s ρ => ex C n s ρ) b ρ') vs ρ := noRfl rfl
end
theorem compL_map {body : Val → M (Option Val)} {g : Val → Option Val} {S : List Cell} : ∀ {vs : List Val}, (∀ v ∈ vs, body v S = .ok (g v) S) → compL body vs S = .ok (vs.filterMap g) S
  | [], _ => rfl
  | v :: vs, h => by
    have h1 := h v (by simp)
    have h2 := compL_map (vs := vs) fun u hu => h u (by simp [hu])
    show bnd (body v) _ S = _
    rw [bnd_ok h1, bnd_ok h2, List.filterMap_cons]
    cases g v <;> rfl
def wp {α : Type} (m : M α) (S : List Cell) (Q : α → List Cell → Prop) (E : Exn → List Cell → Prop) : Prop := match m S with
  | .ok a S' => Q a S'
  | .ex e S' => E e S'
  | .no => False
section
variable {α β : Type} {S : List Cell} {Q : α → List Cell → Prop} {Q' : β → List Cell → Prop} {E : Exn → List Cell → Prop}
theorem wp_mono {m : M α} {Q2 : α → List Cell → Prop} {E2 : Exn → List Cell → Prop} (h : wp m S Q E) (hQ : ∀ a S', Q a S' → Q2 a S') (hE : ∀ e S', E e S' → E2 e S') : wp m S Q2 E2 := by
  unfold wp at h ⊢
  cases e : m S with
  | ok a S' => rw [e] at h; exact hQ _ _ h
  | ex x S' => rw [e] at h; exact hE _ _ h
  | no => rw [e] at h; exact h
theorem wp_of {m : M α} {a : α} {S' : List Cell} (h : m S = .ok a S') : wp m S Q E = Q a S' := by unfold wp; rw [h]
theorem wp_to {m : M α} {a : α} {S' : List Cell} (h : wp m S (fun b T => b = a ∧ T = S') fun _ _ => False) : m S = .ok a S' := by
  unfold wp at h
  cases e : m S with
  | ok b T => rw [e] at h; rw [h.1, h.2]
  | ex x T => rw [e] at h; exact h.elim
  | no => rw [e] at h; exact h.elim
theorem wp_bnd {m : M α} {f : α → M β} : wp (bnd m f) S Q' E = wp m S (fun a S' => wp (f a) S' Q' E) E := by
  unfold wp bnd
  cases m S <;> rfl
theorem wp_ret {a : α} : wp (Ev.ret a) S Q E = Q a S := noRfl rfl
theorem wp_fail : wp (fail : M α) S Q E = False := noRfl rfl
theorem wp_some {a : α} : wp (lift (some a)) S Q E = Q a S := noRfl rfl
theorem wp_lift {o : Option α} : wp (lift o) S Q E = ∃ a, o = some a ∧ Q a S := by
  cases o with
  | none => simp [wp, lift]
  | some a => simp [wp, lift]
theorem wp_ite {c : Prop} [Decidable c] {m n : M α} : wp (if c then m else n) S Q E = ((c → wp m S Q E) ∧ (¬c → wp n S Q E)) := by
  by_cases h : c <;> simp [h]
theorem wp_guard {b : Bool} {m : M α} : wp (guardM b m) S Q E = (b = true ∧ wp m S Q E) := by
  cases b <;> simp [guardM, wp, fail]
theorem wp_noex {m : M α} : wp (noex m) S Q E = wp m S Q (fun _ _ => False) := by
  unfold wp noex
  cases m S <;> rfl
theorem wp_alloc {c : Cell} {Q : Val → List Cell → Prop} : wp (alloc c) S Q E = Q (.r S.length) (S ++ [c]) := noRfl rfl
theorem wp_tru {b : Bool} {Q : Bool → List Cell → Prop} : wp (truB (.d (.bool b))) S Q E = Q b S := noRfl rfl
theorem wp_view {v : Val} {Q : PyData → List Cell → Prop} : wp (view v) S Q E = ∃ d, vw S v = some d ∧ Q d S := by
  unfold wp view
  cases vw S v <;> simp
theorem wp_viewd {v : Val} {Q : PyData → List Cell → Prop} : wp (viewd v) S Q E = ∃ d, vwd S v = some d ∧ Q d S := by
  unfold wp viewd
  cases vwd S v <;> simp
theorem wp_view_d {x : PyData} {Q : PyData → List Cell → Prop} : wp (view (.d x)) S Q E = Q x S := noRfl rfl
theorem wp_view_k {x : PyData} {Q : PyData → List Cell → Prop} : wp (view (.k x)) S Q E = Q x S := noRfl rfl
theorem wp_viewd_d {x : PyData} {Q : PyData → List Cell → Prop} : wp (viewd (.d x)) S Q E = Q x S := noRfl rfl
theorem wp_viewI_d {x : PyData} {Q : PyData → List Cell → Prop} : wp (viewI (.d x)) S Q E = Q x S := noRfl rfl
theorem wp_viewI_k {x : PyData} {Q : PyData → List Cell → Prop} : wp (viewI (.k x)) S Q E = Q x S := noRfl rfl
theorem wp_viewc_d {x : PyData} {Q : PyData → List Cell → Prop} : wp (viewc (.d x)) S Q E = Q x S := noRfl rfl
theorem wp_list {vs : List Val} {Q : Val → List Cell → Prop} : wp (mkList false vs) S Q E = (vs.length ≤ sizeLine ∧ ∃ ds, allD vs = some ds ∧ Q (.d (.list ds)) S) := by
  unfold mkList
  by_cases h : vs.length ≤ sizeLine
  · rw [if_pos h, if_neg (by decide), wp_lift]
    cases allD vs <;> simp [h]
  · rw [if_neg h]; simp [h, wp, fail]
/-- a comprehension whose turns leave the store as it is -/
theorem wp_comp {body : Val → M (Option Val)} (g : Val → Option Val) {Q : List Val → List Cell → Prop} : ∀ {vs : List Val}, (∀ v ∈ vs, wp (body v) S (fun o S' => o = g v ∧ S' = S) fun _ _ => False) → Q (vs.filterMap g) S → wp (compL body vs) S Q E := fun {vs} h q => by
  have := compL_map (body := body) (g := g) (S := S) (vs := vs) fun v hv => wp_to (h v hv)
  rw [wp_of this]
  exact q
end
theorem callF_succ {Γ : Tab} {G : List (Str × Val)} {n : Nat} {f : Str} {fd : Fn} {vs : List Val} (h : lookF Γ f = some fd) : callF Γ G (n + 1) f vs = callB ⟨callF Γ G n, kwF Γ, G⟩ fd vs := by
  show (match lookF Γ f with
    | some fd => callB ⟨callF Γ G n, kwF Γ, G⟩ fd vs
    | none => fail) = _
  rw [h]
theorem wp_pure {Γ : Tab} {G : List (Str × Val)} {n : Nat} {f : Str} {fd : Fn} {vs : List Val} {ds : List PyData} {S : List Cell} {Q : Val → List Cell → Prop} {E : Exn → List Cell → Prop} (h : lookF Γ f = some fd) (hs : fd.shared = false) (hn : vs.length = fd.np) (hd : allD vs = some ds) :
    wp (callF Γ G (n + 1) f vs) S Q E = wp (runB ⟨callF Γ G n, kwF Γ, G⟩ fd vs) [] (fun v S' => ∃ x, freeze S' v = some x ∧ Q (.d x) S) (fun e _ => E e S) := by
  rw [callF_succ h]
  unfold callB
  rw [if_pos hn, hs, if_neg (by decide), hd]
  unfold wp
  dsimp only
  cases runB ⟨callF Γ G n, kwF Γ, G⟩ fd vs [] with
  | ok v S' =>
    dsimp only
    cases freeze S' v <;> simp
  | ex e S' => rfl
  | no => rfl
theorem wp_shared {Γ : Tab} {G : List (Str × Val)} {n : Nat} {f : Str} {fd : Fn} {vs : List Val} {S : List Cell} {Q : Val → List Cell → Prop} {E : Exn → List Cell → Prop} (h : lookF Γ f = some fd) (hs : fd.shared = true) (hn : vs.length = fd.np) :
    wp (callF Γ G (n + 1) f vs) S Q E = wp (runB ⟨callF Γ G n, kwF Γ, G⟩ fd vs) S (fun v S' => Q v (trim S.length v S')) E := by
  rw [callF_succ h]
  unfold callB
  rw [if_pos hn, hs, if_pos rfl]
  unfold wp
  dsimp only
  cases runB ⟨callF Γ G n, kwF Γ, G⟩ fd vs S <;> rfl
/-- a body -/
theorem wp_run {C : Cfg} {fd : Fn} {vs : List Val} {S : List Cell} {Q : Val → List Cell → Prop} {E : Exn → List Cell → Prop} : wp (runB C fd vs) S Q E = wp (seqL (fun s ρ => ex C bodyFuel s ρ) fd.body (startE fd.nslots vs)) S (fun f S' => (match f with
    | .rt v => Q v S'
    | .nx _ => Q (.d .none) S'
    | _ => False)) E := by
  unfold runB
  rw [wp_bnd]
  congr 1
  funext f S'
  cases f <;> rfl
theorem wp_seq {f : T → Env → M Fl} {s : T} {r : List T} {ρ : Env} {S : List Cell} {Q : Fl → List Cell → Prop} {E : Exn → List Cell → Prop} : wp (seqL f (s :: r) ρ) S Q E = wp (f s ρ) S (fun g S' => (match g with
    | .nx ρ' => wp (seqL f r ρ') S' Q E
    | g => Q g S')) E := by
  show wp (bnd (f s ρ) _) S Q E = _
  rw [wp_bnd]
  congr 1
  funext g S'
  cases g <;> rfl
theorem wp_seq0 {f : T → Env → M Fl} {ρ : Env} {S : List Cell} {Q : Fl → List Cell → Prop} {E : Exn → List Cell → Prop} : wp (seqL f [] ρ) S Q E = Q (.nx ρ) S := noRfl rfl
theorem eq_str (a b : Str) : eqG eqN (.str a) (.str b) = some (a == b) := noRfl rfl
theorem eq_int (a b : Int) : eqG eqN (.int a) (.int b) = some (a == b) := noRfl rfl
theorem eq_bool (a b : Bool) : eqG eqN (.bool a) (.bool b) = some (a == b) := noRfl rfl
theorem eq_listN (xs : List PyData) : eqG eqN (.list xs) (.list []) = some xs.isEmpty := by
  show (if xs.length = ([] : List PyData).length then eqL (eqG 63) xs [] else some false) = _
  cases xs with
  | nil => rfl
  | cons x xs => rw [if_neg (by simp)]; rfl
theorem anyEq_strs (a : Str) : ∀ ys : List Str, anyEq (.str a) (ys.map .str) = some (ys.any fun y => y == a)
  | [] => rfl
  | y :: ys => by
    rw [List.map_cons]
    unfold anyEq
    rw [eq_str, anyEq_strs a ys]
    rfl
theorem allD_d : ∀ xs : List PyData, allD (xs.map .d) = some xs
  | [] => rfl
  | x :: xs => by rw [List.map_cons]; unfold allD; rw [allD_d xs]; rfl
theorem allD_map {α : Type} (g : α → PyData) (l : List α) : allD (l.map fun c => .d (g c)) = some (l.map g) := by
  rw [show (l.map fun c => Val.d (g c)) = (l.map g).map .d by rw [List.map_map]; rfl]
  exact allD_d _
theorem boolsL_map {α : Type} (g : α → Bool) : ∀ l : List α, boolsL (l.map fun c => .bool (g c)) = some (l.map g)
  | [] => rfl
  | c :: l => by
    rw [List.map_cons]
    unfold boolsL
    rw [boolsL_map g l]; rfl
theorem fm_some {α β γ : Type} (f : α → β) (g : β → γ) (l : List α) : (l.map f).filterMap (fun v => some (g v)) = l.map fun c => g (f c) := by
  induction l with
  | nil => rfl
  | cons x l ih => rw [List.map_cons, List.filterMap_cons, ih]; rfl
theorem fm_opt {α β γ : Type} (f : α → β) (g : β → Option γ) (l : List α) : (l.map f).filterMap g = l.filterMap fun c => g (f c) := by
  induction l with
  | nil => rfl
  | cons x l ih =>
    rw [List.map_cons, List.filterMap_cons, List.filterMap_cons, ih]
theorem sign_eq (c d : Nat) : (sign c = sign d) ↔ c = d := by
  constructor
  · intro h
    have : (#[c] : Array Nat) = #[d] := congrArg Str.cps h
    simpa using this
  · rintro rfl; rfl
/-- a sign in a text -/
theorem inD_sign (c : Nat) (z : Str) : inD (.str (sign c)) (.str z) = some (decide (c ∈ z.cps.toList)) := noRfl rfl
theorem biM_all {bs : List Bool} {S : List Cell} {Q : Val → List Cell → Prop} {E : Exn → List Cell → Prop} : wp (biM false .all_ [.d (.list (bs.map .bool))]) S Q E = Q (.d (.bool (bs.all id))) S := by
  have h : boolsL (bs.map .bool) = some bs := by
    have := boolsL_map (fun b => b) bs
    simpa using this
  show wp (bnd (bnd (view (.d (.list (bs.map .bool)))) fun x => bnd (Ev.ret []) fun xs => Ev.ret (x :: xs)) fun xs => bnd (lift (biD .all_ xs)) (mkRes false)) S Q E = _
  rw [wp_bnd, wp_bnd, wp_view_d, wp_bnd, wp_ret, wp_ret, wp_bnd]
  show wp (lift ((boolsL (bs.map .bool)).map fun bs => PyData.bool (bs.all id))) S _ E = _
  rw [h]
  rfl
section
variable {S : List Cell} {Q : Bool → List Cell → Prop} {E : Exn → List Cell → Prop}
theorem wp_in_k (x y : PyData) : wp (cmpM .in_ (.d x) (.k y)) S Q E = wp (lift (inD x y)) S Q E := noRfl rfl
theorem wp_in_d (x y : PyData) : wp (cmpM .in_ (.d x) (.d y)) S Q E = wp (lift (inD x y)) S Q E := noRfl rfl
theorem wp_nin_d (x y : PyData) : wp (cmpM .nin (.d x) (.d y)) S Q E = wp (lift (inD x y)) S (fun r => Q (!r)) E := by
  show wp (bnd (inM (.d x) (.d y)) fun r => Ev.ret (!r)) S Q E = _
  rw [wp_bnd]; rfl
theorem wp_nin_k (x y : PyData) : wp (cmpM .nin (.d x) (.k y)) S Q E = wp (lift (inD x y)) S (fun r => Q (!r)) E := by
  show wp (bnd (inM (.d x) (.k y)) fun r => Ev.ret (!r)) S Q E = _
  rw [wp_bnd]; rfl
theorem wp_eq_d (x y : PyData) : wp (cmpM .eq (.d x) (.d y)) S Q E = wp (lift (eqG eqN x y)) S Q E := noRfl rfl
theorem wp_ne_d (x y : PyData) : wp (cmpM .ne (.d x) (.d y)) S Q E = wp (lift (eqG eqN x y)) S (fun r => Q (!r)) E := by
  show wp (lift ((eqG eqN x y).map (!·))) S Q E = _
  cases eqG eqN x y <;> rfl
theorem wp_cmpI (o : COp) (i j : Int) (h : o = .lt ∨ o = .le ∨ o = .gt ∨ o = .ge) : wp (cmpM o (.d (.int i)) (.d (.int j))) S Q E = Q (match o with
    | .lt => decide (i < j)
    | .le => decide (i ≤ j)
    | .gt => decide (j < i)
    | _ => decide (j ≤ i)) S := by
  rcases h with rfl | rfl | rfl | rfl <;> rfl
end
end Ev
end
section
set_option Elab.async false
set_option linter.all false
set_option maxRecDepth 100000
namespace Ev
open PySem PySem.Spec L2
section
variable {S : List Cell} {Q : Val → List Cell → Prop} {E : Exn → List Cell → Prop}
theorem wp_add (i j : Int) : wp (binM false .add (.d (.int i)) (.d (.int j))) S Q E = Q (.d (.int (i + j))) S := noRfl rfl
theorem wp_sub (i j : Int) : wp (binM false .sub (.d (.int i)) (.d (.int j))) S Q E = Q (.d (.int (i - j))) S := noRfl rfl
theorem wp_bin (o : BOp) (x y : PyData) : wp (binM false o (.d x) (.d y)) S Q E = wp (lift (binD o x y)) S (fun z S' => Q (.d z) S') E := by
  show wp (bnd (viewd (.d x)) fun x => bnd (viewd (.d y)) fun y => bnd (lift (binD o x y)) (mkRes false)) S Q E = _
  rw [wp_bnd, wp_viewd_d, wp_bnd, wp_viewd_d, wp_bnd]
  rfl
theorem wp_mul (i j : Int) : wp (binM false .mul (.d (.int i)) (.d (.int j))) S Q E = (i.natAbs.log2 + j.natAbs.log2 < 1000000 ∧ Q (.d (.int (i * j))) S) := by
  rw [wp_bin, wp_lift]
  show (∃ a, (if i.natAbs.log2 + j.natAbs.log2 < 1000000 then some (PyData.int (i * j)) else none) = some a ∧ Q (.d a) S) = _
  by_cases h : i.natAbs.log2 + j.natAbs.log2 < 1000000 <;> simp [h]
theorem wp_mod (i j : Int) : wp (binM false .mod (.d (.int i)) (.d (.int j))) S Q E = (0 < j ∧ Q (.d (.int (i % j))) S) := by
  rw [wp_bin, wp_lift]
  show (∃ a, (if 0 < j then some (PyData.int (i % j)) else none) = some a ∧ Q (.d a) S) = _
  by_cases h : 0 < j <;> simp [h]
theorem wp_fdiv (i j : Int) : wp (binM false .fdiv (.d (.int i)) (.d (.int j))) S Q E = ((0 < j ∧ j.natAbs.log2 < 9000) ∧ Q (.d (.int (i / j))) S) := by
  rw [wp_bin, wp_lift]
  show (∃ a, (if 0 < j ∧ j.natAbs.log2 < 9000 then some (PyData.int (i / j)) else none) = some a ∧ Q (.d a) S) = _
  by_cases h : 0 < j ∧ j.natAbs.log2 < 9000 <;> simp [h]
theorem wp_pow (i j : Int) : wp (binM false .pow (.d (.int i)) (.d (.int j))) S Q E = ((0 ≤ j ∧ j ≤ 1000000 ∧ i.natAbs < 2 ^ 64) ∧ Q (.d (.int (i ^ j.toNat))) S) := by
  rw [wp_bin, wp_lift]
  show (∃ a, (if 0 ≤ j ∧ j ≤ 1000000 ∧ i.natAbs < 2 ^ 64 then some (PyData.int (i ^ j.toNat)) else none) = some a ∧ Q (.d a) S) = _
  by_cases h : 0 ≤ j ∧ j ≤ 1000000 ∧ i.natAbs < 2 ^ 64 <;> simp only [h, if_true, if_false] <;> simp
theorem wp_bi1 (b : BI) (x : PyData) : wp (biM false b [.d x]) S Q E = wp (lift (biD b [x])) S (fun z S' => Q (.d z) S') E := by
  show wp (bnd (lift (biD b [x])) (mkRes false)) S Q E = _
  rw [wp_bnd]; rfl
theorem wp_bi2 (b : BI) (x y : PyData) : wp (biM false b [.d x, .d y]) S Q E = wp (lift (biD b [x, y])) S (fun z S' => Q (.d z) S') E := by
  show wp (bnd (lift (biD b [x, y])) (mkRes false)) S Q E = _
  rw [wp_bnd]; rfl
theorem wp_int (i : Int) : wp (biM false .int_ [.d (.int i)]) S Q E = Q (.d (.int i)) S := by rw [wp_bi1]; rfl
theorem wp_max2 (i j : Int) : wp (biM false .max2 [.d (.int i), .d (.int j)]) S Q E = Q (.d (.int (if j > i then j else i))) S := by rw [wp_bi2]; rfl
theorem wp_idx_dk {n : Nat} {kvs : List (Key × Val)} {k : Str} (h : S[n]? = some (.dk kvs)) : wp (idxM (.r n) (.d (.str k))) S Q E = wp (lift (lookK kvs (.inr k))) S Q E := by
  have : idxM (.r n) (.d (.str k)) S = lift (lookK kvs (.inr k)) S := by
    unfold idxM
    simp only [h]
    rfl
  unfold wp
  rw [this]
theorem wp_put_dk {n : Nat} {kvs : List (Key × Val)} {k : Str} {v : Val} {Q : Unit → List Cell → Prop} (h : S[n]? = some (.dk kvs)) (hl : kvs.length < sizeLine) : wp (putM (.r n) (.d (.str k)) v) S Q E = Q () (S.set n (.dk (storeK kvs (.inr k) v))) := by
  have : putM (.r n) (.d (.str k)) v S = .ok () (S.set n (.dk (storeK kvs (.inr k) v))) := by
    unfold putM
    simp only [h, keyOf, if_pos hl]
  rw [wp_of this]
end
structure DeckK where
  kl : Str
  km : Str
  kd : Str
  ne1 : kl ≠ km
  ne2 : kl ≠ kd
  ne3 : km ≠ kd
def deckS (κ : DeckK) (ls : List Int) (m d : Int) : List Cell := [.lst (ls.map fun i => .d (.int i)), .dk [(.inr κ.kl, .r 0), (.inr κ.km, .d (.int m)), (.inr κ.kd, .d (.int d))]]
/-- .. with b draws to come -/
def Deck (κ : DeckK) (b : Nat) (S : List Cell) : Prop := ∃ ls m d, S = deckS κ ls m d ∧ ls.length ≤ 63 ∧ 0 ≤ m ∧ m < 2 ^ 40 ∧ 0 ≤ d ∧ d + b ≤ 2 ^ 100
section
variable {κ : DeckK} {ls : List Int} {m d : Int} {Q : Val → List Cell → Prop} {E : Exn → List Cell → Prop}
theorem key_ne {a b : Str} (h : a ≠ b) : ((.inr a : Key) = .inr b) = False := by simp [h]
theorem dk_l : wp (idxM (.r 1) (.d (.str κ.kl))) (deckS κ ls m d) Q E = Q (.r 0) (deckS κ ls m d) := by
  rw [wp_idx_dk (kvs := [(.inr κ.kl, .r 0), (.inr κ.km, .d (.int m)), (.inr κ.kd, .d (.int d))]) rfl]
  simp [lookK, wp, lift]
theorem dk_m : wp (idxM (.r 1) (.d (.str κ.km))) (deckS κ ls m d) Q E = Q (.d (.int m)) (deckS κ ls m d) := by
  rw [wp_idx_dk (kvs := [(.inr κ.kl, .r 0), (.inr κ.km, .d (.int m)), (.inr κ.kd, .d (.int d))]) rfl]
  simp [lookK, wp, lift, κ.ne1]
theorem dk_d : wp (idxM (.r 1) (.d (.str κ.kd))) (deckS κ ls m d) Q E = Q (.d (.int d)) (deckS κ ls m d) := by
  rw [wp_idx_dk (kvs := [(.inr κ.kl, .r 0), (.inr κ.km, .d (.int m)), (.inr κ.kd, .d (.int d))]) rfl]
  simp [lookK, wp, lift, κ.ne2, κ.ne3]
theorem put_m {i : Int} {Q : Unit → List Cell → Prop} : wp (putM (.r 1) (.d (.str κ.km)) (.d (.int i))) (deckS κ ls m d) Q E = Q () (deckS κ ls i d) := by
  rw [wp_put_dk (kvs := [(.inr κ.kl, .r 0), (.inr κ.km, .d (.int m)), (.inr κ.kd, .d (.int d))]) rfl (show 3 < sizeLine by rw [sizeLine_eq]; decide)]
  simp [storeK, deckS, κ.ne1, κ.ne3, κ.ne3.symm]
theorem put_d {i : Int} {Q : Unit → List Cell → Prop} : wp (putM (.r 1) (.d (.str κ.kd)) (.d (.int i))) (deckS κ ls m d) Q E = Q () (deckS κ ls m i) := by
  rw [wp_put_dk (kvs := [(.inr κ.kl, .r 0), (.inr κ.km, .d (.int m)), (.inr κ.kd, .d (.int d))]) rfl (show 3 < sizeLine by rw [sizeLine_eq]; decide)]
  simp [storeK, deckS, κ.ne2, κ.ne3]
theorem vw_l : vw (deckS κ ls m d) (.r 0) = some (.list (ls.map .int)) := by
  show (allD (ls.map fun i => .d (.int i))).map PyData.list = _
  rw [allD_map]; rfl
end
/-- the commonest body of _law_draw -/
def draw1 (κ : DeckK) : T := .sub (.var 0) (.c (.str κ.kd)) (.bin false .add (.idx (.var 0) (.c (.str κ.kd))) (.c (.int 1)))
def draw2 (κ : DeckK) (A B C D : Int) : T := .if_ (.cmp .ne (.idx (.var 0) (.c (.str κ.kl))) (.lst false [])) [.asg (.var 3) (.me .pop0 (.idx (.var 0) (.c (.str κ.kl))) []), .if_ (.cmp .ge (.var 3) (.bin false .pow (.c (.int 10)) (.c (.int 18)))) [.ex (.me .append (.idx (.var 0) (.c (.str κ.kl))) [(.bin false .fdiv (.var 3) (.bi false .max2 [(.c (.int 2)), (.var 1)]))]), .rtn (some (.bin false .mod (.bi false .int_ [(.var 3)]) (.var 1)))] [], .sub (.var 0) (.c (.str κ.km)) (.bin false .mod (.bi false .int_ [(.bin false .add (.bin false .add (.bin false .mul (.idx (.var 0) (.c (.str κ.km))) (.c (.int A))) (.bin false .mod (.bi false .int_ [(.var 3)]) (.c (.int B)))) (.c (.int C)))]) (.c (.int D)))] []
def draw3 (κ : DeckK) (E F G H I J K M : Int) : List T := [.asg (.var 2) (.bin false .mod (.bi false .int_ [(.bin false .add (.idx (.var 0) (.c (.str κ.km))) (.bin false .mul (.c (.int E)) (.idx (.var 0) (.c (.str κ.kd)))))]) (.c (.int F))), .asg (.var 2) (.bin false .mod (.bi false .int_ [(.bin false .add (.bin false .add (.bin false .mul (.var 2) (.var 2)) (.bin false .mul (.c (.int G)) (.idx (.var 0) (.c (.str κ.kd))))) (.c (.int H)))]) (.c (.int I))), .asg (.var 2) (.bin false .mod (.bi false .int_ [(.bin false .add (.bin false .mul (.var 2) (.c (.int J))) (.c (.int K)))]) (.c (.int M))), .rtn (some (.bin false .mod (.bi false .int_ [(.bin false .fdiv (.var 2) (.c (.int 64)))]) (.var 1)))]
def drawT (κ : DeckK) (A B C D E F G H I J K M : Int) : List T := draw1 κ :: draw2 κ A B C D :: draw3 κ E F G H I J K M
theorem wp_ge {S : List Cell} {Q : Bool → List Cell → Prop} {E : Exn → List Cell → Prop} (i j : Int) : wp (cmpM .ge (.d (.int i)) (.d (.int j))) S Q E = Q (decide (j ≤ i)) S := noRfl rfl
theorem wp_lst0 {S : List Cell} {Q : Val → List Cell → Prop} {E : Exn → List Cell → Prop} : wp (mkList false []) S Q E = Q (.d (.list [])) S := noRfl rfl
theorem log_small {i : Int} {k : Nat} (h0 : 0 ≤ i) (h : i < 2 ^ k) (hk : k ≤ 1000) : i.natAbs.log2 ≤ 1000 := by
  by_cases hz : i.natAbs = 0
  · rw [hz]; decide
  · have h1 : i.natAbs < 2 ^ k := by
      have : ((i.natAbs : Nat) : Int) < ((2 ^ k : Nat) : Int) := by
        rw [Int.natAbs_of_nonneg h0]; push_cast; exact h
      exact_mod_cast this
    have := (Nat.log2_lt hz).mpr h1
    omega
theorem ne_nil_l {κ : DeckK} {ls : List Int} {m d : Int} {Q : Bool → List Cell → Prop} {E : Exn → List Cell → Prop} : wp (cmpM .ne (.r 0) (.d (.list []))) (deckS κ ls m d) Q E = Q (!(ls.isEmpty)) (deckS κ ls m d) := by
  show wp (bnd (view (.r 0)) fun x => bnd (view (.d (.list []))) fun y => lift (cmpD .ne x y)) (deckS κ ls m d) Q E = _
  rw [wp_bnd, wp_view, vw_l]
  simp only [Option.some.injEq, exists_eq_left', wp_bnd, wp_view_d]
  show wp (lift ((eqG eqN (.list (ls.map .int)) (.list [])).map (!·))) _ Q E = _
  rw [eq_listN]
  cases ls <;> rfl
section
variable {κ : DeckK} {ls : List Int} {m d c : Int} {Q : Val → List Cell → Prop} {E : Exn → List Cell → Prop}
theorem ty_l {Q : Unit → List Cell → Prop} : wp (tyM .list (.r 0)) (deckS κ ls m d) Q E = Q () (deckS κ ls m d) := noRfl rfl
theorem pop_l : wp (meM .pop0 (.r 0) []) (deckS κ (ls ++ [c]) m d) Q E = Q (.d (.int c)) (deckS κ ls m d) := by
  have h : meM .pop0 (.r 0) [] (deckS κ (ls ++ [c]) m d) = .ok (.d (.int c)) (deckS κ ls m d) := by
    show (match ((ls ++ [c]).map fun i => Val.d (.int i))[((ls ++ [c]).map fun i => Val.d (.int i)).length - 1]? with
        | some v => Res.ok v ((deckS κ (ls ++ [c]) m d).set 0 (.lst ((ls ++ [c]).map fun i => Val.d (.int i)).dropLast))
        | none => .no) = _
    have e : ((ls ++ [c]).map fun i => Val.d (.int i))[((ls ++ [c]).map fun i => Val.d (.int i)).length - 1]? = some (.d (.int c)) := by simp
    have e2 : ((ls ++ [c]).map fun i => Val.d (.int i)).dropLast = ls.map fun i => .d (.int i) := by
      rw [List.map_append]; simp
    rw [e, e2]
    rfl
  rw [wp_of h]
theorem app_l (h : ls.length < 63) : wp (meM .append (.r 0) [.d (.int c)]) (deckS κ ls m d) Q E = Q (.d .none) (deckS κ (ls ++ [c]) m d) := by
  have h : meM .append (.r 0) [.d (.int c)] (deckS κ ls m d) = .ok (.d .none) (deckS κ (ls ++ [c]) m d) := by
    show (if (ls.map fun i => Val.d (.int i)).length < sizeLine then Res.ok (Val.d .none) ((deckS κ ls m d).set 0 (.lst ((ls.map fun i => Val.d (.int i)) ++ [.d (.int c)]))) else .no) = _
    rw [if_pos (by rw [List.length_map, sizeLine_eq]; omega)]
    show Res.ok (Val.d .none) _ = Res.ok _ _
    simp [deckS]
  rw [wp_of h]
end
def Cs (l : List Int) : Prop := ∀ c ∈ l, 0 < c ∧ c < 2 ^ 40
theorem draw_spec {C : Cfg} {κ : DeckK} {A B C' D E' F G H I J K M many : Int} {b : Nat} {S : List Cell} {E : Exn → List Cell → Prop} (hc : Cs [A, B, C', D, E', F, G, H, I, J, K, M]) (hm : 1 ≤ many) (hm2 : many < 2 ^ 200) (h : Deck κ (b + 1) S) :
    wp (seqL (fun s ρ => ex C bodyFuel s ρ) (drawT κ A B C' D E' F G H I J K M) (startE 4 [.r 1, .d (.int many)])) S (fun f S' => ∃ v, f = .rt (.d (.int v)) ∧ 0 ≤ v ∧ v < many ∧ Deck κ b S') E := by
  obtain ⟨ls, m, d, rfl, hl, m0, m1, d0, d1⟩ := h
  have cA := hc A (by simp)
  have cB := hc B (by simp)
  have cC := hc C' (by simp)
  have cD := hc D (by simp)
  have cE := hc E' (by simp)
  have cF := hc F (by simp)
  have cG := hc G (by simp)
  have cH := hc H (by simp)
  have cI := hc I (by simp)
  have cJ := hc J (by simp)
  have cK := hc K (by simp)
  have cM := hc M (by simp)
  have hdl : (d + 1).natAbs.log2 ≤ 1000 := log_small (by omega) (show d + 1 < 2 ^ 101 by omega) (by decide)
  have fin : ∀ (ls : List Int) (m : Int) (o : Option Val), ls.length ≤ 63 → 0 ≤ m → m < 2 ^ 40 →
      wp (seqL (fun s ρ => ex C 60 s ρ) (draw3 κ E' F G H I J K M) [some (.r 1), some (.d (.int many)), none, o]) (deckS κ ls m (d + 1)) (fun f S' => ∃ v, f = .rt (.d (.int v)) ∧ 0 ≤ v ∧ v < many ∧ Deck κ b S') E := fun ls m o hl m0 m1 => by
    simp only [draw3, bodyFuel, wp_seq, wp_seq0, x_asg, x_rtn, x_if, x_ex, x_sub, x_for, e_var, e_c, e_g, e_tup, e_lst, e_dnil, e_dnew, e_dct, e_bin, e_neg, e_cmp, e_chn, e_and, e_or, e_not, e_ite, e_idx, e_sl, e_rev, e_call, e_bi, e_rep, e_isi, e_me, e_comp, andE, orE, startE, wp_bnd, wp_ret, wp_some, wp_tru, wp_fail, wp_noex, wp_guard, isiM, wp_view_d, wp_view_k, wp_viewd_d, wp_viewI_d, wp_viewI_k, wp_viewc_d, l_cons, l_nil, itE, isT, if_pos, itemsD, asgT, testsE, wipeE, List.set_cons_zero, List.set_cons_succ, List.getElem?_cons_zero, List.getElem?_cons_succ, Option.join_some, List.map_cons, List.map_nil, List.cons_append, List.nil_append, List.length_cons, List.length_nil, List.replicate_succ, List.replicate_zero, constD, Option.map_some, mkRes, if_true, if_false, Bool.false_eq_true, Bool.not_true, Bool.not_false, List.any_cons, List.any_nil, Bool.or_false, Bool.false_or, Bool.true_or, optE, dk_l, dk_m, dk_d, put_m, put_d, wp_add, wp_int, wp_mul, wp_mod, wp_fdiv]
    have lc : ∀ {x : Int}, 0 < x ∧ x < 2 ^ 40 → x.natAbs.log2 ≤ 1000 := fun {x} h => log_small (by omega) h.2 (by decide)
    have lm : ∀ {x y : Int}, 0 < y ∧ y < 2 ^ 40 → (x % y).natAbs.log2 ≤ 1000 := fun {x y} h => log_small (Int.emod_nonneg _ (by omega)) (Int.lt_trans (Int.emod_lt_of_pos x h.1) h.2) (by decide)
    have e1 := lc cE
    have e2 := lc cG
    have e3 := lc cJ
    have e4 := lm (x := m + E' * (d + 1)) cF
    have e5 := lm (x := (m + E' * (d + 1)) % F * ((m + E' * (d + 1)) % F) + G * (d + 1) + H) cI
    refine ⟨by omega, cF.1, by omega, by omega, cI.1, by omega, cM.1, ⟨by decide, by decide +kernel⟩, by omega, _, rfl, Int.emod_nonneg _ (by omega), Int.emod_lt_of_pos _ (by omega), ls, m, d + 1, rfl, hl, m0, m1, by omega, by omega⟩
  unfold drawT
  generalize draw3 κ E' F G H I J K M = rest at fin ⊢
  simp only [draw1, draw2, bodyFuel, wp_seq, wp_seq0, x_asg, x_rtn, x_if, x_ex, x_sub, x_for, e_var, e_c, e_g, e_tup, e_lst, e_dnil, e_dnew, e_dct, e_bin, e_neg, e_cmp, e_chn, e_and, e_or, e_not, e_ite, e_idx, e_sl, e_rev, e_call, e_bi, e_rep, e_isi, e_me, e_comp, andE, orE, startE, wp_bnd, wp_ret, wp_some, wp_tru, wp_fail, wp_noex, wp_guard, isiM, wp_view_d, wp_view_k, wp_viewd_d, wp_viewI_d, wp_viewI_k, wp_viewc_d, l_cons, l_nil, itE, isT, if_pos, itemsD, asgT, testsE, wipeE, List.set_cons_zero, List.set_cons_succ, List.getElem?_cons_zero, List.getElem?_cons_succ, Option.join_some, List.map_cons, List.map_nil, List.cons_append, List.nil_append, List.length_cons, List.length_nil, List.replicate_succ, List.replicate_zero, constD, Option.map_some, mkRes, if_true, if_false, Bool.false_eq_true, Bool.not_true, Bool.not_false, List.any_cons, List.any_nil, Bool.or_false, Bool.false_or, Bool.true_or, optE, dk_l, dk_m, dk_d, put_m, put_d, wp_add, wp_int, wp_lst0, ne_nil_l, wp_ite]
  rcases List.eq_nil_or_concat ls with rfl | ⟨l', c, rfl⟩
  · refine ⟨fun z => (by cases z), fun _ => fin [] m none (by decide) m0 m1⟩
  · refine ⟨fun _ => ?_, fun z => absurd (show (!(l'.concat c).isEmpty) = true by simp) z⟩
    rw [List.concat_eq_append] at hl ⊢
    rw [List.length_append, List.length_singleton] at hl
    show wp (tyM .list (.r 0)) _ _ E
    rw [ty_l, pop_l, wp_pow]
    refine ⟨⟨by decide, by decide, by decide⟩, ?_⟩
    rw [wp_ge]
    refine ⟨fun _ => ?_, fun _ => ?_⟩
    · rw [dk_l]
      show wp (tyM .list (.r 0)) _ _ E
      rw [ty_l, wp_max2, wp_fdiv]
      have hmx : 0 < (if many > 2 then many else 2) ∧ (if many > 2 then many else 2) < 2 ^ 200 := by
        by_cases h2 : many > 2
        · rw [if_pos h2]; omega
        · rw [if_neg h2]; omega
      refine ⟨⟨hmx.1, by have := log_small (by omega) hmx.2 (by decide); omega⟩, ?_⟩
      rw [app_l (by omega), wp_int, wp_mod]
      exact ⟨by omega, _, rfl, Int.emod_nonneg _ (by omega), Int.emod_lt_of_pos _ (by omega), _, m, d + 1, rfl, by rw [List.length_append, List.length_singleton]; omega, m0, m1, by omega, by omega⟩
    · rw [dk_m, wp_mul]
      have e1 : m.natAbs.log2 ≤ 1000 := log_small m0 m1 (by decide)
      have e2 : A.natAbs.log2 ≤ 1000 := log_small (by omega) cA.2 (by decide)
      refine ⟨by omega, ?_⟩
      rw [wp_int, wp_mod]
      refine ⟨cB.1, ?_⟩
      rw [wp_add, wp_add, wp_int, wp_mod]
      refine ⟨cD.1, ?_⟩
      rw [put_m]
      exact fin l' _ _ (by omega) (Int.emod_nonneg _ (by omega)) (Int.lt_trans (Int.emod_lt_of_pos _ cD.1) cD.2)
theorem trim_deck {κ : DeckK} {ls : List Int} {m d : Int} (v : Val) : trim 2 v (deckS κ ls m d) = deckS κ ls m d := by
  unfold trim
  have : (deckS κ ls m d).take 2 = deckS κ ls m d := rfl
  rw [this]
  split <;> rfl
theorem Deck.len {κ : DeckK} {b : Nat} {S : List Cell} (h : Deck κ b S) : S.length = 2 := by
  obtain ⟨ls, m, d, rfl, _⟩ := h
  rfl
theorem Deck.trim {κ : DeckK} {b : Nat} {S : List Cell} (h : Deck κ b S) (v : Val) : Ev.trim 2 v S = S := by
  obtain ⟨ls, m, d, rfl, _⟩ := h
  exact trim_deck v
theorem Deck.less {κ : DeckK} {b c : Nat} {S : List Cell} (h : Deck κ b S) (l : c ≤ b) : Deck κ c S := by
  obtain ⟨ls, m, d, rfl, h1, h2, h3, h4, h5⟩ := h
  exact ⟨ls, m, d, rfl, h1, h2, h3, h4, by omega⟩
/-- a call that draws: its post from the body's -/
theorem call_deck {Γ : Tab} {G : List (Str × Val)} {n : Nat} {f : Str} {fd : Fn} {vs : List Val} {κ : DeckK} {b c : Nat} {S : List Cell} {P : Val → Prop} {E : Exn → List Cell → Prop} (h : lookF Γ f = some fd) (hs : fd.shared = true) (hn : vs.length = fd.np) (hD : Deck κ b S)
    (hb : wp (seqL (fun s ρ => ex ⟨callF Γ G n, kwF Γ, G⟩ bodyFuel s ρ) fd.body (startE fd.nslots vs)) S (fun f S' => ∃ v, f = .rt v ∧ P v ∧ Deck κ c S') E) :
    wp (callF Γ G (n + 1) f vs) S (fun v S' => P v ∧ Deck κ c S') E := by
  rw [wp_shared h hs hn, wp_run, hD.len]
  refine wp_mono hb (fun f S' hq => ?_) fun _ _ h => h
  obtain ⟨v, rfl, p, q⟩ := hq
  exact ⟨p, by rw [q.trim]; exact q⟩
def IntIn (many : Int) (v : Val) : Prop := ∃ i, v = .d (.int i) ∧ 0 ≤ i ∧ i < many
theorem wp_compI {body : Val → M (Option Val)} (I : Nat → List Cell → Prop) (P : Val → Prop) {E : Exn → List Cell → Prop} : ∀ {vs : List Val} {S : List Cell} {Q : List Val → List Cell → Prop}, (∀ i v S, v ∈ vs → I (i + 1) S → wp (body v) S (fun o S' => (∀ x, o = some x → P x) ∧ I i S') fun _ _ => False) → I vs.length S →
    (∀ xs S', (∀ x ∈ xs, P x) → xs.length ≤ vs.length → I 0 S' → Q xs S') → wp (compL body vs) S Q E
  | [], S, Q, _, h0, q => q [] S (fun x h => by cases h) (Nat.le_refl _) h0
  | v :: vs, S, Q, hb, h0, q => by
    show wp (bnd (body v) fun o => bnd (compL body vs) fun r => Ev.ret (o.toList ++ r)) S Q E
    rw [wp_bnd]
    refine wp_mono (hb vs.length v S (by simp) h0) (fun o S1 ⟨p, h1⟩ => ?_) fun _ _ h => h.elim
    rw [wp_bnd]
    refine wp_compI I P (fun i u S hu => hb i u S (by simp [hu])) h1 fun xs S2 px hl h2 => ?_
    rw [wp_ret]
    refine q _ S2 (fun x hx => ?_) ?_ h2
    · rcases List.mem_append.mp hx with hx | hx
      · cases o with
        | none => cases hx
        | some y =>
          have : x = y := by simpa using hx
          exact p x (by rw [this])
      · exact px x hx
    · rw [List.length_append, List.length_cons]
      have : o.toList.length ≤ 1 := by cases o <;> simp
      omega
end Ev
end
section
set_option Elab.async false
set_option linter.all false
set_option maxRecDepth 100000
set_option maxHeartbeats 0
namespace Lk01
open PySem PySem.Spec PyProof.Rows L2
def top (i : Nat) : Stmt := PySem.Challenge.pw_samequick_k01_words_and_names_of_any_val.main.body.getD i (.Pass ⟨0, 0, 0, 0⟩)
def b_is_word_value : List Ev.T := [.rtn (some (.and_ [(.isi [.str] (.var 0)), (.bi false .all_ [(.comp false (.cmp .in_ (.var 1) (.g 0)) (.var 1) (.ex (.var 0)) [] [1])])]))]
def f_is_word_value : Ev.Fn := ⟨1, 2, b_is_word_value, false, [("thing" : PySem.Str)]⟩
def d_is_word_value : Ev.Dfn := ⟨("is_word_value" : PySem.Str), f_is_word_value, ⟨defArgs (top 6), defBody (top 6), defScope (top 6), [("thing" : PySem.Str), ("letter" : PySem.Str)], [("thing" : PySem.Str)]⟩⟩
def b_is_name_value : List Ev.T := [.if_ (.or_ [(.not_ (.isi [.str] (.var 0))), (.not_ (.chn .le .le (.c (.int 1)) (.bi false .len [(.var 0)]) (.g 1))), (.cmp .in_ (.var 0) (.g 2))]) [.rtn (some (.c (.bool false)))] [], .rtn (some (.and_ [(.cmp .in_ (.idx (.var 0) (.c (.int 0))) (.g 3)), (.bi false .all_ [(.comp false (.cmp .in_ (.var 1) (.g 4)) (.var 1) (.ex (.var 0)) [] [1])])]))]
def f_is_name_value : Ev.Fn := ⟨1, 2, b_is_name_value, false, [("thing" : PySem.Str)]⟩
def d_is_name_value : Ev.Dfn := ⟨("is_name_value" : PySem.Str), f_is_name_value, ⟨defArgs (top 7), defBody (top 7), defScope (top 7), [("thing" : PySem.Str), ("sign" : PySem.Str)], [("thing" : PySem.Str)]⟩⟩
def b_is_word : List Ev.T := [.rtn (some (.call ("is_word_value" : PySem.Str) [(.var 0)]))]
def f_is_word : Ev.Fn := ⟨1, 1, b_is_word, false, [("thing" : PySem.Str)]⟩
def d_is_word : Ev.Dfn := ⟨("is_word" : PySem.Str), f_is_word, ⟨defArgs (top 9), defBody (top 9), defScope (top 9), [("thing" : PySem.Str)], [("thing" : PySem.Str)]⟩⟩
def b_is_name : List Ev.T := [.rtn (some (.call ("is_name_value" : PySem.Str) [(.var 0)]))]
def f_is_name : Ev.Fn := ⟨1, 1, b_is_name, false, [("thing" : PySem.Str)]⟩
def d_is_name : Ev.Dfn := ⟨("is_name" : PySem.Str), f_is_name, ⟨defArgs (top 10), defBody (top 10), defScope (top 10), [("thing" : PySem.Str)], [("thing" : PySem.Str)]⟩⟩
def b__law_deck : List Ev.T := [.asg (.var 2) (.var 1), .for_ (.var 3) (.ex (.sl false (.var 0) none (some (.c (.int 63))))) [.asg (.var 2) (.bin false .mod (.bi false .int_ [(.bin false .add (.bin false .add (.bin false .mul (.var 2) (.c (.int 43331))) (.bin false .mod (.bi false .int_ [(.var 3)]) (.c (.int 2147483629)))) (.c (.int 61)))]) (.c (.int 2147483563)))], .rtn (some (.dct true [((.c (.str ("left" : PySem.Str))), (.rev true (.bi false .list_ [(.sl false (.var 0) none (some (.c (.int 63))))]))), ((.c (.str ("mixed" : PySem.Str))), (.var 2)), ((.c (.str ("draws" : PySem.Str))), (.c (.int 0)))]))]
def f__law_deck : Ev.Fn := ⟨2, 4, b__law_deck, true, [("script" : PySem.Str), ("seed" : PySem.Str)]⟩
def d__law_deck : Ev.Dfn := ⟨("_law_deck" : PySem.Str), f__law_deck, ⟨defArgs (top 12), defBody (top 12), defScope (top 12), [("script" : PySem.Str), ("seed" : PySem.Str), ("mixed" : PySem.Str), ("cell" : PySem.Str)], [("script" : PySem.Str), ("seed" : PySem.Str)]⟩⟩
def b__law_draw : List Ev.T := [.sub (.var 0) (.c (.str ("draws" : PySem.Str))) (.bin false .add (.idx (.var 0) (.c (.str ("draws" : PySem.Str)))) (.c (.int 1))), .if_ (.cmp .ne (.idx (.var 0) (.c (.str ("left" : PySem.Str)))) (.lst false [])) [.asg (.var 3) (.me .pop0 (.idx (.var 0) (.c (.str ("left" : PySem.Str)))) []), .if_ (.cmp .ge (.var 3) (.bin false .pow (.c (.int 10)) (.c (.int 18)))) [.ex (.me .append (.idx (.var 0) (.c (.str ("left" : PySem.Str)))) [(.bin false .fdiv (.var 3) (.bi false .max2 [(.c (.int 2)), (.var 1)]))]), .rtn (some (.bin false .mod (.bi false .int_ [(.var 3)]) (.var 1)))] [], .sub (.var 0) (.c (.str ("mixed" : PySem.Str))) (.bin false .mod (.bi false .int_ [(.bin false .add (.bin false .add (.bin false .mul (.idx (.var 0) (.c (.str ("mixed" : PySem.Str)))) (.c (.int 39373))) (.bin false .mod (.bi false .int_ [(.var 3)]) (.c (.int 2147483629)))) (.c (.int 19)))]) (.c (.int 2147483587)))] [], .asg (.var 2) (.bin false .mod (.bi false .int_ [(.bin false .add (.idx (.var 0) (.c (.str ("mixed" : PySem.Str)))) (.bin false .mul (.c (.int 31337)) (.idx (.var 0) (.c (.str ("draws" : PySem.Str))))))]) (.c (.int 2147483647))), .asg (.var 2) (.bin false .mod (.bi false .int_ [(.bin false .add (.bin false .add (.bin false .mul (.var 2) (.var 2)) (.bin false .mul (.c (.int 48271)) (.idx (.var 0) (.c (.str ("draws" : PySem.Str)))))) (.c (.int 23)))]) (.c (.int 2147483629))), .asg (.var 2) (.bin false .mod (.bi false .int_ [(.bin false .add (.bin false .mul (.var 2) (.c (.int 69621))) (.c (.int 77)))]) (.c (.int 2147483563))), .rtn (some (.bin false .mod (.bi false .int_ [(.bin false .fdiv (.var 2) (.c (.int 64)))]) (.var 1)))]
def f__law_draw : Ev.Fn := ⟨2, 4, b__law_draw, true, [("deck" : PySem.Str), ("many" : PySem.Str)]⟩
def d__law_draw : Ev.Dfn := ⟨("_law_draw" : PySem.Str), f__law_draw, ⟨defArgs (top 13), defBody (top 13), defScope (top 13), [("deck" : PySem.Str), ("many" : PySem.Str), ("figure" : PySem.Str), ("cell" : PySem.Str)], [("deck" : PySem.Str), ("many" : PySem.Str)]⟩⟩
def b__law_pick : List Ev.T := [.rtn (some (.idx (.var 1) (.call ("_law_draw" : PySem.Str) [(.var 0), (.bi false .len [(.var 1)])])))]
def f__law_pick : Ev.Fn := ⟨2, 2, b__law_pick, true, [("deck" : PySem.Str), ("some" : PySem.Str)]⟩
def d__law_pick : Ev.Dfn := ⟨("_law_pick" : PySem.Str), f__law_pick, ⟨defArgs (top 14), defBody (top 14), defScope (top 14), [("deck" : PySem.Str), ("some" : PySem.Str)], [("deck" : PySem.Str), ("some" : PySem.Str)]⟩⟩
def b__law_any : List Ev.T := [.asg (.var 2) (.call ("_law_draw" : PySem.Str) [(.var 0), (.c (.int 10))]), .if_ (.cmp .lt (.var 2) (.c (.int 2))) [.rtn (some (.call ("_law_pick" : PySem.Str) [(.var 0), (.lst false [(.c (.int 0)), (.c (.int 1)), (.neg (.c (.int 1))), (.c (.int 7)), (.bin false .pow (.c (.int 10)) (.c (.int 29))), (.neg (.bin false .pow (.c (.int 10)) (.c (.int 20)))), (.c (.int 2)), (.c (.int 5))])]))] [], .if_ (.cmp .lt (.var 2) (.c (.int 4))) [.rtn (some (.call ("_law_pick" : PySem.Str) [(.var 0), (.lst false [(.c (.str ("" : PySem.Str))), (.c (.str ("a" : PySem.Str))), (.c (.str ("01" : PySem.Str))), (.c (.str ("x" : PySem.Str))), (.c (.str ("fun" : PySem.Str))), (.c (.str ("name" : PySem.Str))), (.c (.str ("x\ny" : PySem.Str))), (.c (.str ("~" : PySem.Str)))])]))] [], .if_ (.cmp .eq (.var 2) (.c (.int 4))) [.rtn (some (.call ("_law_pick" : PySem.Str) [(.var 0), (.lst false [(.c (.bool true)), (.c (.bool false)), (.c .none)])]))] [], .asg (.var 3) (.ite (.cmp .gt (.var 1) (.c (.int 0))) (.comp false (.call ("_law_any" : PySem.Str) [(.var 0), (.bin false .sub (.var 1) (.c (.int 1)))]) (.var 4) (.rng [(.call ("_law_draw" : PySem.Str) [(.var 0), (.c (.int 4))])]) [] [4]) (.lst false [])), .if_ (.cmp .eq (.var 2) (.c (.int 5))) [.rtn (some (.var 3))] [], .rtn (some (.ite (.cmp .eq (.var 2) (.c (.int 6))) (.dct false [((.c (.str ("key" : PySem.Str))), (.var 3)), ((.c (.int 1)), (.bi false .len [(.var 3)]))]) (.bi false .tuple_ [(.var 3)])))]
def f__law_any : Ev.Fn := ⟨2, 5, b__law_any, true, [("deck" : PySem.Str), ("deep" : PySem.Str)]⟩
def d__law_any : Ev.Dfn := ⟨("_law_any" : PySem.Str), f__law_any, ⟨defArgs (top 15), defBody (top 15), defScope (top 15), [("deck" : PySem.Str), ("deep" : PySem.Str), ("way" : PySem.Str), ("some" : PySem.Str), ("turn" : PySem.Str)], [("deck" : PySem.Str), ("deep" : PySem.Str)]⟩⟩
def b__law_words : List Ev.T := [.rtn (some (.tup [(.c (.str ("fun" : PySem.Str))), (.c (.str ("own" : PySem.Str))), (.c (.str ("let" : PySem.Str))), (.c (.str ("set" : PySem.Str))), (.c (.str ("when" : PySem.Str))), (.c (.str ("none" : PySem.Str))), (.c (.str ("zero" : PySem.Str))), (.c (.str ("one" : PySem.Str))), (.c (.str ("each" : PySem.Str))), (.c (.str ("as" : PySem.Str))), (.c (.str ("give" : PySem.Str))), (.c (.str ("cut" : PySem.Str)))]))]
def f__law_words : Ev.Fn := ⟨0, 0, b__law_words, false, []⟩
def d__law_words : Ev.Dfn := ⟨("_law_words" : PySem.Str), f__law_words, ⟨defArgs (top 16), defBody (top 16), defScope (top 16), [], []⟩⟩
def b__law_is_word : List Ev.T := [.rtn (some (.and_ [(.isi [.str] (.var 0)), (.cmp .eq (.comp false (.var 1) (.var 1) (.ex (.var 0)) [(.cmp .nin (.var 1) (.c (.str ("01" : PySem.Str))))] [1]) (.lst false []))]))]
def f__law_is_word : Ev.Fn := ⟨1, 2, b__law_is_word, false, [("thing" : PySem.Str)]⟩
def d__law_is_word : Ev.Dfn := ⟨("_law_is_word" : PySem.Str), f__law_is_word, ⟨defArgs (top 17), defBody (top 17), defScope (top 17), [("thing" : PySem.Str), ("x" : PySem.Str)], [("thing" : PySem.Str)]⟩⟩
def b__law_is_name : List Ev.T := [.if_ (.or_ [(.not_ (.isi [.str] (.var 0))), (.not_ (.chn .lt .lt (.c (.int 0)) (.bi false .len [(.var 0)]) (.c (.int 21)))), (.cmp .in_ (.var 0) (.call ("_law_words" : PySem.Str) []))]) [.rtn (some (.c (.bool false)))] [], .if_ (.cmp .ne (.comp false (.var 1) (.var 1) (.ex (.var 0)) [(.cmp .nin (.var 1) (.c (.str ("abcdefghijklmnopqrstuvwxyz0123456789_" : PySem.Str))))] [1]) (.lst false [])) [.rtn (some (.c (.bool false)))] [], .rtn (some (.cmp .nin (.idx (.var 0) (.c (.int 0))) (.c (.str ("0123456789_" : PySem.Str)))))]
def f__law_is_name : Ev.Fn := ⟨1, 2, b__law_is_name, false, [("thing" : PySem.Str)]⟩
def d__law_is_name : Ev.Dfn := ⟨("_law_is_name" : PySem.Str), f__law_is_name, ⟨defArgs (top 18), defBody (top 18), defScope (top 18), [("thing" : PySem.Str), ("x" : PySem.Str)], [("thing" : PySem.Str)]⟩⟩
def b__law_drawn_word : List Ev.T := [.rtn (some (.me .join (.c (.str ("" : PySem.Str))) [(.comp false (.call ("_law_pick" : PySem.Str) [(.var 0), (.lst false [(.c (.str ("0" : PySem.Str))), (.c (.str ("1" : PySem.Str)))])]) (.var 1) (.rng [(.call ("_law_pick" : PySem.Str) [(.var 0), (.lst false [(.c (.int 1)), (.c (.int 0)), (.c (.int 2)), (.c (.int 3)), (.c (.int 6)), (.c (.int 1)), (.c (.int 2)), (.c (.int 11))])])]) [] [1])]))]
def f__law_drawn_word : Ev.Fn := ⟨1, 2, b__law_drawn_word, true, [("deck" : PySem.Str)]⟩
def d__law_drawn_word : Ev.Dfn := ⟨("_law_drawn_word" : PySem.Str), f__law_drawn_word, ⟨defArgs (top 19), defBody (top 19), defScope (top 19), [("deck" : PySem.Str), ("turn" : PySem.Str)], [("deck" : PySem.Str)]⟩⟩
def b__law_string : List Ev.T := [.asg (.var 1) (.call ("_law_draw" : PySem.Str) [(.var 0), (.c (.int 8))]), .if_ (.cmp .eq (.var 1) (.c (.int 0))) [.rtn (some (.bin false .add (.call ("_law_drawn_word" : PySem.Str) [(.var 0)]) (.call ("_law_pick" : PySem.Str) [(.var 0), (.lst false [(.c (.str ("" : PySem.Str))), (.c (.str ("" : PySem.Str))), (.c (.str ("2" : PySem.Str))), (.c (.str ("O" : PySem.Str))), (.c (.str (" " : PySem.Str))), (.c (.str ("\n" : PySem.Str))), (.bin false .mul (.c (.str ("01" : PySem.Str))) (.c (.int 20))), (.bin false .mul (.c (.str ("10" : PySem.Str))) (.c (.int 700)))])])))] [], .if_ (.cmp .eq (.var 1) (.c (.int 1))) [.rtn (some (.call ("_law_pick" : PySem.Str) [(.var 0), (.call ("_law_words" : PySem.Str) [])]))] [], .if_ (.cmp .eq (.var 1) (.c (.int 2))) [.rtn (some (.bin false .add (.call ("_law_pick" : PySem.Str) [(.var 0), (.call ("_law_words" : PySem.Str) [])]) (.call ("_law_pick" : PySem.Str) [(.var 0), (.lst false [(.c (.str ("_" : PySem.Str))), (.c (.str ("0" : PySem.Str))), (.c (.str ("s" : PySem.Str))), (.c (.str (" " : PySem.Str))), (.c (.str ("A" : PySem.Str)))])])))] [], .asg (.var 2) (.c (.str ("abcxyz_019qwertyuioplkjhgfdsmnv2345678" : PySem.Str))), .asg (.var 3) (.me .join (.c (.str ("" : PySem.Str))) [(.comp false (.idx (.var 2) (.call ("_law_draw" : PySem.Str) [(.var 0), (.c (.int 38))])) (.var 5) (.rng [(.call ("_law_pick" : PySem.Str) [(.var 0), (.lst false [(.c (.int 1)), (.c (.int 2)), (.c (.int 5)), (.c (.int 19)), (.c (.int 20)), (.c (.int 21)), (.c (.int 0)), (.c (.int 3))])])]) [] [5])]), .if_ (.cmp .lt (.var 1) (.c (.int 6))) [.rtn (some (.var 3))] [], .asg (.var 4) (.call ("_law_draw" : PySem.Str) [(.var 0), (.bin false .add (.bi false .len [(.var 3)]) (.c (.int 1)))]), .rtn (some (.bin false .add (.bin false .add (.sl false (.var 3) none (some (.var 4))) (.call ("_law_pick" : PySem.Str) [(.var 0), (.lst false [(.c (.str ("A" : PySem.Str))), (.c (.str ("-" : PySem.Str))), (.c (.str (" " : PySem.Str))), (.c (.str ("\"" : PySem.Str))), (.c (.str ("\n" : PySem.Str))), (.c (.str ("." : PySem.Str))), (.c (.str ("_" : PySem.Str))), (.c (.str ("1" : PySem.Str))), (.c (.str ("z" : PySem.Str))), (.c (.str ("~" : PySem.Str))), (.c (.str ("Z" : PySem.Str))), (.c (.str ("0" : PySem.Str)))])])) (.sl false (.var 3) (some (.bin false .add (.var 4) (.call ("_law_draw" : PySem.Str) [(.var 0), (.c (.int 2))]))) none)))]
def f__law_string : Ev.Fn := ⟨1, 6, b__law_string, true, [("deck" : PySem.Str)]⟩
def d__law_string : Ev.Dfn := ⟨("_law_string" : PySem.Str), f__law_string, ⟨defArgs (top 20), defBody (top 20), defScope (top 20), [("deck" : PySem.Str), ("way" : PySem.Str), ("signs" : PySem.Str), ("text" : PySem.Str), ("at" : PySem.Str), ("turn" : PySem.Str)], [("deck" : PySem.Str)]⟩⟩
def b_law : List Ev.T := [.asg (.var 1) (.call ("_law_deck" : PySem.Str) [(.var 0), (.c (.int 13745001))]), .for_ (.var 2) (.rng [(.c (.int 12))]) [.asg (.var 3) (.ite (.cmp .gt (.call ("_law_draw" : PySem.Str) [(.var 1), (.c (.int 6))]) (.c (.int 0))) (.call ("_law_string" : PySem.Str) [(.var 1)]) (.call ("_law_any" : PySem.Str) [(.var 1), (.c (.int 3))])), .if_ (.cmp .eq (.call ("_law_draw" : PySem.Str) [(.var 1), (.c (.int 12))]) (.c (.int 0))) [.asg (.var 3) (.call ("_law_pick" : PySem.Str) [(.var 1), (.lst false [(.lst false [(.var 3)]), (.tup [(.var 3)]), (.ite (.isi [.str] (.var 3)) (.dct false [((.var 3), (.c (.int 1)))]) .dnil), (.c .none)])])] [], .asg (.var 4) (.tup [(.call ("_law_is_word" : PySem.Str) [(.var 3)]), (.call ("_law_is_name" : PySem.Str) [(.var 3)])]), .if_ (.or_ [(.cmp .ne (.rep (.tup [(.call ("is_word" : PySem.Str) [(.var 3)]), (.call ("is_name" : PySem.Str) [(.var 3)])])) (.rep (.var 4))), (.cmp .ne (.rep (.tup [(.callk ("is_word" : PySem.Str) [] [(("thing" : PySem.Str), (.var 3))]), (.callk ("is_name" : PySem.Str) [] [(("thing" : PySem.Str), (.var 3))])])) (.rep (.var 4)))]) [.rtn (some (.c (.bool false)))] []], .rtn (some (.c (.bool true)))]
def f_law : Ev.Fn := ⟨1, 5, b_law, true, [("script" : PySem.Str)]⟩
def d_law : Ev.Dfn := ⟨("law" : PySem.Str), f_law, ⟨defArgs (top 21), defBody (top 21), defScope (top 21), [("script" : PySem.Str), ("deck" : PySem.Str), ("turn" : PySem.Str), ("thing" : PySem.Str), ("due" : PySem.Str)], [("script" : PySem.Str)]⟩⟩
def ds0 : List Ev.Dfn := [d_is_word_value, d_is_name_value, d_is_word, d_is_name, d__law_deck, d__law_draw, d__law_pick, d__law_any, d__law_words, d__law_is_word, d__law_is_name, d__law_drawn_word, d__law_string, d_law]
def ds : List Ev.Dfn := ds0
def cs0 : List (PySem.Str × Ev.CK) := [(("LETTERS" : PySem.Str), .tup [.str ("0" : PySem.Str), .str ("1" : PySem.Str)]), (("LONGEST" : PySem.Str), .int 20), (("RESERVED" : PySem.Str), .tup [.str ("fun" : PySem.Str), .str ("own" : PySem.Str), .str ("let" : PySem.Str), .str ("set" : PySem.Str), .str ("when" : PySem.Str), .str ("none" : PySem.Str), .str ("zero" : PySem.Str), .str ("one" : PySem.Str), .str ("each" : PySem.Str), .str ("as" : PySem.Str), .str ("give" : PySem.Str), .str ("cut" : PySem.Str)]), (("SMALL" : PySem.Str), .str ("abcdefghijklmnopqrstuvwxyz" : PySem.Str)), (("SIGNS" : PySem.Str), .str ("abcdefghijklmnopqrstuvwxyz0123456789_" : PySem.Str))]
def cs : List (PySem.Str × Ev.CK) := cs0
def bis0 : List PySem.Str := [("all" : PySem.Str), ("int" : PySem.Str), ("isinstance" : PySem.Str), ("len" : PySem.Str), ("list" : PySem.Str), ("max" : PySem.Str), ("range" : PySem.Str), ("repr" : PySem.Str), ("str" : PySem.Str), ("tuple" : PySem.Str)]
def bis : List PySem.Str := bis0
def kws0 : List (PySem.Str × Nat × List PySem.Str) := [(("is_word" : PySem.Str), 0, [("thing" : PySem.Str)]), (("is_name" : PySem.Str), 0, [("thing" : PySem.Str)])]
def kws : List (PySem.Str × Nat × List PySem.Str) := kws0
def L : Ev.LawT := ⟨ds, cs, bis, kws⟩
def names0 : List PySem.Str := [("is_word_value" : PySem.Str), ("is_name_value" : PySem.Str), ("is_word" : PySem.Str), ("is_name" : PySem.Str), ("_law_deck" : PySem.Str), ("_law_draw" : PySem.Str), ("_law_pick" : PySem.Str), ("_law_any" : PySem.Str), ("_law_words" : PySem.Str), ("_law_is_word" : PySem.Str), ("_law_is_name" : PySem.Str), ("_law_drawn_word" : PySem.Str), ("_law_string" : PySem.Str), ("LETTERS" : PySem.Str), ("LONGEST" : PySem.Str), ("RESERVED" : PySem.Str), ("SIGNS" : PySem.Str), ("SMALL" : PySem.Str)]
def names : List PySem.Str := names0
theorem st_is_word_value : Ev.Stat L d_is_word_value := ⟨by decide +kernel, rfl, rfl, fun kV doc pm an cdv ct us hl => match us, hl with | [_], _ => rfl, fun gv => by kernel_rfl, fun n ks is h _ => absurd h (Ev.no_kw (by decide +kernel) n ks)⟩
theorem st_is_name_value : Ev.Stat L d_is_name_value := ⟨by decide +kernel, rfl, rfl, fun kV doc pm an cdv ct us hl => match us, hl with | [_], _ => rfl, fun gv => by kernel_rfl, fun n ks is h _ => absurd h (Ev.no_kw (by decide +kernel) n ks)⟩
theorem kw_is_word : ∀ n ks is, (d_is_word.f, n, ks) ∈ L.kws → Ev.kwF L.Γ d_is_word.f ks n = some is → d_is_word.d.ps ≠ [] ∧ ∀ (kV doc pm : Value) (an : Option Addr) (cdv ct : Value) (us ws : List Value), us.length = n → ws.length = ks.length →
    bindArgs (PySem.W.fnOf d_is_word.f d_is_word.f d_is_word.d.params d_is_word.d.body d_is_word.d.scope .none kV doc pm an cdv ct) ⟨us, ks.zip ws⟩ = pure (d_is_word.d.ps.zip (Ev.gP n ks.length is us ws)) := by
  intro n ks is h hi
  have h : (n, ks) ∈ [(0, [("thing" : PySem.Str)])] := by
    have e : L.kws.filterMap (fun q => if decide (q.1 = d_is_word.f) = true then some q.2 else none) = [(0, [("thing" : PySem.Str)])] := by decide +kernel
    rw [← e]
    exact List.mem_filterMap.mpr ⟨_, h, by rw [if_pos (decide_eq_true rfl)]⟩
  simp only [List.mem_cons, List.not_mem_nil, or_false, Prod.mk.injEq] at h
  obtain ⟨rfl, rfl⟩ := h
  · have e : Ev.kwF L.Γ d_is_word.f [("thing" : PySem.Str)] 0 = some [0] := by decide +kernel
    obtain rfl := Option.some.inj (e.symm.trans hi)
    exact ⟨List.cons_ne_nil _ _, fun kV doc pm an cdv ct us ws h1 h2 => match us, ws, h1, h2 with | [], [_], _, _ => rfl⟩
theorem st_is_word : Ev.Stat L d_is_word := ⟨by decide +kernel, rfl, rfl, fun kV doc pm an cdv ct us hl => match us, hl with | [_], _ => rfl, fun gv => by kernel_rfl, kw_is_word⟩
theorem kw_is_name : ∀ n ks is, (d_is_name.f, n, ks) ∈ L.kws → Ev.kwF L.Γ d_is_name.f ks n = some is → d_is_name.d.ps ≠ [] ∧ ∀ (kV doc pm : Value) (an : Option Addr) (cdv ct : Value) (us ws : List Value), us.length = n → ws.length = ks.length →
    bindArgs (PySem.W.fnOf d_is_name.f d_is_name.f d_is_name.d.params d_is_name.d.body d_is_name.d.scope .none kV doc pm an cdv ct) ⟨us, ks.zip ws⟩ = pure (d_is_name.d.ps.zip (Ev.gP n ks.length is us ws)) := by
  intro n ks is h hi
  have h : (n, ks) ∈ [(0, [("thing" : PySem.Str)])] := by
    have e : L.kws.filterMap (fun q => if decide (q.1 = d_is_name.f) = true then some q.2 else none) = [(0, [("thing" : PySem.Str)])] := by decide +kernel
    rw [← e]
    exact List.mem_filterMap.mpr ⟨_, h, by rw [if_pos (decide_eq_true rfl)]⟩
  simp only [List.mem_cons, List.not_mem_nil, or_false, Prod.mk.injEq] at h
  obtain ⟨rfl, rfl⟩ := h
  · have e : Ev.kwF L.Γ d_is_name.f [("thing" : PySem.Str)] 0 = some [0] := by decide +kernel
    obtain rfl := Option.some.inj (e.symm.trans hi)
    exact ⟨List.cons_ne_nil _ _, fun kV doc pm an cdv ct us ws h1 h2 => match us, ws, h1, h2 with | [], [_], _, _ => rfl⟩
theorem st_is_name : Ev.Stat L d_is_name := ⟨by decide +kernel, rfl, rfl, fun kV doc pm an cdv ct us hl => match us, hl with | [_], _ => rfl, fun gv => by kernel_rfl, kw_is_name⟩
theorem st__law_deck : Ev.Stat L d__law_deck := ⟨by decide +kernel, rfl, rfl, fun kV doc pm an cdv ct us hl => match us, hl with | [_, _], _ => rfl, fun gv => by kernel_rfl, fun n ks is h _ => absurd h (Ev.no_kw (by decide +kernel) n ks)⟩
theorem st__law_draw : Ev.Stat L d__law_draw := ⟨by decide +kernel, rfl, rfl, fun kV doc pm an cdv ct us hl => match us, hl with | [_, _], _ => rfl, fun gv => by kernel_rfl, fun n ks is h _ => absurd h (Ev.no_kw (by decide +kernel) n ks)⟩
theorem st__law_pick : Ev.Stat L d__law_pick := ⟨by decide +kernel, rfl, rfl, fun kV doc pm an cdv ct us hl => match us, hl with | [_, _], _ => rfl, fun gv => by kernel_rfl, fun n ks is h _ => absurd h (Ev.no_kw (by decide +kernel) n ks)⟩
theorem st__law_any : Ev.Stat L d__law_any := ⟨by decide +kernel, rfl, rfl, fun kV doc pm an cdv ct us hl => match us, hl with | [_, _], _ => rfl, fun gv => by kernel_rfl, fun n ks is h _ => absurd h (Ev.no_kw (by decide +kernel) n ks)⟩
theorem st__law_words : Ev.Stat L d__law_words := ⟨by decide +kernel, rfl, rfl, fun kV doc pm an cdv ct us hl => match us, hl with | [], _ => rfl, fun gv => by kernel_rfl, fun n ks is h _ => absurd h (Ev.no_kw (by decide +kernel) n ks)⟩
theorem st__law_is_word : Ev.Stat L d__law_is_word := ⟨by decide +kernel, rfl, rfl, fun kV doc pm an cdv ct us hl => match us, hl with | [_], _ => rfl, fun gv => by kernel_rfl, fun n ks is h _ => absurd h (Ev.no_kw (by decide +kernel) n ks)⟩
theorem st__law_is_name : Ev.Stat L d__law_is_name := ⟨by decide +kernel, rfl, rfl, fun kV doc pm an cdv ct us hl => match us, hl with | [_], _ => rfl, fun gv => by kernel_rfl, fun n ks is h _ => absurd h (Ev.no_kw (by decide +kernel) n ks)⟩
theorem st__law_drawn_word : Ev.Stat L d__law_drawn_word := ⟨by decide +kernel, rfl, rfl, fun kV doc pm an cdv ct us hl => match us, hl with | [_], _ => rfl, fun gv => by kernel_rfl, fun n ks is h _ => absurd h (Ev.no_kw (by decide +kernel) n ks)⟩
theorem st__law_string : Ev.Stat L d__law_string := ⟨by decide +kernel, rfl, rfl, fun kV doc pm an cdv ct us hl => match us, hl with | [_], _ => rfl, fun gv => by kernel_rfl, fun n ks is h _ => absurd h (Ev.no_kw (by decide +kernel) n ks)⟩
theorem st_law : Ev.Stat L d_law := ⟨by decide +kernel, rfl, rfl, fun kV doc pm an cdv ct us hl => match us, hl with | [_], _ => rfl, fun gv => by kernel_rfl, fun n ks is h _ => absurd h (Ev.no_kw (by decide +kernel) n ks)⟩
theorem st_all : ∀ e ∈ L.ds, Ev.Stat L e := by
  intro e h
  have h : e ∈ [d_is_word_value, d_is_name_value, d_is_word, d_is_name, d__law_deck, d__law_draw, d__law_pick, d__law_any, d__law_words, d__law_is_word, d__law_is_name, d__law_drawn_word, d__law_string, d_law] := h
  simp only [List.mem_cons, List.not_mem_nil, or_false] at h
  rcases h with rfl | rfl | rfl | rfl | rfl | rfl | rfl | rfl | rfl | rfl | rfl | rfl | rfl | rfl
  · exact st_is_word_value
  · exact st_is_name_value
  · exact st_is_word
  · exact st_is_name
  · exact st__law_deck
  · exact st__law_draw
  · exact st__law_pick
  · exact st__law_any
  · exact st__law_words
  · exact st__law_is_word
  · exact st__law_is_name
  · exact st__law_drawn_word
  · exact st__law_string
  · exact st_law
abbrev R : PySem.W.OpenRow := PySem.W.OpenLaw.row PySem.Challenge.rw_samequick_k01_words_and_names_of_any_val
abbrev hk : PySem.W.Hook := L.hook
def ob (s : PySem.W.SharedT) : He.AlD := Ev.obsVG L.fa L.fn L.cs (HandSHeadRun.getT s)
theorem ob_eq (s : PySem.W.SharedT) : ob s = hk.obs s.abs := Ev.obsVG_eq (HandSHeadRun.getT_eq s)
theorem run (w : World) : HandSHeadRun.RunEq R (PySem.W.view R.prog [21]) hk ob 3000 names w := by
  intro os
  kernel_rfl
end Lk01
open PySem PySem.W PySem.Calls PyProof.Rows
theorem Lk01.holds (math : ∀ ns : List Int, ns.length ≤ 63 → (∀ z ∈ ns, Builtin.Int.intBits z ≤ 1048576) → ∃ S, Ev.callF Lk01.L.Γ Lk01.L.G 100 ("law" : PySem.Str) [.k (.list (ns.map .int))] [] = .ok (.d (.bool true)) S) : PySem.Challenge.rw_samequick_k01_words_and_names_of_any_val.Holds := by
  w_on; o_law
  refine HandSHeadRun.head_any (r := OpenLaw.row PySem.Challenge.rw_samequick_k01_words_and_names_of_any_val) (q := view (OpenLaw.row PySem.Challenge.rw_samequick_k01_words_and_names_of_any_val).prog [21]) (H := Lk01.hk) (ob := Lk01.ob) (M := 3000) (loose := Lk01.names) (d := HandSHeadRun.topDef (OpenLaw.row PySem.Challenge.rw_samequick_k01_words_and_names_of_any_val).prog 21) (kwd := []) Lk01.ob_eq
    (by kernel_rfl) (fun s => by kernel_rfl) Lk01.run (by kernel_rfl) (by kernel_rfl) (by kernel_rfl) (by rfl) (by first | assumption | decide +kernel) (by decide +kernel) ⟨rfl, rfl, rfl, rfl, rfl, by decide +kernel⟩ ?hw ?hc
  case hw => w_witness2
  case hc =>
    exact Ev.law_main (l := PySem.Challenge.rw_samequick_k01_words_and_names_of_any_val) (L := Lk01.L) (eL := Lk01.d_law) (x := "script") (k := 100) rfl (by kernel_rfl) ⟨rfl, by decide, by decide⟩ (by decide +kernel) Lk01.st_all (by kernel_rfl) rfl (by kernel_rfl)
      (fun e he h => by
        have he : e ∈ [Lk01.d_is_word_value, Lk01.d_is_name_value, Lk01.d_is_word, Lk01.d_is_name, Lk01.d__law_deck, Lk01.d__law_draw, Lk01.d__law_pick, Lk01.d__law_any, Lk01.d__law_words, Lk01.d__law_is_word, Lk01.d__law_is_name, Lk01.d__law_drawn_word, Lk01.d__law_string, Lk01.d_law] := he
        simp only [List.mem_cons, List.not_mem_nil, or_false] at he
        rcases he with rfl | rfl | rfl | rfl | rfl | rfl | rfl | rfl | rfl | rfl | rfl | rfl | rfl | rfl <;> first | rfl | exact absurd h (by decide +kernel))
      (fun f fd hf e he h => by
        subst h
        have he : e ∈ [Lk01.d_is_word_value, Lk01.d_is_name_value, Lk01.d_is_word, Lk01.d_is_name, Lk01.d__law_deck, Lk01.d__law_draw, Lk01.d__law_pick, Lk01.d__law_any, Lk01.d__law_words, Lk01.d__law_is_word, Lk01.d__law_is_name, Lk01.d__law_drawn_word, Lk01.d__law_string, Lk01.d_law] := he
        simp only [List.mem_cons, List.not_mem_nil, or_false] at he
        rcases he with rfl | rfl | rfl | rfl | rfl | rfl | rfl | rfl | rfl | rfl | rfl | rfl | rfl | rfl <;> exact Option.some.inj (Eq.trans (by kernel_rfl) hf))
      math
end
section
set_option Elab.async false
set_option linter.all false
set_option maxRecDepth 100000
set_option maxHeartbeats 0
namespace L01
open PySem PySem.Spec L2 Ev Lk01
abbrev cf (n : Nat) (f : Str) (vs : List Val) : M Val := callF L.Γ L.G n f vs
theorem lk_is_word_value : lookF L.Γ "is_word_value" = some f_is_word_value := by kernel_rfl
theorem sz (n : Nat) (h : n ≤ 10000) : n ≤ sizeLine := by rw [sizeLine_eq]; omega
theorem glob0 : L.G[0]? = some (("LETTERS" : Str), .k (.tuple [.str "0", .str "1"])) := by kernel_rfl
theorem t0 : (("0" : Str) = sign 48) ∧ (("1" : Str) = sign 49) := by constructor <;> decide +kernel
def wordD (z : Str) : Bool := z.cps.toList.all fun c => decide (c = 48 ∨ c = 49)
theorem t2 (n : Nat) (z : Str) (hz : z.length ≤ 10000) (S : List Cell) : cf (n + 1) "is_word_value" [.d (.str z)] S = .ok (.d (.bool (wordD z))) S := by
  have hl : z.cps.toList.length ≤ sizeLine := sz _ (by simpa using (show z.cps.size ≤ 10000 from hz))
  apply wp_to
  unfold cf
  rw [wp_pure lk_is_word_value rfl rfl rfl, wp_run]
  simp only [f_is_word_value, b_is_word_value, bodyFuel, wp_seq, wp_seq0, x_asg, x_rtn, x_if, x_ex, x_sub, x_for, e_var, e_c, e_g, e_tup, e_lst, e_dnil, e_dnew, e_dct, e_bin, e_neg, e_cmp, e_chn, e_and, e_or, e_not, e_ite, e_idx, e_sl, e_rev, e_call, e_bi, e_rep, e_isi, e_me, e_comp, andE, orE, startE, wp_bnd, wp_ret, wp_some, wp_tru, wp_fail, wp_noex, wp_guard, isiM, wp_view_d, wp_view_k, wp_viewd_d, wp_viewI_d, wp_viewI_k, wp_viewc_d, l_cons, l_nil, itE, isT, if_pos, itemsD, asgT, testsE, wipeE, List.set_cons_zero, List.set_cons_succ, List.getElem?_cons_zero, List.getElem?_cons_succ, Option.join_some, List.map_cons, List.map_nil, List.cons_append, List.nil_append, List.length_cons, List.length_nil, List.replicate_succ, List.replicate_zero, constD, Option.map_some, mkRes, if_true, if_false, Bool.false_eq_true, Bool.not_true, Bool.not_false, List.any_cons, List.any_nil, Bool.or_false, Bool.false_or, Bool.true_or, optE]
  refine wp_comp (fun v => some (match v with
    | .d (.str s) => .d (.bool (("0" : Str) == s || ("1" : Str) == s))
    | _ => .d .none)) (fun v hv => ?_) ?_
  · simp only [List.mem_map] at hv
    obtain ⟨c, ⟨d, hd, rfl⟩, rfl⟩ := hv
    simp only [bodyFuel, wp_seq, wp_seq0, x_asg, x_rtn, x_if, x_ex, x_sub, x_for, e_var, e_c, e_g, e_tup, e_lst, e_dnil, e_dnew, e_dct, e_bin, e_neg, e_cmp, e_chn, e_and, e_or, e_not, e_ite, e_idx, e_sl, e_rev, e_call, e_bi, e_rep, e_isi, e_me, e_comp, andE, orE, startE, wp_bnd, wp_ret, wp_some, wp_tru, wp_fail, wp_noex, wp_guard, isiM, wp_view_d, wp_view_k, wp_viewd_d, wp_viewI_d, wp_viewI_k, wp_viewc_d, l_cons, l_nil, itE, isT, if_pos, itemsD, asgT, testsE, wipeE, List.set_cons_zero, List.set_cons_succ, List.getElem?_cons_zero, List.getElem?_cons_succ, Option.join_some, List.map_cons, List.map_nil, List.cons_append, List.nil_append, List.length_cons, List.length_nil, List.replicate_succ, List.replicate_zero, constD, Option.map_some, mkRes, if_true, if_false, Bool.false_eq_true, Bool.not_true, Bool.not_false, List.any_cons, List.any_nil, Bool.or_false, Bool.false_or, Bool.true_or, optE]
    rw [show (Option.map (fun x => x.snd) L.G[0]?) = some (Val.k (.tuple (([("0" : Str), ("1" : Str)] : List Str).map .str))) by rw [glob0]; rfl, wp_some]
    rw [wp_in_k]
    show wp (lift (anyEq (.str (sign d)) (([("0" : Str), ("1" : Str)] : List Str).map .str))) [] _ _
    rw [anyEq_strs, wp_some]
    simp only [List.any_cons, List.any_nil, Bool.or_false]
    exact ⟨trivial, trivial⟩
  · rw [fm_some, List.map_map, wp_list]
    refine ⟨by simpa using hl, _, allD_map (fun c => .bool (("0" : Str) == sign c || ("1" : Str) == sign c)) _, ?_⟩
    rw [show (z.cps.toList.map fun c => PyData.bool (("0" : Str) == sign c || ("1" : Str) == sign c)) = (z.cps.toList.map fun c => (("0" : Str) == sign c || ("1" : Str) == sign c)).map .bool by rw [List.map_map]; rfl, biM_all]
    refine ⟨_, rfl, ?_, trivial⟩
    congr 2
    unfold wordD
    rw [List.all_map]
    congr 1
    funext c
    simp only [Function.comp, List.any_cons, List.any_nil, Bool.or_false, id, t0.1, t0.2]
    have e : ∀ a b : Nat, (sign a == sign b) = decide (b = a) := fun a b => by
      by_cases h : b = a
      · subst h; simp
      · rw [decide_eq_false h]
        exact beq_eq_false_iff_ne.mpr fun q => h ((sign_eq a b).mp q).symm
    rw [e, e]
    by_cases h1 : c = 48 <;> by_cases h2 : c = 49 <;> simp [h1, h2]
theorem t2n (n : Nat) (x : PyData) (hx : ∀ z, x ≠ .str z) (S : List Cell) : cf (n + 1) "is_word_value" [.d x] S = .ok (.d (.bool false)) S := by
  apply wp_to
  unfold cf
  rw [wp_pure lk_is_word_value rfl rfl rfl, wp_run]
  simp only [f_is_word_value, b_is_word_value, bodyFuel, wp_seq, wp_seq0, x_asg, x_rtn, x_if, x_ex, x_sub, x_for, e_var, e_c, e_g, e_tup, e_lst, e_dnil, e_dnew, e_dct, e_bin, e_neg, e_cmp, e_chn, e_and, e_or, e_not, e_ite, e_idx, e_sl, e_rev, e_call, e_bi, e_rep, e_isi, e_me, e_comp, andE, orE, startE, wp_bnd, wp_ret, wp_some, wp_tru, wp_fail, wp_noex, wp_guard, isiM, wp_view_d, wp_view_k, wp_viewd_d, wp_viewI_d, wp_viewI_k, wp_viewc_d, l_cons, l_nil, itE, isT, if_pos, itemsD, asgT, testsE, wipeE, List.set_cons_zero, List.set_cons_succ, List.getElem?_cons_zero, List.getElem?_cons_succ, Option.join_some, List.map_cons, List.map_nil, List.cons_append, List.nil_append, List.length_cons, List.length_nil, List.replicate_succ, List.replicate_zero, constD, Option.map_some, mkRes, if_true, if_false, Bool.false_eq_true, Bool.not_true, Bool.not_false, List.any_cons, List.any_nil, Bool.or_false, Bool.false_or, Bool.true_or, optE]
  cases x <;> first | (exact absurd rfl (hx _)) | (simp only [bodyFuel, wp_seq, wp_seq0, x_asg, x_rtn, x_if, x_ex, x_sub, x_for, e_var, e_c, e_g, e_tup, e_lst, e_dnil, e_dnew, e_dct, e_bin, e_neg, e_cmp, e_chn, e_and, e_or, e_not, e_ite, e_idx, e_sl, e_rev, e_call, e_bi, e_rep, e_isi, e_me, e_comp, andE, orE, startE, wp_bnd, wp_ret, wp_some, wp_tru, wp_fail, wp_noex, wp_guard, isiM, wp_view_d, wp_view_k, wp_viewd_d, wp_viewI_d, wp_viewI_k, wp_viewc_d, l_cons, l_nil, itE, isT, if_pos, itemsD, asgT, testsE, wipeE, List.set_cons_zero, List.set_cons_succ, List.getElem?_cons_zero, List.getElem?_cons_succ, Option.join_some, List.map_cons, List.map_nil, List.cons_append, List.nil_append, List.length_cons, List.length_nil, List.replicate_succ, List.replicate_zero, constD, Option.map_some, mkRes, if_true, if_false, Bool.false_eq_true, Bool.not_true, Bool.not_false, List.any_cons, List.any_nil, Bool.or_false, Bool.false_or, Bool.true_or, optE]; exact ⟨_, rfl, rfl, trivial⟩)
end L01
namespace L01
open PySem PySem.Spec L2 Ev Lk01
def κ : DeckK := ⟨"left", "mixed", "draws", by decide +kernel, by decide +kernel, by decide +kernel⟩
theorem lk_draw : lookF L.Γ "_law_draw" = some f__law_draw := by kernel_rfl
theorem lk_pick : lookF L.Γ "_law_pick" = some f__law_pick := by kernel_rfl
theorem draw (n : Nat) {b : Nat} {S : List Cell} {many : Int} {E : Exn → List Cell → Prop} (h1 : 1 ≤ many) (h2 : many < 2 ^ 200) (h : Deck κ (b + 1) S) : wp (cf (n + 1) "_law_draw" [.r 1, .d (.int many)]) S (fun v S' => IntIn many v ∧ Deck κ b S') E := by
  refine call_deck lk_draw rfl rfl h (wp_mono (draw_spec (κ := κ) (A := 39373) (B := 2147483629) (C' := 19) (D := 2147483587) (E' := 31337) (F := 2147483647) (G := 48271) (H := 23) (I := 2147483629) (J := 69621) (K := 77) (M := 2147483563) (by unfold Cs; decide) h1 h2 h) (fun f S' q => ?_) fun _ _ h => h)
  obtain ⟨v, rfl, a, c, q⟩ := q
  exact ⟨_, rfl, ⟨v, rfl, a, c⟩, q⟩
end L01
namespace L01
open PySem PySem.Spec L2 Ev Lk01
theorem pick (n : Nat) {b : Nat} {S : List Cell} {xs : List PyData} {E : Exn → List Cell → Prop} (h1 : xs ≠ []) (h2 : xs.length ≤ 10000) (h : Deck κ (b + 1) S) : wp (cf (n + 2) "_law_pick" [.r 1, .d (.list xs)]) S (fun v S' => (∃ x ∈ xs, v = .d x) ∧ Deck κ b S') E := by
  refine call_deck lk_pick rfl rfl h ?_
  simp only [f__law_pick, b__law_pick, bodyFuel, wp_seq, wp_seq0, x_asg, x_rtn, x_if, x_ex, x_sub, x_for, e_var, e_c, e_g, e_tup, e_lst, e_dnil, e_dnew, e_dct, e_bin, e_neg, e_cmp, e_chn, e_and, e_or, e_not, e_ite, e_idx, e_sl, e_rev, e_call, e_bi, e_rep, e_isi, e_me, e_comp, andE, orE, startE, wp_bnd, wp_ret, wp_some, wp_tru, wp_fail, wp_noex, wp_guard, isiM, wp_view_d, wp_view_k, wp_viewd_d, wp_viewI_d, wp_viewI_k, wp_viewc_d, l_cons, l_nil, itE, isT, if_pos, itemsD, asgT, testsE, wipeE, List.set_cons_zero, List.set_cons_succ, List.getElem?_cons_zero, List.getElem?_cons_succ, Option.join_some, List.map_cons, List.map_nil, List.cons_append, List.nil_append, List.length_cons, List.length_nil, List.replicate_succ, List.replicate_zero, constD, Option.map_some, mkRes, if_true, if_false, Bool.false_eq_true, Bool.not_true, Bool.not_false, List.any_cons, List.any_nil, Bool.or_false, Bool.false_or, Bool.true_or, optE]
  rw [wp_bi1]
  show wp (lift (some (PyData.int xs.length))) _ _ _
  rw [wp_some]
  have hl : 1 ≤ xs.length := List.length_pos_iff.mpr h1
  refine wp_mono (draw n (by omega) (Int.lt_of_le_of_lt (show ((xs.length : Nat) : Int) ≤ 10000 by omega) (by decide)) h) (fun v S' q => ?_) fun _ _ h => h
  obtain ⟨⟨i, rfl, i0, i1⟩, q⟩ := q
  have hi : i.toNat < xs.length := by omega
  have e : idxM (.d (.list xs)) (.d (.int i)) S' = .ok (.d xs[i.toNat]) S' := by
    show lift ((atI xs i).map Val.d) S' = _
    have : atI xs i = some xs[i.toNat] := by
      unfold atI ixN
      rw [if_pos i0, if_pos i1]
      exact List.getElem?_eq_getElem hi
    rw [this]; rfl
  rw [wp_of e]
  exact ⟨_, rfl, ⟨_, List.getElem_mem hi, rfl⟩, q⟩
end L01
end
section
set_option Elab.async false
set_option linter.all false
set_option maxRecDepth 100000
set_option maxHeartbeats 0
namespace L01
open PySem PySem.Spec L2 Ev Lk01
theorem lk_is_name_value : lookF L.Γ "is_name_value" = some f_is_name_value := by kernel_rfl
theorem t3n (n : Nat) (x : PyData) (hx : ∀ z, x ≠ .str z) (S : List Cell) : cf (n + 1) "is_name_value" [.d x] S = .ok (.d (.bool false)) S := by
  apply wp_to
  unfold cf
  rw [wp_pure lk_is_name_value rfl rfl rfl, wp_run]
  simp only [f_is_name_value, b_is_name_value, bodyFuel, wp_seq, wp_seq0, x_asg, x_rtn, x_if, x_ex, x_sub, x_for, e_var, e_c, e_g, e_tup, e_lst, e_dnil, e_dnew, e_dct, e_bin, e_neg, e_cmp, e_chn, e_and, e_or, e_not, e_ite, e_idx, e_sl, e_rev, e_call, e_bi, e_rep, e_isi, e_me, e_comp, andE, orE, startE, wp_bnd, wp_ret, wp_some, wp_tru, wp_fail, wp_noex, wp_guard, isiM, wp_view_d, wp_view_k, wp_viewd_d, wp_viewI_d, wp_viewI_k, wp_viewc_d, l_cons, l_nil, itE, isT, if_pos, itemsD, asgT, testsE, wipeE, List.set_cons_zero, List.set_cons_succ, List.getElem?_cons_zero, List.getElem?_cons_succ, Option.join_some, List.map_cons, List.map_nil, List.cons_append, List.nil_append, List.length_cons, List.length_nil, List.replicate_succ, List.replicate_zero, constD, Option.map_some, mkRes, if_true, if_false, Bool.false_eq_true, Bool.not_true, Bool.not_false, List.any_cons, List.any_nil, Bool.or_false, Bool.false_or, Bool.true_or, optE]
  cases x <;> first | (exact absurd rfl (hx _)) | (simp only [bodyFuel, wp_seq, wp_seq0, x_asg, x_rtn, x_if, x_ex, x_sub, x_for, e_var, e_c, e_g, e_tup, e_lst, e_dnil, e_dnew, e_dct, e_bin, e_neg, e_cmp, e_chn, e_and, e_or, e_not, e_ite, e_idx, e_sl, e_rev, e_call, e_bi, e_rep, e_isi, e_me, e_comp, andE, orE, startE, wp_bnd, wp_ret, wp_some, wp_tru, wp_fail, wp_noex, wp_guard, isiM, wp_view_d, wp_view_k, wp_viewd_d, wp_viewI_d, wp_viewI_k, wp_viewc_d, l_cons, l_nil, itE, isT, if_pos, itemsD, asgT, testsE, wipeE, List.set_cons_zero, List.set_cons_succ, List.getElem?_cons_zero, List.getElem?_cons_succ, Option.join_some, List.map_cons, List.map_nil, List.cons_append, List.nil_append, List.length_cons, List.length_nil, List.replicate_succ, List.replicate_zero, constD, Option.map_some, mkRes, if_true, if_false, Bool.false_eq_true, Bool.not_true, Bool.not_false, List.any_cons, List.any_nil, Bool.or_false, Bool.false_or, Bool.true_or, optE]; exact ⟨_, rfl, rfl, trivial⟩)
def words : List Str := ["fun", "own", "let", "set", "when", "none", "zero", "one", "each", "as", "give", "cut"]
def small : Str := "abcdefghijklmnopqrstuvwxyz"
def signs : Str := "abcdefghijklmnopqrstuvwxyz0123456789_"
theorem g1 : Option.map (fun x => x.snd) L.G[1]? = some (.d (.int 20)) := by kernel_rfl
theorem g2 : Option.map (fun x => x.snd) L.G[2]? = some (.k (.tuple (words.map .str))) := by kernel_rfl
theorem g3 : Option.map (fun x => x.snd) L.G[3]? = some (.d (.str small)) := by kernel_rfl
theorem g4 : Option.map (fun x => x.snd) L.G[4]? = some (.d (.str signs)) := by kernel_rfl
theorem wp_le {S : List Cell} {Q : Bool → List Cell → Prop} {E : Exn → List Cell → Prop} (i j : Int) : wp (cmpM .le (.d (.int i)) (.d (.int j))) S Q E = Q (decide (i ≤ j)) S := noRfl rfl
theorem len_str {S : List Cell} {Q : Val → List Cell → Prop} {E : Exn → List Cell → Prop} (z : Str) (h : z.length ≤ 10000) : wp (biM false .len [.d (.str z)]) S Q E = Q (.d (.int z.length)) S := by
  rw [wp_bi1]
  show wp (lift (if z.length ≤ sizeLine then some (PyData.int z.length) else none)) _ _ _ = _
  rw [if_pos (sz _ h)]; rfl
/-- what is_name_value tells of a text -/
def nameD (z : Str) : Bool := if 1 ≤ z.length ∧ z.length ≤ 20 ∧ words.any (fun y => y == z) = false then (match z.cps.toList with
  | [] => false
  | c :: _ => decide (c ∈ small.cps.toList)) && z.cps.toList.all (fun c => decide (c ∈ signs.cps.toList)) else false
theorem t3 (n : Nat) (z : Str) (hz : z.length ≤ 10000) (S : List Cell) : cf (n + 1) "is_name_value" [.d (.str z)] S = .ok (.d (.bool (nameD z))) S := by
  have hl : z.cps.toList.length ≤ sizeLine := sz _ (by simpa using (show z.cps.size ≤ 10000 from hz))
  apply wp_to
  unfold cf
  rw [wp_pure lk_is_name_value rfl rfl rfl, wp_run]
  simp only [f_is_name_value, b_is_name_value, bodyFuel, wp_seq, wp_seq0, x_asg, x_rtn, x_if, x_ex, x_sub, x_for, e_var, e_c, e_g, e_tup, e_lst, e_dnil, e_dnew, e_dct, e_bin, e_neg, e_cmp, e_chn, e_and, e_or, e_not, e_ite, e_idx, e_sl, e_rev, e_call, e_bi, e_rep, e_isi, e_me, e_comp, andE, orE, startE, wp_bnd, wp_ret, wp_some, wp_tru, wp_fail, wp_noex, wp_guard, isiM, wp_view_d, wp_view_k, wp_viewd_d, wp_viewI_d, wp_viewI_k, wp_viewc_d, l_cons, l_nil, itE, isT, if_pos, itemsD, asgT, testsE, wipeE, List.set_cons_zero, List.set_cons_succ, List.getElem?_cons_zero, List.getElem?_cons_succ, Option.join_some, List.map_cons, List.map_nil, List.cons_append, List.nil_append, List.length_cons, List.length_nil, List.replicate_succ, List.replicate_zero, constD, Option.map_some, mkRes, if_true, if_false, Bool.false_eq_true, Bool.not_true, Bool.not_false, List.any_cons, List.any_nil, Bool.or_false, Bool.false_or, Bool.true_or, optE, g1, g2, g3, g4, wp_le, len_str z hz, wp_in_k, wp_ite]
  have no : ∀ b : Bool, nameD z = b → (∃ x, freeze [] (Val.d (PyData.bool b)) = some x ∧ Val.d x = Val.d (PyData.bool (nameD z))) := fun b e => ⟨_, rfl, by rw [e]⟩
  by_cases h1 : (1 : Int) ≤ z.length
  · simp only [h1, decide_true, bodyFuel, wp_seq, wp_seq0, x_asg, x_rtn, x_if, x_ex, x_sub, x_for, e_var, e_c, e_g, e_tup, e_lst, e_dnil, e_dnew, e_dct, e_bin, e_neg, e_cmp, e_chn, e_and, e_or, e_not, e_ite, e_idx, e_sl, e_rev, e_call, e_bi, e_rep, e_isi, e_me, e_comp, andE, orE, startE, wp_bnd, wp_ret, wp_some, wp_tru, wp_fail, wp_noex, wp_guard, isiM, wp_view_d, wp_view_k, wp_viewd_d, wp_viewI_d, wp_viewI_k, wp_viewc_d, l_cons, l_nil, itE, isT, if_pos, itemsD, asgT, testsE, wipeE, List.set_cons_zero, List.set_cons_succ, List.getElem?_cons_zero, List.getElem?_cons_succ, Option.join_some, List.map_cons, List.map_nil, List.cons_append, List.nil_append, List.length_cons, List.length_nil, List.replicate_succ, List.replicate_zero, constD, Option.map_some, mkRes, if_true, if_false, Bool.false_eq_true, Bool.not_true, Bool.not_false, List.any_cons, List.any_nil, Bool.or_false, Bool.false_or, Bool.true_or, optE, g1, g2, g3, g4, wp_le, wp_in_k, wp_in_d, wp_ite, true_implies, false_implies, not_true_eq_false, not_false_eq_true, true_and, and_true, forall_const]
    by_cases h2 : (z.length : Int) ≤ 20
    · simp only [h2, decide_true, bodyFuel, wp_seq, wp_seq0, x_asg, x_rtn, x_if, x_ex, x_sub, x_for, e_var, e_c, e_g, e_tup, e_lst, e_dnil, e_dnew, e_dct, e_bin, e_neg, e_cmp, e_chn, e_and, e_or, e_not, e_ite, e_idx, e_sl, e_rev, e_call, e_bi, e_rep, e_isi, e_me, e_comp, andE, orE, startE, wp_bnd, wp_ret, wp_some, wp_tru, wp_fail, wp_noex, wp_guard, isiM, wp_view_d, wp_view_k, wp_viewd_d, wp_viewI_d, wp_viewI_k, wp_viewc_d, l_cons, l_nil, itE, isT, if_pos, itemsD, asgT, testsE, wipeE, List.set_cons_zero, List.set_cons_succ, List.getElem?_cons_zero, List.getElem?_cons_succ, Option.join_some, List.map_cons, List.map_nil, List.cons_append, List.nil_append, List.length_cons, List.length_nil, List.replicate_succ, List.replicate_zero, constD, Option.map_some, mkRes, if_true, if_false, Bool.false_eq_true, Bool.not_true, Bool.not_false, List.any_cons, List.any_nil, Bool.or_false, Bool.false_or, Bool.true_or, optE, g1, g2, g3, g4, wp_le, wp_in_k, wp_in_d, wp_ite, true_implies, false_implies, not_true_eq_false, not_false_eq_true, true_and, and_true, forall_const]
      show wp (lift (anyEq (.str z) (words.map .str))) [] _ _
      rw [anyEq_strs, wp_some]
      cases h3 : words.any fun y => y == z with
      | true =>
        simp only [bodyFuel, wp_seq, wp_seq0, x_asg, x_rtn, x_if, x_ex, x_sub, x_for, e_var, e_c, e_g, e_tup, e_lst, e_dnil, e_dnew, e_dct, e_bin, e_neg, e_cmp, e_chn, e_and, e_or, e_not, e_ite, e_idx, e_sl, e_rev, e_call, e_bi, e_rep, e_isi, e_me, e_comp, andE, orE, startE, wp_bnd, wp_ret, wp_some, wp_tru, wp_fail, wp_noex, wp_guard, isiM, wp_view_d, wp_view_k, wp_viewd_d, wp_viewI_d, wp_viewI_k, wp_viewc_d, l_cons, l_nil, itE, isT, if_pos, itemsD, asgT, testsE, wipeE, List.set_cons_zero, List.set_cons_succ, List.getElem?_cons_zero, List.getElem?_cons_succ, Option.join_some, List.map_cons, List.map_nil, List.cons_append, List.nil_append, List.length_cons, List.length_nil, List.replicate_succ, List.replicate_zero, constD, Option.map_some, mkRes, if_true, if_false, Bool.false_eq_true, Bool.not_true, Bool.not_false, List.any_cons, List.any_nil, Bool.or_false, Bool.false_or, Bool.true_or, optE, g1, g2, g3, g4, wp_le, wp_in_k, wp_in_d, wp_ite, true_implies, false_implies, not_true_eq_false, not_false_eq_true, true_and, and_true, forall_const]
        exact no false (by unfold nameD; rw [if_neg (by rw [h3]; simp)])
      | false =>
        simp only [bodyFuel, wp_seq, wp_seq0, x_asg, x_rtn, x_if, x_ex, x_sub, x_for, e_var, e_c, e_g, e_tup, e_lst, e_dnil, e_dnew, e_dct, e_bin, e_neg, e_cmp, e_chn, e_and, e_or, e_not, e_ite, e_idx, e_sl, e_rev, e_call, e_bi, e_rep, e_isi, e_me, e_comp, andE, orE, startE, wp_bnd, wp_ret, wp_some, wp_tru, wp_fail, wp_noex, wp_guard, isiM, wp_view_d, wp_view_k, wp_viewd_d, wp_viewI_d, wp_viewI_k, wp_viewc_d, l_cons, l_nil, itE, isT, if_pos, itemsD, asgT, testsE, wipeE, List.set_cons_zero, List.set_cons_succ, List.getElem?_cons_zero, List.getElem?_cons_succ, Option.join_some, List.map_cons, List.map_nil, List.cons_append, List.nil_append, List.length_cons, List.length_nil, List.replicate_succ, List.replicate_zero, constD, Option.map_some, mkRes, if_true, if_false, Bool.false_eq_true, Bool.not_true, Bool.not_false, List.any_cons, List.any_nil, Bool.or_false, Bool.false_or, Bool.true_or, optE, g1, g2, g3, g4, wp_le, wp_in_k, wp_in_d, wp_ite, true_implies, false_implies, not_true_eq_false, not_false_eq_true, true_and, and_true, forall_const]
        obtain ⟨c, cs, hcs⟩ : ∃ c cs, z.cps.toList = c :: cs := by
          cases q : z.cps.toList with
          | nil =>
            have : z.cps.toList.length = 0 := by rw [q]; rfl
            have e : z.length = z.cps.toList.length := by show z.cps.size = _; simp
            omega
          | cons c cs => exact ⟨c, cs, rfl⟩
        have e0 : idxM (.d (.str z)) (.d (.int 0)) [] = .ok (.d (.str (sign c))) [] := by
          show lift ((if z.length ≤ sizeLine then (atI z.cps.toList 0).map fun c => PyData.str (sign c) else none).map Val.d) [] = _
          rw [if_pos (sz _ hz), hcs]
          have : atI (c :: cs) 0 = some c := by
            unfold atI ixN
            rw [if_pos (by decide), if_pos (by rw [List.length_cons]; omega)]
            rfl
          rw [this]; rfl
        rw [wp_of e0, wp_in_d, inD_sign, wp_some]
        by_cases hs : c ∈ small.cps.toList
        · simp only [hs, decide_true, bodyFuel, wp_seq, wp_seq0, x_asg, x_rtn, x_if, x_ex, x_sub, x_for, e_var, e_c, e_g, e_tup, e_lst, e_dnil, e_dnew, e_dct, e_bin, e_neg, e_cmp, e_chn, e_and, e_or, e_not, e_ite, e_idx, e_sl, e_rev, e_call, e_bi, e_rep, e_isi, e_me, e_comp, andE, orE, startE, wp_bnd, wp_ret, wp_some, wp_tru, wp_fail, wp_noex, wp_guard, isiM, wp_view_d, wp_view_k, wp_viewd_d, wp_viewI_d, wp_viewI_k, wp_viewc_d, l_cons, l_nil, itE, isT, if_pos, itemsD, asgT, testsE, wipeE, List.set_cons_zero, List.set_cons_succ, List.getElem?_cons_zero, List.getElem?_cons_succ, Option.join_some, List.map_cons, List.map_nil, List.cons_append, List.nil_append, List.length_cons, List.length_nil, List.replicate_succ, List.replicate_zero, constD, Option.map_some, mkRes, if_true, if_false, Bool.false_eq_true, Bool.not_true, Bool.not_false, List.any_cons, List.any_nil, Bool.or_false, Bool.false_or, Bool.true_or, optE, g1, g2, g3, g4, wp_le, wp_in_k, wp_in_d, wp_ite, true_implies, false_implies, not_true_eq_false, not_false_eq_true, true_and, and_true, forall_const]
          refine wp_comp (fun v => some (match v with
            | .d (.str s) => .d (.bool (match s.cps.toList with
              | [c] => decide (c ∈ signs.cps.toList)
              | _ => false))
            | _ => .d .none)) (fun v hv => ?_) ?_
          · simp only [List.mem_map] at hv
            obtain ⟨c, ⟨d, hd, rfl⟩, rfl⟩ := hv
            simp only [bodyFuel, wp_seq, wp_seq0, x_asg, x_rtn, x_if, x_ex, x_sub, x_for, e_var, e_c, e_g, e_tup, e_lst, e_dnil, e_dnew, e_dct, e_bin, e_neg, e_cmp, e_chn, e_and, e_or, e_not, e_ite, e_idx, e_sl, e_rev, e_call, e_bi, e_rep, e_isi, e_me, e_comp, andE, orE, startE, wp_bnd, wp_ret, wp_some, wp_tru, wp_fail, wp_noex, wp_guard, isiM, wp_view_d, wp_view_k, wp_viewd_d, wp_viewI_d, wp_viewI_k, wp_viewc_d, l_cons, l_nil, itE, isT, if_pos, itemsD, asgT, testsE, wipeE, List.set_cons_zero, List.set_cons_succ, List.getElem?_cons_zero, List.getElem?_cons_succ, Option.join_some, List.map_cons, List.map_nil, List.cons_append, List.nil_append, List.length_cons, List.length_nil, List.replicate_succ, List.replicate_zero, constD, Option.map_some, mkRes, if_true, if_false, Bool.false_eq_true, Bool.not_true, Bool.not_false, List.any_cons, List.any_nil, Bool.or_false, Bool.false_or, Bool.true_or, optE, g1, g2, g3, g4, wp_le, wp_in_k, wp_in_d, wp_ite, true_implies, false_implies, not_true_eq_false, not_false_eq_true, true_and, and_true, forall_const, inD_sign]
            exact rfl
          · rw [fm_some, List.map_map, wp_list]
            refine ⟨by simpa using hl, _, allD_map (fun c => .bool (decide (c ∈ signs.cps.toList))) _, ?_⟩
            rw [show (z.cps.toList.map fun c => PyData.bool (decide (c ∈ signs.cps.toList))) = (z.cps.toList.map fun c => decide (c ∈ signs.cps.toList)).map .bool by rw [List.map_map]; rfl, biM_all]
            refine no _ ?_
            unfold nameD
            rw [if_pos ⟨by omega, by omega, h3⟩, List.all_map, hcs]
            simp only [hs, decide_true, Bool.true_and]
            rfl
        · simp only [hs, decide_false, bodyFuel, wp_seq, wp_seq0, x_asg, x_rtn, x_if, x_ex, x_sub, x_for, e_var, e_c, e_g, e_tup, e_lst, e_dnil, e_dnew, e_dct, e_bin, e_neg, e_cmp, e_chn, e_and, e_or, e_not, e_ite, e_idx, e_sl, e_rev, e_call, e_bi, e_rep, e_isi, e_me, e_comp, andE, orE, startE, wp_bnd, wp_ret, wp_some, wp_tru, wp_fail, wp_noex, wp_guard, isiM, wp_view_d, wp_view_k, wp_viewd_d, wp_viewI_d, wp_viewI_k, wp_viewc_d, l_cons, l_nil, itE, isT, if_pos, itemsD, asgT, testsE, wipeE, List.set_cons_zero, List.set_cons_succ, List.getElem?_cons_zero, List.getElem?_cons_succ, Option.join_some, List.map_cons, List.map_nil, List.cons_append, List.nil_append, List.length_cons, List.length_nil, List.replicate_succ, List.replicate_zero, constD, Option.map_some, mkRes, if_true, if_false, Bool.false_eq_true, Bool.not_true, Bool.not_false, List.any_cons, List.any_nil, Bool.or_false, Bool.false_or, Bool.true_or, optE, g1, g2, g3, g4, wp_le, wp_in_k, wp_in_d, wp_ite, true_implies, false_implies, not_true_eq_false, not_false_eq_true, true_and, and_true, forall_const]
          refine no false ?_
          unfold nameD
          rw [if_pos ⟨by omega, by omega, h3⟩, hcs]
          simp only [hs, decide_false, Bool.false_and]
    · simp only [h2, decide_false, bodyFuel, wp_seq, wp_seq0, x_asg, x_rtn, x_if, x_ex, x_sub, x_for, e_var, e_c, e_g, e_tup, e_lst, e_dnil, e_dnew, e_dct, e_bin, e_neg, e_cmp, e_chn, e_and, e_or, e_not, e_ite, e_idx, e_sl, e_rev, e_call, e_bi, e_rep, e_isi, e_me, e_comp, andE, orE, startE, wp_bnd, wp_ret, wp_some, wp_tru, wp_fail, wp_noex, wp_guard, isiM, wp_view_d, wp_view_k, wp_viewd_d, wp_viewI_d, wp_viewI_k, wp_viewc_d, l_cons, l_nil, itE, isT, if_pos, itemsD, asgT, testsE, wipeE, List.set_cons_zero, List.set_cons_succ, List.getElem?_cons_zero, List.getElem?_cons_succ, Option.join_some, List.map_cons, List.map_nil, List.cons_append, List.nil_append, List.length_cons, List.length_nil, List.replicate_succ, List.replicate_zero, constD, Option.map_some, mkRes, if_true, if_false, Bool.false_eq_true, Bool.not_true, Bool.not_false, List.any_cons, List.any_nil, Bool.or_false, Bool.false_or, Bool.true_or, optE, g1, g2, g3, g4, wp_le, wp_in_k, wp_in_d, wp_ite, true_implies, false_implies, not_true_eq_false, not_false_eq_true, true_and, and_true, forall_const]
      exact no false (by unfold nameD; rw [if_neg (by omega)])
  · simp only [h1, decide_false, bodyFuel, wp_seq, wp_seq0, x_asg, x_rtn, x_if, x_ex, x_sub, x_for, e_var, e_c, e_g, e_tup, e_lst, e_dnil, e_dnew, e_dct, e_bin, e_neg, e_cmp, e_chn, e_and, e_or, e_not, e_ite, e_idx, e_sl, e_rev, e_call, e_bi, e_rep, e_isi, e_me, e_comp, andE, orE, startE, wp_bnd, wp_ret, wp_some, wp_tru, wp_fail, wp_noex, wp_guard, isiM, wp_view_d, wp_view_k, wp_viewd_d, wp_viewI_d, wp_viewI_k, wp_viewc_d, l_cons, l_nil, itE, isT, if_pos, itemsD, asgT, testsE, wipeE, List.set_cons_zero, List.set_cons_succ, List.getElem?_cons_zero, List.getElem?_cons_succ, Option.join_some, List.map_cons, List.map_nil, List.cons_append, List.nil_append, List.length_cons, List.length_nil, List.replicate_succ, List.replicate_zero, constD, Option.map_some, mkRes, if_true, if_false, Bool.false_eq_true, Bool.not_true, Bool.not_false, List.any_cons, List.any_nil, Bool.or_false, Bool.false_or, Bool.true_or, optE, g1, g2, g3, g4, wp_le, wp_in_k, wp_in_d, wp_ite, true_implies, false_implies, not_true_eq_false, not_false_eq_true, true_and, and_true, forall_const]
    exact no false (by unfold nameD; rw [if_neg (by omega)])
end L01
namespace L01
open PySem PySem.Spec L2 Ev Lk01
theorem lk_is_word : lookF L.Γ "is_word" = some f_is_word := by kernel_rfl
theorem lk_is_name : lookF L.Γ "is_name" = some f_is_name := by kernel_rfl
/-- what is_word, is_name tell -/
def isW (x : PyData) : Bool := match x with
  | .str z => wordD z
  | _ => false
def isN (x : PyData) : Bool := match x with
  | .str z => nameD z
  | _ => false
def Fits (x : PyData) : Prop := ∀ z, x = .str z → z.length ≤ 10000
theorem c_word (n : Nat) (x : PyData) (hx : Fits x) (S : List Cell) : cf (n + 2) "is_word" [.d x] S = .ok (.d (.bool (isW x))) S := by
  have h : cf (n + 1) "is_word_value" [.d x] [] = .ok (.d (.bool (isW x))) [] := by
    cases x with
    | str z => exact t2 n z (hx z rfl) []
    | _ => exact t2n n _ (fun z h => by cases h) []
  apply wp_to
  unfold cf at h ⊢
  rw [wp_pure lk_is_word rfl rfl rfl, wp_run]
  simp only [f_is_word, b_is_word, bodyFuel, wp_seq, wp_seq0, x_asg, x_rtn, x_if, x_ex, x_sub, x_for, e_var, e_c, e_g, e_tup, e_lst, e_dnil, e_dnew, e_dct, e_bin, e_neg, e_cmp, e_chn, e_and, e_or, e_not, e_ite, e_idx, e_sl, e_rev, e_call, e_bi, e_rep, e_isi, e_me, e_comp, andE, orE, startE, wp_bnd, wp_ret, wp_some, wp_tru, wp_fail, wp_noex, wp_guard, isiM, wp_view_d, wp_view_k, wp_viewd_d, wp_viewI_d, wp_viewI_k, wp_viewc_d, l_cons, l_nil, itE, isT, if_pos, itemsD, asgT, testsE, wipeE, List.set_cons_zero, List.set_cons_succ, List.getElem?_cons_zero, List.getElem?_cons_succ, Option.join_some, List.map_cons, List.map_nil, List.cons_append, List.nil_append, List.length_cons, List.length_nil, List.replicate_succ, List.replicate_zero, constD, Option.map_some, mkRes, if_true, if_false, Bool.false_eq_true, Bool.not_true, Bool.not_false, List.any_cons, List.any_nil, Bool.or_false, Bool.false_or, Bool.true_or, optE]
  rw [wp_of h]
  exact ⟨_, rfl, rfl, trivial⟩
theorem c_name (n : Nat) (x : PyData) (hx : Fits x) (S : List Cell) : cf (n + 2) "is_name" [.d x] S = .ok (.d (.bool (isN x))) S := by
  have h : cf (n + 1) "is_name_value" [.d x] [] = .ok (.d (.bool (isN x))) [] := by
    cases x with
    | str z => exact t3 n z (hx z rfl) []
    | _ => exact t3n n _ (fun z h => by cases h) []
  apply wp_to
  unfold cf at h ⊢
  rw [wp_pure lk_is_name rfl rfl rfl, wp_run]
  simp only [f_is_name, b_is_name, bodyFuel, wp_seq, wp_seq0, x_asg, x_rtn, x_if, x_ex, x_sub, x_for, e_var, e_c, e_g, e_tup, e_lst, e_dnil, e_dnew, e_dct, e_bin, e_neg, e_cmp, e_chn, e_and, e_or, e_not, e_ite, e_idx, e_sl, e_rev, e_call, e_bi, e_rep, e_isi, e_me, e_comp, andE, orE, startE, wp_bnd, wp_ret, wp_some, wp_tru, wp_fail, wp_noex, wp_guard, isiM, wp_view_d, wp_view_k, wp_viewd_d, wp_viewI_d, wp_viewI_k, wp_viewc_d, l_cons, l_nil, itE, isT, if_pos, itemsD, asgT, testsE, wipeE, List.set_cons_zero, List.set_cons_succ, List.getElem?_cons_zero, List.getElem?_cons_succ, Option.join_some, List.map_cons, List.map_nil, List.cons_append, List.nil_append, List.length_cons, List.length_nil, List.replicate_succ, List.replicate_zero, constD, Option.map_some, mkRes, if_true, if_false, Bool.false_eq_true, Bool.not_true, Bool.not_false, List.any_cons, List.any_nil, Bool.or_false, Bool.false_or, Bool.true_or, optE]
  rw [wp_of h]
  exact ⟨_, rfl, rfl, trivial⟩
end L01
namespace L01
open PySem PySem.Spec L2 Ev Lk01
theorem lk_l_word : lookF L.Γ "_law_is_word" = some f__law_is_word := by kernel_rfl
theorem fm_filter {α β : Type} (p : α → Bool) (g : α → β) (l : List α) : l.filterMap (fun c => if p c = true then some (g c) else none) = (l.filter p).map g := by
  induction l with
  | nil => rfl
  | cons x l ih =>
    rw [List.filterMap_cons, List.filter_cons]
    cases h : p x <;> simp [ih]
def zeroOne : Str := "01"
theorem l_word (n : Nat) (x : PyData) (hx : Fits x) (S : List Cell) : cf (n + 1) "_law_is_word" [.d x] S = .ok (.d (.bool (isW x))) S := by
  apply wp_to
  unfold cf
  rw [wp_pure lk_l_word rfl rfl rfl, wp_run]
  simp only [f__law_is_word, b__law_is_word, bodyFuel, wp_seq, wp_seq0, x_asg, x_rtn, x_if, x_ex, x_sub, x_for, e_var, e_c, e_g, e_tup, e_lst, e_dnil, e_dnew, e_dct, e_bin, e_neg, e_cmp, e_chn, e_and, e_or, e_not, e_ite, e_idx, e_sl, e_rev, e_call, e_bi, e_rep, e_isi, e_me, e_comp, andE, orE, startE, wp_bnd, wp_ret, wp_some, wp_tru, wp_fail, wp_noex, wp_guard, isiM, wp_view_d, wp_view_k, wp_viewd_d, wp_viewI_d, wp_viewI_k, wp_viewc_d, l_cons, l_nil, itE, isT, if_pos, itemsD, asgT, testsE, wipeE, List.set_cons_zero, List.set_cons_succ, List.getElem?_cons_zero, List.getElem?_cons_succ, Option.join_some, List.map_cons, List.map_nil, List.cons_append, List.nil_append, List.length_cons, List.length_nil, List.replicate_succ, List.replicate_zero, constD, Option.map_some, mkRes, if_true, if_false, Bool.false_eq_true, Bool.not_true, Bool.not_false, List.any_cons, List.any_nil, Bool.or_false, Bool.false_or, Bool.true_or, optE]
  cases x with
  | str z =>
    have hz := hx z rfl
    have hl : z.cps.toList.length ≤ sizeLine := sz _ (by simpa using (show z.cps.size ≤ 10000 from hz))
    simp only [bodyFuel, wp_seq, wp_seq0, x_asg, x_rtn, x_if, x_ex, x_sub, x_for, e_var, e_c, e_g, e_tup, e_lst, e_dnil, e_dnew, e_dct, e_bin, e_neg, e_cmp, e_chn, e_and, e_or, e_not, e_ite, e_idx, e_sl, e_rev, e_call, e_bi, e_rep, e_isi, e_me, e_comp, andE, orE, startE, wp_bnd, wp_ret, wp_some, wp_tru, wp_fail, wp_noex, wp_guard, isiM, wp_view_d, wp_view_k, wp_viewd_d, wp_viewI_d, wp_viewI_k, wp_viewc_d, l_cons, l_nil, itE, isT, if_pos, itemsD, asgT, testsE, wipeE, List.set_cons_zero, List.set_cons_succ, List.getElem?_cons_zero, List.getElem?_cons_succ, Option.join_some, List.map_cons, List.map_nil, List.cons_append, List.nil_append, List.length_cons, List.length_nil, List.replicate_succ, List.replicate_zero, constD, Option.map_some, mkRes, if_true, if_false, Bool.false_eq_true, Bool.not_true, Bool.not_false, List.any_cons, List.any_nil, Bool.or_false, Bool.false_or, Bool.true_or, optE]
    refine wp_comp (fun v => match v with
      | .d (.str s) => (match s.cps.toList with
        | [c] => if (!decide (c ∈ zeroOne.cps.toList)) = true then some v else none
        | _ => none)
      | _ => none) (fun v hv => ?_) ?_
    · simp only [List.mem_map] at hv
      obtain ⟨c, ⟨d, hd, rfl⟩, rfl⟩ := hv
      simp only [bodyFuel, wp_seq, wp_seq0, x_asg, x_rtn, x_if, x_ex, x_sub, x_for, e_var, e_c, e_g, e_tup, e_lst, e_dnil, e_dnew, e_dct, e_bin, e_neg, e_cmp, e_chn, e_and, e_or, e_not, e_ite, e_idx, e_sl, e_rev, e_call, e_bi, e_rep, e_isi, e_me, e_comp, andE, orE, startE, wp_bnd, wp_ret, wp_some, wp_tru, wp_fail, wp_noex, wp_guard, isiM, wp_view_d, wp_view_k, wp_viewd_d, wp_viewI_d, wp_viewI_k, wp_viewc_d, l_cons, l_nil, itE, isT, if_pos, itemsD, asgT, testsE, wipeE, List.set_cons_zero, List.set_cons_succ, List.getElem?_cons_zero, List.getElem?_cons_succ, Option.join_some, List.map_cons, List.map_nil, List.cons_append, List.nil_append, List.length_cons, List.length_nil, List.replicate_succ, List.replicate_zero, constD, Option.map_some, mkRes, if_true, if_false, Bool.false_eq_true, Bool.not_true, Bool.not_false, List.any_cons, List.any_nil, Bool.or_false, Bool.false_or, Bool.true_or, optE, wp_nin_d, inD_sign, wp_ite]
      refine ⟨fun h => ⟨fun _ => ⟨?_, trivial⟩, fun k => absurd trivial k⟩, fun h => ⟨fun k => k.elim, fun _ => ⟨?_, trivial⟩⟩⟩
      · show _ = if (!decide (d ∈ zeroOne.cps.toList)) = true then some (Val.d (PyData.str (sign d))) else none
        rw [if_pos (show (!decide (d ∈ zeroOne.cps.toList)) = true from h)]
      · show _ = if (!decide (d ∈ zeroOne.cps.toList)) = true then some (Val.d (PyData.str (sign d))) else none
        rw [if_neg (show ¬ (!decide (d ∈ zeroOne.cps.toList)) = true from h)]
    · rw [List.map_map, fm_opt]
      have e : (z.cps.toList.filterMap fun c => if (!decide (c ∈ zeroOne.cps.toList)) = true then some (Val.d (.str (sign c))) else none) = (z.cps.toList.filter fun c => !decide (c ∈ zeroOne.cps.toList)).map fun c => Val.d (.str (sign c)) := fm_filter _ _ _
      show wp (mkList false (z.cps.toList.filterMap fun c => if (!decide (c ∈ zeroOne.cps.toList)) = true then some (Val.d (.str (sign c))) else none)) _ _ _
      rw [e, wp_list]
      refine ⟨Nat.le_trans (by rw [List.length_map]; exact List.length_filter_le _ _) hl, _, allD_map (fun c => .str (sign c)) _, ?_⟩
      rw [wp_lst0, wp_eq_d, eq_listN, wp_some]
      refine ⟨_, rfl, ?_, trivial⟩
      congr 2
      show _ = wordD z
      unfold wordD
      have hz1 : ∀ c : Nat, decide (c ∈ zeroOne.cps.toList) = decide (c = 48 ∨ c = 49) := fun c => by
        have : zeroOne.cps.toList = [48, 49] := by decide +kernel
        rw [this]; simp
      generalize z.cps.toList = l
      induction l with
      | nil => rfl
      | cons x l ih =>
        rw [List.filter_cons, List.all_cons, ← ih, hz1]
        cases decide (x = 48 ∨ x = 49) <;> simp
  | _ => simp only [bodyFuel, wp_seq, wp_seq0, x_asg, x_rtn, x_if, x_ex, x_sub, x_for, e_var, e_c, e_g, e_tup, e_lst, e_dnil, e_dnew, e_dct, e_bin, e_neg, e_cmp, e_chn, e_and, e_or, e_not, e_ite, e_idx, e_sl, e_rev, e_call, e_bi, e_rep, e_isi, e_me, e_comp, andE, orE, startE, wp_bnd, wp_ret, wp_some, wp_tru, wp_fail, wp_noex, wp_guard, isiM, wp_view_d, wp_view_k, wp_viewd_d, wp_viewI_d, wp_viewI_k, wp_viewc_d, l_cons, l_nil, itE, isT, if_pos, itemsD, asgT, testsE, wipeE, List.set_cons_zero, List.set_cons_succ, List.getElem?_cons_zero, List.getElem?_cons_succ, Option.join_some, List.map_cons, List.map_nil, List.cons_append, List.nil_append, List.length_cons, List.length_nil, List.replicate_succ, List.replicate_zero, constD, Option.map_some, mkRes, if_true, if_false, Bool.false_eq_true, Bool.not_true, Bool.not_false, List.any_cons, List.any_nil, Bool.or_false, Bool.false_or, Bool.true_or, optE]; exact ⟨_, rfl, rfl, trivial⟩
end L01
namespace L01
open PySem PySem.Spec L2 Ev Lk01
theorem lk_l_name : lookF L.Γ "_law_is_name" = some f__law_is_name := by kernel_rfl
theorem lk_l_words : lookF L.Γ "_law_words" = some f__law_words := by kernel_rfl
theorem wp_tup {xs : List PyData} {S : List Cell} {Q : Val → List Cell → Prop} {E : Exn → List Cell → Prop} (h : xs.length ≤ 10000) : wp (mkTup (xs.map .d)) S Q E = Q (.d (.tuple xs)) S := by
  unfold mkTup
  rw [if_pos (by rw [List.length_map]; exact sz _ h), allD_d]
  rfl
theorem l_words (n : Nat) (S : List Cell) : cf (n + 1) "_law_words" [] S = .ok (.d (.tuple (words.map .str))) S := by
  apply wp_to
  unfold cf
  rw [wp_pure lk_l_words rfl rfl rfl, wp_run]
  simp only [f__law_words, b__law_words, bodyFuel, wp_seq, wp_seq0, x_asg, x_rtn, x_if, x_ex, x_sub, x_for, e_var, e_c, e_g, e_tup, e_lst, e_dnil, e_dnew, e_dct, e_bin, e_neg, e_cmp, e_chn, e_and, e_or, e_not, e_ite, e_idx, e_sl, e_rev, e_call, e_bi, e_rep, e_isi, e_me, e_comp, andE, orE, startE, wp_bnd, wp_ret, wp_some, wp_tru, wp_fail, wp_noex, wp_guard, isiM, wp_view_d, wp_view_k, wp_viewd_d, wp_viewI_d, wp_viewI_k, wp_viewc_d, l_cons, l_nil, itE, isT, if_pos, itemsD, asgT, testsE, wipeE, List.set_cons_zero, List.set_cons_succ, List.getElem?_cons_zero, List.getElem?_cons_succ, Option.join_some, List.map_cons, List.map_nil, List.cons_append, List.nil_append, List.length_cons, List.length_nil, List.replicate_succ, List.replicate_zero, constD, Option.map_some, mkRes, if_true, if_false, Bool.false_eq_true, Bool.not_true, Bool.not_false, List.any_cons, List.any_nil, Bool.or_false, Bool.false_or, Bool.true_or, optE]
  show wp (mkTup ((words.map PyData.str).map .d)) _ _ _
  rw [wp_tup (by decide)]
  exact ⟨_, rfl, rfl, trivial⟩
theorem wp_lt {S : List Cell} {Q : Bool → List Cell → Prop} {E : Exn → List Cell → Prop} (i j : Int) : wp (cmpM .lt (.d (.int i)) (.d (.int j))) S Q E = Q (decide (i < j)) S := noRfl rfl
theorem l_name (n : Nat) (x : PyData) (hx : Fits x) (S : List Cell) : cf (n + 2) "_law_is_name" [.d x] S = .ok (.d (.bool (isN x))) S := by
  apply wp_to
  unfold cf
  rw [wp_pure lk_l_name rfl rfl rfl, wp_run]
  simp only [f__law_is_name, b__law_is_name, bodyFuel, wp_seq, wp_seq0, x_asg, x_rtn, x_if, x_ex, x_sub, x_for, e_var, e_c, e_g, e_tup, e_lst, e_dnil, e_dnew, e_dct, e_bin, e_neg, e_cmp, e_chn, e_and, e_or, e_not, e_ite, e_idx, e_sl, e_rev, e_call, e_bi, e_rep, e_isi, e_me, e_comp, andE, orE, startE, wp_bnd, wp_ret, wp_some, wp_tru, wp_fail, wp_noex, wp_guard, isiM, wp_view_d, wp_view_k, wp_viewd_d, wp_viewI_d, wp_viewI_k, wp_viewc_d, l_cons, l_nil, itE, isT, if_pos, itemsD, asgT, testsE, wipeE, List.set_cons_zero, List.set_cons_succ, List.getElem?_cons_zero, List.getElem?_cons_succ, Option.join_some, List.map_cons, List.map_nil, List.cons_append, List.nil_append, List.length_cons, List.length_nil, List.replicate_succ, List.replicate_zero, constD, Option.map_some, mkRes, if_true, if_false, Bool.false_eq_true, Bool.not_true, Bool.not_false, List.any_cons, List.any_nil, Bool.or_false, Bool.false_or, Bool.true_or, optE]
  cases x with
  | str z =>
    have hz := hx z rfl
    have hl : z.cps.toList.length ≤ sizeLine := sz _ (by simpa using (show z.cps.size ≤ 10000 from hz))
    simp only [bodyFuel, wp_seq, wp_seq0, x_asg, x_rtn, x_if, x_ex, x_sub, x_for, e_var, e_c, e_g, e_tup, e_lst, e_dnil, e_dnew, e_dct, e_bin, e_neg, e_cmp, e_chn, e_and, e_or, e_not, e_ite, e_idx, e_sl, e_rev, e_call, e_bi, e_rep, e_isi, e_me, e_comp, andE, orE, startE, wp_bnd, wp_ret, wp_some, wp_tru, wp_fail, wp_noex, wp_guard, isiM, wp_view_d, wp_view_k, wp_viewd_d, wp_viewI_d, wp_viewI_k, wp_viewc_d, l_cons, l_nil, itE, isT, if_pos, itemsD, asgT, testsE, wipeE, List.set_cons_zero, List.set_cons_succ, List.getElem?_cons_zero, List.getElem?_cons_succ, Option.join_some, List.map_cons, List.map_nil, List.cons_append, List.nil_append, List.length_cons, List.length_nil, List.replicate_succ, List.replicate_zero, constD, Option.map_some, mkRes, if_true, if_false, Bool.false_eq_true, Bool.not_true, Bool.not_false, List.any_cons, List.any_nil, Bool.or_false, Bool.false_or, Bool.true_or, optE, len_str z hz, wp_lt, wp_ite, wp_in_d, true_implies, false_implies, not_true_eq_false, not_false_eq_true, true_and, and_true, forall_const]
    have no : ∀ b : Bool, nameD z = b → (∃ x, freeze [] (Val.d (PyData.bool b)) = some x ∧ Val.d x = Val.d (PyData.bool (isN (.str z)))) := fun b e => ⟨_, rfl, by rw [← e]; rfl⟩
    by_cases h1 : (0 : Int) < z.length
    · simp only [h1, decide_true, bodyFuel, wp_seq, wp_seq0, x_asg, x_rtn, x_if, x_ex, x_sub, x_for, e_var, e_c, e_g, e_tup, e_lst, e_dnil, e_dnew, e_dct, e_bin, e_neg, e_cmp, e_chn, e_and, e_or, e_not, e_ite, e_idx, e_sl, e_rev, e_call, e_bi, e_rep, e_isi, e_me, e_comp, andE, orE, startE, wp_bnd, wp_ret, wp_some, wp_tru, wp_fail, wp_noex, wp_guard, isiM, wp_view_d, wp_view_k, wp_viewd_d, wp_viewI_d, wp_viewI_k, wp_viewc_d, l_cons, l_nil, itE, isT, if_pos, itemsD, asgT, testsE, wipeE, List.set_cons_zero, List.set_cons_succ, List.getElem?_cons_zero, List.getElem?_cons_succ, Option.join_some, List.map_cons, List.map_nil, List.cons_append, List.nil_append, List.length_cons, List.length_nil, List.replicate_succ, List.replicate_zero, constD, Option.map_some, mkRes, if_true, if_false, Bool.false_eq_true, Bool.not_true, Bool.not_false, List.any_cons, List.any_nil, Bool.or_false, Bool.false_or, Bool.true_or, optE, len_str z hz, wp_lt, wp_ite, wp_in_d, true_implies, false_implies, not_true_eq_false, not_false_eq_true, true_and, and_true, forall_const]
      by_cases h2 : (z.length : Int) < 21
      · simp only [h2, decide_true, bodyFuel, wp_seq, wp_seq0, x_asg, x_rtn, x_if, x_ex, x_sub, x_for, e_var, e_c, e_g, e_tup, e_lst, e_dnil, e_dnew, e_dct, e_bin, e_neg, e_cmp, e_chn, e_and, e_or, e_not, e_ite, e_idx, e_sl, e_rev, e_call, e_bi, e_rep, e_isi, e_me, e_comp, andE, orE, startE, wp_bnd, wp_ret, wp_some, wp_tru, wp_fail, wp_noex, wp_guard, isiM, wp_view_d, wp_view_k, wp_viewd_d, wp_viewI_d, wp_viewI_k, wp_viewc_d, l_cons, l_nil, itE, isT, if_pos, itemsD, asgT, testsE, wipeE, List.set_cons_zero, List.set_cons_succ, List.getElem?_cons_zero, List.getElem?_cons_succ, Option.join_some, List.map_cons, List.map_nil, List.cons_append, List.nil_append, List.length_cons, List.length_nil, List.replicate_succ, List.replicate_zero, constD, Option.map_some, mkRes, if_true, if_false, Bool.false_eq_true, Bool.not_true, Bool.not_false, List.any_cons, List.any_nil, Bool.or_false, Bool.false_or, Bool.true_or, optE, len_str z hz, wp_lt, wp_ite, wp_in_d, true_implies, false_implies, not_true_eq_false, not_false_eq_true, true_and, and_true, forall_const]
        have hw := l_words n []
        unfold cf at hw
        rw [wp_of hw, wp_in_d]
        show wp (lift (anyEq (.str z) (words.map .str))) [] _ _
        rw [anyEq_strs, wp_some]
        cases h3 : words.any fun y => y == z with
        | true => exact ⟨fun _ => no false (by unfold nameD; rw [if_neg (by rw [h3]; simp)]), fun k => absurd rfl k⟩
        | false =>
          refine ⟨fun k => (by cases k), fun _ => ?_⟩
          obtain ⟨c, cs, hcs⟩ : ∃ c cs, z.cps.toList = c :: cs := by
            cases q : z.cps.toList with
            | nil =>
              have : z.cps.toList.length = 0 := by rw [q]; rfl
              have e : z.length = z.cps.toList.length := by show z.cps.size = _; simp
              omega
            | cons c cs => exact ⟨c, cs, rfl⟩
          refine wp_comp (fun v => match v with
            | .d (.str s) => (match s.cps.toList with
              | [c] => if (!decide (c ∈ signs.cps.toList)) = true then some v else none
              | _ => none)
            | _ => none) (fun v hv => ?_) ?_
          · simp only [List.mem_map] at hv
            obtain ⟨c, ⟨d, hd, rfl⟩, rfl⟩ := hv
            simp only [bodyFuel, wp_seq, wp_seq0, x_asg, x_rtn, x_if, x_ex, x_sub, x_for, e_var, e_c, e_g, e_tup, e_lst, e_dnil, e_dnew, e_dct, e_bin, e_neg, e_cmp, e_chn, e_and, e_or, e_not, e_ite, e_idx, e_sl, e_rev, e_call, e_bi, e_rep, e_isi, e_me, e_comp, andE, orE, startE, wp_bnd, wp_ret, wp_some, wp_tru, wp_fail, wp_noex, wp_guard, isiM, wp_view_d, wp_view_k, wp_viewd_d, wp_viewI_d, wp_viewI_k, wp_viewc_d, l_cons, l_nil, itE, isT, if_pos, itemsD, asgT, testsE, wipeE, List.set_cons_zero, List.set_cons_succ, List.getElem?_cons_zero, List.getElem?_cons_succ, Option.join_some, List.map_cons, List.map_nil, List.cons_append, List.nil_append, List.length_cons, List.length_nil, List.replicate_succ, List.replicate_zero, constD, Option.map_some, mkRes, if_true, if_false, Bool.false_eq_true, Bool.not_true, Bool.not_false, List.any_cons, List.any_nil, Bool.or_false, Bool.false_or, Bool.true_or, optE, wp_nin_d, inD_sign, wp_ite]
            refine ⟨fun h => ⟨fun _ => ⟨?_, trivial⟩, fun k => absurd trivial k⟩, fun h => ⟨fun k => k.elim, fun _ => ⟨?_, trivial⟩⟩⟩
            · show _ = if (!decide (d ∈ signs.cps.toList)) = true then some (Val.d (PyData.str (sign d))) else none
              rw [if_pos (show (!decide (d ∈ signs.cps.toList)) = true from h)]
            · show _ = if (!decide (d ∈ signs.cps.toList)) = true then some (Val.d (PyData.str (sign d))) else none
              rw [if_neg (show ¬ (!decide (d ∈ signs.cps.toList)) = true from h)]
          · rw [List.map_map, fm_opt]
            have e : (z.cps.toList.filterMap fun c => if (!decide (c ∈ signs.cps.toList)) = true then some (Val.d (.str (sign c))) else none) = (z.cps.toList.filter fun c => !decide (c ∈ signs.cps.toList)).map fun c => Val.d (.str (sign c)) := fm_filter _ _ _
            show wp (mkList false (z.cps.toList.filterMap fun c => if (!decide (c ∈ signs.cps.toList)) = true then some (Val.d (.str (sign c))) else none)) _ _ _
            rw [e, wp_list]
            refine ⟨Nat.le_trans (by rw [List.length_map]; exact List.length_filter_le _ _) hl, _, allD_map (fun c => .str (sign c)) _, ?_⟩
            rw [wp_lst0, wp_ne_d, eq_listN, wp_some]
            have key : ∀ l : List Nat, ((l.filter fun c => !decide (c ∈ signs.cps.toList)).map fun c => PyData.str (sign c)).isEmpty = l.all fun c => decide (c ∈ signs.cps.toList) := fun l => by
              induction l with
              | nil => rfl
              | cons x l ih =>
                rw [List.filter_cons, List.all_cons, ← ih]
                cases decide (x ∈ signs.cps.toList) <;> simp
            rw [key]
            have e0 : idxM (.d (.str z)) (.d (.int 0)) [] = .ok (.d (.str (sign c))) [] := by
              show lift ((if z.length ≤ sizeLine then (atI z.cps.toList 0).map fun c => PyData.str (sign c) else none).map Val.d) [] = _
              rw [if_pos (sz _ hz), hcs]
              have : atI (c :: cs) 0 = some c := by
                unfold atI ixN
                rw [if_pos (by decide), if_pos (by rw [List.length_cons]; omega)]
                rfl
              rw [this]; rfl
            have nm : nameD z = ((decide (c ∈ small.cps.toList)) && z.cps.toList.all fun c => decide (c ∈ signs.cps.toList)) := by
              unfold nameD
              rw [if_pos ⟨by omega, by omega, h3⟩, hcs]
            cases h4 : z.cps.toList.all fun c => decide (c ∈ signs.cps.toList) with
            | false => exact ⟨fun _ => no false (by rw [nm, h4, Bool.and_false]), fun k => absurd rfl k⟩
            | true =>
              refine ⟨fun k => (by cases k), fun _ => ?_⟩
              rw [wp_of e0, wp_nin_d, inD_sign, wp_some]
              refine no _ ?_
              rw [nm, h4, Bool.and_true]
              have hc : c ∈ signs.cps.toList := by
                rw [hcs] at h4
                simpa using (List.all_eq_true.mp h4 c (by simp))
              have tab : ∀ c ∈ signs.cps.toList, decide (c ∈ small.cps.toList) = !decide (c ∈ ("0123456789_" : Str).cps.toList) := by decide +kernel
              exact tab c hc
      · simp only [h2, decide_false, bodyFuel, wp_seq, wp_seq0, x_asg, x_rtn, x_if, x_ex, x_sub, x_for, e_var, e_c, e_g, e_tup, e_lst, e_dnil, e_dnew, e_dct, e_bin, e_neg, e_cmp, e_chn, e_and, e_or, e_not, e_ite, e_idx, e_sl, e_rev, e_call, e_bi, e_rep, e_isi, e_me, e_comp, andE, orE, startE, wp_bnd, wp_ret, wp_some, wp_tru, wp_fail, wp_noex, wp_guard, isiM, wp_view_d, wp_view_k, wp_viewd_d, wp_viewI_d, wp_viewI_k, wp_viewc_d, l_cons, l_nil, itE, isT, if_pos, itemsD, asgT, testsE, wipeE, List.set_cons_zero, List.set_cons_succ, List.getElem?_cons_zero, List.getElem?_cons_succ, Option.join_some, List.map_cons, List.map_nil, List.cons_append, List.nil_append, List.length_cons, List.length_nil, List.replicate_succ, List.replicate_zero, constD, Option.map_some, mkRes, if_true, if_false, Bool.false_eq_true, Bool.not_true, Bool.not_false, List.any_cons, List.any_nil, Bool.or_false, Bool.false_or, Bool.true_or, optE, len_str z hz, wp_lt, wp_ite, wp_in_d, true_implies, false_implies, not_true_eq_false, not_false_eq_true, true_and, and_true, forall_const]
        exact no false (by unfold nameD; rw [if_neg (by omega)])
    · simp only [h1, decide_false, bodyFuel, wp_seq, wp_seq0, x_asg, x_rtn, x_if, x_ex, x_sub, x_for, e_var, e_c, e_g, e_tup, e_lst, e_dnil, e_dnew, e_dct, e_bin, e_neg, e_cmp, e_chn, e_and, e_or, e_not, e_ite, e_idx, e_sl, e_rev, e_call, e_bi, e_rep, e_isi, e_me, e_comp, andE, orE, startE, wp_bnd, wp_ret, wp_some, wp_tru, wp_fail, wp_noex, wp_guard, isiM, wp_view_d, wp_view_k, wp_viewd_d, wp_viewI_d, wp_viewI_k, wp_viewc_d, l_cons, l_nil, itE, isT, if_pos, itemsD, asgT, testsE, wipeE, List.set_cons_zero, List.set_cons_succ, List.getElem?_cons_zero, List.getElem?_cons_succ, Option.join_some, List.map_cons, List.map_nil, List.cons_append, List.nil_append, List.length_cons, List.length_nil, List.replicate_succ, List.replicate_zero, constD, Option.map_some, mkRes, if_true, if_false, Bool.false_eq_true, Bool.not_true, Bool.not_false, List.any_cons, List.any_nil, Bool.or_false, Bool.false_or, Bool.true_or, optE, len_str z hz, wp_lt, wp_ite, wp_in_d, true_implies, false_implies, not_true_eq_false, not_false_eq_true, true_and, and_true, forall_const]
      exact no false (by unfold nameD; rw [if_neg (by omega)])
  | _ => simp only [bodyFuel, wp_seq, wp_seq0, x_asg, x_rtn, x_if, x_ex, x_sub, x_for, e_var, e_c, e_g, e_tup, e_lst, e_dnil, e_dnew, e_dct, e_bin, e_neg, e_cmp, e_chn, e_and, e_or, e_not, e_ite, e_idx, e_sl, e_rev, e_call, e_bi, e_rep, e_isi, e_me, e_comp, andE, orE, startE, wp_bnd, wp_ret, wp_some, wp_tru, wp_fail, wp_noex, wp_guard, isiM, wp_view_d, wp_view_k, wp_viewd_d, wp_viewI_d, wp_viewI_k, wp_viewc_d, l_cons, l_nil, itE, isT, if_pos, itemsD, asgT, testsE, wipeE, List.set_cons_zero, List.set_cons_succ, List.getElem?_cons_zero, List.getElem?_cons_succ, Option.join_some, List.map_cons, List.map_nil, List.cons_append, List.nil_append, List.length_cons, List.length_nil, List.replicate_succ, List.replicate_zero, constD, Option.map_some, mkRes, if_true, if_false, Bool.false_eq_true, Bool.not_true, Bool.not_false, List.any_cons, List.any_nil, Bool.or_false, Bool.false_or, Bool.true_or, optE]; exact ⟨_, rfl, rfl, trivial⟩
end L01
end
section
set_option Elab.async false
set_option linter.all false
set_option maxRecDepth 100000
set_option maxHeartbeats 0
namespace L01
open PySem PySem.Spec L2 Ev Lk01
theorem wp_lstD {xs : List PyData} {S : List Cell} {Q : Val → List Cell → Prop} {E : Exn → List Cell → Prop} (h : xs.length ≤ 10000) : wp (mkList false (xs.map .d)) S Q E = Q (.d (.list xs)) S := by
  rw [wp_list, allD_d]
  simp [sz _ h]
/-- a text of at most k signs -/
def TextIn (k : Nat) (v : Val) : Prop := ∃ z : Str, v = .d (.str z) ∧ z.length ≤ k
theorem len_app (a b : Str) : (a ++ b).length = a.length + b.length := by
  show (a.cps ++ b.cps).size = _
  rw [Array.size_append]; rfl
theorem len_join : ∀ ts : List Str, (Str.join "" ts).length = (ts.map (·.length)).sum
  | [] => rfl
  | [t] => by simp [Str.join]
  | t :: u :: r => by
    have ih := len_join (u :: r)
    show (t ++ "" ++ Str.join "" (u :: r)).length = _
    rw [len_app, len_app, ih]
    simp
    rfl
theorem strsL_map : ∀ ys : List Str, strsL (ys.map .str) = some ys
  | [] => rfl
  | y :: ys => by rw [List.map_cons]; unfold strsL; rw [strsL_map ys]; rfl
theorem sum_le {k : Nat} : ∀ {ys : List Str}, (∀ y ∈ ys, y.length ≤ k) → (ys.map (·.length)).sum ≤ ys.length * k
  | [], _ => by simp
  | y :: ys, h => by
    have h1 := h y (by simp)
    have h2 := sum_le (ys := ys) fun z hz => h z (by simp [hz])
    rw [List.map_cons, List.sum_cons, List.length_cons, Nat.add_mul]
    omega
theorem wp_join {k : Nat} {ys : List Str} {S : List Cell} {Q : Val → List Cell → Prop} {E : Exn → List Cell → Prop} (hk : ∀ y ∈ ys, y.length ≤ k) (hl : ys.length * k ≤ 10000) (q : ∀ z : Str, z.length ≤ ys.length * k → Q (.d (.str z)) S) :
    wp (meM .join (.d (.str "")) [.d (.list (ys.map .str))]) S Q E := by
  have hs := sum_le hk
  have e : meM .join (.d (.str "")) [.d (.list (ys.map .str))] S = .ok (.d (.str (Txt.join "" ys))) S := by
    show lift (((strsL (ys.map .str)).bind (joinD "")).map Val.d) S = _
    rw [strsL_map]
    show lift ((if (ys.map (·.length)).sum + ys.length * ("" : Str).length ≤ 16777216 then some (PyData.str (Txt.join "" ys)) else none).map Val.d) S = _
    have h0 : ("" : Str).length = 0 := by decide +kernel
    rw [if_pos (by rw [h0]; omega)]
    rfl
  rw [wp_of e]
  refine q _ ?_
  rw [TL.join_eq, len_join]
  exact hs
theorem texts_of {k : Nat} : ∀ {vs : List Val}, (∀ v ∈ vs, TextIn k v) → ∃ ys : List Str, vs = (ys.map PyData.str).map .d ∧ ∀ y ∈ ys, y.length ≤ k
  | [], _ => ⟨[], rfl, fun y h => by cases h⟩
  | v :: vs, h => by
    obtain ⟨z, rfl, hz⟩ := h v (by simp)
    obtain ⟨ys, rfl, hy⟩ := texts_of (vs := vs) fun u hu => h u (by simp [hu])
    refine ⟨z :: ys, rfl, fun y hy' => ?_⟩
    rcases List.mem_cons.mp hy' with rfl | h'
    · exact hz
    · exact hy y h'
end L01
namespace L01
open PySem PySem.Spec L2 Ev Lk01
theorem rangeL_len : ∀ (m : Nat) (lo : Int), (rangeL lo m).length = m
  | 0, _ => rfl
  | m + 1, lo => congrArg (· + 1) (rangeL_len m (lo + 1))
theorem wp_rng1 {m : Int} {S : List Cell} {Q : List Val → List Cell → Prop} {E : Exn → List Cell → Prop} (h : 0 ≤ m) (h2 : m < 2 ^ 62) : wp (rngM [.d (.int m)]) S Q E = Q (rangeL 0 m.toNat) S := by
  show wp (guardM (okR m) (Ev.ret (rangeL 0 m.toNat))) S Q E = _
  rw [wp_guard, wp_ret]
  have : okR m = true := by unfold okR; simp; omega
  simp [this]
/-- a pick that gives a text -/
theorem pickT (n : Nat) {b k : Nat} {S : List Cell} {ys : List Str} {E : Exn → List Cell → Prop} (h1 : ys ≠ []) (h2 : ys.length ≤ 10000) (hk : ∀ y ∈ ys, y.length ≤ k) (h : Deck κ (b + 1) S) : wp (cf (n + 2) "_law_pick" [.r 1, .d (.list (ys.map .str))]) S (fun v S' => TextIn k v ∧ Deck κ b S') E := by
  refine wp_mono (pick n (b := b) (xs := ys.map .str) (by simpa using h1) (by simpa using h2) h) (fun v S' q => ?_) fun _ _ h => h
  obtain ⟨⟨x, hx, rfl⟩, q⟩ := q
  obtain ⟨y, hy, rfl⟩ := List.mem_map.mp hx
  exact ⟨⟨y, rfl, hk y hy⟩, q⟩
theorem pickI (n : Nat) {b : Nat} {m : Int} {S : List Cell} {ys : List Int} {E : Exn → List Cell → Prop} (h1 : ys ≠ []) (h2 : ys.length ≤ 10000) (hk : ∀ y ∈ ys, 0 ≤ y ∧ y < m) (h : Deck κ (b + 1) S) : wp (cf (n + 2) "_law_pick" [.r 1, .d (.list (ys.map .int))]) S (fun v S' => IntIn m v ∧ Deck κ b S') E := by
  refine wp_mono (pick n (b := b) (xs := ys.map .int) (by simpa using h1) (by simpa using h2) h) (fun v S' q => ?_) fun _ _ h => h
  obtain ⟨⟨x, hx, rfl⟩, q⟩ := q
  obtain ⟨y, hy, rfl⟩ := List.mem_map.mp hx
  exact ⟨⟨y, rfl, hk y hy⟩, q⟩
theorem wp_tys {z : Str} {S : List Cell} {Q : Unit → List Cell → Prop} {E : Exn → List Cell → Prop} : wp (tyM .str (.d (.str z))) S Q E = Q () S := noRfl rfl
theorem lk_drawn_word : lookF L.Γ "_law_drawn_word" = some f__law_drawn_word := by kernel_rfl
theorem drawn_word (n : Nat) {b : Nat} {S : List Cell} {E : Exn → List Cell → Prop} (h : Deck κ (b + 12) S) : wp (cf (n + 3) "_law_drawn_word" [.r 1]) S (fun v S' => TextIn 11 v ∧ Deck κ b S') E := by
  refine call_deck lk_drawn_word rfl rfl h ?_
  simp only [f__law_drawn_word, b__law_drawn_word, bodyFuel, wp_seq, wp_seq0, x_asg, x_rtn, x_if, x_ex, x_sub, x_for, e_var, e_c, e_g, e_tup, e_lst, e_dnil, e_dnew, e_dct, e_bin, e_neg, e_cmp, e_chn, e_and, e_or, e_not, e_ite, e_idx, e_sl, e_rev, e_call, e_bi, e_rep, e_isi, e_me, e_comp, andE, orE, startE, wp_bnd, wp_ret, wp_some, wp_tru, wp_fail, wp_noex, wp_guard, isiM, wp_view_d, wp_view_k, wp_viewd_d, wp_viewI_d, wp_viewI_k, wp_viewc_d, l_cons, l_nil, itE, isT, if_pos, itemsD, asgT, testsE, wipeE, List.set_cons_zero, List.set_cons_succ, List.getElem?_cons_zero, List.getElem?_cons_succ, Option.join_some, List.map_cons, List.map_nil, List.cons_append, List.nil_append, List.length_cons, List.length_nil, List.replicate_succ, List.replicate_zero, constD, Option.map_some, mkRes, if_true, if_false, Bool.false_eq_true, Bool.not_true, Bool.not_false, List.any_cons, List.any_nil, Bool.or_false, Bool.false_or, Bool.true_or, optE]
  show wp (tyM .str (.d (.str ""))) S _ E
  rw [wp_tys]
  show wp (mkList false ((([1, 0, 2, 3, 6, 1, 2, 11] : List Int).map PyData.int).map Val.d)) S _ E
  rw [wp_lstD (by decide)]
  refine wp_mono (pickI n (b := b + 11) (m := 12) (by decide) (by decide) (by decide) h) (fun v S1 q => ?_) fun _ _ h => h
  obtain ⟨⟨m, rfl, m0, m1⟩, q⟩ := q
  rw [wp_rng1 m0 (by omega)]
  refine wp_compI (fun i S => Deck κ (b + i) S) (TextIn 1) (fun i v S2 hv hD => ?_) (by rw [rangeL_len]; exact q.less (by omega)) fun xs S3 px hl hD => ?_
  · simp only [bodyFuel, wp_seq, wp_seq0, x_asg, x_rtn, x_if, x_ex, x_sub, x_for, e_var, e_c, e_g, e_tup, e_lst, e_dnil, e_dnew, e_dct, e_bin, e_neg, e_cmp, e_chn, e_and, e_or, e_not, e_ite, e_idx, e_sl, e_rev, e_call, e_bi, e_rep, e_isi, e_me, e_comp, andE, orE, startE, wp_bnd, wp_ret, wp_some, wp_tru, wp_fail, wp_noex, wp_guard, isiM, wp_view_d, wp_view_k, wp_viewd_d, wp_viewI_d, wp_viewI_k, wp_viewc_d, l_cons, l_nil, itE, isT, if_pos, itemsD, asgT, testsE, wipeE, List.set_cons_zero, List.set_cons_succ, List.getElem?_cons_zero, List.getElem?_cons_succ, Option.join_some, List.map_cons, List.map_nil, List.cons_append, List.nil_append, List.length_cons, List.length_nil, List.replicate_succ, List.replicate_zero, constD, Option.map_some, mkRes, if_true, if_false, Bool.false_eq_true, Bool.not_true, Bool.not_false, List.any_cons, List.any_nil, Bool.or_false, Bool.false_or, Bool.true_or, optE]
    show wp (mkList false ((([("0" : Str), "1"] : List Str).map PyData.str).map Val.d)) S2 _ _
    rw [wp_lstD (by decide)]
    refine wp_mono (pickT n (b := b + i) (k := 1) (by decide) (by decide) (by decide +kernel) hD) (fun v S' q => ?_) fun _ _ h => h
    exact ⟨fun x hx => by cases hx; exact q.1, q.2⟩
  · obtain ⟨ys, rfl, hy⟩ := texts_of px
    rw [wp_lstD (by rw [List.length_map]; simp [rangeL_len] at hl; omega)]
    simp [rangeL_len] at hl
    refine wp_join hy (by omega) fun z hz => ⟨_, rfl, ⟨z, rfl, by omega⟩, hD⟩
end L01
end
section
set_option Elab.async false
set_option linter.all false
set_option maxRecDepth 100000
set_option maxHeartbeats 0
namespace L01
open PySem PySem.Spec L2 Ev Lk01
theorem TextIn.mono {j k : Nat} {v : Val} (h : TextIn j v) (l : j ≤ k) : TextIn k v := by
  obtain ⟨z, rfl, hz⟩ := h
  exact ⟨z, rfl, Nat.le_trans hz l⟩
theorem wp_part {i : Int} {S : List Cell} {Q : Int → List Cell → Prop} {E : Exn → List Cell → Prop} : wp (partI (.d (.int i))) S Q E = Q i S := noRfl rfl
theorem wp_eqI {i j : Int} {S : List Cell} {Q : Bool → List Cell → Prop} {E : Exn → List Cell → Prop} : wp (cmpM .eq (.d (.int i)) (.d (.int j))) S Q E = Q (i == j) S := noRfl rfl
theorem wp_gt {i j : Int} {S : List Cell} {Q : Bool → List Cell → Prop} {E : Exn → List Cell → Prop} : wp (cmpM .gt (.d (.int i)) (.d (.int j))) S Q E = Q (decide (j < i)) S := noRfl rfl
theorem wp_addS {a b : Str} {S : List Cell} {Q : Val → List Cell → Prop} {E : Exn → List Cell → Prop} (h : a.length + b.length ≤ 10000) : wp (binM false .add (.d (.str a)) (.d (.str b))) S Q E = Q (.d (.str (a ++ b))) S := by
  rw [wp_bin]
  show wp (lift (if a.length + b.length ≤ sizeLine then some (PyData.str (a ++ b)) else none)) _ _ _ = _
  rw [if_pos (sz _ h)]; rfl
theorem wp_cutS {z : Str} {lo hi : Option Int} {S : List Cell} {Q : PyData → List Cell → Prop} {E : Exn → List Cell → Prop} (h : z.length ≤ 10000) : wp (lift (cutD (.str z) lo hi)) S Q E = Q (.str (cutS z lo hi)) S := by
  show wp (lift (if z.length ≤ sizeLine then some (PyData.str (cutS z lo hi)) else none)) _ _ _ = _
  rw [if_pos (sz _ h)]; rfl
theorem fold_len (a : Array Nat) : ∀ (n : Nat) (acc : Array Nat), ((List.replicate n a).foldl (· ++ ·) acc).size = acc.size + n * a.size
  | 0, acc => by simp
  | n + 1, acc => by
    rw [List.replicate_succ, List.foldl_cons, fold_len a n, Array.size_append, Nat.add_mul]
    omega
theorem repS_len (z : Str) (k : Int) : (repS z k).length = k.toNat * z.length := by
  show ((List.replicate k.toNat z.cps).foldl (· ++ ·) #[]).size = _
  rw [fold_len]
  simp; rfl
theorem wp_mulS {z : Str} {k : Int} {S : List Cell} {Q : Val → List Cell → Prop} {E : Exn → List Cell → Prop} (h1 : 2 ≤ k) (h2 : k < 2 ^ 63) (h3 : z.length ≠ 0) (h4 : z.length * k.toNat ≤ 10000) : wp (binM false .mul (.d (.str z)) (.d (.int k))) S Q E = Q (.d (.str (repS z k))) S := by
  rw [wp_bin]
  show wp (lift (if 2 ≤ k ∧ k < 2 ^ 63 ∧ z.length ≠ 0 ∧ z.length * k.toNat ≤ sizeLine then some (PyData.str (repS z k)) else none)) _ _ _ = _
  rw [if_pos ⟨h1, h2, h3, sz _ h4⟩]; rfl
theorem wp_idxS {z : Str} {i : Int} {S : List Cell} {Q : Val → List Cell → Prop} {E : Exn → List Cell → Prop} (hz : z.length ≤ 10000) (i0 : 0 ≤ i) (i1 : i < z.length) (q : ∀ c, Q (.d (.str (sign c))) S) : wp (idxM (.d (.str z)) (.d (.int i))) S Q E := by
  have hl : i.toNat < z.cps.toList.length := by
    have : z.length = z.cps.toList.length := by show z.cps.size = _; simp
    omega
  have e0 : idxM (.d (.str z)) (.d (.int i)) S = .ok (.d (.str (sign z.cps.toList[i.toNat]))) S := by
    show lift ((if z.length ≤ sizeLine then (atI z.cps.toList i).map fun c => PyData.str (sign c) else none).map Val.d) S = _
    rw [if_pos (sz _ hz)]
    have : atI z.cps.toList i = some z.cps.toList[i.toNat] := by
      unfold atI ixN
      rw [if_pos i0, if_pos (by omega)]
      exact List.getElem?_eq_getElem hl
    rw [this]; rfl
  rw [wp_of e0]
  exact q _
theorem pickTup (n : Nat) {b k : Nat} {S : List Cell} {ys : List Str} {E : Exn → List Cell → Prop} (h1 : ys ≠ []) (h2 : ys.length ≤ 10000) (hk : ∀ y ∈ ys, y.length ≤ k) (h : Deck κ (b + 1) S) : wp (cf (n + 2) "_law_pick" [.r 1, .d (.tuple (ys.map .str))]) S (fun v S' => TextIn k v ∧ Deck κ b S') E := by
  refine call_deck lk_pick rfl rfl h ?_
  simp only [f__law_pick, b__law_pick, bodyFuel, wp_seq, wp_seq0, x_asg, x_rtn, x_if, x_ex, x_sub, x_for, e_var, e_c, e_g, e_tup, e_lst, e_dnil, e_dnew, e_dct, e_bin, e_neg, e_cmp, e_chn, e_and, e_or, e_not, e_ite, e_idx, e_sl, e_rev, e_call, e_bi, e_rep, e_isi, e_me, e_comp, andE, orE, startE, wp_bnd, wp_ret, wp_some, wp_tru, wp_fail, wp_noex, wp_guard, isiM, wp_view_d, wp_view_k, wp_viewd_d, wp_viewI_d, wp_viewI_k, wp_viewc_d, l_cons, l_nil, itE, isT, if_pos, itemsD, asgT, testsE, wipeE, List.set_cons_zero, List.set_cons_succ, List.getElem?_cons_zero, List.getElem?_cons_succ, Option.join_some, List.map_cons, List.map_nil, List.cons_append, List.nil_append, List.length_cons, List.length_nil, List.replicate_succ, List.replicate_zero, constD, Option.map_some, mkRes, if_true, if_false, Bool.false_eq_true, Bool.not_true, Bool.not_false, List.any_cons, List.any_nil, Bool.or_false, Bool.false_or, Bool.true_or, optE]
  rw [wp_bi1]
  show wp (lift (some (PyData.int (ys.map PyData.str).length))) _ _ _
  rw [wp_some]
  have hl : 1 ≤ (ys.map PyData.str).length := by rw [List.length_map]; exact List.length_pos_iff.mpr h1
  have h2' : (ys.map PyData.str).length ≤ 10000 := by rw [List.length_map]; exact h2
  refine wp_mono (draw n (by omega) (Int.lt_of_le_of_lt (show (((ys.map PyData.str).length : Nat) : Int) ≤ 10000 by omega) (by decide)) h) (fun v S' q => ?_) fun _ _ h => h
  obtain ⟨⟨i, rfl, i0, i1⟩, q⟩ := q
  have hi : i.toNat < (ys.map PyData.str).length := by omega
  have e : idxM (.d (.tuple (ys.map .str))) (.d (.int i)) S' = .ok (.d (ys.map PyData.str)[i.toNat]) S' := by
    show lift ((atI (ys.map PyData.str) i).map Val.d) S' = _
    have : atI (ys.map PyData.str) i = some (ys.map PyData.str)[i.toNat] := by
      unfold atI ixN
      rw [if_pos i0, if_pos i1]
      exact List.getElem?_eq_getElem hi
    rw [this]; rfl
  rw [wp_of e]
  refine ⟨_, rfl, ?_, q⟩
  obtain ⟨y, hy, e⟩ := List.mem_map.mp (List.getElem_mem hi)
  exact ⟨y, by rw [e], hk y hy⟩
end L01
namespace L01
open PySem PySem.Spec L2 Ev Lk01
theorem lk_string : lookF L.Γ "_law_string" = some f__law_string := by kernel_rfl
def signs38 : Str := "abcxyz_019qwertyuioplkjhgfdsmnv2345678"
theorem l_string (n : Nat) {b : Nat} {S : List Cell} {E : Exn → List Cell → Prop} (h : Deck κ (b + 30) S) : wp (cf (n + 4) "_law_string" [.r 1]) S (fun v S' => TextIn 2000 v ∧ Deck κ b S') E := by
  refine call_deck lk_string rfl rfl h ?_
  simp only [f__law_string, b__law_string, bodyFuel, wp_seq, wp_seq0, x_asg, x_rtn, x_if, x_ex, x_sub, x_for, e_var, e_c, e_g, e_tup, e_lst, e_dnil, e_dnew, e_dct, e_bin, e_neg, e_cmp, e_chn, e_and, e_or, e_not, e_ite, e_idx, e_sl, e_rev, e_call, e_bi, e_rep, e_isi, e_me, e_comp, andE, orE, startE, wp_bnd, wp_ret, wp_some, wp_tru, wp_fail, wp_noex, wp_guard, isiM, wp_view_d, wp_view_k, wp_viewd_d, wp_viewI_d, wp_viewI_k, wp_viewc_d, l_cons, l_nil, itE, isT, if_pos, itemsD, asgT, testsE, wipeE, List.set_cons_zero, List.set_cons_succ, List.getElem?_cons_zero, List.getElem?_cons_succ, Option.join_some, List.map_cons, List.map_nil, List.cons_append, List.nil_append, List.length_cons, List.length_nil, List.replicate_succ, List.replicate_zero, constD, Option.map_some, mkRes, if_true, if_false, Bool.false_eq_true, Bool.not_true, Bool.not_false, List.any_cons, List.any_nil, Bool.or_false, Bool.false_or, Bool.true_or, optE, wp_ite]
  refine wp_mono (draw (n + 2) (b := b + 29) (many := 8) (by decide) (by decide) h) (fun v S1 q => ?_) fun _ _ h => h
  obtain ⟨⟨w, rfl, w0, w1⟩, q⟩ := q
  rw [wp_eqI]
  refine ⟨fun _ => ?_, fun _ => ?_⟩
  · refine wp_mono (drawn_word n (b := b + 17) q) (fun v S2 q => ?_) fun _ _ h => h
    obtain ⟨⟨z, rfl, hz⟩, q⟩ := q
    rw [wp_mulS (by decide) (by decide) (by decide +kernel) (by decide +kernel), wp_mulS (by decide) (by decide) (by decide +kernel) (by decide +kernel)]
    show wp (mkList false ((([("" : Str), "", "2", "O", " ", "\n", repS "01" 20, repS "10" 700] : List Str).map PyData.str).map Val.d)) S2 _ E
    rw [wp_lstD (by decide)]
    have hk : ∀ y ∈ ([("" : Str), "", "2", "O", " ", "\n", repS "01" 20, repS "10" 700] : List Str), y.length ≤ 1400 := by
      intro y hy
      simp only [List.mem_cons, List.mem_nil_iff, or_false] at hy
      rcases hy with rfl | rfl | rfl | rfl | rfl | rfl | rfl | rfl
      case _ => decide +kernel
      case _ => decide +kernel
      case _ => decide +kernel
      case _ => decide +kernel
      case _ => decide +kernel
      case _ => decide +kernel
      case _ => rw [repS_len]; decide +kernel
      case _ => rw [repS_len]; decide +kernel
    refine wp_mono (pickT (n + 1) (b := b + 16) (k := 1400) (by simp) (by simp) hk q) (fun v S3 q => ?_) fun _ _ h => h
    obtain ⟨⟨y, rfl, hy⟩, q⟩ := q
    rw [wp_addS (by omega)]
    exact ⟨_, rfl, ⟨_, rfl, by rw [len_app]; omega⟩, q.less (by omega)⟩
  · rw [wp_eqI]
    have wl : ∀ y ∈ words, y.length ≤ 5 := by decide +kernel
    refine ⟨fun _ => ?_, fun _ => ?_⟩
    · have hw := l_words (n + 2) S1
      unfold cf at hw
      rw [wp_of hw]
      refine wp_mono (pickTup (n + 1) (b := b + 28) (k := 5) (by decide) (by decide) wl q) (fun v S3 q => ?_) fun _ _ h => h
      exact ⟨_, rfl, q.1.mono (by decide), q.2.less (by omega)⟩
    · rw [wp_eqI]
      refine ⟨fun _ => ?_, fun _ => ?_⟩
      · have hw := l_words (n + 2) S1
        unfold cf at hw
        rw [wp_of hw]
        refine wp_mono (pickTup (n + 1) (b := b + 28) (k := 5) (by decide) (by decide) wl q) (fun v S3 q => ?_) fun _ _ h => h
        obtain ⟨⟨z, rfl, hz⟩, q⟩ := q
        show wp (mkList false ((([("_" : Str), "0", "s", " ", "A"] : List Str).map PyData.str).map Val.d)) S3 _ E
        rw [wp_lstD (by decide)]
        refine wp_mono (pickT (n + 1) (b := b + 27) (k := 1) (by decide) (by decide) (by decide +kernel) q) (fun v S4 q => ?_) fun _ _ h => h
        obtain ⟨⟨y, rfl, hy⟩, q⟩ := q
        rw [wp_addS (by omega)]
        exact ⟨_, rfl, ⟨_, rfl, by rw [len_app]; omega⟩, q.less (by omega)⟩
      · show wp (tyM .str (.d (.str ""))) S1 _ E
        rw [wp_tys]
        show wp (mkList false ((([1, 2, 5, 19, 20, 21, 0, 3] : List Int).map PyData.int).map Val.d)) S1 _ E
        rw [wp_lstD (by decide)]
        refine wp_mono (pickI (n + 1) (b := b + 28) (m := 22) (by decide) (by decide) (by decide) q) (fun v S2 q => ?_) fun _ _ h => h
        obtain ⟨⟨m, rfl, m0, m1⟩, q⟩ := q
        rw [wp_rng1 m0 (by omega)]
        refine wp_compI (fun i S => Deck κ (b + 7 + i) S) (TextIn 1) (fun i v S3 hv hD => ?_) (by rw [rangeL_len]; exact q.less (by omega)) fun xs S4 px hl hD => ?_
        · simp only [bodyFuel, wp_seq, wp_seq0, x_asg, x_rtn, x_if, x_ex, x_sub, x_for, e_var, e_c, e_g, e_tup, e_lst, e_dnil, e_dnew, e_dct, e_bin, e_neg, e_cmp, e_chn, e_and, e_or, e_not, e_ite, e_idx, e_sl, e_rev, e_call, e_bi, e_rep, e_isi, e_me, e_comp, andE, orE, startE, wp_bnd, wp_ret, wp_some, wp_tru, wp_fail, wp_noex, wp_guard, isiM, wp_view_d, wp_view_k, wp_viewd_d, wp_viewI_d, wp_viewI_k, wp_viewc_d, l_cons, l_nil, itE, isT, if_pos, itemsD, asgT, testsE, wipeE, List.set_cons_zero, List.set_cons_succ, List.getElem?_cons_zero, List.getElem?_cons_succ, Option.join_some, List.map_cons, List.map_nil, List.cons_append, List.nil_append, List.length_cons, List.length_nil, List.replicate_succ, List.replicate_zero, constD, Option.map_some, mkRes, if_true, if_false, Bool.false_eq_true, Bool.not_true, Bool.not_false, List.any_cons, List.any_nil, Bool.or_false, Bool.false_or, Bool.true_or, optE]
          refine wp_mono (draw (n + 2) (b := b + 7 + i) (many := 38) (by decide) (by decide) hD) (fun v S' q => ?_) fun _ _ h => h
          obtain ⟨⟨j, rfl, j0, j1⟩, q⟩ := q
          refine wp_idxS (z := signs38) (by decide +kernel) j0 ?_ fun c => ⟨fun x hx => by cases hx; exact ⟨_, rfl, Nat.le_refl 1⟩, q⟩
          have : (signs38.length : Int) = 38 := by decide +kernel
          omega
        · obtain ⟨ys, rfl, hy⟩ := texts_of px
          simp [rangeL_len] at hl
          rw [wp_lstD (by rw [List.length_map]; omega)]
          refine wp_join hy (by omega) fun z hz => ?_
          rw [wp_lt]
          refine ⟨fun _ => ⟨_, rfl, ⟨z, rfl, by omega⟩, hD.less (by omega)⟩, fun _ => ?_⟩
          have hz' : z.length ≤ 21 := by omega
          rw [len_str z (by omega), wp_add]
          refine wp_mono (draw (n + 2) (b := b + 6) (by omega) (Int.lt_of_le_of_lt (show (z.length : Int) + 1 ≤ 100 by omega) (by decide)) (hD.less (by omega))) (fun v S5 q => ?_) fun _ _ h => h
          obtain ⟨⟨a, rfl, a0, a1⟩, q⟩ := q
          simp only [bodyFuel, wp_seq, wp_seq0, x_asg, x_rtn, x_if, x_ex, x_sub, x_for, e_var, e_c, e_g, e_tup, e_lst, e_dnil, e_dnew, e_dct, e_bin, e_neg, e_cmp, e_chn, e_and, e_or, e_not, e_ite, e_idx, e_sl, e_rev, e_call, e_bi, e_rep, e_isi, e_me, e_comp, andE, orE, startE, wp_bnd, wp_ret, wp_some, wp_tru, wp_fail, wp_noex, wp_guard, isiM, wp_view_d, wp_view_k, wp_viewd_d, wp_viewI_d, wp_viewI_k, wp_viewc_d, l_cons, l_nil, itE, isT, if_pos, itemsD, asgT, testsE, wipeE, List.set_cons_zero, List.set_cons_succ, List.getElem?_cons_zero, List.getElem?_cons_succ, Option.join_some, List.map_cons, List.map_nil, List.cons_append, List.nil_append, List.length_cons, List.length_nil, List.replicate_succ, List.replicate_zero, constD, Option.map_some, mkRes, if_true, if_false, Bool.false_eq_true, Bool.not_true, Bool.not_false, List.any_cons, List.any_nil, Bool.or_false, Bool.false_or, Bool.true_or, optE, wp_part]
          rw [wp_cutS (by omega)]
          show wp (mkList false ((([("A" : Str), "-", " ", "\"", "\n", ".", "_", "1", "z", "~", "Z", "0"] : List Str).map PyData.str).map Val.d)) S5 _ E
          rw [wp_lstD (by decide)]
          refine wp_mono (pickT (n + 1) (b := b + 5) (k := 1) (by decide) (by decide) (by decide +kernel) q) (fun v S6 q => ?_) fun _ _ h => h
          obtain ⟨⟨y, rfl, hy⟩, q⟩ := q
          have c1 := cutS_length z none (some a)
          rw [wp_addS (by omega)]
          refine wp_mono (draw (n + 2) (b := b + 4) (many := 2) (by decide) (by decide) q) (fun v S7 q => ?_) fun _ _ h => h
          obtain ⟨⟨j, rfl, j0, j1⟩, q⟩ := q
          rw [wp_add, wp_part]
          have c2 := cutS_length z (some (a + j)) none
          rw [wp_cutS (by omega), wp_addS (by rw [len_app]; omega)]
          exact ⟨_, rfl, ⟨_, rfl, by rw [len_app, len_app]; omega⟩, q.less (by omega)⟩
end L01
end
section
set_option Elab.async false
set_option linter.all false
set_option maxRecDepth 100000
set_option maxHeartbeats 0
namespace L01
open PySem PySem.Spec L2 Ev Lk01
/-- data whose text, if it is one, is short -/
def DataIn (v : Val) : Prop := ∃ x, v = .d x ∧ Fits x
theorem datas_of : ∀ {vs : List Val}, (∀ v ∈ vs, DataIn v) → ∃ xs : List PyData, vs = xs.map .d
  | [], _ => ⟨[], rfl⟩
  | v :: vs, h => by
    obtain ⟨x, rfl, _⟩ := h v (by simp)
    obtain ⟨xs, rfl⟩ := datas_of (vs := vs) fun u hu => h u (by simp [hu])
    exact ⟨x :: xs, rfl⟩
theorem TextIn.data {k : Nat} {v : Val} (h : TextIn k v) (l : k ≤ 10000) : DataIn v := by
  obtain ⟨z, rfl, hz⟩ := h
  exact ⟨_, rfl, fun y e => by cases e; omega⟩
theorem pickD (n : Nat) {b : Nat} {S : List Cell} {xs : List PyData} {E : Exn → List Cell → Prop} (h1 : xs ≠ []) (h2 : xs.length ≤ 10000) (hk : ∀ x ∈ xs, Fits x) (h : Deck κ (b + 1) S) : wp (cf (n + 2) "_law_pick" [.r 1, .d (.list xs)]) S (fun v S' => DataIn v ∧ Deck κ b S') E := by
  refine wp_mono (pick n (b := b) h1 h2 h) (fun v S' q => ?_) fun _ _ h => h
  obtain ⟨⟨x, hx, rfl⟩, q⟩ := q
  exact ⟨⟨x, rfl, hk x hx⟩, q⟩
theorem fits_int (i : Int) : Fits (.int i) := fun z e => by cases e
theorem fits_bool (i : Bool) : Fits (.bool i) := fun z e => by cases e
theorem fits_none : Fits .none := fun z e => by cases e
theorem fits_list (xs : List PyData) : Fits (.list xs) := fun z e => by cases e
theorem fits_tuple (xs : List PyData) : Fits (.tuple xs) := fun z e => by cases e
theorem fits_dict (xs : List (PyData × PyData)) : Fits (.dict xs) := fun z e => by cases e
theorem wp_negI {i : Int} {S : List Cell} {Q : Val → List Cell → Prop} {E : Exn → List Cell → Prop} : wp (negM (.d (.int i))) S Q E = Q (.d (.int (-i))) S := noRfl rfl
theorem lk_any : lookF L.Γ "_law_any" = some f__law_any := by kernel_rfl
def anyTail : List T := [.if_ (.cmp .eq (.var 2) (.c (.int 5))) [.rtn (some (.var 3))] [], .rtn (some (.ite (.cmp .eq (.var 2) (.c (.int 6))) (.dct false [((.c (.str ("key" : PySem.Str))), (.var 3)), ((.c (.int 1)), (.bi false .len [(.var 3)]))]) (.bi false .tuple_ [(.var 3)])))]
theorem p_nil {f : X → M Val} : prsE f [] = ret [] := noRfl rfl
theorem p_cons {f : X → M Val} (p : X × X) (r : List (X × X)) : prsE f (p :: r) = bnd (f p.1) fun x => bnd (f p.2) fun v => bnd (keyM x) fun k => bnd (prsE f r) fun kvs => ret ((k, v) :: kvs) := noRfl rfl
theorem wp_keyS {z : Str} {S : List Cell} {Q : Key → List Cell → Prop} {E : Exn → List Cell → Prop} : wp (keyM (.d (.str z))) S Q E = Q (.inr z) S := noRfl rfl
theorem wp_keyI {z : Int} {S : List Cell} {Q : Key → List Cell → Prop} {E : Exn → List Cell → Prop} : wp (keyM (.d (.int z))) S Q E = Q (.inl z) S := noRfl rfl
theorem wp_dct2 {z : Str} {i : Int} {x y : PyData} {S : List Cell} {Q : Val → List Cell → Prop} {E : Exn → List Cell → Prop} : wp (mkDict false [(.inr z, .d x), (.inl i, .d y)]) S Q E = Q (.d (.dict [(.str z, x), (.int i, y)])) S := by
  have e : mkDict false [(.inr z, .d x), (.inl i, .d y)] S = .ok (.d (.dict [(.str z, x), (.int i, y)])) S := by
    simp [mkDict, mergeD, storeK, dkD, keyD, lift]
  rw [wp_of e]
theorem wp_dct1 {z : Str} {x : PyData} {S : List Cell} {Q : Val → List Cell → Prop} {E : Exn → List Cell → Prop} : wp (mkDict false [(.inr z, .d x)]) S Q E = Q (.d (.dict [(.str z, x)])) S := by
  have e : mkDict false [(.inr z, .d x)] S = .ok (.d (.dict [(.str z, x)])) S := by
    simp [mkDict, mergeD, storeK, dkD, keyD, lift]
  rw [wp_of e]
theorem any_tail {C : Cfg} {b : Nat} {S : List Cell} {E : Exn → List Cell → Prop} {o0 o1 o4 : Option Val} {w : Int} {xs : List PyData} (hx : xs.length ≤ 3) (h : Deck κ b S) : wp (seqL (fun s ρ => ex C 60 s ρ) anyTail [o0, o1, some (.d (.int w)), some (.d (.list xs)), o4]) S (fun f S' => ∃ v, f = .rt v ∧ DataIn v ∧ Deck κ b S') E := by
  simp only [anyTail, bodyFuel, wp_seq, wp_seq0, x_asg, x_rtn, x_if, x_ex, x_sub, x_for, e_var, e_c, e_g, e_tup, e_lst, e_dnil, e_dnew, e_dct, e_bin, e_neg, e_cmp, e_chn, e_and, e_or, e_not, e_ite, e_idx, e_sl, e_rev, e_call, e_bi, e_rep, e_isi, e_me, e_comp, andE, orE, startE, wp_bnd, wp_ret, wp_some, wp_tru, wp_fail, wp_noex, wp_guard, isiM, wp_view_d, wp_view_k, wp_viewd_d, wp_viewI_d, wp_viewI_k, wp_viewc_d, l_cons, l_nil, itE, isT, if_pos, itemsD, asgT, testsE, wipeE, List.set_cons_zero, List.set_cons_succ, List.getElem?_cons_zero, List.getElem?_cons_succ, Option.join_some, List.map_cons, List.map_nil, List.cons_append, List.nil_append, List.length_cons, List.length_nil, List.replicate_succ, List.replicate_zero, constD, Option.map_some, mkRes, if_true, if_false, Bool.false_eq_true, Bool.not_true, Bool.not_false, List.any_cons, List.any_nil, Bool.or_false, Bool.false_or, Bool.true_or, optE, wp_ite, p_nil, p_cons, wp_keyS, wp_keyI]
  rw [wp_eqI]
  refine ⟨fun _ => ⟨_, rfl, ⟨_, rfl, fits_list _⟩, h⟩, fun _ => ?_⟩
  rw [wp_eqI]
  refine ⟨fun _ => ?_, fun _ => ?_⟩
  · rw [wp_bi1]
    show wp (lift (some (PyData.int xs.length))) _ _ _
    rw [wp_some, wp_dct2]
    exact ⟨_, rfl, ⟨_, rfl, fits_dict _⟩, h⟩
  · rw [wp_bi1]
    show wp (lift (some (PyData.tuple xs))) _ _ _
    rw [wp_some]
    exact ⟨_, rfl, ⟨_, rfl, fits_tuple _⟩, h⟩
theorem l_any : ∀ (d n b : Nat) {S : List Cell} {E : Exn → List Cell → Prop}, Deck κ (b + 8 * 4 ^ d) S → wp (cf (n + d + 3) "_law_any" [.r 1, .d (.int d)]) S (fun v S' => DataIn v ∧ Deck κ b S') E := by
  intro d
  induction d with
  | zero =>
    intro n b S E h
    refine call_deck lk_any rfl rfl h ?_
    unfold f__law_any b__law_any
    show wp (seqL _ (_ :: _ :: _ :: _ :: _ :: anyTail) _) S _ E
    have tl := fun {S : List Cell} {o0 o1 o4 : Option Val} {w : Int} {xs : List PyData} (hx : xs.length ≤ 3) (h : Deck κ b S) => any_tail (C := ⟨callF L.Γ L.G (n + 0 + 2), kwF L.Γ, L.G⟩) (E := E) (o0 := o0) (o1 := o1) (o4 := o4) (w := w) hx h
    generalize anyTail = tail at tl ⊢
    simp only [bodyFuel, wp_seq, wp_seq0, x_asg, x_rtn, x_if, x_ex, x_sub, x_for, e_var, e_c, e_g, e_tup, e_lst, e_dnil, e_dnew, e_dct, e_bin, e_neg, e_cmp, e_chn, e_and, e_or, e_not, e_ite, e_idx, e_sl, e_rev, e_call, e_bi, e_rep, e_isi, e_me, e_comp, andE, orE, startE, wp_bnd, wp_ret, wp_some, wp_tru, wp_fail, wp_noex, wp_guard, isiM, wp_view_d, wp_view_k, wp_viewd_d, wp_viewI_d, wp_viewI_k, wp_viewc_d, l_cons, l_nil, itE, isT, if_pos, itemsD, asgT, testsE, wipeE, List.set_cons_zero, List.set_cons_succ, List.getElem?_cons_zero, List.getElem?_cons_succ, Option.join_some, List.map_cons, List.map_nil, List.cons_append, List.nil_append, List.length_cons, List.length_nil, List.replicate_succ, List.replicate_zero, constD, Option.map_some, mkRes, if_true, if_false, Bool.false_eq_true, Bool.not_true, Bool.not_false, List.any_cons, List.any_nil, Bool.or_false, Bool.false_or, Bool.true_or, optE, wp_ite, wp_pow, wp_negI]
    refine wp_mono (draw (n + 1) (b := b + 7) (many := 10) (by decide) (by decide) h) (fun v S1 q => ?_) fun _ _ h => h
    obtain ⟨⟨w, rfl, w0, w1⟩, q⟩ := q
    rw [wp_lt]
    refine ⟨fun _ => ?_, fun _ => ?_⟩
    · refine ⟨by decide, by decide, ?_⟩
      show wp (mkList false ((([0, 1, -1, 7, 10 ^ 29, -(10 ^ 20), 2, 5] : List Int).map PyData.int).map Val.d)) S1 _ E
      rw [wp_lstD (by decide)]
      refine wp_mono (pickD n (b := b + 6) (by simp) (by simp) (fun x hx => by obtain ⟨i, _, rfl⟩ := List.mem_map.mp hx; exact fits_int i) q) (fun v S2 q => ?_) fun _ _ h => h
      exact ⟨_, rfl, q.1, q.2.less (by omega)⟩
    · rw [wp_lt]
      refine ⟨fun _ => ?_, fun _ => ?_⟩
      · show wp (mkList false ((([("" : Str), "a", "01", "x", "fun", "name", "x\ny", "~"] : List Str).map PyData.str).map Val.d)) S1 _ E
        rw [wp_lstD (by decide)]
        refine wp_mono (pickT n (b := b + 6) (k := 4) (by decide) (by decide) (by decide +kernel) q) (fun v S2 q => ?_) fun _ _ h => h
        exact ⟨_, rfl, q.1.data (by decide), q.2.less (by omega)⟩
      · rw [wp_eqI]
        refine ⟨fun _ => ?_, fun _ => ?_⟩
        · show wp (mkList false (([.bool true, .bool false, .none] : List PyData).map Val.d)) S1 _ E
          rw [wp_lstD (by decide)]
          refine wp_mono (pickD n (b := b + 6) (by simp) (by simp) (fun x hx => ?_) q) (fun v S2 q => ?_) fun _ _ h => h
          · simp only [List.mem_cons, List.mem_nil_iff, or_false] at hx
            rcases hx with rfl | rfl | rfl
            · exact fits_bool _
            · exact fits_bool _
            · exact fits_none
          · exact ⟨_, rfl, q.1, q.2.less (by omega)⟩
        · rw [wp_gt]
          refine ⟨fun k => absurd k (by decide), fun _ => ?_⟩
          rw [wp_lst0]
          exact tl (xs := []) (by decide) (q.less (by omega))
  | succ d ih =>
    intro n b S E h
    refine call_deck lk_any rfl rfl h ?_
    unfold f__law_any b__law_any
    show wp (seqL _ (_ :: _ :: _ :: _ :: _ :: anyTail) _) S _ E
    have tl := fun {S : List Cell} {o0 o1 o4 : Option Val} {w : Int} {xs : List PyData} (hx : xs.length ≤ 3) (h : Deck κ b S) => any_tail (C := ⟨callF L.Γ L.G (n + (d + 1) + 2), kwF L.Γ, L.G⟩) (E := E) (o0 := o0) (o1 := o1) (o4 := o4) (w := w) hx h
    generalize anyTail = tail at tl ⊢
    have h4 : 8 * 4 ^ (d + 1) = 4 * (8 * 4 ^ d) := by rw [Nat.pow_succ]; omega
    have h1 : 1 ≤ 4 ^ d := Nat.pos_of_ne_zero (by simp)
    rw [h4] at h
    generalize hB : 8 * 4 ^ d = B at h ih
    have hB8 : 8 ≤ B := by omega
    simp only [bodyFuel, wp_seq, wp_seq0, x_asg, x_rtn, x_if, x_ex, x_sub, x_for, e_var, e_c, e_g, e_tup, e_lst, e_dnil, e_dnew, e_dct, e_bin, e_neg, e_cmp, e_chn, e_and, e_or, e_not, e_ite, e_idx, e_sl, e_rev, e_call, e_bi, e_rep, e_isi, e_me, e_comp, andE, orE, startE, wp_bnd, wp_ret, wp_some, wp_tru, wp_fail, wp_noex, wp_guard, isiM, wp_view_d, wp_view_k, wp_viewd_d, wp_viewI_d, wp_viewI_k, wp_viewc_d, l_cons, l_nil, itE, isT, if_pos, itemsD, asgT, testsE, wipeE, List.set_cons_zero, List.set_cons_succ, List.getElem?_cons_zero, List.getElem?_cons_succ, Option.join_some, List.map_cons, List.map_nil, List.cons_append, List.nil_append, List.length_cons, List.length_nil, List.replicate_succ, List.replicate_zero, constD, Option.map_some, mkRes, if_true, if_false, Bool.false_eq_true, Bool.not_true, Bool.not_false, List.any_cons, List.any_nil, Bool.or_false, Bool.false_or, Bool.true_or, optE, wp_ite, wp_pow, wp_negI]
    refine wp_mono (draw (n + d + 2) (b := b + 3 * B + 7) (many := 10) (by decide) (by decide) (h.less (by omega))) (fun v S1 q => ?_) fun _ _ h => h
    obtain ⟨⟨w, rfl, w0, w1⟩, q⟩ := q
    rw [wp_lt]
    refine ⟨fun _ => ?_, fun _ => ?_⟩
    · refine ⟨by decide, by decide, ?_⟩
      show wp (mkList false ((([0, 1, -1, 7, 10 ^ 29, -(10 ^ 20), 2, 5] : List Int).map PyData.int).map Val.d)) S1 _ E
      rw [wp_lstD (by decide)]
      refine wp_mono (pickD (n + d + 1) (b := b + 6) (by simp) (by simp) (fun x hx => by obtain ⟨i, _, rfl⟩ := List.mem_map.mp hx; exact fits_int i) (q.less (by omega))) (fun v S2 q => ?_) fun _ _ h => h
      exact ⟨_, rfl, q.1, q.2.less (by omega)⟩
    · rw [wp_lt]
      refine ⟨fun _ => ?_, fun _ => ?_⟩
      · show wp (mkList false ((([("" : Str), "a", "01", "x", "fun", "name", "x\ny", "~"] : List Str).map PyData.str).map Val.d)) S1 _ E
        rw [wp_lstD (by decide)]
        refine wp_mono (pickT (n + d + 1) (b := b + 6) (k := 4) (by decide) (by decide) (by decide +kernel) (q.less (by omega))) (fun v S2 q => ?_) fun _ _ h => h
        exact ⟨_, rfl, q.1.data (by decide), q.2.less (by omega)⟩
      · rw [wp_eqI]
        refine ⟨fun _ => ?_, fun _ => ?_⟩
        · show wp (mkList false (([.bool true, .bool false, .none] : List PyData).map Val.d)) S1 _ E
          rw [wp_lstD (by decide)]
          refine wp_mono (pickD (n + d + 1) (b := b + 6) (by simp) (by simp) (fun x hx => ?_) (q.less (by omega))) (fun v S2 q => ?_) fun _ _ h => h
          · simp only [List.mem_cons, List.mem_nil_iff, or_false] at hx
            rcases hx with rfl | rfl | rfl
            · exact fits_bool _
            · exact fits_bool _
            · exact fits_none
          · exact ⟨_, rfl, q.1, q.2.less (by omega)⟩
        · rw [wp_gt]
          refine ⟨fun _ => ?_, fun k => absurd (by simp) k⟩
          refine wp_mono (draw (n + d + 2) (b := b + 3 * B + 6) (many := 4) (by decide) (by decide) q) (fun v S2 q => ?_) fun _ _ h => h
          obtain ⟨⟨m, rfl, m0, m1⟩, q⟩ := q
          rw [wp_rng1 m0 (by omega)]
          refine wp_compI (fun i S => Deck κ (b + i * B) S) DataIn (fun i v S3 hv hD => ?_) ?_ fun xs S4 px hl hD => ?_
          · simp only [bodyFuel, wp_seq, wp_seq0, x_asg, x_rtn, x_if, x_ex, x_sub, x_for, e_var, e_c, e_g, e_tup, e_lst, e_dnil, e_dnew, e_dct, e_bin, e_neg, e_cmp, e_chn, e_and, e_or, e_not, e_ite, e_idx, e_sl, e_rev, e_call, e_bi, e_rep, e_isi, e_me, e_comp, andE, orE, startE, wp_bnd, wp_ret, wp_some, wp_tru, wp_fail, wp_noex, wp_guard, isiM, wp_view_d, wp_view_k, wp_viewd_d, wp_viewI_d, wp_viewI_k, wp_viewc_d, l_cons, l_nil, itE, isT, if_pos, itemsD, asgT, testsE, wipeE, List.set_cons_zero, List.set_cons_succ, List.getElem?_cons_zero, List.getElem?_cons_succ, Option.join_some, List.map_cons, List.map_nil, List.cons_append, List.nil_append, List.length_cons, List.length_nil, List.replicate_succ, List.replicate_zero, constD, Option.map_some, mkRes, if_true, if_false, Bool.false_eq_true, Bool.not_true, Bool.not_false, List.any_cons, List.any_nil, Bool.or_false, Bool.false_or, Bool.true_or, optE]
            rw [wp_sub, show (((d + 1 : Nat) : Int) - 1) = (d : Int) by omega]
            refine wp_mono (ih n (b + i * B) (by rw [Nat.add_mul, Nat.one_mul, ← Nat.add_assoc] at hD; exact hD)) (fun v S' q => ?_) fun _ _ h => h
            exact ⟨fun x hx => by cases hx; exact q.1, q.2⟩
          · rw [rangeL_len]
            refine q.less ?_
            have : m.toNat * B ≤ 3 * B := Nat.mul_le_mul_right _ (by omega)
            omega
          · obtain ⟨ys, rfl⟩ := datas_of px
            simp [rangeL_len] at hl
            rw [wp_lstD (by omega)]
            exact tl (by omega) (hD.less (by omega))
end L01
namespace L01
open PySem PySem.Spec L2 Ev Lk01
theorem wp_forI {body : Val → Ev.Env → M Fl} (I : Nat → Ev.Env → List Cell → Prop) {E : Exn → List Cell → Prop} {Q : Fl → List Cell → Prop} : ∀ {vs : List Val} {ρ : Ev.Env} {S : List Cell}, (∀ i v ρ S, v ∈ vs → I (i + 1) ρ S → wp (body v ρ) S (fun f S' => ∃ ρ', f = .nx ρ' ∧ I i ρ' S') E) → I vs.length ρ S → (∀ ρ S, I 0 ρ S → Q (.nx ρ) S) → wp (forL body vs ρ) S Q E
  | [], ρ, S, _, h0, q => q ρ S h0
  | v :: vs, ρ, S, hb, h0, q => by
    show wp (bnd (body v ρ) _) S Q E
    rw [wp_bnd]
    refine wp_mono (hb vs.length v ρ S (by simp) h0) (fun f S1 h1 => ?_) fun _ _ h => h
    obtain ⟨ρ', rfl, h1⟩ := h1
    exact wp_forI I (fun i u ρ S hu => hb i u ρ S (by simp [hu])) h1 q
theorem lk_deck : lookF L.Γ "_law_deck" = some f__law_deck := by kernel_rfl
theorem cutL_map {α β : Type} (f : α → β) (xs : List α) (lo hi : Option Int) : cutL (xs.map f) lo hi = (cutL xs lo hi).map f := by
  unfold cutL
  rw [List.length_map, List.map_take, List.map_drop]
theorem cutL_len {α : Type} (xs : List α) (lo hi : Option Int) : (cutL xs lo hi).length ≤ xs.length := by
  unfold cutL
  rw [List.length_take, List.length_drop]
  omega
theorem wp_viewc_kl {xs : List PyData} {S : List Cell} {Q : PyData → List Cell → Prop} {E : Exn → List Cell → Prop} : wp (viewc (.k (.list xs))) S Q E = Q (.list xs) S := noRfl rfl
theorem wp_dctD {κ : DeckK} {a b c : Val} {S : List Cell} {Q : Val → List Cell → Prop} {E : Exn → List Cell → Prop} : wp (mkDict true [(.inr κ.kl, a), (.inr κ.km, b), (.inr κ.kd, c)]) S Q E = Q (.r S.length) (S ++ [.dk [(.inr κ.kl, a), (.inr κ.km, b), (.inr κ.kd, c)]]) := by
  have e : mkDict true [(.inr κ.kl, a), (.inr κ.km, b), (.inr κ.kd, c)] S = .ok (.r S.length) (S ++ [.dk [(.inr κ.kl, a), (.inr κ.km, b), (.inr κ.kd, c)]]) := by
    simp [mkDict, mergeD, storeK, κ.ne1, κ.ne2, κ.ne3, Ev.alloc]
  rw [wp_of e]
theorem l_deck (n : Nat) {ns : List Int} {sd : Int} {E : Exn → List Cell → Prop} (h : ns.length ≤ 63) (s0 : 0 ≤ sd) (s1 : sd < 2 ^ 40) : wp (cf (n + 1) "_law_deck" [.k (.list (ns.map .int)), .d (.int sd)]) [] (fun v S' => v = .r 1 ∧ Deck κ (2 ^ 90) S') E := by
  have hc := cutL_len ns none (some 63)
  unfold cf
  rw [wp_shared lk_deck rfl rfl, wp_run]
  simp only [f__law_deck, b__law_deck, bodyFuel, wp_seq, wp_seq0, x_asg, x_rtn, x_if, x_ex, x_sub, x_for, e_var, e_c, e_g, e_tup, e_lst, e_dnil, e_dnew, e_dct, e_bin, e_neg, e_cmp, e_chn, e_and, e_or, e_not, e_ite, e_idx, e_sl, e_rev, e_call, e_bi, e_rep, e_isi, e_me, e_comp, andE, orE, startE, wp_bnd, wp_ret, wp_some, wp_tru, wp_fail, wp_noex, wp_guard, isiM, wp_view_d, wp_view_k, wp_viewd_d, wp_viewI_d, wp_viewI_k, wp_viewc_d, l_cons, l_nil, itE, isT, if_pos, itemsD, asgT, testsE, wipeE, List.set_cons_zero, List.set_cons_succ, List.getElem?_cons_zero, List.getElem?_cons_succ, Option.join_some, List.map_cons, List.map_nil, List.cons_append, List.nil_append, List.length_cons, List.length_nil, List.replicate_succ, List.replicate_zero, constD, Option.map_some, mkRes, if_true, if_false, Bool.false_eq_true, Bool.not_true, Bool.not_false, List.any_cons, List.any_nil, Bool.or_false, Bool.false_or, Bool.true_or, optE, wp_part, wp_viewc_kl]
  show wp (lift (some (PyData.list (cutL (ns.map .int) none (some 63))))) _ _ _
  rw [wp_some, cutL_map]
  generalize cutL ns none (some 63) = ms at hc
  simp only [bodyFuel, wp_seq, wp_seq0, x_asg, x_rtn, x_if, x_ex, x_sub, x_for, e_var, e_c, e_g, e_tup, e_lst, e_dnil, e_dnew, e_dct, e_bin, e_neg, e_cmp, e_chn, e_and, e_or, e_not, e_ite, e_idx, e_sl, e_rev, e_call, e_bi, e_rep, e_isi, e_me, e_comp, andE, orE, startE, wp_bnd, wp_ret, wp_some, wp_tru, wp_fail, wp_noex, wp_guard, isiM, wp_view_d, wp_view_k, wp_viewd_d, wp_viewI_d, wp_viewI_k, wp_viewc_d, l_cons, l_nil, itE, isT, if_pos, itemsD, asgT, testsE, wipeE, List.set_cons_zero, List.set_cons_succ, List.getElem?_cons_zero, List.getElem?_cons_succ, Option.join_some, List.map_cons, List.map_nil, List.cons_append, List.nil_append, List.length_cons, List.length_nil, List.replicate_succ, List.replicate_zero, constD, Option.map_some, mkRes, if_true, if_false, Bool.false_eq_true, Bool.not_true, Bool.not_false, List.any_cons, List.any_nil, Bool.or_false, Bool.false_or, Bool.true_or, optE]
  refine wp_forI (fun i ρ S => S = [] ∧ ∃ m o, ρ = [some (.k (.list (ns.map .int))), some (.d (.int sd)), some (.d (.int m)), o] ∧ 0 ≤ m ∧ m < 2 ^ 40) (fun i v ρ S hv hI => ?_) ⟨rfl, sd, none, rfl, s0, s1⟩ fun ρ S hI => ?_
  · obtain ⟨rfl, m, o, rfl, m0, m1⟩ := hI
    obtain ⟨x, hx, rfl⟩ := List.mem_map.mp hv
    obtain ⟨c, _, rfl⟩ := List.mem_map.mp hx
    simp only [bodyFuel, wp_seq, wp_seq0, x_asg, x_rtn, x_if, x_ex, x_sub, x_for, e_var, e_c, e_g, e_tup, e_lst, e_dnil, e_dnew, e_dct, e_bin, e_neg, e_cmp, e_chn, e_and, e_or, e_not, e_ite, e_idx, e_sl, e_rev, e_call, e_bi, e_rep, e_isi, e_me, e_comp, andE, orE, startE, wp_bnd, wp_ret, wp_some, wp_tru, wp_fail, wp_noex, wp_guard, isiM, wp_view_d, wp_view_k, wp_viewd_d, wp_viewI_d, wp_viewI_k, wp_viewc_d, l_cons, l_nil, itE, isT, if_pos, itemsD, asgT, testsE, wipeE, List.set_cons_zero, List.set_cons_succ, List.getElem?_cons_zero, List.getElem?_cons_succ, Option.join_some, List.map_cons, List.map_nil, List.cons_append, List.nil_append, List.length_cons, List.length_nil, List.replicate_succ, List.replicate_zero, constD, Option.map_some, mkRes, if_true, if_false, Bool.false_eq_true, Bool.not_true, Bool.not_false, List.any_cons, List.any_nil, Bool.or_false, Bool.false_or, Bool.true_or, optE, wp_int, wp_mod, wp_add, wp_mul]
    have e1 : m.natAbs.log2 ≤ 1000 := log_small m0 m1 (by decide)
    refine ⟨?_, by decide, by decide, _, rfl, trivial, _, _, rfl, Int.emod_nonneg _ (by decide), Int.lt_trans (Int.emod_lt_of_pos _ (by decide)) (by decide)⟩
    have : (43331 : Int).natAbs.log2 ≤ 1000 := by decide +kernel
    omega
  · obtain ⟨rfl, m, o, rfl, m0, m1⟩ := hI
    simp only [bodyFuel, wp_seq, wp_seq0, x_asg, x_rtn, x_if, x_ex, x_sub, x_for, e_var, e_c, e_g, e_tup, e_lst, e_dnil, e_dnew, e_dct, e_bin, e_neg, e_cmp, e_chn, e_and, e_or, e_not, e_ite, e_idx, e_sl, e_rev, e_call, e_bi, e_rep, e_isi, e_me, e_comp, andE, orE, startE, wp_bnd, wp_ret, wp_some, wp_tru, wp_fail, wp_noex, wp_guard, isiM, wp_view_d, wp_view_k, wp_viewd_d, wp_viewI_d, wp_viewI_k, wp_viewc_d, l_cons, l_nil, itE, isT, if_pos, itemsD, asgT, testsE, wipeE, List.set_cons_zero, List.set_cons_succ, List.getElem?_cons_zero, List.getElem?_cons_succ, Option.join_some, List.map_cons, List.map_nil, List.cons_append, List.nil_append, List.length_cons, List.length_nil, List.replicate_succ, List.replicate_zero, constD, Option.map_some, mkRes, if_true, if_false, Bool.false_eq_true, Bool.not_true, Bool.not_false, List.any_cons, List.any_nil, Bool.or_false, Bool.false_or, Bool.true_or, optE, wp_part, wp_viewc_kl, p_nil, p_cons, wp_keyS]
    show wp (lift (some (PyData.list (cutL (ns.map .int) none (some 63))))) _ _ _
    rw [wp_some, cutL_map, wp_bi1]
    have hd := cutL_len ns none (some 63)
    generalize cutL ns none (some 63) = qs at hd
    show wp (lift (some (PyData.list (qs.map .int)))) _ _ _
    rw [wp_some, wp_viewc_d]
    show wp (lift (some (PyData.list (qs.map .int).reverse))) _ _ _
    rw [wp_some]
    show wp (Ev.alloc (.lst ((qs.map PyData.int).reverse.map .d))) _ _ _
    rw [wp_alloc]
    show wp (mkDict true [(.inr κ.kl, .r 0), (.inr κ.km, .d (.int m)), (.inr κ.kd, .d (.int 0))]) [.lst ((qs.map PyData.int).reverse.map .d)] _ _
    rw [wp_dctD]
    refine ⟨rfl, qs.reverse, m, 0, ?_, by rw [List.length_reverse]; omega, m0, m1, by decide, by decide⟩
    have et : ∀ S, trim 0 (.r 1) S = S := fun S => by simp [trim, below]
    show trim 0 (.r 1) _ = _
    rw [et]
    unfold deckS
    rw [List.map_reverse, List.map_reverse, List.map_map]
    rfl
end L01
end
section
set_option Elab.async false
set_option linter.all false
set_option maxRecDepth 100000
set_option maxHeartbeats 0
namespace L01
open PySem PySem.Spec L2 Ev Lk01
theorem e_callk {C : Cfg} {n : Nat} {ρ : Ev.Env} (f : Str) (es : List X) (ks : List (Str × X)) : ev C (n + 1) (.callk f es ks) ρ = bnd (mapE (fun e => ev C n e ρ) es) fun vs => bnd (mapE (fun e => ev C n e ρ) (ks.map (·.2))) fun ws => (match C.kw f (ks.map (·.1)) es.length with
      | some is => (match kwOrder es.length ks.length is vs ws with
        | some us => C.call f us
        | none => fail)
      | none => fail) := noRfl rfl
theorem kw1 : kwF L.Γ "is_word" ["thing"] 0 = some [0] := by kernel_rfl
theorem kw2 : kwF L.Γ "is_name" ["thing"] 0 = some [0] := by kernel_rfl
theorem kwo (v : Val) : kwOrder 0 (0 + 1) [0] [] [v] = some [v] := noRfl rfl
theorem wp_tup2 {x y : PyData} {S : List Cell} {Q : Val → List Cell → Prop} {E : Exn → List Cell → Prop} : wp (mkTup [.d x, .d y]) S Q E = Q (.d (.tuple [x, y])) S := wp_tup (xs := [x, y]) (by simp)
theorem wp_tup1 {x : PyData} {S : List Cell} {Q : Val → List Cell → Prop} {E : Exn → List Cell → Prop} : wp (mkTup [.d x]) S Q E = Q (.d (.tuple [x])) S := wp_tup (xs := [x]) (by simp)
theorem wp_lst1 {x : PyData} {S : List Cell} {Q : Val → List Cell → Prop} {E : Exn → List Cell → Prop} : wp (mkList false [.d x]) S Q E = Q (.d (.list [x])) S := wp_lstD (xs := [x]) (by simp)
def shownB (a b : Bool) : Str := PyData.shown (.tuple [.bool a, .bool b])
theorem wp_rep2 {a b : Bool} {S : List Cell} {Q : Val → List Cell → Prop} {E : Exn → List Cell → Prop} : wp (reprM (.d (.tuple [.bool a, .bool b]))) S Q E = Q (.d (.str (shownB a b))) S := by
  show wp (bnd (viewd (.d (.tuple [.bool a, .bool b]))) fun x => bnd (lift (reprD x)) fun y => Ev.ret (.d y)) S Q E = _
  rw [wp_bnd, wp_viewd_d, wp_bnd]
  unfold reprD
  rw [if_pos]
  · rfl
  · cases a <;> cases b <;> exact ⟨by decide +kernel, by decide +kernel, sz _ (by decide +kernel)⟩
theorem wp_neS {z : Str} {S : List Cell} {Q : Bool → List Cell → Prop} {E : Exn → List Cell → Prop} : wp (cmpM .ne (.d (.str z)) (.d (.str z))) S Q E = Q false S := by
  rw [wp_ne_d, eq_str, wp_some]
  simp
theorem lk_law : lookF L.Γ "law" = some f_law := by kernel_rfl
theorem wp_ex {α : Type} {m : M α} {S : List Cell} {a : α} (h : wp m S (fun b _ => b = a) fun _ _ => False) : ∃ T, m S = .ok a T := by
  unfold wp at h
  cases e : m S with
  | ok b T => rw [e] at h; exact ⟨T, by rw [h]⟩
  | ex x T => rw [e] at h; exact h.elim
  | no => rw [e] at h; exact h.elim
/-- the last part of a turn -/
def turnTail : List T := [.asg (.var 4) (.tup [(.call ("_law_is_word" : PySem.Str) [(.var 3)]), (.call ("_law_is_name" : PySem.Str) [(.var 3)])]), .if_ (.or_ [(.cmp .ne (.rep (.tup [(.call ("is_word" : PySem.Str) [(.var 3)]), (.call ("is_name" : PySem.Str) [(.var 3)])])) (.rep (.var 4))), (.cmp .ne (.rep (.tup [(.callk ("is_word" : PySem.Str) [] [(("thing" : PySem.Str), (.var 3))]), (.callk ("is_name" : PySem.Str) [] [(("thing" : PySem.Str), (.var 3))])])) (.rep (.var 4)))]) [.rtn (some (.c (.bool false)))] []]
theorem turn_tail {n b : Nat} {S : List Cell} {E : Exn → List Cell → Prop} {o0 o1 o2 o4 : Option Val} {x : PyData} (hx : Fits x) (h : Deck κ b S) : wp (seqL (fun s ρ => ex ⟨callF L.Γ L.G (n + 2), kwF L.Γ, L.G⟩ 59 s ρ) turnTail [o0, o1, o2, some (.d x), o4]) S (fun f S' => (∃ o3 o4, f = .nx [o0, o1, o2, o3, o4]) ∧ Deck κ b S') E := by
  simp only [turnTail, bodyFuel, wp_seq, wp_seq0, x_asg, x_rtn, x_if, x_ex, x_sub, x_for, e_var, e_c, e_g, e_tup, e_lst, e_dnil, e_dnew, e_dct, e_bin, e_neg, e_cmp, e_chn, e_and, e_or, e_not, e_ite, e_idx, e_sl, e_rev, e_call, e_bi, e_rep, e_isi, e_me, e_comp, andE, orE, startE, wp_bnd, wp_ret, wp_some, wp_tru, wp_fail, wp_noex, wp_guard, isiM, wp_view_d, wp_view_k, wp_viewd_d, wp_viewI_d, wp_viewI_k, wp_viewc_d, l_cons, l_nil, itE, isT, if_pos, itemsD, asgT, testsE, wipeE, List.set_cons_zero, List.set_cons_succ, List.getElem?_cons_zero, List.getElem?_cons_succ, Option.join_some, List.map_cons, List.map_nil, List.cons_append, List.nil_append, List.length_cons, List.length_nil, List.replicate_succ, List.replicate_zero, constD, Option.map_some, mkRes, if_true, if_false, Bool.false_eq_true, Bool.not_true, Bool.not_false, List.any_cons, List.any_nil, Bool.or_false, Bool.false_or, Bool.true_or, optE, wp_ite, e_callk, kw1, kw2, kwo]
  have a1 := l_word (n + 1) x hx S
  have a2 := l_name n x hx S
  have a3 := c_word n x hx S
  have a4 := c_name n x hx S
  unfold cf at a1 a2 a3 a4
  rw [wp_of a1, wp_of a2, wp_tup2, wp_of a3, wp_of a4, wp_tup2, wp_rep2, wp_rep2, wp_neS]
  simp only [bodyFuel, wp_seq, wp_seq0, x_asg, x_rtn, x_if, x_ex, x_sub, x_for, e_var, e_c, e_g, e_tup, e_lst, e_dnil, e_dnew, e_dct, e_bin, e_neg, e_cmp, e_chn, e_and, e_or, e_not, e_ite, e_idx, e_sl, e_rev, e_call, e_bi, e_rep, e_isi, e_me, e_comp, andE, orE, startE, wp_bnd, wp_ret, wp_some, wp_tru, wp_fail, wp_noex, wp_guard, isiM, wp_view_d, wp_view_k, wp_viewd_d, wp_viewI_d, wp_viewI_k, wp_viewc_d, l_cons, l_nil, itE, isT, if_pos, itemsD, asgT, testsE, wipeE, List.set_cons_zero, List.set_cons_succ, List.getElem?_cons_zero, List.getElem?_cons_succ, Option.join_some, List.map_cons, List.map_nil, List.cons_append, List.nil_append, List.length_cons, List.length_nil, List.replicate_succ, List.replicate_zero, constD, Option.map_some, mkRes, if_true, if_false, Bool.false_eq_true, Bool.not_true, Bool.not_false, List.any_cons, List.any_nil, Bool.or_false, Bool.false_or, Bool.true_or, optE, wp_ite, e_callk, kw1, kw2, kwo]
  refine ⟨fun k => k.elim, fun _ => ?_⟩
  rw [wp_of a3, wp_of a4, wp_tup2, wp_rep2, wp_rep2, wp_neS]
  simp only [bodyFuel, wp_seq, wp_seq0, x_asg, x_rtn, x_if, x_ex, x_sub, x_for, e_var, e_c, e_g, e_tup, e_lst, e_dnil, e_dnew, e_dct, e_bin, e_neg, e_cmp, e_chn, e_and, e_or, e_not, e_ite, e_idx, e_sl, e_rev, e_call, e_bi, e_rep, e_isi, e_me, e_comp, andE, orE, startE, wp_bnd, wp_ret, wp_some, wp_tru, wp_fail, wp_noex, wp_guard, isiM, wp_view_d, wp_view_k, wp_viewd_d, wp_viewI_d, wp_viewI_k, wp_viewc_d, l_cons, l_nil, itE, isT, if_pos, itemsD, asgT, testsE, wipeE, List.set_cons_zero, List.set_cons_succ, List.getElem?_cons_zero, List.getElem?_cons_succ, Option.join_some, List.map_cons, List.map_nil, List.cons_append, List.nil_append, List.length_cons, List.length_nil, List.replicate_succ, List.replicate_zero, constD, Option.map_some, mkRes, if_true, if_false, Bool.false_eq_true, Bool.not_true, Bool.not_false, List.any_cons, List.any_nil, Bool.or_false, Bool.false_or, Bool.true_or, optE, wp_ite]
  exact ⟨fun k => k.elim, fun _ => ⟨⟨_, _, rfl⟩, h⟩⟩
end L01
namespace L01
open PySem PySem.Spec L2 Ev Lk01
def turnMid : T := .if_ (.cmp .eq (.call ("_law_draw" : PySem.Str) [(.var 1), (.c (.int 12))]) (.c (.int 0))) [.asg (.var 3) (.call ("_law_pick" : PySem.Str) [(.var 1), (.lst false [(.lst false [(.var 3)]), (.tup [(.var 3)]), (.ite (.isi [.str] (.var 3)) (.dct false [((.var 3), (.c (.int 1)))]) .dnil), (.c .none)])])] []
theorem turn_mid {n b : Nat} {S : List Cell} {E : Exn → List Cell → Prop} {o0 o2 o4 : Option Val} {v : Val} (hv : DataIn v) (h : Deck κ (b + 2) S) : wp (ex ⟨callF L.Γ L.G (n + 2), kwF L.Γ, L.G⟩ 59 turnMid [o0, some (.r 1), o2, some v, o4]) S (fun f S' => ∃ w, f = .nx [o0, some (.r 1), o2, some w, o4] ∧ DataIn w ∧ Deck κ b S') E := by
  obtain ⟨x, rfl, hx⟩ := hv
  simp only [turnMid, bodyFuel, wp_seq, wp_seq0, x_asg, x_rtn, x_if, x_ex, x_sub, x_for, e_var, e_c, e_g, e_tup, e_lst, e_dnil, e_dnew, e_dct, e_bin, e_neg, e_cmp, e_chn, e_and, e_or, e_not, e_ite, e_idx, e_sl, e_rev, e_call, e_bi, e_rep, e_isi, e_me, e_comp, andE, orE, startE, wp_bnd, wp_ret, wp_some, wp_tru, wp_fail, wp_noex, wp_guard, isiM, wp_view_d, wp_view_k, wp_viewd_d, wp_viewI_d, wp_viewI_k, wp_viewc_d, l_cons, l_nil, itE, isT, if_pos, itemsD, asgT, testsE, wipeE, List.set_cons_zero, List.set_cons_succ, List.getElem?_cons_zero, List.getElem?_cons_succ, Option.join_some, List.map_cons, List.map_nil, List.cons_append, List.nil_append, List.length_cons, List.length_nil, List.replicate_succ, List.replicate_zero, constD, Option.map_some, mkRes, if_true, if_false, Bool.false_eq_true, Bool.not_true, Bool.not_false, List.any_cons, List.any_nil, Bool.or_false, Bool.false_or, Bool.true_or, optE, wp_ite, p_nil, p_cons, e_dnil]
  refine wp_mono (draw (n + 1) (b := b + 1) (many := 12) (by decide) (by decide) h) (fun v S1 q => ?_) fun _ _ h => h
  obtain ⟨⟨w, rfl, w0, w1⟩, q⟩ := q
  rw [wp_eqI]
  refine ⟨fun _ => ?_, fun _ => ⟨_, rfl, ⟨x, rfl, hx⟩, q.less (by omega)⟩⟩
  rw [wp_lst1, wp_tup1]
  have go : ∀ ys, wp (mkList false [.d (.list [x]), .d (.tuple [x]), .d (.dict ys), .d .none]) S1 (fun a S' => wp (callF L.Γ L.G (n + 2) "_law_pick" [.r 1, a]) S' (fun a S' => ∃ w, Fl.nx [o0, some (.r 1), o2, some a, o4] = .nx [o0, some (.r 1), o2, some w, o4] ∧ DataIn w ∧ Deck κ b S') E) E := fun ys => by
    show wp (mkList false (([.list [x], .tuple [x], .dict ys, .none] : List PyData).map Val.d)) S1 _ E
    rw [wp_lstD (by simp)]
    refine wp_mono (pickD n (b := b) (by simp) (by simp) (fun y hy => ?_) q) (fun v S2 q => ?_) fun _ _ h => h
    · simp only [List.mem_cons, List.mem_nil_iff, or_false] at hy
      rcases hy with rfl | rfl | rfl | rfl
      · exact fits_list _
      · exact fits_tuple _
      · exact fits_dict _
      · exact fits_none
    · exact ⟨_, rfl, q.1, q.2⟩
  cases x with
  | str z =>
    simp only [bodyFuel, wp_seq, wp_seq0, x_asg, x_rtn, x_if, x_ex, x_sub, x_for, e_var, e_c, e_g, e_tup, e_lst, e_dnil, e_dnew, e_dct, e_bin, e_neg, e_cmp, e_chn, e_and, e_or, e_not, e_ite, e_idx, e_sl, e_rev, e_call, e_bi, e_rep, e_isi, e_me, e_comp, andE, orE, startE, wp_bnd, wp_ret, wp_some, wp_tru, wp_fail, wp_noex, wp_guard, isiM, wp_view_d, wp_view_k, wp_viewd_d, wp_viewI_d, wp_viewI_k, wp_viewc_d, l_cons, l_nil, itE, isT, if_pos, itemsD, asgT, testsE, wipeE, List.set_cons_zero, List.set_cons_succ, List.getElem?_cons_zero, List.getElem?_cons_succ, Option.join_some, List.map_cons, List.map_nil, List.cons_append, List.nil_append, List.length_cons, List.length_nil, List.replicate_succ, List.replicate_zero, constD, Option.map_some, mkRes, if_true, if_false, Bool.false_eq_true, Bool.not_true, Bool.not_false, List.any_cons, List.any_nil, Bool.or_false, Bool.false_or, Bool.true_or, optE]
    refine ⟨fun _ => ?_, fun k => absurd trivial k⟩
    rw [wp_keyS, wp_dct1]
    exact go _
  | _ => first
    | (simp only [bodyFuel, wp_seq, wp_seq0, x_asg, x_rtn, x_if, x_ex, x_sub, x_for, e_var, e_c, e_g, e_tup, e_lst, e_dnil, e_dnew, e_dct, e_bin, e_neg, e_cmp, e_chn, e_and, e_or, e_not, e_ite, e_idx, e_sl, e_rev, e_call, e_bi, e_rep, e_isi, e_me, e_comp, andE, orE, startE, wp_bnd, wp_ret, wp_some, wp_tru, wp_fail, wp_noex, wp_guard, isiM, wp_view_d, wp_view_k, wp_viewd_d, wp_viewI_d, wp_viewI_k, wp_viewc_d, l_cons, l_nil, itE, isT, if_pos, itemsD, asgT, testsE, wipeE, List.set_cons_zero, List.set_cons_succ, List.getElem?_cons_zero, List.getElem?_cons_succ, Option.join_some, List.map_cons, List.map_nil, List.cons_append, List.nil_append, List.length_cons, List.length_nil, List.replicate_succ, List.replicate_zero, constD, Option.map_some, mkRes, if_true, if_false, Bool.false_eq_true, Bool.not_true, Bool.not_false, List.any_cons, List.any_nil, Bool.or_false, Bool.false_or, Bool.true_or, optE]; exact ⟨fun k => k.elim, fun _ => go _⟩)
theorem law_ok {ns : List Int} (h : ns.length ≤ 63) : ∃ S, callF L.Γ L.G 100 "law" [.k (.list (ns.map .int))] [] = .ok (.d (.bool true)) S := by
  apply wp_ex
  rw [wp_shared lk_law rfl rfl, wp_run]
  unfold f_law b_law
  show wp (seqL _ [_, .for_ _ _ (_ :: turnMid :: turnTail), _] _) [] _ _
  have tl := @turn_tail 97
  have md := @turn_mid 97
  generalize turnTail = tail at tl ⊢
  generalize turnMid = mid at md ⊢
  simp only [bodyFuel, wp_seq, wp_seq0, x_asg, x_rtn, x_if, x_ex, x_sub, x_for, e_var, e_c, e_g, e_tup, e_lst, e_dnil, e_dnew, e_dct, e_bin, e_neg, e_cmp, e_chn, e_and, e_or, e_not, e_ite, e_idx, e_sl, e_rev, e_call, e_bi, e_rep, e_isi, e_me, e_comp, andE, orE, startE, wp_bnd, wp_ret, wp_some, wp_tru, wp_fail, wp_noex, wp_guard, isiM, wp_view_d, wp_view_k, wp_viewd_d, wp_viewI_d, wp_viewI_k, wp_viewc_d, l_cons, l_nil, itE, isT, if_pos, itemsD, asgT, testsE, wipeE, List.set_cons_zero, List.set_cons_succ, List.getElem?_cons_zero, List.getElem?_cons_succ, Option.join_some, List.map_cons, List.map_nil, List.cons_append, List.nil_append, List.length_cons, List.length_nil, List.replicate_succ, List.replicate_zero, constD, Option.map_some, mkRes, if_true, if_false, Bool.false_eq_true, Bool.not_true, Bool.not_false, List.any_cons, List.any_nil, Bool.or_false, Bool.false_or, Bool.true_or, optE, wp_ite]
  refine wp_mono (l_deck 98 h (by decide) (by decide)) (fun v S1 q => ?_) fun _ _ h => h
  obtain ⟨rfl, q⟩ := q
  rw [wp_rng1 (by decide) (by decide)]
  refine wp_forI (fun i ρ S => (∃ o2 o3 o4, ρ = [some (.k (.list (ns.map .int))), some (.r 1), o2, o3, o4]) ∧ Deck κ (i * 1000) S) (fun i v ρ S hv hI => ?_) ⟨⟨_, _, _, rfl⟩, q.less (by decide)⟩ fun ρ S hI => ?_
  · obtain ⟨⟨o2, o3, o4, rfl⟩, hD⟩ := hI
    rw [Nat.add_mul] at hD
    simp only [bodyFuel, wp_seq, wp_seq0, x_asg, x_rtn, x_if, x_ex, x_sub, x_for, e_var, e_c, e_g, e_tup, e_lst, e_dnil, e_dnew, e_dct, e_bin, e_neg, e_cmp, e_chn, e_and, e_or, e_not, e_ite, e_idx, e_sl, e_rev, e_call, e_bi, e_rep, e_isi, e_me, e_comp, andE, orE, startE, wp_bnd, wp_ret, wp_some, wp_tru, wp_fail, wp_noex, wp_guard, isiM, wp_view_d, wp_view_k, wp_viewd_d, wp_viewI_d, wp_viewI_k, wp_viewc_d, l_cons, l_nil, itE, isT, if_pos, itemsD, asgT, testsE, wipeE, List.set_cons_zero, List.set_cons_succ, List.getElem?_cons_zero, List.getElem?_cons_succ, Option.join_some, List.map_cons, List.map_nil, List.cons_append, List.nil_append, List.length_cons, List.length_nil, List.replicate_succ, List.replicate_zero, constD, Option.map_some, mkRes, if_true, if_false, Bool.false_eq_true, Bool.not_true, Bool.not_false, List.any_cons, List.any_nil, Bool.or_false, Bool.false_or, Bool.true_or, optE, wp_ite]
    refine wp_mono (draw 98 (b := i * 1000 + 999) (many := 6) (by decide) (by decide) hD) (fun v S1 q => ?_) fun _ _ h => h
    obtain ⟨⟨w, rfl, w0, w1⟩, q⟩ := q
    rw [wp_gt]
    refine ⟨fun _ => wp_mono (l_string 95 (b := i * 1000 + 900) (q.less (by omega))) (fun v S' q => ?_) fun _ _ h => h, fun _ => wp_mono (l_any 3 93 (i * 1000 + 400) (q.less (by omega))) (fun v S' q => ?_) fun _ _ h => h⟩
    all_goals
      obtain ⟨p, q⟩ := q
      have p' : DataIn v := by first
        | exact p
        | exact p.data (by decide)
      refine wp_mono (md p' (b := i * 1000 + 100) (q.less (by omega))) (fun f S2 r => ?_) fun _ _ h => h
      obtain ⟨w, rfl, ⟨x, rfl, hx⟩, r⟩ := r
      refine wp_mono (tl hx r) (fun f S3 r => ?_) fun _ _ h => h
      obtain ⟨⟨o3, o4, rfl⟩, r⟩ := r
      exact ⟨_, rfl, ⟨_, _, _, rfl⟩, r.less (by omega)⟩
  · obtain ⟨⟨o2, o3, o4, rfl⟩, hD⟩ := hI
    simp only [bodyFuel, wp_seq, wp_seq0, x_asg, x_rtn, x_if, x_ex, x_sub, x_for, e_var, e_c, e_g, e_tup, e_lst, e_dnil, e_dnew, e_dct, e_bin, e_neg, e_cmp, e_chn, e_and, e_or, e_not, e_ite, e_idx, e_sl, e_rev, e_call, e_bi, e_rep, e_isi, e_me, e_comp, andE, orE, startE, wp_bnd, wp_ret, wp_some, wp_tru, wp_fail, wp_noex, wp_guard, isiM, wp_view_d, wp_view_k, wp_viewd_d, wp_viewI_d, wp_viewI_k, wp_viewc_d, l_cons, l_nil, itE, isT, if_pos, itemsD, asgT, testsE, wipeE, List.set_cons_zero, List.set_cons_succ, List.getElem?_cons_zero, List.getElem?_cons_succ, Option.join_some, List.map_cons, List.map_nil, List.cons_append, List.nil_append, List.length_cons, List.length_nil, List.replicate_succ, List.replicate_zero, constD, Option.map_some, mkRes, if_true, if_false, Bool.false_eq_true, Bool.not_true, Bool.not_false, List.any_cons, List.any_nil, Bool.or_false, Bool.false_or, Bool.true_or, optE, wp_ite]
end L01
end
open PySem PySem.W PyProof.Rows
set_option Elab.async false
set_option maxRecDepth 100000 in
set_option maxHeartbeats 0 in
theorem PySem.Challenge.cw_samequick_k01_words_and_names_of_any_val_holds : PySem.Challenge.rw_samequick_k01_words_and_names_of_any_val.Holds := by
  exact Lk01.holds fun ns h _ => L01.law_ok h
