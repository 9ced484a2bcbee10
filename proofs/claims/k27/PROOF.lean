import PyProof.Rows.All
import HandS.OwnEq
import PyProof.NeKinds
import HandS.ForExc
import HandS.CallSlots
import HandS.IsInst
import HandS.Wide
import HandS.Flow
import HandS.More
import HandS.TupAny
import HandS.Text
import HandS.TupMul
import HandS.Style
import HandS.Deep
import HandS.Defaults
import HandS.Iter
import HandS.Conv
import KE.DataFind
import HandS.Comp
import HandS.ExcOwn
import KE.GoesMore
import HandS.Zip
import HandS.DictComp
import PyProof.Rows.All
import Wide.All
import OpenK.AllK
import Wide.FinOn
import KE.KExcSuper
import KE.KSuper
import HandS.Base
import HandS.Call
import HandS.Exc
import HandS.TryOnly
import HandS.ExcIs
import HandS.HeadEnd
import HandS.HeadHook1
import HandS.HeadHook2
import HandS.HeadHook3
import HandS.Head0
import HandS.Head1
import HandS.Head2
import PySem.Challenge.RW_hermithall_k27_tokens_of_cores
set_option autoImplicit false
/-! A small reader of Python bodies over plain data: values, memory, expressions, statements, and what they come to. Nothing of the kit stands in it. -/
namespace HP

/-- classes -/
inductive Ty where
  | int | str | bool | tuple | list | dict | own (c : Nat)
  deriving DecidableEq, Repr
/-- values: tuples are data; mutable things stand in the memory; obj is an instance that never changes; rod a dict that is read -/
inductive PV where
  | non
  | bl (b : Bool)
  | int (i : Int)
  | str (s : List Nat)
  | tup (vs : List PV)
  | rol (vs : List PV)
  | ref (n : Nat)
  | obj (c : Nat) (ns : List Nat) (vs : List PV)
  | rod (ks vs : List PV)
  | ty (T : Ty)

/-- keys of the dicts in the memory -/
inductive PK where
  | i (i : Int)
  | s (s : List Nat)
  deriving DecidableEq, Repr
inductive Cell where
  | lst (xs : List PV)
  | dic (kvs : List (PK × PV))
  | ins (c : Nat) (ns : List Nat) (vs : List PV)

abbrev Mem := List Cell
abbrev Env := List (Option PV)

inductive Res (α : Type) where
  | ok (a : α) (M : Mem)
  | exc (c : Nat) (M : Mem)
  | fail

namespace Res
variable {α β : Type}
def bind (r : Res α) (f : α → Mem → Res β) : Res β :=
  match r with
  | .ok a M => f a M
  | .exc c M => .exc c M
  | .fail => .fail
@[simp] theorem bind_ok (a : α) (M : Mem) (f : α → Mem → Res β) : bind (.ok a M) f = f a M := (rfl)
@[simp] theorem bind_exc (c : Nat) (M : Mem) (f : α → Mem → Res β) : bind (.exc c M) f = .exc c M := (rfl)
@[simp] theorem bind_fail (f : α → Mem → Res β) : bind .fail f = .fail := (rfl)
end Res

/-- most items, signs -/
def lim : Nat := 1000000

/-! ### data as it stands in a memory -/
inductive PD where
  | non | bl (b : Bool) | int (i : Int) | str (s : List Nat) | tup (vs : List PD) | lst (vs : List PD) | atm (a b : PD)

/-- of nesting at most that deep -/
def allD (f : PV → Option PD) : List PV → Option (List PD)
  | [] => some []
  | x :: xs => match f x with
    | none => none
    | some d => match allD f xs with
      | none => none
      | some ds => some (d :: ds)
def toD (M : Mem) : Nat → PV → Option PD
  | 0, _ => none
  | k + 1, v => match v with
    | .non => some .non
    | .bl b => some (.bl b)
    | .int i => some (.int i)
    | .str s => some (.str s)
    | .tup vs => match allD (toD M k) vs with
      | some ds => some (.tup ds)
      | none => none
    | .rol vs => match allD (toD M k) vs with
      | some ds => some (.lst ds)
      | none => none
    | .ref n => match M[n]? with
      | some (.lst xs) => match allD (toD M k) xs with
        | some ds => some (.lst ds)
        | none => none
      | _ => none
    | .obj c ns vs => match c with
      | 0 => match ns with
        | 0 :: 1 :: _ => match vs with
          | a :: b :: _ => match toD M k a with
            | some x => match toD M k b with
              | some y => some (.atm x y)
              | none => none
            | none => none
          | _ => none
        | _ => none
      | _ => none
    | .rod _ _ => none
    | .ty _ => none

mutual
def eqD : PD → PD → Bool
  | .non, b => match b with | .non => true | _ => false
  | .bl a, b => match b with | .bl c => a == c | .int j => (if a then 1 else 0) == j | _ => false
  | .int i, b => match b with | .bl c => i == (if c then 1 else 0) | .int j => i == j | _ => false
  | .str x, b => match b with | .str y => x == y | _ => false
  | .tup xs, b => match b with | .tup ys => eqDs xs ys | _ => false
  | .lst xs, b => match b with | .lst ys => eqDs xs ys | _ => false
  | .atm x y, b => match b with | .atm z w => eqD x z && eqD y w | _ => false
def eqDs : List PD → List PD → Bool
  | [], ys => match ys with | [] => true | _ => false
  | x :: xs, ys => match ys with | [] => false | y :: ys => eqD x y && eqDs xs ys
end

/-- == of two plain scalars -/
def eqS (a b : PV) : Option Bool :=
  match a with
  | .non => match b with | .non => some true | .bl _ => some false | .int _ => some false | .str _ => some false | _ => none
  | .bl x => match b with | .non => some false | .bl y => some (x == y) | .str _ => some false | _ => none
  | .int i => match b with | .non => some false | .int j => some (i == j) | .str _ => some false | _ => none
  | .str s => match b with | .non => some false | .bl _ => some false | .int _ => some false | .str t => some (s == t) | _ => none
  | _ => none
def eqPV (M : Mem) (a b : PV) : Option Bool :=
  match eqS a b with
  | some r => some r
  | none => match toD M 90 a with
    | some x => match toD M 90 b with
      | some y => some (eqD x y)
      | none => none
    | none => none

/-! ### operations on values -/
inductive O2 where
  | add | sub | mul | fdiv | mod | pow
  | eq | ne | lt | le | gt | ge | is | isnot | mem | notin
  | idx
  deriving DecidableEq, Repr
inductive O1 where
  | neg
  deriving DecidableEq, Repr
/-- calls of what is built in, the receiver first -/
inductive On where
  | len | abs | int | list | rlist | tuple | append | remove | pop | isi | lset | max | min | sum | all | any | dget | dict
  deriving DecidableEq, Repr
/-- the kind of a method's receiver -/
inductive MT where
  | list | str | dict
  deriving DecidableEq, Repr

def ltL : List Nat → List Nat → Bool
  | [], ys => match ys with | [] => false | _ :: _ => true
  | x :: xs, ys => match ys with
    | [] => false
    | y :: ys => if x < y then true else if x == y then ltL xs ys else false

def ok {α : Type} (a : α) (M : Mem) : Res α := .ok a M

/-- the place that an index of any sign means -/
def ixP (n : Nat) (i : Int) : Option Nat := if 0 ≤ i then (if i < n then some i.toNat else none) else if -(n : Int) ≤ i then some (i + n).toNat else none
def getI (xs : List PV) (i : Int) : Option PV := match ixP xs.length i with | some j => xs[j]? | none => none

/-- the place of a text key -/
def keyIx (s : List Nat) : List PV → Option Nat
  | [] => none
  | q :: ks => match q with
    | .str t => if t = s then some 0 else (keyIx s ks).map (· + 1)
    | _ => (keyIx s ks).map (· + 1)
def isStrV : PV → Bool
  | .str _ => true
  | _ => false
def keyP : PV → Option PK
  | .int i => some (.i i)
  | .str s => some (.s s)
  | _ => none
def pkV : PK → PV
  | .i i => .int i
  | .s s => .str s
def valP (k : PK) : List (PK × PV) → Option PV
  | [] => none
  | p :: r => if p.1 = k then some p.2 else valP k r
def putP (k : PK) (v : PV) : List (PK × PV) → List (PK × PV)
  | [] => [(k, v)]
  | p :: r => if p.1 = k then (k, v) :: r else p :: putP k v r
/-- a in b -/
def inPV (M : Mem) (a b : PV) : Option Bool :=
  match b with
  | .tup xs => match toD M 90 a with
    | some d => match allD (toD M 90) xs with
      | some ds => some (ds.any fun z => eqD z d)
      | none => none
    | none => none
  | .rol xs => match toD M 90 a with
    | some d => match allD (toD M 90) xs with
      | some ds => some (ds.any fun z => eqD z d)
      | none => none
    | none => none
  | .ref n => match M[n]? with
    | some (.lst xs) => match toD M 90 a with
      | some d => match allD (toD M 90) xs with
        | some ds => some (ds.any fun z => eqD z d)
        | none => none
      | none => none
    | some (.dic kvs) => match keyP a with
      | some k => some (valP k kvs).isSome
      | none => none
    | _ => none
  | .rod ks _ => match a with | .str s => some (keyIx s ks).isSome | _ => none
  | .str t => match a with
    | .str s => match s with
      | [c] => some (decide (c ∈ t))
      | _ => none
    | _ => none
  | _ => none
def small (i : Int) : Bool := decide (-(2 ^ 64) < i) && decide (i < 2 ^ 64)

def op2 (o : O2) (a b : PV) (M : Mem) : Res PV :=
  match o with
  | .add => match a with
    | .int i => match b with | .int j => .ok (.int (i + j)) M | _ => .fail
    | .str x => match b with | .str y => if x.length + y.length ≤ lim then .ok (.str (x ++ y)) M else .fail | _ => .fail
    | .tup xs => match b with | .tup ys => if xs.length + ys.length ≤ lim then .ok (.tup (xs ++ ys)) M else .fail | _ => .fail
    | .ref n => match b with
      | .ref m => match M[n]? with
        | some (.lst xs) => match M[m]? with
          | some (.lst ys) => if xs.length + ys.length ≤ lim then .ok (.ref M.length) (M ++ [.lst (xs ++ ys)]) else .fail
          | _ => .fail
        | _ => .fail
      | .rol ys => match M[n]? with
        | some (.lst xs) => if xs.length + ys.length ≤ lim then .ok (.rol (xs ++ ys)) M else .fail
        | _ => .fail
      | _ => .fail
    | .rol xs => match b with
      | .ref m => match M[m]? with
        | some (.lst ys) => if xs.length + ys.length ≤ lim then .ok (.rol (xs ++ ys)) M else .fail
        | _ => .fail
      | .rol ys => if xs.length + ys.length ≤ lim then .ok (.rol (xs ++ ys)) M else .fail
      | _ => .fail
    | _ => .fail
  | .sub => match a with
    | .int i => match b with | .int j => .ok (.int (i - j)) M | _ => .fail
    | _ => .fail
  | .mul => match a with
    | .int i => match b with | .int j => if small i || small j then .ok (.int (i * j)) M else .fail | _ => .fail
    | .rol xs => match b with
      | .int j => if -(2 ^ 63) ≤ j ∧ j < 2 ^ 63 ∧ xs.length * j.toNat ≤ lim then .ok (.rol (List.replicate j.toNat xs).flatten) M else .fail
      | _ => .fail
    | .str x => match b with | .int j => if x ≠ [] ∧ 2 ≤ j ∧ j ≤ 1000 ∧ x.length ≤ 1000 then .ok (.str (List.replicate j.toNat x).flatten) M else .fail | _ => .fail
    | .tup xs => match b with | .int j => if xs ≠ [] ∧ 2 ≤ j ∧ j ≤ 1000 ∧ xs.length ≤ 1000 then .ok (.tup (List.replicate j.toNat xs).flatten) M else .fail | _ => .fail
    | .ref n => match b with
      | .int j => match M[n]? with
        | some (.lst xs) => if -(2 ^ 63) ≤ j ∧ j < 2 ^ 63 ∧ xs.length * j.toNat ≤ lim then .ok (.ref M.length) (M ++ [.lst (List.replicate j.toNat xs).flatten]) else .fail
        | _ => .fail
      | _ => .fail
    | _ => .fail
  | .fdiv => match a with
    | .int i => match b with | .int j => if 0 < j ∧ j < 2 ^ 64 then .ok (.int (i / j)) M else .fail | _ => .fail
    | _ => .fail
  | .mod => match a with
    | .int i => match b with | .int j => if 0 < j then .ok (.int (i % j)) M else .fail | _ => .fail
    | _ => .fail
  | .pow => match a with
    | .int i => match b with | .int j => if 0 ≤ j ∧ j ≤ 1000000 ∧ i.natAbs < 2 ^ 64 then .ok (.int (i ^ j.toNat)) M else .fail | _ => .fail
    | _ => .fail
  | .eq => match eqPV M a b with | some r => .ok (.bl r) M | none => .fail
  | .ne => match eqPV M a b with | some r => .ok (.bl (!r)) M | none => .fail
  | .lt => match a with
    | .int i => match b with | .int j => .ok (.bl (decide (i < j))) M | _ => .fail
    | .str x => match b with | .str y => .ok (.bl (ltL x y)) M | _ => .fail
    | _ => .fail
  | .le => match a with
    | .int i => match b with | .int j => .ok (.bl (decide (i ≤ j))) M | _ => .fail
    | .str x => match b with | .str y => .ok (.bl (!ltL y x)) M | _ => .fail
    | _ => .fail
  | .gt => match a with
    | .int i => match b with | .int j => .ok (.bl (decide (j < i))) M | _ => .fail
    | .str x => match b with | .str y => .ok (.bl (ltL y x)) M | _ => .fail
    | _ => .fail
  | .ge => match a with
    | .int i => match b with | .int j => .ok (.bl (decide (j ≤ i))) M | _ => .fail
    | .str x => match b with | .str y => .ok (.bl (!ltL x y)) M | _ => .fail
    | _ => .fail
  | .is => match b with
    | .non => match a with | .non => .ok (.bl true) M | _ => .ok (.bl false) M
    | .bl k => match a with | .bl j => .ok (.bl (decide (j = k))) M | _ => .ok (.bl false) M
    | _ => .fail
  | .isnot => match b with
    | .non => match a with | .non => .ok (.bl false) M | _ => .ok (.bl true) M
    | .bl k => match a with | .bl j => .ok (.bl (!decide (j = k))) M | _ => .ok (.bl true) M
    | _ => .fail
  | .mem => match inPV M a b with | some r => .ok (.bl r) M | none => .fail
  | .notin => match inPV M a b with | some r => .ok (.bl (!r)) M | none => .fail
  | .idx => match b with
    | .int i => match a with
      | .tup xs => match getI xs i with | some v => .ok v M | none => .fail
      | .rol xs => match getI xs i with | some v => .ok v M | none => .fail
      | .str s => if s.length ≤ lim then (match ixP s.length i with | some j => (match s[j]? with | some c => .ok (.str [c]) M | none => .fail) | none => .fail) else .fail
      | .ref n => match M[n]? with
        | some (.lst xs) => match getI xs i with | some v => .ok v M | none => .fail
        | some (.dic kvs) => match valP (.i i) kvs with | some v => .ok v M | none => .fail
        | _ => .fail
      | _ => .fail
    | .str s => match a with
      | .rod ks vs => match keyIx s ks with | some j => (match vs[j]? with | some v => .ok v M | none => .fail) | none => .fail
      | .ref n => match M[n]? with
        | some (.dic kvs) => match valP (.s s) kvs with | some v => .ok v M | none => .fail
        | _ => .fail
      | _ => .fail
    | _ => .fail

/-- x op= y -/
def iop (o : O2) (a b : PV) (M : Mem) : Res PV :=
  match o with
  | .add => match a with
    | .int _ => op2 .add a b M
    | .str _ => op2 .add a b M
    | _ => .fail
  | .sub => op2 .sub a b M
  | .mul => op2 .mul a b M
  | _ => .fail

def op1 (o : O1) (a : PV) (M : Mem) : Res PV :=
  match o with
  | .neg => match a with | .int i => .ok (.int (-i)) M | _ => .fail

/-- the kind of a value; an instance's class -/
inductive Kd where
  | non | bl | int | str | tup | lst | dic | own (c : Nat)
  deriving DecidableEq
def kd (v : PV) (M : Mem) : Option Kd :=
  match v with
  | .non => some .non
  | .bl _ => some .bl
  | .int _ => some .int
  | .str _ => some .str
  | .tup _ => some .tup
  | .rol _ => some .lst
  | .ref n => match M[n]? with
    | some (.lst _) => some .lst
    | some (.dic _) => some .dic
    | some (.ins c _ _) => some (.own c)
    | none => none
  | .obj c _ _ => some (.own c)
  | .rod _ _ => some .dic
  | .ty _ => none
def isK (k : Kd) : Ty → Option Bool
  | .int => some (match k with | .int => true | .bl => true | _ => false)
  | .bool => some (match k with | .bl => true | _ => false)
  | .str => some (match k with | .str => true | _ => false)
  | .tuple => some (match k with | .tup => true | _ => false)
  | .list => some (match k with | .lst => true | _ => false)
  | .dict => some (match k with | .dic => true | _ => false)
  | .own c => match k with | .own d => some (c == d) | _ => some false
def isi (v : PV) (M : Mem) (T : Ty) : Option Bool :=
  match kd v M with
  | some k => isK k T
  | none => none

/-- isinstance of several -/
def isiA (v : PV) (M : Mem) : List PV → Option Bool
  | [] => some false
  | t :: ts => match t with
    | .ty T => match isi v M T with
      | some b => match isiA v M ts with
        | some r => some (b || r)
        | none => none
      | none => none
    | _ => none
/-- each once -/
def uniq (is : List Int) : List Int := is.foldl (fun acc i => if acc.any (· == i) then acc else acc ++ [i]) []
def intsV : List PV → Option (List Int)
  | [] => some []
  | x :: xs => match x with
    | .int i => match intsV xs with | some is => some (i :: is) | none => none
    | _ => none
def blsV : List PV → Option (List Bool)
  | [] => some []
  | x :: xs => match x with
    | .bl i => match blsV xs with | some is => some (i :: is) | none => none
    | _ => none
def opn (o : On) (as : List PV) (M : Mem) : Res PV :=
  match o with
  | .len => match as with
    | [.tup xs] => .ok (.int xs.length) M
    | [.rol xs] => .ok (.int xs.length) M
    | [.str s] => if s.length ≤ lim then .ok (.int s.length) M else .fail
    | [.ref n] => match M[n]? with
      | some (.lst xs) => .ok (.int xs.length) M
      | some (.dic kvs) => .ok (.int kvs.length) M
      | _ => .fail
    | _ => .fail
  | .abs => match as with
    | [.int i] => .ok (.int (if i < 0 then -i else i)) M
    | _ => .fail
  | .int => match as with
    | [.int i] => .ok (.int i) M
    | [.bl b] => .ok (.int (if b then 1 else 0)) M
    | _ => .fail
  | .list => match as with
    | [.tup xs] => .ok (.ref M.length) (M ++ [.lst xs])
    | [.rol xs] => .ok (.ref M.length) (M ++ [.lst xs])
    | [.ref n] => match M[n]? with
      | some (.lst xs) => .ok (.ref M.length) (M ++ [.lst xs])
      | _ => .fail
    | _ => .fail
  | .rlist => match as with
    | [.tup xs] => .ok (.rol xs) M
    | [.rol xs] => .ok (.rol xs) M
    | [.ref n] => match M[n]? with
      | some (.lst xs) => .ok (.rol xs) M
      | _ => .fail
    | _ => .fail
  | .tuple => match as with
    | [.tup xs] => .ok (.tup xs) M
    | [.rol xs] => .ok (.tup xs) M
    | [.ref n] => match M[n]? with
      | some (.lst xs) => .ok (.tup xs) M
      | some (.dic kvs) => .ok (.tup (kvs.map fun p => pkV p.1)) M
      | _ => .fail
    | _ => .fail
  | .append => match as with
    | [.ref n, v] => match M[n]? with
      | some (.lst xs) => if xs.length < lim then .ok .non (M.set n (.lst (xs ++ [v]))) else .fail
      | _ => .fail
    | _ => .fail
  | .remove => match as with
    | [.ref n, v] => match M[n]? with
      | some (.lst xs) => match toD M 90 v with
        | some d => match allD (toD M 90) xs with
          | some ds => match ds.findIdx? (fun z => eqD z d) with
            | some j => .ok .non (M.set n (.lst (xs.eraseIdx j)))
            | none => .fail
          | none => .fail
        | none => .fail
      | _ => .fail
    | _ => .fail
  | .pop => match as with
    | [.ref n] => match M[n]? with
      | some (.lst xs) => match xs[xs.length - 1]? with
        | some v => .ok v (M.set n (.lst xs.dropLast))
        | none => .fail
      | _ => .fail
    | [.ref n, .int i] => match M[n]? with
      | some (.lst xs) => match ixP xs.length i with
        | some j => (match xs[j]? with
          | some v => .ok v (M.set n (.lst (xs.eraseIdx j)))
          | none => .fail)
        | none => .fail
      | _ => .fail
    | _ => .fail
  | .isi => match as with
    | [v, .ty T] => match isi v M T with
      | some b => .ok (.bl b) M
      | none => .fail
    | [v, .tup ts] => match kd v M with
      | some _ => match isiA v M ts with
        | some b => .ok (.bl b) M
        | none => .fail
      | none => .fail
    | _ => .fail
  | .lset => match as with
    | [.rol xs] => match intsV xs with
        | some is => if is.length ≤ 4000 then .ok (.int (uniq is).length) M else .fail
        | _ => .fail
    | [.ref n] => match M[n]? with
      | some (.lst xs) => match intsV xs with
        | some is => if is.length ≤ 4000 then .ok (.int (uniq is).length) M else .fail
        | _ => .fail
      | _ => .fail
    | _ => .fail
  | .max => match as with
    | [.rol xs] => match intsV xs with
        | some (i :: is) => .ok (.int (is.foldl max i)) M
        | _ => .fail
    | [.ref n] => match M[n]? with
      | some (.lst xs) => match intsV xs with
        | some (i :: is) => .ok (.int (is.foldl max i)) M
        | _ => .fail
      | _ => .fail
    | [.int i, .int j] => .ok (.int (if j > i then j else i)) M
    | _ => .fail
  | .min => match as with
    | [.rol xs] => match intsV xs with
        | some (i :: is) => .ok (.int (is.foldl min i)) M
        | _ => .fail
    | [.ref n] => match M[n]? with
      | some (.lst xs) => match intsV xs with
        | some (i :: is) => .ok (.int (is.foldl min i)) M
        | _ => .fail
      | _ => .fail
    | [.int i, .int j] => .ok (.int (if j < i then j else i)) M
    | _ => .fail
  | .sum => match as with
    | [.rol xs] => match intsV xs with
        | some is => .ok (.int is.sum) M
        | _ => .fail
    | [.ref n] => match M[n]? with
      | some (.lst xs) => match intsV xs with
        | some is => .ok (.int is.sum) M
        | _ => .fail
      | _ => .fail
    | _ => .fail
  | .all => match as with
    | [.rol xs] => match blsV xs with
        | some bs => .ok (.bl (bs.all id)) M
        | _ => .fail
    | [.ref n] => match M[n]? with
      | some (.lst xs) => match blsV xs with
        | some bs => .ok (.bl (bs.all id)) M
        | _ => .fail
      | _ => .fail
    | _ => .fail
  | .any => match as with
    | [.rol xs] => match blsV xs with
        | some bs => .ok (.bl (bs.any id)) M
        | _ => .fail
    | [.ref n] => match M[n]? with
      | some (.lst xs) => match blsV xs with
        | some bs => .ok (.bl (bs.any id)) M
        | _ => .fail
      | _ => .fail
    | _ => .fail
  | .dget => match as with
    | [.rod ks vs, .str s] => match keyIx s ks with
      | some j => (match vs[j]? with | some v => .ok v M | none => .fail)
      | none => .ok .non M
    | [.ref n, k] => match M[n]? with
      | some (.dic kvs) => match keyP k with
        | some k => .ok ((valP k kvs).getD .non) M
        | none => .fail
      | _ => .fail
    | [.ref n, k, d] => match M[n]? with
      | some (.dic kvs) => match keyP k with
        | some k => .ok ((valP k kvs).getD d) M
        | none => .fail
      | _ => .fail
    | _ => .fail
  | .dict => match as with
    | [.ref n] => match M[n]? with
      | some (.dic kvs) => .ok (.ref M.length) (M ++ [.dic kvs])
      | _ => .fail
    | _ => .fail

/-- truth -/
def tru (v : PV) (M : Mem) : Option Bool :=
  match v with
  | .non => some false
  | .bl b => some b
  | .int i => some (i != 0)
  | .str s => if s.length ≤ lim then some (!s.isEmpty) else none
  | .tup xs => some (!xs.isEmpty)
  | .rol xs => some (!xs.isEmpty)
  | .ref n => match M[n]? with
    | some (.lst xs) => some (!xs.isEmpty)
    | some (.dic kvs) => some (!kvs.isEmpty)
    | _ => none
  | _ => none

def tyM (k : MT) (v : PV) (M : Mem) : Bool :=
  match k with
  | .list => match v with
    | .ref n => match M[n]? with
      | some (.lst _) => true
      | _ => false
    | _ => false
  | .str => match v with
    | .str _ => true
    | _ => false
  | .dict => match v with
    | .rod _ _ => true
    | .ref n => match M[n]? with
      | some (.dic _) => true
      | _ => false
    | _ => false

/-- xs[a:b] -/
def cutIx (n d : Nat) : Option Int → Nat
  | none => d
  | some v => if v < 0 then (v + (n : Int)).toNat else min v.toNat n
def cut {α : Type} (xs : List α) (lo hi : Option Int) : List α := (xs.drop (cutIx xs.length 0 lo)).take (cutIx xs.length xs.length hi - cutIx xs.length 0 lo)

/-! ### the texts -/
inductive Tg where
  | name (i : Nat)
  | tup (ts : List Tg)
/-- targets of one level: a name, an attribute of what a name stands for -/
inductive TU where
  | name (i : Nat)
  | att (j n : Nat) (cs : List Nat)
mutual
inductive E where
  | var (i : Nat)
  | lit (v : PV)
  | glob (g : Nat)
  | op1 (o : O1) (a : E)
  | op2 (o : O2) (a b : E)
  | nott (a : E)
  | and (a b : E)
  | or (a b : E)
  | chain (o p : O2) (a b c : E)
  | ife (t : T) (a b : E)
  | tup (es : List E)
  | lst (es : List E)
  | call (f : Nat) (es : List E)
  | opn (o : On) (es : List E)
  | meth (k : MT) (o : On) (a : E) (es : List E)
  | bad
  | cut (fl fh : Bool) (a lo hi : E)
  | rcut (fl fh : Bool) (a lo hi : E)
  | lc (g : Tg) (it : I) (ts : List T) (vs : List Nat) (elt : E)
  | rlc (g : Tg) (it : I) (ts : List T) (vs : List Nat) (elt : E)
  | rls (es : List E)
  | dc (g : Tg) (it : I) (ts : List T) (vs : List Nat) (k v : E)
  | dct (ks : List PK) (es : List E)
  | fld (a : E) (n : Nat) (cs : List Nat)
  | make (c f : Nat) (fz : Bool) (es : List E)
  | mcall (a : E) (am : Option Nat) (tab : List (Nat × Nat)) (es : List E)
inductive T where
  | val (e : E)
  | cmp (o : O2) (a b : E)
  | chain (o p : O2) (a b c : E)
  | and (a b : T)
  | or (a b : T)
  | not (a : T)
inductive I where
  | val (e : E)
  | range (es : List E)
  | zip (es : List E)
end
mutual
inductive S where
  | asg (g : Tg) (e : E)
  | unp (ts : List TU) (e : E)
  | par (i j : Nat) (a b : E)
  | par3 (i j l : Nat) (a b c : E)
  | setI (a i e : E)
  | setA (a : E) (n : Nat) (cs : List Nat) (e : E)
  | augA (a : E) (n : Nat) (cs : List Nat) (o : O2) (e : E)
  | aug (i : Nat) (o : O2) (e : E)
  | augI (a i : E) (o : O2) (e : E)
  | expr (e : E)
  | ret (e : E)
  | retN
  | ifs (t : T) (a b : List S)
  | forr (g : Tg) (it : I) (b : List S)
  | whil (t : T) (b : List S)
  | pass
  | brk
  | cnt
  | bad
  /-- raise of an own class that is made without arguments -/
  | rais (c : Nat)
  /-- try: b, with one except clause: its name's slot, what it does for each class -/
  | tryy (b : List S) (nm : Option Nat) (hs : Hs)
inductive Hs where
  | nil
  | hnd (c : Nat) (b : List S) (r : Hs)
  | pas (c : Nat) (r : Hs)
end

/-! ### what they come to -/
structure Wd where
  call : Nat → List PV → Mem → Res PV
  glob : Nat → Option PV
  fuel : Nat
  /-- .. of an __init__: one level lower -/
  call1 : Nat → List PV → Mem → Res PV

/-- what a for walks: a list in the memory, or items -/
inductive Src where
  | mem (n : Nat)
  | items (xs : List PV)
/-- the items of what never changes -/
def itemsV : PV → Option (List PV)
  | .tup xs => some xs
  | .rol xs => some xs
  | .str s => some (s.map fun c => .str [c])
  | _ => none
def pairV (x y : PV) : PV := .tup [x, y]
def rangeL (lo : Int) (n : Nat) : List PV := (List.range n).map fun (k : Nat) => .int (lo + (k : Int))
mutual
def bindT : Tg → PV → Env → Option Env
  | .name i, v, env => if i < env.length then some (env.set i (some v)) else none
  | .tup ts, v, env => match v with
    | .tup vs => bindTs ts vs env
    | _ => none
def bindTs : List Tg → List PV → Env → Option Env
  | [], vs, env => match vs with | [] => some env | _ :: _ => none
  | t :: ts, vs, env => match vs with
    | [] => none
    | v :: vs => match bindT t v env with
      | some env' => bindTs ts vs env'
      | none => none
end

/-- an attribute -/
def getA (n : Nat) : List Nat → List PV → Option PV
  | [], _ => none
  | m :: ns, vs => match vs with
    | [] => none
    | v :: vs => if m = n then some v else getA n ns vs
def putAn (n : Nat) : List Nat → List Nat
  | [] => [n]
  | m :: ns => if m = n then m :: ns else m :: putAn n ns
def putAv (n : Nat) (v : PV) : List Nat → List PV → List PV
  | [], _ => [v]
  | m :: ns, vs => match vs with
    | [] => []
    | u :: us => if m = n then v :: us else u :: putAv n v ns us
/-- an instance's class, its attributes -/
def insOf (v : PV) (M : Mem) : Option (Nat × List Nat × List PV) :=
  match v with
  | .obj c ns vs => some (c, ns, vs)
  | .ref n => match M[n]? with
    | some (.ins c ns vs) => some (c, ns, vs)
    | _ => none
  | _ => none
def fldR (v : PV) (n : Nat) (cs : List Nat) (M : Mem) : Res PV :=
  match insOf v M with
  | some (c, ns, vs) => if c ∈ cs then (match getA n ns vs with | some u => .ok u M | none => .fail) else .fail
  | none => .fail
/-- the def of a method -/
def metR (v : PV) (am : Option Nat) (tab : List (Nat × Nat)) (M : Mem) : Option Nat :=
  match insOf v M with
  | some (c, ns, vs) => match am with
    | some n => if n ∈ ns then none else tab.lookup c
    | none => tab.lookup c
  | none => none
def setAR (v : PV) (n : Nat) (cs : List Nat) (x : PV) (M : Mem) : Option Mem :=
  match v with
  | .ref m => match M[m]? with
    | some (.ins c ns vs) => if c ∈ cs ∧ ns.length < 1000 then some (M.set m (.ins c (putAn n ns) (putAv n x ns vs))) else none
    | _ => none
  | _ => none
/-- a value of the first outcome; an exception does not go through -/
def Res.only {α β : Type} (r : Res α) (f : α → Mem → Res β) : Res β :=
  match r with
  | .ok a M => f a M
  | _ => .fail
@[simp] theorem Res.only_ok {α β : Type} (a : α) (M : Mem) (f : α → Mem → Res β) : Res.only (.ok a M) f = f a M := (rfl)
@[simp] theorem Res.only_fail {α β : Type} (f : α → Mem → Res β) : Res.only (.fail) f = .fail := (rfl)
def wipeE (env : Env) : List Nat → Env
  | [] => env
  | v :: vs => (wipeE env vs).set v none
/-- a list's turns: c tells if the list that is walked still stands as it did -/
noncomputable def lcX (g : Tg) (ts : Env → Mem → Res Bool) (elt : Env → Mem → Res PV) (env : Env) (c : Mem → Prop) : List PV → Mem → Res (List PV)
  | [], M => open Classical in if c M then .ok [] M else .fail
  | x :: xs, M => open Classical in if c M then match bindT g x env with
    | none => .fail
    | some env' => (ts env' M).only fun b M1 => if b then (elt env' M1).only fun v M2 => (lcX g ts elt env c xs M2).only fun vs M3 => .ok (v :: vs) M3 else lcX g ts elt env c xs M1
    else .fail
noncomputable def lcS (g : Tg) (ts : Env → Mem → Res Bool) (elt : Env → Mem → Res PV) (env : Env) (s : Src) (M : Mem) : Res (List PV) :=
  match s with
  | .items xs => if xs.length ≤ lim then lcX g ts elt env (fun _ => True) xs M else .fail
  | .mem n => match M[n]? with
    | some (.lst xs) => if xs.length ≤ lim then lcX g ts elt env (fun M => M[n]? = some (.lst xs)) xs M else .fail
    | _ => .fail
def partV (f : Bool) (v : PV) : Option (Option Int) :=
  if f then match v with
    | .int i => some (some i)
    | _ => none
  else some none
/-- xs[lo:hi] -/
def cutR (a : PV) (lo hi : Option Int) (M : Mem) : Res PV :=
  match a with
  | .tup xs => .ok (.tup (cut xs lo hi)) M
  | .rol xs => .ok (.ref M.length) (M ++ [.lst (cut xs lo hi)])
  | .str s => if s.length ≤ lim then .ok (.str (cut s lo hi)) M else .fail
  | .ref n => match M[n]? with
    | some (.lst xs) => .ok (.ref M.length) (M ++ [.lst (cut xs lo hi)])
    | _ => .fail
  | _ => .fail

/-- a dict of pairs, one behind the other -/
def dcF : List (PK × PV) → List PV → Option (List (PK × PV))
  | acc, [] => some acc
  | acc, x :: xs => match x with
    | .tup [a, b] => match keyP a with
      | some k => if acc.length < lim then dcF (putP k b acc) xs else none
      | none => none
    | _ => none
/-- .. of names, and attributes of what names stand for -/
def bindU : List TU → List PV → Env → Mem → Option (Env × Mem)
  | [], vs, env, M => match vs with | [] => some (env, M) | _ :: _ => none
  | t :: ts, vs, env, M => match vs with
    | [] => none
    | v :: vs => match t with
      | .name i => if i < env.length then bindU ts vs (env.set i (some v)) M else none
      | .att j n cs => match env[j]? with
        | some (some o) => match setAR o n cs v M with
          | some M' => bindU ts vs env M'
          | none => none
        | _ => none
mutual
/-- every cell named is below n -/
def low (n : Nat) : PV → Bool
  | .tup vs => lows n vs
  | .rol vs => lows n vs
  | .obj _ _ vs => lows n vs
  | .rod _ vs => lows n vs
  | .ref m => decide (m < n)
  | _ => true
def lows (n : Nat) : List PV → Bool
  | [] => true
  | v :: vs => low n v && lows n vs
end
def lowC (n : Nat) : Cell → Bool
  | .lst xs => lows n xs
  | .dic kvs => lows n (kvs.map (·.2))
  | .ins _ _ vs => lows n vs
def Trims (M M' : Mem) (v : PV) : Prop := low M.length v = true ∧ ∀ i c, i < M.length → M'[i]? = some c → (M[i]? = some c ∨ lowC M.length c = true)
open Classical in
/-- behind a call: what is new in the memory is left out if nothing names it -/
noncomputable def trimM (M M' : Mem) (v : PV) : Mem := if Trims M M' v then M'.take M.length else M'
open Classical in
/-- behind an __init__: the instance, as it stands in the memory, or taken out of it -/
noncomputable def makR (c : Nat) (fz : Bool) (M : Mem) (r : Res PV) : Res PV :=
  match r with
  | .ok v M' => match v with
    | .non => if fz then match M'[M.length]? with
        | some (.ins c' ns vs) => if c' = c ∧ Trims M M' (.tup vs) then .ok (.obj c ns vs) (M'.take M.length) else .fail
        | _ => .fail
      else .ok (.ref M.length) M'
    | _ => .fail
  | .exc c M' => .exc c (trimM M M' .non)
  | .fail => .fail
/-- .. to a list that never changes -/
def rcutR (a : PV) (lo hi : Option Int) (M : Mem) : Res PV :=
  match a with
  | .tup xs => .ok (.tup (cut xs lo hi)) M
  | .str s => if s.length ≤ lim then .ok (.str (cut s lo hi)) M else .fail
  | .rol xs => .ok (.rol (cut xs lo hi)) M
  | .ref n => match M[n]? with
    | some (.lst xs) => .ok (.rol (cut xs lo hi)) M
    | _ => .fail
  | _ => .fail
noncomputable section
mutual
def evE (w : Wd) : E → Env → Mem → Res PV
  | .var i, env, M => match env[i]? with | some (some v) => .ok v M | _ => .fail
  | .lit v, _, M => .ok v M
  | .glob g, _, M => match w.glob g with | some v => .ok v M | none => .fail
  | .op1 o a, env, M => (evE w a env M).bind fun x M1 => op1 o x M1
  | .op2 o a b, env, M => (evE w a env M).bind fun x M1 => (evE w b env M1).bind fun y M2 => op2 o x y M2
  | .nott a, env, M => (evE w a env M).bind fun v M1 => match tru v M1 with | some b => .ok (.bl (!b)) M1 | none => .fail
  | .and a b, env, M => (evE w a env M).bind fun x M1 => match tru x M1 with
    | some c => if c then evE w b env M1 else .ok x M1
    | none => .fail
  | .or a b, env, M => (evE w a env M).bind fun x M1 => match tru x M1 with
    | some c => if c then .ok x M1 else evE w b env M1
    | none => .fail
  | .chain o p a b c, env, M => (evE w a env M).bind fun x M1 => (evE w b env M1).bind fun y M2 => (op2 o x y M2).bind fun r M3 => match r with
    | .bl k => if k then (evE w c env M3).bind fun z M4 => op2 p y z M4 else .ok (.bl false) M3
    | _ => .fail
  | .ife t a b, env, M => (evT w t env M).bind fun c M1 => if c then evE w a env M1 else evE w b env M1
  | .tup es, env, M => (evEs w es env M).bind fun vs M1 => if vs.length ≤ lim then .ok (.tup vs) M1 else .fail
  | .lst es, env, M => (evEs w es env M).bind fun vs M1 => if vs.length ≤ lim then .ok (.ref M1.length) (M1 ++ [.lst vs]) else .fail
  | .call f es, env, M => (evEs w es env M).bind fun vs M1 => w.call f vs M1
  | .opn o es, env, M => (evEs w es env M).bind fun vs M1 => opn o vs M1
  | .bad, _, _ => .fail
  | .cut fl fh a lo hi, env, M => (evE w a env M).bind fun v M1 => (if fl then evE w lo env M1 else .ok .non M1).bind fun l M2 => match partV fl l with
    | some pl => (if fh then evE w hi env M2 else .ok .non M2).bind fun h M3 => (match partV fh h with
      | some ph => cutR v pl ph M3
      | none => .fail)
    | none => .fail
  | .lc g it ts vs elt, env, M => (evI w it env M).bind fun s M1 => (lcS g (fun env M => evTs w ts env M) (fun env M => evE w elt env M) (wipeE env vs) s M1).bind fun vs M2 => .ok (.ref M2.length) (M2 ++ [.lst vs])
  | .rcut fl fh a lo hi, env, M => (evE w a env M).bind fun v M1 => (if fl then evE w lo env M1 else .ok .non M1).bind fun l M2 => match partV fl l with
    | some pl => (if fh then evE w hi env M2 else .ok .non M2).bind fun h M3 => (match partV fh h with
      | some ph => rcutR v pl ph M3
      | none => .fail)
    | none => .fail
  | .rlc g it ts vs elt, env, M => (evI w it env M).bind fun s M1 => (lcS g (fun env M => evTs w ts env M) (fun env M => evE w elt env M) (wipeE env vs) s M1).bind fun vs M2 => .ok (.rol vs) M2
  | .dct ks es, env, M => (evEs w es env (M ++ [.dic []])).bind fun vs M1 => match M1[M.length]? with
    | some (.dic []) => if vs.length = ks.length ∧ ks.length ≤ 1000 then .ok (.ref M.length) (M1.set M.length (.dic (ks.zip vs))) else .fail
    | _ => .fail
  | .dc g it ts vs k v, env, M => (evI w it env M).bind fun s M1 => (lcS g (fun env M => evTs w ts env M) (fun env M => (evE w k env M).only fun x M1 => (evE w v env M1).only fun y M2 => .ok (.tup [x, y]) M2) (wipeE env vs) s M1).bind fun vs M2 => match dcF [] vs with
    | some kvs => .ok (.ref M2.length) (M2 ++ [.dic kvs])
    | none => .fail
  | .rls es, env, M => (evEs w es env M).bind fun vs M1 => if vs.length ≤ lim then .ok (.rol vs) M1 else .fail
  | .fld a n cs, env, M => (evE w a env M).bind fun v M1 => fldR v n cs M1
  | .make c f fz es, env, M => (evEs w es env M).bind fun vs M1 => makR c fz M1 (w.call1 f (.ref M1.length :: vs) (M1 ++ [.ins c [] []]))
  | .mcall a am tab es, env, M => (evE w a env M).bind fun v M1 => match metR v am tab M1 with
    | some f => (evEs w es env M1).bind fun vs M2 => w.call f (v :: vs) M2
    | none => .fail
  | .meth k o a es, env, M => (evE w a env M).bind fun v M1 => if tyM k v M1 then (evEs w es env M1).bind fun vs M2 => opn o (v :: vs) M2 else .fail
def evEs (w : Wd) : List E → Env → Mem → Res (List PV)
  | [], _, M => .ok [] M
  | e :: es, env, M => (evE w e env M).bind fun v M1 => (evEs w es env M1).bind fun vs M2 => .ok (v :: vs) M2
def evT (w : Wd) : T → Env → Mem → Res Bool
  | .val e, env, M => (evE w e env M).bind fun v M1 => match tru v M1 with | some b => .ok b M1 | none => .fail
  | .cmp o a b, env, M => (evE w a env M).bind fun x M1 => (evE w b env M1).bind fun y M2 => (op2 o x y M2).bind fun r M3 => match r with
    | .bl k => .ok k M3
    | _ => .fail
  | .chain o p a b c, env, M => (evE w a env M).bind fun x M1 => (evE w b env M1).bind fun y M2 => (op2 o x y M2).bind fun r M3 => match r with
    | .bl k => if k then (evE w c env M3).bind fun z M4 => (op2 p y z M4).bind fun r M5 => (match r with | .bl k => .ok k M5 | _ => .fail) else .ok false M3
    | _ => .fail
  | .and a b, env, M => (evT w a env M).bind fun c M1 => if c then evT w b env M1 else .ok false M1
  | .or a b, env, M => (evT w a env M).bind fun c M1 => if c then .ok true M1 else evT w b env M1
  | .not a, env, M => (evT w a env M).bind fun c M1 => .ok (!c) M1
def evTs (w : Wd) : List T → Env → Mem → Res Bool
  | [], _, M => .ok true M
  | t :: ts, env, M => (evT w t env M).bind fun c M1 => if c then evTs w ts env M1 else .ok false M1
def evI (w : Wd) : I → Env → Mem → Res Src
  | .val e, env, M => (evE w e env M).bind fun v M1 => match v with
    | .tup xs => .ok (.items xs) M1
    | .rol xs => .ok (.items xs) M1
    | .str s => .ok (.items (s.map fun c => .str [c])) M1
    | .ref n => match M1[n]? with
      | some (.lst _) => .ok (.mem n) M1
      | _ => .fail
    | _ => .fail
  | .range es, env, M => (evEs w es env M).bind fun vs M1 => match vs with
    | [.int j] => if -(2 ^ 62) ≤ j ∧ j < 2 ^ 62 then .ok (.items (rangeL 0 j.toNat)) M1 else .fail
    | [.int i, .int j] => if -(2 ^ 62) ≤ i ∧ i < 2 ^ 62 ∧ -(2 ^ 62) ≤ j ∧ j < 2 ^ 62 then .ok (.items (rangeL i (j - i).toNat)) M1 else .fail
    | _ => .fail
  | .zip es, env, M => (evEs w es env M).bind fun vs M1 => match vs with
    | [a, b] => match itemsV a with
      | some xs => match itemsV b with
        | some ys => .ok (.items (List.zipWith pairV xs ys)) M1
        | none => .fail
      | none => .fail
    | _ => .fail
end

inductive Ctl where
  | nxt (env : Env) (M : Mem)
  | ret (v : PV) (M : Mem)
  | brk (env : Env) (M : Mem)
  | cnt (env : Env) (M : Mem)
  | exc (c : Nat) (env : Env) (M : Mem)
  | fail
/-- an expression's outcome, then a statement's -/
def Res.thn {α : Type} (r : Res α) (env : Env) (f : α → Mem → Ctl) : Ctl :=
  match r with
  | .ok a M => f a M
  | .exc c M => .exc c env M
  | .fail => .fail
@[simp] theorem Res.thn_ok {α : Type} (a : α) (M : Mem) (env : Env) (f : α → Mem → Ctl) : Res.thn (.ok a M) env f = f a M := (rfl)
@[simp] theorem Res.thn_exc {α : Type} (c : Nat) (M : Mem) (env : Env) (f : α → Mem → Ctl) : Res.thn (.exc c M) env f = .exc c env M := (rfl)
@[simp] theorem Res.thn_fail {α : Type} (env : Env) (f : α → Mem → Ctl) : Res.thn .fail env f = .fail := (rfl)

def Ctl.seq (c : Ctl) (f : Env → Mem → Ctl) : Ctl :=
  match c with
  | .nxt env M => f env M
  | c => c
/-- behind a loop's turn: on, or out -/
def Ctl.turn (c : Ctl) (on out : Env → Mem → Ctl) : Ctl :=
  match c with
  | .nxt env M => on env M
  | .cnt env M => on env M
  | .brk env M => out env M
  | c => c

/-- over items -/
def loopX (g : Tg) (body : Env → Mem → Ctl) : List PV → Env → Mem → Ctl
  | [], env, M => .nxt env M
  | x :: xs, env, M => match bindT g x env with
    | none => .fail
    | some env' => (body env' M).turn (loopX g body xs) .nxt
/-- over a list in the memory, read anew at each turn -/
def loopM (g : Tg) (body : Env → Mem → Ctl) (n : Nat) : Nat → Nat → Env → Mem → Ctl
  | 0, _, _, _ => .fail
  | k + 1, i, env, M => match M[n]? with
    | some (.lst xs) => match xs[i]? with
      | none => .nxt env M
      | some x => match bindT g x env with
        | none => .fail
        | some env' => (body env' M).turn (loopM g body n k (i + 1)) .nxt
    | _ => .fail
def loopW (t : Env → Mem → Res Bool) (body : Env → Mem → Ctl) : Nat → Env → Mem → Ctl
  | 0, _, _ => .fail
  | k + 1, env, M => (t env M).thn env fun c M1 => if c then (body env M1).turn (loopW t body k) .nxt else .nxt env M1

def setL (v i x : PV) (M : Mem) : Option Mem :=
  match v with
  | .ref n => match i with
    | .int i => match M[n]? with
      | some (.lst xs) => match ixP xs.length i with
        | some j => some (M.set n (.lst (xs.set j x)))
        | none => none
      | some (.dic kvs) => if kvs.length < lim then some (M.set n (.dic (putP (.i i) x kvs))) else none
      | _ => none
    | .str s => match M[n]? with
      | some (.dic kvs) => if kvs.length < lim then some (M.set n (.dic (putP (.s s) x kvs))) else none
      | _ => none
    | _ => none
  | _ => none

def wipO (nm : Option Nat) (env : Env) : Env := match nm with
  | none => env
  | some i => env.set i none
def inO (nm : Option Nat) (env : Env) : Bool := match nm with
  | none => true
  | some i => decide (i < env.length)
/-- behind an except suite -/
def Ctl.suite (nm : Option Nat) : Ctl → Ctl
  | .nxt env M => .nxt (wipO nm env) M
  | .ret v M => .ret v M
  | .brk env M => .brk (wipO nm env) M
  | .cnt env M => .cnt (wipO nm env) M
  | .exc _ _ _ => .fail
  | .fail => .fail
/-- behind a try's body -/
def Ctl.caught (c : Ctl) (f : Nat → Env → Mem → Ctl) : Ctl := match c with
  | .exc d env M => f d env M
  | c => c
mutual
def evS (w : Wd) : S → Env → Mem → Ctl
  | .asg g e, env, M => (evE w e env M).thn env fun v M1 => match bindT g v env with | some env' => .nxt env' M1 | none => .fail
  | .unp ts e, env, M => (evE w e env M).thn env fun v M1 => match v with
    | .tup vs => match bindU ts vs env M1 with
      | some (env', M2) => .nxt env' M2
      | none => .fail
    | _ => .fail
  | .par i j a b, env, M => (evE w a env M).thn env fun x M1 => (evE w b env M1).thn env fun y M2 => .nxt ((env.set i (some x)).set j (some y)) M2
  | .par3 i j l a b c, env, M => (evE w a env M).thn env fun x M1 => (evE w b env M1).thn env fun y M2 => (evE w c env M2).thn env fun z M3 => .nxt (((env.set i (some x)).set j (some y)).set l (some z)) M3
  | .setI a i e, env, M => (evE w e env M).thn env fun x M1 => (evE w a env M1).thn env fun v M2 => (evE w i env M2).thn env fun j M3 => match setL v j x M3 with | some M4 => .nxt env M4 | none => .fail
  | .setA a n cs e, env, M => (evE w e env M).thn env fun x M1 => (evE w a env M1).thn env fun v M2 => match setAR v n cs x M2 with | some M3 => .nxt env M3 | none => .fail
  | .augA a n cs o e, env, M => (evE w a env M).thn env fun v M1 => (fldR v n cs M1).thn env fun x _ => (evE w e env M1).thn env fun y M2 => (iop o x y M2).thn env fun z M3 => if (insOf v M1).map (·.1) = (insOf v M3).map (·.1) then match setAR v n cs z M3 with | some M4 => .nxt env M4 | none => .fail else .fail
  | .aug i o e, env, M => match env[i]? with
    | some (some x) => (evE w e env M).thn env fun y M1 => (iop o x y M1).thn env fun z M2 => .nxt (env.set i (some z)) M2
    | _ => .fail
  | .augI a i o e, env, M => (evE w a env M).thn env fun v M1 => (evE w i env M1).thn env fun j M2 => match v with
    | .ref n => (op2 .idx (.ref n) j M2).thn env fun x M3 => (evE w e env M3).thn env fun y M4 => (iop o x y M4).thn env fun z M5 => match setL (.ref n) j z M5 with | some M6 => .nxt env M6 | none => .fail
    | _ => .fail
  | .expr e, env, M => (evE w e env M).thn env fun _ M1 => .nxt env M1
  | .ret e, env, M => (evE w e env M).thn env fun v M1 => .ret v M1
  | .retN, _, M => .ret .non M
  | .ifs t a b, env, M => (evT w t env M).thn env fun c M1 => if c then evSs w a env M1 else evSs w b env M1
  | .forr g it b, env, M => (evI w it env M).thn env fun s M1 => match s with
    | .mem n => loopM g (fun env M => evSs w b env M) n w.fuel 0 env M1
    | .items xs => loopX g (fun env M => evSs w b env M) xs env M1
  | .whil t b, env, M => loopW (evT w t) (fun env M => evSs w b env M) w.fuel env M
  | .bad, _, _ => .fail
  | .pass, env, M => .nxt env M
  | .brk, env, M => .brk env M
  | .cnt, env, M => .cnt env M
  | .rais c, env, M => .exc c env M
  | .tryy b nm hs, env, M => (evSs w b env M).caught fun c env' M' => evHs w hs nm c env' M'
def evHs (w : Wd) : Hs → Option Nat → Nat → Env → Mem → Ctl
  | .nil, _, _, _, _ => .fail
  | .hnd d b r, nm, c, env, M => if d = c then (if inO nm env then (evSs w b (wipO nm env) M).suite nm else .fail) else evHs w r nm c env M
  | .pas d r, nm, c, env, M => if d = c then .exc c env M else evHs w r nm c env M
def evSs (w : Wd) : List S → Env → Mem → Ctl
  | [], env, M => .nxt env M
  | s :: ss, env, M => (evS w s env M).seq fun env' M' => evSs w ss env' M'
end

/-- a def: how many parameters, how many names in all, its body -/
structure Fn where
  params : Nat
  names : Nat
  body : List S

def Ctl.out : Ctl → Res PV
  | .nxt _ M => .ok .non M
  | .ret v M => .ok v M
  | .exc c _ M => .exc c M
  | _ => .fail

def Res.trim (M : Mem) (r : Res PV) : Res PV :=
  match r with
  | .ok v M' => .ok v (trimM M M' v)
  | .exc c M' => .exc c (trimM M M' .non)
  | .fail => .fail
@[simp] theorem Res.trim_ok {M M' : Mem} {v : PV} : Res.trim M (.ok v M') = .ok v (trimM M M' v) := (rfl)
@[simp] theorem Res.trim_exc {M M' : Mem} {c : Nat} : Res.trim M (.exc c M') = .exc c (trimM M M' .non) := (rfl)
@[simp] theorem Res.trim_fail {M : Mem} : Res.trim M .fail = .fail := (rfl)
/-- a def's body, the names' values -/
def runB (fs : List Fn) (w : Wd) (f : Nat) (vs : List PV) (M : Mem) : Res PV :=
  match fs[f]? with
  | none => .fail
  | some d => if vs.length = d.params ∧ d.params ≤ d.names then (evSs w d.body (vs.map some ++ List.replicate (d.names - vs.length) none) M).out.trim M else .fail
abbrev CallT := Nat → List PV → Mem → Res PV
def runP (fs : List Fn) (glob : Nat → Option PV) (fuel : Nat) : Nat → CallT × CallT
  | 0 => (fun _ _ _ => .fail, fun _ _ _ => .fail)
  | k + 1 => (runB fs ⟨(runP fs glob fuel k).1, glob, fuel, (runP fs glob fuel k).2⟩, (runP fs glob fuel k).1)
/-- a call, so many levels deep at most -/
def run (fs : List Fn) (glob : Nat → Option PV) (fuel : Nat) (k : Nat) : CallT := (runP fs glob fuel k).1
theorem run_zero (fs : List Fn) (glob : Nat → Option PV) (fuel : Nat) (f : Nat) (vs : List PV) (M : Mem) : run fs glob fuel 0 f vs M = .fail := rfl
theorem runP_snd (fs : List Fn) (glob : Nat → Option PV) (fuel : Nat) (k : Nat) : (runP fs glob fuel k).2 = run fs glob fuel (k - 1) := by cases k <;> rfl
theorem run_succ (fs : List Fn) (glob : Nat → Option PV) (fuel : Nat) (k f : Nat) (vs : List PV) (M : Mem) : run fs glob fuel (k + 1) f vs M = runB fs ⟨run fs glob fuel k, glob, fuel, run fs glob fuel (k - 1)⟩ f vs M := by
  rw [← runP_snd]
  rfl
end
/-- the module's constants by place -/
def glv (vs : List PV) (i : Nat) : Option PV := vs[i]?
/-- the script as a plain value -/
def scriptV (ns : List Int) : PV := .rol (ns.map PV.int)
end HP

set_option Elab.async false
set_option linter.all false
set_option autoImplicit false
set_option maxRecDepth 100000
set_option maxHeartbeats 4000000
/-! == and in of lists and tuples, item by item, the state going on from item to item; either answer. -/
namespace HPQ
open PySem PySem.SeqAt
open AutoSeq1 (wpAny_loadPart')
open MeetsSeq MeetsSeq2 MeetsSeq3 SeqRoads2
open GQ (FinOf)
section
variable {prog : Program} {w : World} {A : Around} {R : Result → Shared → Prop}

/-- at each turn the two lists are read anew, N items each; what comes of the i-th two is e i -/
def ListB (prog : Program) (w : World) (A : Around) (E : Value → Shared → Prop) (l b : Addr) (N : Nat) (e : Nat → Bool) (I : Nat → Shared → Prop) : Prop :=
  ∀ i s, I i s → ∃ (items items2 : Array Value) (n n2 : Nat) (sl sl2 : Array (Option Value)), s.heap.get? l = some { cls := .type "list", dict := none, data := .seq items n, slots := sl } ∧ s.heap.get? b = some { cls := .type "list", dict := none, data := .seq items2 n2, slots := sl2 } ∧ items.size = N ∧ items2.size = N ∧
    ∀ (h1 : i < items.size) (h2 : i < items2.size), wpAny (model prog w) A.in1 (eqBool items[i] items2[i]) (fun r s' => r = e i ∧ I (i + 1) s') E s
theorem eq_loopB (l b : Addr) (N : Nat) (e : Nat → Bool) (I : Nat → Shared → Prop) (hl : ListB prog w A (fun e s' => R (.error e) s') l b N e I)
    (fin : ∀ i s, I i s → R (.ok (.ret (.bool ((List.range N).all e)))) s) (k : Nat) :
    ∀ i : Nat, N - i = k → i ≤ N → (∀ j, j < i → e j = true) → ∀ s, I i s →
      wpAny (model prog w) A.in1 (Builtin.«list.__eq__.loop» ⟨[.ref l, .ref b, rawInt i, rawInt 2], []⟩) (FinOf prog w A R) (fun e s' => R (.error e) s') s := by
  induction k with
  | zero =>
    intro i hk hi hT s h
    obtain ⟨items, items2, n, n2, sl, sl2, hl1, hb1, hs1, hs2, _⟩ := hl _ _ h
    have hi' : i = N := by omega
    have hall : (List.range N).all e = true := by
      rw [List.all_eq_true]
      exact fun j hj => hT j (by rw [hi']; exact List.mem_range.mp hj)
    have hR := fin i s h
    rw [hall] at hR
    obtain ⟨hp, g, d, tk, os⟩ := s
    wp_walk using wpAny_loadPart' hl1, wpAny_loadPart' hb1
    have hi1 : items[((i : Nat) : Int).toNat]? = none := by simp; omega
    have hi2 : items2[((i : Nat) : Int).toNat]? = none := by simp; omega
    rw [hi1, hi2]
    wp_walk using wpAny_loadPart' hl1, wpAny_loadPart' hb1
    show R (.ok (.ret (.bool (items.size == items2.size)))) _
    rw [hs1, hs2]
    simpa using hR
  | succ k ih =>
    intro i hk hi hT s h
    obtain ⟨items, items2, n, n2, sl, sl2, hl1, hb1, hs1, hs2, turn⟩ := hl _ _ h
    have hlt : i < items.size := by omega
    have hlt2 : i < items2.size := by omega
    have ht := turn hlt hlt2
    obtain ⟨hp, g, d, tk, os⟩ := s
    wp_walk using wpAny_loadPart' hl1, wpAny_loadPart' hb1
    have hi1 : items[((i : Nat) : Int).toNat]? = some items[i] := by simp [hlt]
    have hi2 : items2[((i : Nat) : Int).toNat]? = some items2[i] := by simp [hlt2]
    have hc : ((i : Int) + 1) = ((i + 1 : Nat) : Int) := by omega
    rw [hi1, hi2]
    refine wpAny_bind (wpAny_mono ht (fun r s2 h2 => ?_) fun _ _ x => x)
    obtain ⟨hr, h2⟩ := h2
    subst hr
    cases hb' : e i with
    | true =>
      have hrec := ih (i + 1) (by omega) (by omega) (fun j hj => by
        by_cases hji : j = i
        · rw [hji]; exact hb'
        · exact hT j (by omega)) s2 h2
      obtain ⟨hp2, g2, d2, tk2, os2⟩ := s2
      wp_walk
      rw [hc]
      exact ⟨plainId_quiet plain_eq_loop _, codeAny_builtin entry_eq_loop (by
        rw [Around.under_plainId plain_eq_loop _]
        exact hrec)⟩
    | false =>
      have hall : (List.range N).all e = false := by
        rw [List.all_eq_false]
        exact ⟨i, List.mem_range.mpr (by omega), by simp [hb']⟩
      have hR := fin _ _ h2
      rw [hall] at hR
      obtain ⟨items3, items4, n3, n4, sl3, sl4, hl3, hb3, hs3, hs4, _⟩ := hl _ _ h2
      obtain ⟨hp2, g2, d2, tk2, os2⟩ := s2
      wp_walk using wpAny_loadPart' hl3, wpAny_loadPart' hb3
      have hi3 : items3[((i : Nat) : Int).toNat]? = some (items3[i]'(by omega)) := by simp
      have hi4 : items4[((i : Nat) : Int).toNat]? = some (items4[i]'(by omega)) := by simp
      rw [hi3, hi4]
      wp_walk
      exact hR
theorem ne_loopB (l b : Addr) (N : Nat) (e : Nat → Bool) (I : Nat → Shared → Prop) (hl : ListB prog w A (fun e s' => R (.error e) s') l b N e I)
    (fin : ∀ i s, I i s → R (.ok (.ret (.bool (!(List.range N).all e)))) s) (k : Nat) :
    ∀ i : Nat, N - i = k → i ≤ N → (∀ j, j < i → e j = true) → ∀ s, I i s →
      wpAny (model prog w) A.in1 (Builtin.«list.__eq__.loop» ⟨[.ref l, .ref b, rawInt i, rawInt 3], []⟩) (FinOf prog w A R) (fun e s' => R (.error e) s') s := by
  induction k with
  | zero =>
    intro i hk hi hT s h
    obtain ⟨items, items2, n, n2, sl, sl2, hl1, hb1, hs1, hs2, _⟩ := hl _ _ h
    have hi' : i = N := by omega
    have hall : (List.range N).all e = true := by
      rw [List.all_eq_true]
      exact fun j hj => hT j (by rw [hi']; exact List.mem_range.mp hj)
    have hR := fin i s h
    rw [hall] at hR
    obtain ⟨hp, g, d, tk, os⟩ := s
    wp_walk using wpAny_loadPart' hl1, wpAny_loadPart' hb1
    have hi1 : items[((i : Nat) : Int).toNat]? = none := by simp; omega
    have hi2 : items2[((i : Nat) : Int).toNat]? = none := by simp; omega
    rw [hi1, hi2]
    wp_walk using wpAny_loadPart' hl1, wpAny_loadPart' hb1
    show R (.ok (.ret (.bool (items.size != items2.size)))) _
    rw [hs1, hs2]
    simpa using hR
  | succ k ih =>
    intro i hk hi hT s h
    obtain ⟨items, items2, n, n2, sl, sl2, hl1, hb1, hs1, hs2, turn⟩ := hl _ _ h
    have hlt : i < items.size := by omega
    have hlt2 : i < items2.size := by omega
    have ht := turn hlt hlt2
    obtain ⟨hp, g, d, tk, os⟩ := s
    wp_walk using wpAny_loadPart' hl1, wpAny_loadPart' hb1
    have hi1 : items[((i : Nat) : Int).toNat]? = some items[i] := by simp [hlt]
    have hi2 : items2[((i : Nat) : Int).toNat]? = some items2[i] := by simp [hlt2]
    have hc : ((i : Int) + 1) = ((i + 1 : Nat) : Int) := by omega
    rw [hi1, hi2]
    refine wpAny_bind (wpAny_mono ht (fun r s2 h2 => ?_) fun _ _ x => x)
    obtain ⟨hr, h2⟩ := h2
    subst hr
    cases hb' : e i with
    | true =>
      have hrec := ih (i + 1) (by omega) (by omega) (fun j hj => by
        by_cases hji : j = i
        · rw [hji]; exact hb'
        · exact hT j (by omega)) s2 h2
      obtain ⟨hp2, g2, d2, tk2, os2⟩ := s2
      wp_walk
      rw [hc]
      exact ⟨plainId_quiet plain_eq_loop _, codeAny_builtin entry_eq_loop (by
        rw [Around.under_plainId plain_eq_loop _]
        exact hrec)⟩
    | false =>
      have hall : (List.range N).all e = false := by
        rw [List.all_eq_false]
        exact ⟨i, List.mem_range.mpr (by omega), by simp [hb']⟩
      have hR := fin _ _ h2
      rw [hall] at hR
      obtain ⟨items3, items4, n3, n4, sl3, sl4, hl3, hb3, hs3, hs4, _⟩ := hl _ _ h2
      obtain ⟨hp2, g2, d2, tk2, os2⟩ := s2
      wp_walk using wpAny_loadPart' hl3, wpAny_loadPart' hb3
      have hi3 : items3[((i : Nat) : Int).toNat]? = some (items3[i]'(by omega)) := by simp
      have hi4 : items4[((i : Nat) : Int).toNat]? = some (items4[i]'(by omega)) := by simp
      rw [hi3, hi4]
      wp_walk
      exact hR

theorem list_eqB (l b : Addr) (N : Nat) (e : Nat → Bool) (I : Nat → Shared → Prop) (hl : ListB prog w A (fun e s' => R (.error e) s') l b N e I)
    (fin : ∀ i s, I i s → R (.ok (.ret (.bool ((List.range N).all e)))) s) {s : Shared} (h : I 0 s) :
    wpAny (model prog w) A.in1 (Builtin.«list.__eq__» ⟨[.ref l, .ref b], []⟩) (FinOf prog w A R) (fun e s' => R (.error e) s') s := by
  obtain ⟨items, items2, n, n2, sl, sl2, hl1, hb1, hs1, hs2, _⟩ := hl _ _ h
  have hrec := eq_loopB (A := A) (R := R) l b N e I hl fin _ 0 rfl (Nat.zero_le _) (fun j hj => by omega) s h
  obtain ⟨hp, g, d, tk, os⟩ := s
  have f3 := AutoSeq1.sub_list_list
  have hne : ¬ (items.size != items2.size) = true := by simp [hs1, hs2]
  wp_walk using wpAny_loadPart' hl1, wpAny_loadPart' hb1
  exact ⟨plainId_quiet plain_eq_loop _, codeAny_builtin entry_eq_loop (by
    rw [Around.under_plainId plain_eq_loop _]
    exact hrec)⟩
theorem list_neB (l b : Addr) (N : Nat) (e : Nat → Bool) (I : Nat → Shared → Prop) (hl : ListB prog w A (fun e s' => R (.error e) s') l b N e I)
    (fin : ∀ i s, I i s → R (.ok (.ret (.bool (!(List.range N).all e)))) s) {s : Shared} (h : I 0 s) :
    wpAny (model prog w) A.in1 (Builtin.«list.__ne__» ⟨[.ref l, .ref b], []⟩) (FinOf prog w A R) (fun e s' => R (.error e) s') s := by
  obtain ⟨items, items2, n, n2, sl, sl2, hl1, hb1, hs1, hs2, _⟩ := hl _ _ h
  have hrec := ne_loopB (A := A) (R := R) l b N e I hl fin _ 0 rfl (Nat.zero_le _) (fun j hj => by omega) s h
  obtain ⟨hp, g, d, tk, os⟩ := s
  have f3 := AutoSeq1.sub_list_list
  have hne : ¬ (items.size != items2.size) = true := by simp [hs1, hs2]
  wp_walk using wpAny_loadPart' hl1, wpAny_loadPart' hb1
  exact ⟨plainId_quiet plain_eq_loop _, codeAny_builtin entry_eq_loop (by
    rw [Around.under_plainId plain_eq_loop _]
    exact hrec)⟩

theorem tuple_eqB (l b : Addr) (items items2 : Array Value) (n n2 : Nat) (dd dd2 : Option Addr) (sl sl2 : Array (Option Value)) (e : Nat → Bool) (I : Nat → Shared → Prop)
    (turn : ∀ i (h1 : i < items.size) (h2 : i < items2.size) s, I i s → wpAny (model prog w) A.in1 (eqBool items[i] items2[i]) (fun r s' => r = e i ∧ I (i + 1) s') (fun e s' => R (.error e) s') s)
    (fin : ∀ i s, I i s → R (.ok (.ret (.bool (((List.range (min items.size items2.size)).all e && items.size == items2.size))))) s) {s : Shared} (hl1 : s.heap.get? l = some { cls := .type "tuple", dict := dd, data := .seq items n, slots := sl }) (hb1 : s.heap.get? b = some { cls := .type "tuple", dict := dd2, data := .seq items2 n2, slots := sl2 }) (h : I 0 s) :
    wpAny (model prog w) A.in1 (Builtin.«tuple.__eq__» ⟨[.ref l, .ref b], []⟩) (FinOf prog w A R) (fun e s' => R (.error e) s') s := by
  have f2 := AutoSeq1.sub_tuple_tuple
  have hZ : (items.toList.zip items2.toList).length = min items.size items2.size := by simp
  have h0 := h
  obtain ⟨hp, g, d, tk, os⟩ := s
  wp_walk using wpAny_loadPart' hl1, wpAny_loadPart' hb1, wpAny_forIn_list _ (fun rest b s' => b.1 = none ∧ ∃ i, rest = (items.toList.zip items2.toList).drop i ∧ (∀ j, j < i → e j = true) ∧ I i s') _
  case turn =>
    rintro ⟨y, x⟩ rest b s' ⟨hb', i, hz, hT, hI⟩
    have hlt : i < (items.toList.zip items2.toList).length := by
      rcases Nat.lt_or_ge i (items.toList.zip items2.toList).length with h' | h'
      · exact h'
      · rw [List.drop_of_length_le h'] at hz; cases hz
    have hm : i < min items.size items2.size := hZ ▸ hlt
    have h1 : i < items.size := Nat.lt_of_lt_of_le hm (Nat.min_le_left _ _)
    have h2 : i < items2.size := Nat.lt_of_lt_of_le hm (Nat.min_le_right _ _)
    rw [List.drop_eq_getElem_cons hlt] at hz
    injection hz with hyx hrest
    have hy : y = items[i] := by have := congrArg Prod.fst hyx; simpa using this
    have hx : x = items2[i] := by have := congrArg Prod.snd hyx; simpa using this
    subst hy hx
    refine wpAny_bind (wpAny_mono (turn i h1 h2 s' hI) (fun r s2 q2 => ?_) fun _ _ x => x)
    obtain ⟨hr, q2⟩ := q2
    subst hr
    cases hb2 : e i with
    | true =>
      wp_walk
      exact ⟨rfl, i + 1, hrest, (fun j hj => by
        by_cases hji : j = i
        · rw [hji]; exact hb2
        · exact hT j (by omega)), q2⟩
    | false =>
      have hall : ((List.range (min items.size items2.size)).all e && items.size == items2.size) = false := by
        have : (List.range (min items.size items2.size)).all e = false := by
          rw [List.all_eq_false]
          exact ⟨i, List.mem_range.mpr hm, by simp [hb2]⟩
        rw [this, Bool.false_and]
      have hR := fin _ _ q2
      rw [hall] at hR
      wp_walk
      exact hR
  case fin =>
    rintro ⟨b1, b2⟩ s' ⟨hb', i, hz, hT, hI⟩
    simp only at hb'
    subst hb'
    have hge : min items.size items2.size ≤ i := by
      rcases Nat.lt_or_ge i (items.toList.zip items2.toList).length with h' | h'
      · rw [List.drop_eq_getElem_cons h'] at hz; cases hz
      · exact hZ ▸ h'
    have hall : (List.range (min items.size items2.size)).all e = true := by
      rw [List.all_eq_true]
      exact fun j hj => hT j (Nat.lt_of_lt_of_le (List.mem_range.mp hj) hge)
    have hR := fin _ _ hI
    rw [hall, Bool.true_and] at hR
    wp_walk
    simpa [Builtin.Tuple.tupleCompareSizes] using hR
  case h =>
    exact ⟨rfl, 0, rfl, fun j hj => by omega, h0⟩

theorem tuple_neB (l b : Addr) (items items2 : Array Value) (n n2 : Nat) (dd dd2 : Option Addr) (sl sl2 : Array (Option Value)) (e : Nat → Bool) (I : Nat → Shared → Prop)
    (turn : ∀ i (h1 : i < items.size) (h2 : i < items2.size) s, I i s → wpAny (model prog w) A.in1 (eqBool items[i] items2[i]) (fun r s' => r = e i ∧ I (i + 1) s') (fun e s' => R (.error e) s') s)
    (fin : ∀ i s, I i s → R (.ok (.ret (.bool (!((List.range (min items.size items2.size)).all e && items.size == items2.size))))) s) {s : Shared} (hl1 : s.heap.get? l = some { cls := .type "tuple", dict := dd, data := .seq items n, slots := sl }) (hb1 : s.heap.get? b = some { cls := .type "tuple", dict := dd2, data := .seq items2 n2, slots := sl2 }) (h : I 0 s) :
    wpAny (model prog w) A.in1 (Builtin.«tuple.__ne__» ⟨[.ref l, .ref b], []⟩) (FinOf prog w A R) (fun e s' => R (.error e) s') s := by
  have f2 := AutoSeq1.sub_tuple_tuple
  have hZ : (items.toList.zip items2.toList).length = min items.size items2.size := by simp
  have h0 := h
  obtain ⟨hp, g, d, tk, os⟩ := s
  wp_walk using wpAny_loadPart' hl1, wpAny_loadPart' hb1, wpAny_forIn_list _ (fun rest b s' => b.1 = none ∧ ∃ i, rest = (items.toList.zip items2.toList).drop i ∧ (∀ j, j < i → e j = true) ∧ I i s') _
  case turn =>
    rintro ⟨y, x⟩ rest b s' ⟨hb', i, hz, hT, hI⟩
    have hlt : i < (items.toList.zip items2.toList).length := by
      rcases Nat.lt_or_ge i (items.toList.zip items2.toList).length with h' | h'
      · exact h'
      · rw [List.drop_of_length_le h'] at hz; cases hz
    have hm : i < min items.size items2.size := hZ ▸ hlt
    have h1 : i < items.size := Nat.lt_of_lt_of_le hm (Nat.min_le_left _ _)
    have h2 : i < items2.size := Nat.lt_of_lt_of_le hm (Nat.min_le_right _ _)
    rw [List.drop_eq_getElem_cons hlt] at hz
    injection hz with hyx hrest
    have hy : y = items[i] := by have := congrArg Prod.fst hyx; simpa using this
    have hx : x = items2[i] := by have := congrArg Prod.snd hyx; simpa using this
    subst hy hx
    refine wpAny_bind (wpAny_mono (turn i h1 h2 s' hI) (fun r s2 q2 => ?_) fun _ _ x => x)
    obtain ⟨hr, q2⟩ := q2
    subst hr
    cases hb2 : e i with
    | true =>
      wp_walk
      exact ⟨rfl, i + 1, hrest, (fun j hj => by
        by_cases hji : j = i
        · rw [hji]; exact hb2
        · exact hT j (by omega)), q2⟩
    | false =>
      have hall : ((List.range (min items.size items2.size)).all e && items.size == items2.size) = false := by
        have : (List.range (min items.size items2.size)).all e = false := by
          rw [List.all_eq_false]
          exact ⟨i, List.mem_range.mpr hm, by simp [hb2]⟩
        rw [this, Bool.false_and]
      have hR := fin _ _ q2
      rw [hall] at hR
      wp_walk
      exact hR
  case fin =>
    rintro ⟨b1, b2⟩ s' ⟨hb', i, hz, hT, hI⟩
    simp only at hb'
    subst hb'
    have hge : min items.size items2.size ≤ i := by
      rcases Nat.lt_or_ge i (items.toList.zip items2.toList).length with h' | h'
      · rw [List.drop_eq_getElem_cons h'] at hz; cases hz
      · exact hZ ▸ h'
    have hall : (List.range (min items.size items2.size)).all e = true := by
      rw [List.all_eq_true]
      exact fun j hj => hT j (Nat.lt_of_lt_of_le (List.mem_range.mp hj) hge)
    have hR := fin _ _ hI
    rw [hall, Bool.true_and] at hR
    wp_walk
    show R (.ok (.ret (.bool (items.size != items2.size)))) s'
    simpa [bne] using hR
  case h =>
    exact ⟨rfl, 0, rfl, fun j hj => by omega, h0⟩

/-- in a list -/
def ListC (prog : Program) (w : World) (A : Around) (E : Value → Shared → Prop) (l : Addr) (x : Value) (N : Nat) (e : Nat → Bool) (I : Nat → Shared → Prop) : Prop :=
  ∀ i s, I i s → ∃ (items : Array Value) (n : Nat) (sl : Array (Option Value)), s.heap.get? l = some { cls := .type "list", dict := none, data := .seq items n, slots := sl } ∧ items.size = N ∧
    ∀ (h1 : i < items.size), wpAny (model prog w) A.in1 (eqBool items[i] x) (fun r s' => r = e i ∧ I (i + 1) s') E s
theorem contains_loopB (l : Addr) (x : Value) (N : Nat) (e : Nat → Bool) (I : Nat → Shared → Prop) (hl : ListC prog w A (fun e s' => R (.error e) s') l x N e I)
    (fin : ∀ i s, I i s → R (.ok (.ret (.bool ((List.range N).any e)))) s) (k : Nat) :
    ∀ i : Nat, N - i = k → i ≤ N → (∀ j, j < i → e j = false) → ∀ s, I i s →
      wpAny (model prog w) A.in1 (Builtin.«list.__contains__.loop» ⟨[.ref l, x, rawInt i], []⟩) (FinOf prog w A R) (fun e s' => R (.error e) s') s := by
  induction k with
  | zero =>
    intro i hk hi hT s h
    obtain ⟨items, n, sl, hl1, hs1, _⟩ := hl _ _ h
    have hi' : i = N := by omega
    have hall : (List.range N).any e = false := by
      rw [List.any_eq_false]
      exact fun j hj => by simp [hT j (by rw [hi']; exact List.mem_range.mp hj)]
    have hR := fin i s h
    rw [hall] at hR
    obtain ⟨hp, g, d, tk, os⟩ := s
    wp_walk using wpAny_loadPart' hl1
    have hi1 : items[((i : Nat) : Int).toNat]? = none := by simp; omega
    rw [hi1]
    wp_walk
    exact hR
  | succ k ih =>
    intro i hk hi hT s h
    obtain ⟨items, n, sl, hl1, hs1, turn⟩ := hl _ _ h
    have hlt : i < items.size := by omega
    have ht := turn hlt
    obtain ⟨hp, g, d, tk, os⟩ := s
    wp_walk using wpAny_loadPart' hl1
    have hi1 : items[((i : Nat) : Int).toNat]? = some items[i] := by simp [hlt]
    have hc : ((i : Int) + 1) = ((i + 1 : Nat) : Int) := by omega
    rw [hi1]
    refine wpAny_bind (wpAny_mono ht (fun r s2 h2 => ?_) fun _ _ x => x)
    obtain ⟨hr, h2⟩ := h2
    subst hr
    cases hb' : e i with
    | false =>
      have hrec := ih (i + 1) (by omega) (by omega) (fun j hj => by
        by_cases hji : j = i
        · rw [hji]; exact hb'
        · exact hT j (by omega)) s2 h2
      obtain ⟨hp2, g2, d2, tk2, os2⟩ := s2
      wp_walk
      rw [hc]
      exact ⟨plainId_quiet plain_contains_loop _, codeAny_builtin entry_contains_loop (by
        rw [Around.under_plainId plain_contains_loop _]
        exact hrec)⟩
    | true =>
      have hall : (List.range N).any e = true := by
        rw [List.any_eq_true]
        exact ⟨i, List.mem_range.mpr (by omega), hb'⟩
      have hR := fin _ _ h2
      rw [hall] at hR
      obtain ⟨hp2, g2, d2, tk2, os2⟩ := s2
      wp_walk
      exact hR
theorem list_containsB (l : Addr) (x : Value) (N : Nat) (e : Nat → Bool) (I : Nat → Shared → Prop) (hl : ListC prog w A (fun e s' => R (.error e) s') l x N e I)
    (fin : ∀ i s, I i s → R (.ok (.ret (.bool ((List.range N).any e)))) s) {s : Shared} (h : I 0 s) :
    wpAny (model prog w) A.in1 (Builtin.«list.__contains__» ⟨[.ref l, x], []⟩) (FinOf prog w A R) (fun e s' => R (.error e) s') s := by
  have hrec := contains_loopB (A := A) (R := R) l x N e I hl fin _ 0 rfl (Nat.zero_le _) (fun j hj => by omega) s h
  obtain ⟨hp, g, d, tk, os⟩ := s
  wp_walk
  exact ⟨plainId_quiet plain_contains_loop _, codeAny_builtin entry_contains_loop (by
    rw [Around.under_plainId plain_contains_loop _]
    exact hrec)⟩
theorem tuple_containsB (l : Addr) (x : Value) (items : Array Value) (n : Nat) (dd : Option Addr) (sl : Array (Option Value)) (e : Nat → Bool) (I : Nat → Shared → Prop)
    (turn : ∀ i (h1 : i < items.size) s, I i s → wpAny (model prog w) A.in1 (eqBool items[i] x) (fun r s' => r = e i ∧ I (i + 1) s') (fun e s' => R (.error e) s') s)
    (fin : ∀ i s, I i s → R (.ok (.ret (.bool ((List.range items.size).any e)))) s) {s : Shared} (hl1 : s.heap.get? l = some { cls := .type "tuple", dict := dd, data := .seq items n, slots := sl }) (h : I 0 s) :
    wpAny (model prog w) A.in1 (Builtin.«tuple.__contains__» ⟨[.ref l, x], []⟩) (FinOf prog w A R) (fun e s' => R (.error e) s') s := by
  have h0 := h
  obtain ⟨hp, g, d, tk, os⟩ := s
  wp_walk using wpAny_loadPart' hl1, wpAny_forIn_array _ (fun rest b s' => b.1 = none ∧ ∃ i, rest = items.toList.drop i ∧ (∀ j, j < i → e j = false) ∧ I i s') _
  case turn =>
    rintro y rest b s' ⟨hb', i, hz, hT, hI⟩
    have hlt : i < items.toList.length := by
      rcases Nat.lt_or_ge i items.toList.length with h' | h'
      · exact h'
      · rw [List.drop_of_length_le h'] at hz; cases hz
    have h1 : i < items.size := by simpa using hlt
    rw [List.drop_eq_getElem_cons hlt] at hz
    injection hz with hy hrest
    have hy : y = items[i] := by simpa using hy
    subst hy
    refine wpAny_bind (wpAny_mono (turn i h1 s' hI) (fun r s2 q2 => ?_) fun _ _ x => x)
    obtain ⟨hr, q2⟩ := q2
    subst hr
    cases hb2 : e i with
    | false =>
      wp_walk
      exact ⟨rfl, i + 1, hrest, (fun j hj => by
        by_cases hji : j = i
        · rw [hji]; exact hb2
        · exact hT j (by omega)), q2⟩
    | true =>
      have hall : (List.range items.size).any e = true := by
        rw [List.any_eq_true]
        exact ⟨i, List.mem_range.mpr h1, hb2⟩
      have hR := fin _ _ q2
      rw [hall] at hR
      wp_walk
      exact hR
  case fin =>
    rintro ⟨b1, b2⟩ s' ⟨hb', i, hz, hT, hI⟩
    simp only at hb'
    subst hb'
    have hge : items.size ≤ i := by
      rcases Nat.lt_or_ge i items.toList.length with h' | h'
      · rw [List.drop_eq_getElem_cons h'] at hz; cases hz
      · simpa using h'
    have hall : (List.range items.size).any e = false := by
      rw [List.any_eq_false]
      exact fun j hj => by simp [hT j (Nat.lt_of_lt_of_le (List.mem_range.mp hj) hge)]
    have hR := fin _ _ hI
    rw [hall] at hR
    wp_walk
    exact hR
  case h =>
    exact ⟨rfl, 0, by simp, fun j hj => by omega, h0⟩
end
end HPQ

set_option Elab.async false
set_option linter.all false
set_option autoImplicit false
set_option maxRecDepth 100000
set_option maxHeartbeats 4000000
/-! == and != of an instance with an own ==, and of anything with it. -/
namespace HPQ
open PySem PySem.SeqAt PySem.W
open AutoSeq1 (wpAny_loadPart')
open MeetsSeq MeetsSeq2 MeetsSeq3 SeqRoads2
section
variable (l y C dx : Addr) (items : Array Value) (n : Nat) (dd : Option Addr) (sl : Array (Option Value))
theorem list_eq_declines_ins (x : Addr) :
    Meets (Builtin.«list.__eq__» ⟨[.ref l, .ref y], []⟩) (fun _ R s => s.heap.get? l = some { cls := .type "list", dict := dd, data := .seq items n, slots := sl } ∧ s.heap.get? y = some (instObj C dx) ∧ (∀ M : Model, Looks M s.heap (isSubtype (.ref C) (.type "list")) false) ∧ R (.ok (.ret .notImplemented)) s) :=
  .of_wp fun prog w A R s h => by obtain ⟨hp, g, d, tk, os⟩ := s; obtain ⟨hl, hb, hs, h⟩ := h; wp_walk using wpAny_loadPart' hl, wpAny_loadPart' hb, Looks.at (hs _); exact ⟨_, rfl, h⟩
theorem list_ne_declines_ins (x : Addr) :
    Meets (Builtin.«list.__ne__» ⟨[.ref l, .ref y], []⟩) (fun _ R s => s.heap.get? l = some { cls := .type "list", dict := dd, data := .seq items n, slots := sl } ∧ s.heap.get? y = some (instObj C dx) ∧ (∀ M : Model, Looks M s.heap (isSubtype (.ref C) (.type "list")) false) ∧ R (.ok (.ret .notImplemented)) s) :=
  .of_wp fun prog w A R s h => by obtain ⟨hp, g, d, tk, os⟩ := s; obtain ⟨hl, hb, hs, h⟩ := h; wp_walk using wpAny_loadPart' hl, wpAny_loadPart' hb, Looks.at (hs _); exact ⟨_, rfl, h⟩
theorem tuple_eq_declines_ins (x : Addr) :
    Meets (Builtin.«tuple.__eq__» ⟨[.ref l, .ref y], []⟩) (fun _ R s => s.heap.get? l = some { cls := .type "tuple", dict := dd, data := .seq items n, slots := sl } ∧ s.heap.get? y = some (instObj C dx) ∧ (∀ M : Model, Looks M s.heap (isSubtype (.ref C) (.type "tuple")) false) ∧ R (.ok (.ret .notImplemented)) s) :=
  .of_wp fun prog w A R s h => by obtain ⟨hp, g, d, tk, os⟩ := s; obtain ⟨hl, hb, hs, h⟩ := h; wp_walk using wpAny_loadPart' hl, wpAny_loadPart' hb, Looks.at (hs _); exact ⟨_, rfl, h⟩
theorem tuple_ne_declines_ins (x : Addr) :
    Meets (Builtin.«tuple.__ne__» ⟨[.ref l, .ref y], []⟩) (fun _ R s => s.heap.get? l = some { cls := .type "tuple", dict := dd, data := .seq items n, slots := sl } ∧ s.heap.get? y = some (instObj C dx) ∧ (∀ M : Model, Looks M s.heap (isSubtype (.ref C) (.type "tuple")) false) ∧ R (.ok (.ret .notImplemented)) s) :=
  .of_wp fun prog w A R s h => by obtain ⟨hp, g, d, tk, os⟩ := s; obtain ⟨hl, hb, hs, h⟩ := h; wp_walk using wpAny_loadPart' hl, wpAny_loadPart' hb, Looks.at (hs _); exact ⟨_, rfl, h⟩
theorem int_eq_declines_ins (b : Int) (u : Tok) :
    Meets (Builtin.«int.__eq__» ⟨[.int b u, .ref y], []⟩) (fun _ R s => s.heap.get? y = some (instObj C dx) ∧ R (.ok (.ret .notImplemented)) s) :=
  .of_wp fun prog w A R s h => by obtain ⟨hp, g, d, tk, os⟩ := s; obtain ⟨hl, h⟩ := h; wp_walk using wpAny_loadPart' hl, wpAny_load hl; exact ⟨_, rfl, h⟩
theorem int_ne_declines_ins (b : Int) (u : Tok) :
    Meets (Builtin.«int.__ne__» ⟨[.int b u, .ref y], []⟩) (fun _ R s => s.heap.get? y = some (instObj C dx) ∧ R (.ok (.ret .notImplemented)) s) :=
  .of_wp fun prog w A R s h => by obtain ⟨hp, g, d, tk, os⟩ := s; obtain ⟨hl, h⟩ := h; wp_walk using wpAny_loadPart' hl, wpAny_load hl; exact ⟨_, rfl, h⟩
theorem bool_eq_declines_ins (b : Bool) :
    Meets (Builtin.«int.__eq__» ⟨[.bool b, .ref y], []⟩) (fun _ R s => s.heap.get? y = some (instObj C dx) ∧ R (.ok (.ret .notImplemented)) s) :=
  .of_wp fun prog w A R s h => by obtain ⟨hp, g, d, tk, os⟩ := s; obtain ⟨hl, h⟩ := h; wp_walk using wpAny_loadPart' hl, wpAny_load hl; exact ⟨_, rfl, h⟩
theorem bool_ne_declines_ins (b : Bool) :
    Meets (Builtin.«int.__ne__» ⟨[.bool b, .ref y], []⟩) (fun _ R s => s.heap.get? y = some (instObj C dx) ∧ R (.ok (.ret .notImplemented)) s) :=
  .of_wp fun prog w A R s h => by obtain ⟨hp, g, d, tk, os⟩ := s; obtain ⟨hl, h⟩ := h; wp_walk using wpAny_loadPart' hl, wpAny_load hl; exact ⟨_, rfl, h⟩
theorem str_eq_declines_ins (b : Str) (u : Tok) :
    Meets (Builtin.«str.__eq__» ⟨[.str b u, .ref y], []⟩) (fun _ R s => s.heap.get? y = some (instObj C dx) ∧ R (.ok (.ret .notImplemented)) s) :=
  .of_wp fun prog w A R s h => by obtain ⟨hp, g, d, tk, os⟩ := s; obtain ⟨hl, h⟩ := h; wp_walk using wpAny_loadPart' hl, wpAny_load hl; exact ⟨_, rfl, h⟩
theorem str_ne_declines_ins (b : Str) (u : Tok) :
    Meets (Builtin.«str.__ne__» ⟨[.str b u, .ref y], []⟩) (fun _ R s => s.heap.get? y = some (instObj C dx) ∧ R (.ok (.ret .notImplemented)) s) :=
  .of_wp fun prog w A R s h => by obtain ⟨hp, g, d, tk, os⟩ := s; obtain ⟨hl, h⟩ := h; wp_walk using wpAny_loadPart' hl, wpAny_load hl; exact ⟨_, rfl, h⟩
end
end HPQ
namespace HPQ
open PySem PySem.SeqAt PySem.W
open MeetsSeq MeetsSeq2 MeetsSeq3 SeqRoads2
/-- what the head tells of a class with an own == -/
structure OwnF (K : Frag) (C f : Addr) : Prop where
  eq : findIn K (.ref C) "__eq__" = some (some (.ref f))
  fn : isFn K (.ref f) = true
  ne : findIn K (.ref C) "__ne__" = some (some (.builtin "object.__ne__"))
  ob : subIn K (.ref C) (.type "object") = some true
  sub : ∀ T : String, T ∈ ["NoneType", "bool", "int", "str", "tuple", "list"] → subIn K (.ref C) (.type T) = some false ∧ subIn K (.type T) (.ref C) = some false
section
variable {prog : Program} {w : World} {A : Around} {E : Value → Shared → Prop} {K : Frag} {x C dx f : Addr}
theorem InsAt.cls {h : Heap} (hx : h.get? x = some (instObj C dx)) {M : Model} : Looks M h (typeOf (.ref x)) (.ref C) := (Looks.ld hx).andThen .now
/-- the own == called: v its answer -/
theorem try_own {s : Shared} {b : Value} {Q : Option Value → Shared → Prop} (O : OwnF K C f) (X : K.In s.heap) (hx : s.heap.get? x = some (instObj C dx))
    (h : wpAny (model prog w) A (call (.ref f) [.ref x, b]) (fun v s' => ∃ r, v = .bool r ∧ Q (some (.bool r)) s') E s) : wpAny (model prog w) A (callSpecialIfBound? (.ref x) "__eq__" [b]) Q E s := by
  simp only [callSpecialIfBound?, bindSpecialIfBound?]
  refine wpAny_holding (wpAny_bind (wpAny_bind (wpAny_bind ((InsAt.cls hx).here ((looks_findIn X O.eq).here ?_)))))
  refine wpAny_bind (wpAny_askSetting (wpAny_ite ?_))
  have fin : wpAny (model prog w) A (call (.ref f) ([.ref x] ++ [b]) >>= fun v => pure (some v)) Q E s := wpAny_bind (wpAny_mono h (fun v s' h' => by
    obtain ⟨r, rfl, q⟩ := h'
    exact wpAny_pure q) fun _ _ h' => h')
  split
  · exact wpAny_bind ((bind_fn X _ (beq_iff_eq.mp O.fn)).here (wpAny_pure (by exact fin)))
  · exact wpAny_tryCatch (wpAny_bind ((bind_fn X _ (beq_iff_eq.mp O.fn)).here (wpAny_pure (by exact fin))))
theorem cmp_own_eq {s : Shared} {b : Value} {Q : Option Value → Shared → Prop} (O : OwnF K C f) (X : K.In s.heap) (hx : s.heap.get? x = some (instObj C dx))
    (h : wpAny (model prog w) A (call (.ref f) [.ref x, b]) (fun v s' => ∃ r, v = .bool r ∧ Q (some (.bool r)) s') E s) : wpAny (model prog w) A (tryCompare (.ref x) "__eq__" b) Q E s := by
  simp only [tryCompare]
  refine wpAny_bind (try_own O X hx (wpAny_mono h (fun v s' h' => ?_) fun _ _ z => z))
  obtain ⟨r, rfl, q⟩ := h'
  exact ⟨r, rfl, wpAny_pure q⟩
theorem cmp_own_ne {s : Shared} {b : Value} {Q : Option Value → Shared → Prop} (O : OwnF K C f) (X : K.In s.heap) (hx : s.heap.get? x = some (instObj C dx)) (hu : A.in1.units < cLine)
    (h : wpAny (model prog w) A.in1 (call (.ref f) [.ref x, b]) (fun v s' => ∃ r, v = .bool r ∧ Q (some (.bool (!r))) s') E s) : wpAny (model prog w) A (tryCompare (.ref x) "__ne__" b) Q E s := by
  have SN := F.cmp_object.ne
  have sub : Looks (model prog w) s.heap (isInstance (.ref x) (.type "object")) true := (InsAt.cls hx).andThen (looks_subIn X O.ob)
  have hcall : wpAny (model prog w) A (call (.builtin "object.__ne__") [.ref x, b]) (fun v s' => ∃ r, v = .bool (!r) ∧ Q (some (.bool (!r))) s') E s := by
    refine wpAny_call (codeAny_call_builtin SN.plain F.cmpEntry_ne (@check_slot (model prog w) _ _ s "object.__ne__" "object" "__ne__" (.ref x) [b] [] _ F.cmpKind_ne F.cmpSplit_ne sub (F.cmpArgs_ne _ _) ?_))
    unfold Builtin.«object.__ne__»
    refine wpAny_bind (wpAny_of_eq (a := (.ref x, [b])) (by first | rfl | kernel_rfl) ?_)
    refine wpAny_bind (wpAny_cRoomFor hu ?_)
    refine wpAny_bind (try_own O X hx (wpAny_mono h (fun v s' h' => ?_) fun _ _ z => z))
    obtain ⟨r, rfl, q⟩ := h'
    refine ⟨r, rfl, ?_⟩
    refine wpAny_bind (wpAny_truthy_bool ?_)
    exact wpAny_pure ⟨r, rfl, q⟩
  simp only [tryCompare, callSpecialIfBound?, bindSpecialIfBound?]
  refine wpAny_bind (wpAny_holding (wpAny_bind (wpAny_bind (wpAny_bind ((InsAt.cls hx).here ((looks_findIn X O.ne).here ?_))))))
  simp only [SN.bind]
  refine wpAny_bind (wpAny_askSetting (wpAny_ite ?_))
  have fin : wpAny (model prog w) A (call (.builtin "object.__ne__") ([.ref x] ++ [b]) >>= fun v => pure (some v)) (fun r s' => ∃ k, r = some (.bool (!k)) ∧ Q (some (.bool (!k))) s') E s := wpAny_bind (wpAny_mono hcall (fun v s' h' => by
    obtain ⟨r, rfl, q⟩ := h'
    exact wpAny_pure ⟨r, rfl, q⟩) fun _ _ h' => h')
  split
  · refine wpAny_bind (wpAny_pure (wpAny_pure ?_))
    exact wpAny_mono fin (fun r s' ⟨k, e, q⟩ => by subst e; exact wpAny_pure q) fun _ _ z => z
  · refine wpAny_tryCatch (wpAny_bind (wpAny_pure (wpAny_pure ?_)))
    exact wpAny_mono fin (fun r s' ⟨k, e, q⟩ => by subst e; exact wpAny_pure q) fun _ _ z => z
theorem rc_left_own {s : Shared} {op : CmpOp} {b tb : Value} {Q : Value → Shared → Prop} (hu : A.units < cLine) (hx : s.heap.get? x = some (instObj C dx)) (ht : Looks (model prog w) s.heap (typeOf b) tb)
    (hs : tb = .ref C ∨ Looks (model prog w) s.heap (isSubtype tb (.ref C)) false) (h : wpAny (model prog w) A (tryCompare (.ref x) (cmpInfo op).2.1 b) (fun r s' => ∃ v, r = some v ∧ Q v s') E s) :
    wpAny (model prog w) A (richCompare op (.ref x) b) Q E s := by
  unfold richCompare
  simp only [oneThing_ref]
  refine wpAny_holding (wpAny_bind (wpAny_cRoomFor hu ?_))
  refine wpAny_bind ((InsAt.cls hx).here (wpAny_bind (ht.here ?_)))
  split
  · rename_i q
    rcases hs with rfl | hs
    · simp at q
    refine wpAny_bind (hs.here ?_)
    simp only [Bool.false_eq_true, if_false]
    refine wpAny_bind (wpAny_mono h (fun r s' z => ?_) fun _ _ e => e)
    obtain ⟨v, rfl, hq⟩ := z
    exact wpAny_pure hq
  · refine wpAny_bind (wpAny_pure ?_)
    simp only [Bool.false_eq_true, if_false]
    refine wpAny_bind (wpAny_mono h (fun r s' z => ?_) fun _ _ e => e)
    obtain ⟨v, rfl, hq⟩ := z
    exact wpAny_pure hq
theorem rc_right_own {s : Shared} {op : CmpOp} {a : Value} {T ida : String} {Q : Value → Shared → Prop} (hu : A.units < cLine) (ha : s.TypeIs a T) (hx : s.heap.get? x = some (instObj C dx))
    (hs : Looks (model prog w) s.heap (isSubtype (.ref C) (.type T)) false) (h1 : Slot T (cmpInfo op).2.1 ida)
    (hc1 : ∀ Q' : Value → Shared → Prop, Q' .notImplemented s → wpAny (model prog w) A (call (.builtin ida) [a, .ref x]) Q' E s)
    (h : wpAny (model prog w) A (tryCompare (.ref x) (cmpInfo op).2.2 a) (fun r s' => ∃ v, r = some v ∧ Q v s') E s) :
    wpAny (model prog w) A (richCompare op a (.ref x)) Q E s := by
  rcases hi : cmpInfo op with ⟨sym, f, r⟩
  rw [hi] at h1 h
  simp only [richCompare, hi, ha.oneThing_none]
  try with_reducible refine wpAny_holding ?_
  refine wpAny_bind (wpAny_cRoomFor hu ?_)
  refine wpAny_bind (wpAny_typeOf ha (wpAny_bind ((InsAt.cls hx).here ?_)))
  have hne : (Value.type T != Value.ref C) = true := rfl
  simp only [hne, if_true]
  refine wpAny_bind (hs.here ?_)
  simp only [Bool.false_eq_true, if_false, Bool.not_false, if_true]
  refine wpAny_bind (m := tryCompare a _ (.ref x)) (wpAny_tryCompare_declines ha h1 (hc1 _ ⟨rfl, ?_⟩))
  refine wpAny_bind (m := tryCompare (.ref x) _ a) (wpAny_mono h (fun r s' z => ?_) fun _ _ e => e)
  obtain ⟨v, rfl, hq⟩ := z
  exact wpAny_pure hq
/-- a value that is no instance, by its kind -/
inductive Kin (s : Shared) : Value → Prop
  | none : Kin s .none
  | bool (b : Bool) : Kin s (.bool b)
  | int (i : Int) (t : Tok) : Kin s (.int i t)
  | str (x : Str) (t : Tok) : Kin s (.str x t)
  | list {l : Addr} {items : Array Value} (h : s.heap.IsList l items) : Kin s (.ref l)
  | tuple {l : Addr} {items : Array Value} (h : s.heap.IsTuple l items) : Kin s (.ref l)
theorem kin_ty {s : Shared} {a : Value} (k : Kin s a) : ∃ T, T ∈ ["NoneType", "bool", "int", "str", "tuple", "list"] ∧ ∀ M : Model, Looks M s.heap (typeOf a) (.type T) := by
  cases k with
  | none => exact ⟨"NoneType", by simp, fun M => Looks.of_pure rfl⟩
  | bool b => exact ⟨"bool", by simp, fun M => Looks.of_pure rfl⟩
  | int i t => exact ⟨"int", by simp, fun M => Looks.of_pure rfl⟩
  | str x t => exact ⟨"str", by simp, fun M => Looks.of_pure rfl⟩
  | list h =>
    obtain ⟨o, ho, hc, n, hd⟩ := h
    exact ⟨"list", by simp, fun M => hc ▸ (Looks.ld ho).andThen .now⟩
  | tuple h =>
    obtain ⟨o, ho, hc, n, hd⟩ := h
    exact ⟨"tuple", by simp, fun M => hc ▸ (Looks.ld ho).andThen .now⟩
/-- anything, then an own instance: == -/
theorem rc_kin_eq {s : Shared} {a : Value} {f : Addr} {Q : Value → Shared → Prop} (O : OwnF K C f) (X : K.In s.heap) (hu : A.units < cLine) (k : Kin s a) (hx : s.heap.get? x = some (instObj C dx))
    (h : wpAny (model prog w) A (call (.ref f) [.ref x, a]) (fun v s' => ∃ r, v = .bool r ∧ Q (.bool r) s') E s) : wpAny (model prog w) A (richCompare .Eq a (.ref x)) Q E s := by
  have h' : wpAny (model prog w) A (tryCompare (.ref x) "__eq__" a) (fun r s' => ∃ v, r = some v ∧ Q v s') E s := cmp_own_eq O X hx (wpAny_mono h (fun v s' ⟨r, e, q⟩ => ⟨r, e, _, rfl, q⟩) fun _ _ z => z)
  have hL : ∀ T : String, T ∈ ["NoneType", "bool", "int", "str", "tuple", "list"] → ∀ M : Model, Looks M s.heap (isSubtype (.ref C) (.type T)) false := fun T hT M => looks_subIn X (O.sub T hT).1
  cases k with
  | none => exact rc_right_own hu rfl hx (hL _ (by simp) _) F.slot_NoneType_eq (fun _ hq => call_gives F.slot_NoneType_eq rfl F.entry_NoneType_eq (F.args_NoneType_eq_2 _ _) (NoneType___eq___none_ref_0 x) hq) h'
  | bool b => exact rc_right_own hu rfl hx (hL _ (by simp) _) F.slot_bool_eq (fun _ hq => call_meets F.slot_bool_eq rfl F.entry_int_eq (F.args_int_eq_2 _ _) (bool_eq_declines_ins x C dx b) ⟨hx, hq⟩) h'
  | int i t => exact rc_right_own hu (typeIs_int s i t) hx (hL _ (by simp) _) F.slot_int_eq (fun _ hq => call_meets F.slot_int_eq (typeIs_int s i t) F.entry_int_eq (F.args_int_eq_2 _ _) (int_eq_declines_ins x C dx i t) ⟨hx, hq⟩) h'
  | str z t => exact rc_right_own hu (typeIs_str s z t) hx (hL _ (by simp) _) F.slot_str_eq (fun _ hq => call_meets F.slot_str_eq (typeIs_str s z t) F.entry_str_eq (F.args_str_eq_2 _ _) (str_eq_declines_ins x C dx z t) ⟨hx, hq⟩) h'
  | @list l items hl =>
    obtain ⟨⟨cls, dd, data, sl⟩, ho, hc, n, hd⟩ := hl
    simp only at hc hd
    subst hc hd
    exact rc_right_own hu ⟨_, ho, rfl⟩ hx (hL _ (by simp) _) F.slot_list_eq (fun _ hq => call_meets F.slot_list_eq ⟨_, ho, rfl⟩ F.entry_list_eq (F.args_list_eq_2 _ _) (list_eq_declines_ins l x C dx items n dd sl x) ⟨ho, hx, hL _ (by simp), hq⟩) h'
  | @tuple l items hl =>
    obtain ⟨⟨cls, dd, data, sl⟩, ho, hc, n, hd⟩ := hl
    simp only at hc hd
    subst hc hd
    exact rc_right_own hu ⟨_, ho, rfl⟩ hx (hL _ (by simp) _) F.slot_tuple_eq (fun _ hq => call_meets F.slot_tuple_eq ⟨_, ho, rfl⟩ F.entry_tuple_eq (F.args_tuple_eq_2 _ _) (tuple_eq_declines_ins l x C dx items n dd sl x) ⟨ho, hx, hL _ (by simp), hq⟩) h'
theorem rc_kin_ne {s : Shared} {a : Value} {f : Addr} {Q : Value → Shared → Prop} (O : OwnF K C f) (X : K.In s.heap) (hu : A.units + 1 < cLine) (k : Kin s a) (hx : s.heap.get? x = some (instObj C dx))
    (h : wpAny (model prog w) A.in1 (call (.ref f) [.ref x, a]) (fun v s' => ∃ r, v = .bool r ∧ Q (.bool (!r)) s') E s) : wpAny (model prog w) A (richCompare .NotEq a (.ref x)) Q E s := by
  have h' : wpAny (model prog w) A (tryCompare (.ref x) "__ne__" a) (fun r s' => ∃ v, r = some v ∧ Q v s') E s := cmp_own_ne O X hx hu (wpAny_mono h (fun v s' ⟨r, e, q⟩ => ⟨r, e, _, rfl, q⟩) fun _ _ z => z)
  have hL : ∀ T : String, T ∈ ["NoneType", "bool", "int", "str", "tuple", "list"] → ∀ M : Model, Looks M s.heap (isSubtype (.ref C) (.type T)) false := fun T hT M => looks_subIn X (O.sub T hT).1
  have hu : A.units < cLine := Nat.lt_of_succ_lt hu
  cases k with
  | none => exact rc_right_own hu rfl hx (hL _ (by simp) _) F.slot_NoneType_ne (fun _ hq => call_gives F.slot_NoneType_ne rfl F.entry_NoneType_ne (F.args_NoneType_ne_2 _ _) (NoneType___ne___none_ref_0 x) hq) h'
  | bool b => exact rc_right_own hu rfl hx (hL _ (by simp) _) F.slot_bool_ne (fun _ hq => call_meets F.slot_bool_ne rfl F.entry_int_ne (F.args_int_ne_2 _ _) (bool_ne_declines_ins x C dx b) ⟨hx, hq⟩) h'
  | int i t => exact rc_right_own hu (typeIs_int s i t) hx (hL _ (by simp) _) F.slot_int_ne (fun _ hq => call_meets F.slot_int_ne (typeIs_int s i t) F.entry_int_ne (F.args_int_ne_2 _ _) (int_ne_declines_ins x C dx i t) ⟨hx, hq⟩) h'
  | str z t => exact rc_right_own hu (typeIs_str s z t) hx (hL _ (by simp) _) F.slot_str_ne (fun _ hq => call_meets F.slot_str_ne (typeIs_str s z t) F.entry_str_ne (F.args_str_ne_2 _ _) (str_ne_declines_ins x C dx z t) ⟨hx, hq⟩) h'
  | @list l items hl =>
    obtain ⟨⟨cls, dd, data, sl⟩, ho, hc, n, hd⟩ := hl
    simp only at hc hd
    subst hc hd
    exact rc_right_own hu ⟨_, ho, rfl⟩ hx (hL _ (by simp) _) F.slot_list_ne (fun _ hq => call_meets F.slot_list_ne ⟨_, ho, rfl⟩ F.entry_list_ne (F.args_list_ne_2 _ _) (list_ne_declines_ins l x C dx items n dd sl x) ⟨ho, hx, hL _ (by simp), hq⟩) h'
  | @tuple l items hl =>
    obtain ⟨⟨cls, dd, data, sl⟩, ho, hc, n, hd⟩ := hl
    simp only at hc hd
    subst hc hd
    exact rc_right_own hu ⟨_, ho, rfl⟩ hx (hL _ (by simp) _) F.slot_tuple_ne (fun _ hq => call_meets F.slot_tuple_ne ⟨_, ho, rfl⟩ F.entry_tuple_ne (F.args_tuple_ne_2 _ _) (tuple_ne_declines_ins l x C dx items n dd sl x) ⟨ho, hx, hL _ (by simp), hq⟩) h'
/-- an own instance, then anything -/
theorem rc_own_eq {s : Shared} {b : Value} {f : Addr} {Q : Value → Shared → Prop} (O : OwnF K C f) (X : K.In s.heap) (hu : A.units < cLine) (hx : s.heap.get? x = some (instObj C dx)) (hb : Kin s b ∨ ∃ y dy, b = .ref y ∧ s.heap.get? y = some (instObj C dy))
    (h : wpAny (model prog w) A (call (.ref f) [.ref x, b]) (fun v s' => ∃ r, v = .bool r ∧ Q (.bool r) s') E s) : wpAny (model prog w) A (richCompare .Eq (.ref x) b) Q E s := by
  have h' : wpAny (model prog w) A (tryCompare (.ref x) "__eq__" b) (fun r s' => ∃ v, r = some v ∧ Q v s') E s := cmp_own_eq O X hx (wpAny_mono h (fun v s' ⟨r, e, q⟩ => ⟨r, e, _, rfl, q⟩) fun _ _ z => z)
  rcases hb with k | ⟨y, dy, rfl, hy⟩
  · obtain ⟨T, hT, ht⟩ := kin_ty k
    exact rc_left_own hu hx (tb := .type T) (ht _) (.inr (looks_subIn X (O.sub T hT).2)) h'
  · exact rc_left_own hu hx (InsAt.cls hy) (.inl rfl) h'
theorem rc_own_ne {s : Shared} {b : Value} {f : Addr} {Q : Value → Shared → Prop} (O : OwnF K C f) (X : K.In s.heap) (hu : A.units + 1 < cLine) (hx : s.heap.get? x = some (instObj C dx)) (hb : Kin s b ∨ ∃ y dy, b = .ref y ∧ s.heap.get? y = some (instObj C dy))
    (h : wpAny (model prog w) A.in1 (call (.ref f) [.ref x, b]) (fun v s' => ∃ r, v = .bool r ∧ Q (.bool (!r)) s') E s) : wpAny (model prog w) A (richCompare .NotEq (.ref x) b) Q E s := by
  have h' : wpAny (model prog w) A (tryCompare (.ref x) "__ne__" b) (fun r s' => ∃ v, r = some v ∧ Q v s') E s := cmp_own_ne O X hx hu (wpAny_mono h (fun v s' ⟨r, e, q⟩ => ⟨r, e, _, rfl, q⟩) fun _ _ z => z)
  have hu : A.units < cLine := Nat.lt_of_succ_lt hu
  rcases hb with k | ⟨y, dy, rfl, hy⟩
  · obtain ⟨T, hT, ht⟩ := kin_ty k
    exact rc_left_own hu hx (tb := .type T) (ht _) (.inr (looks_subIn X (O.sub T hT).2)) h'
  · exact rc_left_own hu hx (InsAt.cls hy) (.inl rfl) h'
end
end HPQ

set_option Elab.async false
set_option linter.all false
set_option autoImplicit false
set_option maxRecDepth 100000
set_option maxHeartbeats 4000000
/-! What the plain values and memories are in the layer's abstract heap; readings by outcomes. -/
namespace HP
open PySem L2

/-- the classes of the text: where they stand, the names of what their instances hold -/
structure Zx where
  nc : Nat
  cls : Nat → Addr
  anm : Nat → Str
  atoms : Bool
structure Kx where
  K : PySem.W.Frag
  w : World
  Z : Zx
abbrev kx (X : Cx) (Z : Zx) : Kx := ⟨X.K, X.w, Z⟩
/-- a tuple that is read and never changes -/
def TR (K : Kx) (H : Hp) (a : Addr) (us : List V) : Prop := H a = some (.tup us) ∨ (∃ o, H a = some (.frz o (.tup us))) ∨ ∀ H', SqT K.K H' a us
/-- a list that is read and never changes -/
def LR (K : Kx) (H : Hp) (a : Addr) (us : List V) : Prop := (∃ o, H a = some (.frz o (.lst us))) ∨ ∀ H', SqL K.K H' a us
theorem TR.sq {K : Kx} {H : Hp} {a : Addr} {us : List V} (h : TR K H a us) : SqT K.K H a us := by
  rcases h with h | ⟨o, h⟩ | h
  · exact .inl (.inl h)
  · exact .inl (.inr ⟨o, h⟩)
  · exact h H
theorem LR.sq {K : Kx} {H : Hp} {a : Addr} {us : List V} (h : LR K H a us) : SqL K.K H a us := by
  rcases h with ⟨o, h⟩ | h
  · exact .inl (.inr ⟨o, h⟩)
  · exact h H

def tyS : Ty → String
  | .int => "int" | .str => "str" | .bool => "bool" | .tuple => "tuple" | .list => "list" | .dict => "dict" | .own _ => ""
/-- code points -/
def vstr (s : List Nat) : Bool := s.all fun c => decide (c < 1114112)
/-- a dict of the module, by its keys -/
def RodK (K : Kx) (a : Addr) (ks : List PV) (us : List V) : Prop := ∃ es n, KDict K.K K.w a es n ∧ ∀ z : Str, match keyIx z.cps.toList ks with
  | none => PySem.W.nsIn K.K a z = some none
  | some j => ∃ u uv, us[j]? = some u ∧ PySem.W.nsIn K.K a z = some (some uv) ∧ RelV u uv
/-- an instance with such attributes -/
def InsH (K : Kx) (H : Hp) (a : Addr) (c : Nat) (ns : List Nat) (us : List V) : Prop := ∃ dx, H a = some (.ins (K.Z.cls c) dx ((ns.map K.Z.anm).zip us)) ∧ us.length = ns.length
theorem InsH.at_ {K : Kx} {H H' : Hp} {a : Addr} {c : Nat} {ns : List Nat} {us : List V} (h : InsH K H a c ns us) (e : ∀ o, H a = some o → H' a = some o) : InsH K H' a c ns us := by
  obtain ⟨dx, h1, h2⟩ := h
  exact ⟨dx, e _ h1, h2⟩
theorem InsH.some {K : Kx} {H : Hp} {a : Addr} {c : Nat} {ns : List Nat} {us : List V} (h : InsH K H a c ns us) : ∃ C dx fs, H a = some (.ins C dx fs) := by
  obtain ⟨dx, h1, h2⟩ := h
  exact ⟨_, _, _, h1⟩
mutual
/-- a value as it stands in a heap -/
def VR (K : Kx) (ρ : List Addr) (H : Hp) : PV → V → Prop
  | .non, u => u = .non
  | .bl b, u => u = .bl b
  | .int i, u => u = .int i
  | .str s, u => ∃ x : Str, u = .str x ∧ x.cps.toList = s ∧ vstr s = true
  | .tup vs, u => ∃ a us, u = .ref a ∧ TR K H a us ∧ VRs K ρ H vs us
  | .rol vs, u => ∃ a us, u = .ref a ∧ LR K H a us ∧ VRs K ρ H vs us
  | .ref n, u => ∃ a, u = .ref a ∧ ρ[n]? = some a
  | .obj c ns vs, u => ∃ a us, u = .ref a ∧ a ∉ ρ ∧ (InsH K H a c ns us ∧ (c = 0 → K.Z.atoms = true) ∧ c < K.Z.nc) ∧ VRs K ρ H vs us
  | .rod ks vs, u => ∃ a us, u = .ref a ∧ RodK K a ks us ∧ VRs K ρ H vs us
  | .ty T, u => match T with
    | .own c => u = .ref (K.Z.cls c) ∧ c < K.Z.nc
    | T => u = .ty (tyS T)
def VRs (K : Kx) (ρ : List Addr) (H : Hp) : List PV → List V → Prop
  | [], us => us = []
  | v :: vs, us => ∃ u ur, us = u :: ur ∧ VR K ρ H v u ∧ VRs K ρ H vs ur
end

/-- from one heap to a later one: what is not held in the memory is kept; what comes into the memory is new -/
structure Fw (ρ ρ' : List Addr) (H H' : Hp) : Prop where
  pre : ∃ r, ρ' = ρ ++ r
  keep : ∀ b o, H b = some o → b ∉ ρ → H' b = some o
  new : ∀ b, b ∈ ρ' → b ∈ ρ ∨ H b = none
theorem Fw.refl {ρ : List Addr} {H : Hp} : Fw ρ ρ H H := ⟨⟨[], by simp⟩, fun _ _ h _ => h, fun _ h => .inl h⟩
theorem Fw.trans {ρ ρ1 ρ2 : List Addr} {H H1 H2 : Hp} (a : Fw ρ ρ1 H H1) (b : Fw ρ1 ρ2 H1 H2) : Fw ρ ρ2 H H2 := by
  have k : ∀ x o, H x = some o → x ∉ ρ → H1 x = some o ∧ x ∉ ρ1 := fun x o h n => ⟨a.keep x o h n, fun m => by
    rcases a.new x m with q | q
    · exact n q
    · rw [q] at h; cases h⟩
  refine ⟨?_, fun x o h n => ?_, fun x m => ?_⟩
  · obtain ⟨r, rfl⟩ := a.pre
    obtain ⟨r', rfl⟩ := b.pre
    exact ⟨r ++ r', by simp⟩
  · obtain ⟨h1, n1⟩ := k x o h n
    exact b.keep x o h1 n1
  · by_cases hx : x ∈ ρ
    · exact .inl hx
    · refine .inr ?_
      cases q : H x with
      | none => rfl
      | some o =>
        obtain ⟨h1, n1⟩ := k x o q hx
        rcases b.new x m with z | z
        · exact absurd z n1
        · rw [z] at h1; cases h1
theorem Fw.get {ρ ρ' : List Addr} {H H' : Hp} (f : Fw ρ ρ' H H') {n : Nat} {a : Addr} (h : ρ[n]? = some a) : ρ'[n]? = some a := by
  obtain ⟨r, rfl⟩ := f.pre
  rw [List.getElem?_append_left (List.getElem?_eq_some_iff.mp h).1]
  exact h

/-- what stands at the memory's addresses may be written -/
def Own (ρ : List Addr) (H : Hp) : Prop := ∀ a ∈ ρ, Mut (H a)
theorem TR.mono {K : Kx} {ρ ρ' : List Addr} {H H' : Hp} {a : Addr} {us : List V} (w : Own ρ H) (f : Fw ρ ρ' H H') (h : TR K H a us) : TR K H' a us := by
  rcases h with h | ⟨o, h⟩ | h
  · exact .inl (f.keep a _ h fun m => by have := w a m; rw [h] at this; exact this)
  · exact .inr (.inl ⟨o, f.keep a _ h fun m => by have := w a m; rw [h] at this; exact this⟩)
  · exact .inr (.inr h)
theorem LR.mono {K : Kx} {ρ ρ' : List Addr} {H H' : Hp} {a : Addr} {us : List V} (w : Own ρ H) (f : Fw ρ ρ' H H') (h : LR K H a us) : LR K H' a us := by
  rcases h with ⟨o, h⟩ | h
  · exact .inl ⟨o, f.keep a _ h fun m => by have := w a m; rw [h] at this; exact this⟩
  · exact .inr h

mutual
theorem VR.mono {K : Kx} {ρ ρ' : List Addr} {H H' : Hp} (w : Own ρ H) (f : Fw ρ ρ' H H') : ∀ (v : PV) (u : V), VR K ρ H v u → VR K ρ' H' v u
  | .non, u, h => by unfold VR at h ⊢; exact h
  | .bl b, u, h => by unfold VR at h ⊢; exact h
  | .int i, u, h => by unfold VR at h ⊢; exact h
  | .str s, u, h => by unfold VR at h ⊢; exact h
  | .tup vs, u, h => by
    unfold VR at h ⊢
    obtain ⟨a, us, e, t, r⟩ := h
    exact ⟨a, us, e, t.mono w f, VRs.mono w f vs us r⟩
  | .rol vs, u, h => by
    unfold VR at h ⊢
    obtain ⟨a, us, e, t, r⟩ := h
    exact ⟨a, us, e, t.mono w f, VRs.mono w f vs us r⟩
  | .ref n, u, h => by
    unfold VR at h ⊢
    obtain ⟨a, e, q⟩ := h
    exact ⟨a, e, f.get q⟩
  | .obj c ns vs, u, h => by
    unfold VR at h ⊢
    obtain ⟨a, us, e, n, q, r⟩ := h
    refine ⟨a, us, e, fun m => ?_, ⟨q.1.at_ fun o z => f.keep a o z n, q.2⟩, VRs.mono w f vs us r⟩
    rcases f.new a m with z | z
    · exact n z
    · obtain ⟨C, dx, fs, hq⟩ := q.1.some
      rw [z] at hq; cases hq
  | .rod ks vs, u, h => by
    unfold VR at h ⊢
    obtain ⟨a, us, e, q, r⟩ := h
    exact ⟨a, us, e, q, VRs.mono w f vs us r⟩
  | .ty T, u, h => by unfold VR at h ⊢; exact h
theorem VRs.mono {K : Kx} {ρ ρ' : List Addr} {H H' : Hp} (w : Own ρ H) (f : Fw ρ ρ' H H') : ∀ (vs : List PV) (us : List V), VRs K ρ H vs us → VRs K ρ' H' vs us
  | [], us, h => by unfold VRs at h ⊢; exact h
  | v :: vs, us, h => by
    unfold VRs at h ⊢
    obtain ⟨u, ur, e, a, b⟩ := h
    exact ⟨u, ur, e, VR.mono w f v u a, VRs.mono w f vs ur b⟩
end

section
variable {K : Kx} {ρ ρ' : List Addr} {H H' : Hp}
theorem vrs_nil : VRs K ρ H [] [] := by unfold VRs; rfl
theorem vrs_cons {v : PV} {u : V} {vs : List PV} {us : List V} (h : VR K ρ H v u) (t : VRs K ρ H vs us) : VRs K ρ H (v :: vs) (u :: us) := by
  unfold VRs
  exact ⟨u, us, rfl, h, t⟩
theorem VRs.inv {v : PV} {vs : List PV} {us : List V} (h : VRs K ρ H (v :: vs) us) : ∃ u ur, us = u :: ur ∧ VR K ρ H v u ∧ VRs K ρ H vs ur := by
  unfold VRs at h
  exact h
theorem VRs.nil {us : List V} (h : VRs K ρ H [] us) : us = [] := by
  unfold VRs at h
  exact h
theorem VRs.length : ∀ {vs : List PV} {us : List V}, VRs K ρ H vs us → us.length = vs.length
  | [], us, h => by rw [h.nil]; rfl
  | v :: vs, us, h => by
    obtain ⟨u, ur, rfl, _, t⟩ := h.inv
    simp [VRs.length t]
theorem VRs.get : ∀ {vs : List PV} {us : List V} {i : Nat} {v : PV}, VRs K ρ H vs us → vs[i]? = some v → ∃ u, us[i]? = some u ∧ VR K ρ H v u
  | [], _, _, _, _, e => by simp at e
  | x :: vs, us, 0, v, h, e => by
    obtain ⟨u, ur, rfl, a, _⟩ := h.inv
    simp at e
    subst e
    exact ⟨u, by simp, a⟩
  | x :: vs, us, i + 1, v, h, e => by
    obtain ⟨u, ur, rfl, _, t⟩ := h.inv
    obtain ⟨w, e1, e2⟩ := VRs.get (i := i) t (by simpa using e)
    exact ⟨w, by simpa using e1, e2⟩
theorem VRs.append : ∀ {vs ws : List PV} {us xs : List V}, VRs K ρ H vs us → VRs K ρ H ws xs → VRs K ρ H (vs ++ ws) (us ++ xs)
  | [], ws, us, xs, h, t => by rw [h.nil]; simpa using t
  | v :: vs, ws, us, xs, h, t => by
    obtain ⟨u, ur, rfl, a, b⟩ := h.inv
    exact vrs_cons a (VRs.append b t)
theorem VRs.set : ∀ {vs : List PV} {us : List V} {v : PV} {u : V} (j : Nat), VR K ρ H v u → VRs K ρ H vs us → VRs K ρ H (vs.set j v) (us.set j u)
  | [], us, v, u, j, _, h => by rw [h.nil]; simpa using vrs_nil
  | x :: vs, us, v, u, 0, r, h => by
    obtain ⟨y, ur, rfl, a, b⟩ := h.inv
    simpa using vrs_cons r b
  | x :: vs, us, v, u, j + 1, r, h => by
    obtain ⟨y, ur, rfl, a, b⟩ := h.inv
    simpa using vrs_cons a (VRs.set j r b)
theorem VRs.take : ∀ {vs : List PV} {us : List V} (n : Nat), VRs K ρ H vs us → VRs K ρ H (vs.take n) (us.take n)
  | vs, us, 0, _ => by simpa using vrs_nil
  | [], us, n + 1, h => by rw [h.nil]; simpa using vrs_nil
  | x :: vs, us, n + 1, h => by
    obtain ⟨y, ur, rfl, a, b⟩ := h.inv
    simpa using vrs_cons a (VRs.take n b)
theorem VRs.drop : ∀ {vs : List PV} {us : List V} (n : Nat), VRs K ρ H vs us → VRs K ρ H (vs.drop n) (us.drop n)
  | vs, us, 0, h => by simpa using h
  | [], us, n + 1, h => by rw [h.nil]; simpa using vrs_nil
  | x :: vs, us, n + 1, h => by
    obtain ⟨y, ur, rfl, a, b⟩ := h.inv
    simpa using VRs.drop n b
end

theorem nodupIx {α : Type} {N : List α} (hN : N.Nodup) {i j : Nat} {x : α} (a : N[i]? = some x) (b : N[j]? = some x) : i = j := by
  obtain ⟨h1, e1⟩ := List.getElem?_eq_some_iff.mp a
  obtain ⟨h2, e2⟩ := List.getElem?_eq_some_iff.mp b
  exact (List.getElem_inj hN).mp (e1.trans e2.symm)
/-- a cell of the memory, what stands at its address -/
def keyK : PK → Key
  | .i i => .inl i
  | .s s => .inr ⟨s.toArray⟩
def kOk : PK → Bool
  | .i _ => true
  | .s s => vstr s
/-- a dict's pairs -/
def KVsR (K : Kx) (ρ : List Addr) (H : Hp) (kvs : List (PK × PV)) (us : List (Key × V)) : Prop :=
  us.map (·.1) = kvs.map (fun p => keyK p.1) ∧ VRs K ρ H (kvs.map (·.2)) (us.map (·.2))
def KOk (kvs : List (PK × PV)) : Prop := (kvs.map (·.1)).Nodup ∧ ∀ p ∈ kvs, kOk p.1 = true
def CellR (K : Kx) (ρ : List Addr) (H : Hp) : Cell → Option HO → Prop
  | .lst xs, o => ∃ us, o = some (.lst us) ∧ VRs K ρ H xs us
  | .dic kvs, o => ∃ us, o = some (.dK us) ∧ KVsR K ρ H kvs us ∧ KOk kvs
  | .ins c ns vs, o => c < K.Z.nc ∧ ∃ dx us, o = some (.ins (K.Z.cls c) dx ((ns.map K.Z.anm).zip us)) ∧ us.length = ns.length ∧ VRs K ρ H vs us
structure MemR (K : Kx) (M : Mem) (ρ : List Addr) (H : Hp) : Prop where
  len : ρ.length = M.length
  nd : ρ.Nodup
  cell : ∀ (n : Nat) (c : Cell) (a : Addr), M[n]? = some c → ρ[n]? = some a → CellR K ρ H c (H a)
theorem CellR.mut {K : Kx} {ρ : List Addr} {H : Hp} {c : Cell} {o : Option HO} (h : CellR K ρ H c o) : Mut o := by
  cases c with
  | lst xs =>
    obtain ⟨us, rfl, _⟩ := h
    exact trivial
  | dic kvs =>
    obtain ⟨us, rfl, _⟩ := h
    exact trivial
  | ins c ns vs =>
    obtain ⟨_, dx, us, rfl, _⟩ := h
    exact trivial
theorem CellR.mono {K : Kx} {ρ ρ' : List Addr} {H H' : Hp} {c : Cell} {o : Option HO} (w : Own ρ H) (f : Fw ρ ρ' H H') (h : CellR K ρ H c o) : CellR K ρ' H' c o := by
  cases c with
  | lst xs =>
    obtain ⟨us, e, r⟩ := h
    exact ⟨us, e, r.mono w f⟩
  | dic kvs =>
    obtain ⟨us, e, ⟨r1, r2⟩, q⟩ := h
    exact ⟨us, e, ⟨r1, r2.mono w f⟩, q⟩
  | ins c ns vs =>
    obtain ⟨hc, dx, us, e, l, r⟩ := h
    exact ⟨hc, dx, us, e, l, r.mono w f⟩
theorem MemR.own {K : Kx} {M : Mem} {ρ : List Addr} {H : Hp} (m : MemR K M ρ H) : Own ρ H := fun a ha => by
  obtain ⟨n, hn, e⟩ := List.getElem_of_mem ha
  have h1 : ρ[n]? = some a := by rw [List.getElem?_eq_getElem hn, e]
  have h2 : n < M.length := by rw [← m.len]; exact hn
  exact (m.cell n M[n] a (List.getElem?_eq_getElem h2) h1).mut
theorem MemR.at_ {K : Kx} {M : Mem} {ρ : List Addr} {H : Hp} (m : MemR K M ρ H) {n : Nat} {c : Cell} (h : M[n]? = some c) : ∃ a, ρ[n]? = some a ∧ CellR K ρ H c (H a) := by
  have hn : n < ρ.length := by rw [m.len]; exact (List.getElem?_eq_some_iff.mp h).1
  exact ⟨ρ[n], List.getElem?_eq_getElem hn, m.cell n c _ h (List.getElem?_eq_getElem hn)⟩
theorem MemR.lst {K : Kx} {M : Mem} {ρ : List Addr} {H : Hp} (m : MemR K M ρ H) {n : Nat} {xs : List PV} {a : Addr} (h : M[n]? = some (.lst xs)) (ha : ρ[n]? = some a) : ∃ us, H a = some (.lst us) ∧ VRs K ρ H xs us :=
  m.cell n _ a h ha
/-- an address that holds nothing is none of the memory's -/
theorem MemR.fresh {K : Kx} {M : Mem} {ρ : List Addr} {H : Hp} (m : MemR K M ρ H) {p : Addr} (h : H p = none) : p ∉ ρ := fun hp => by
  have := m.own p hp
  rw [h] at this
  exact this
/-- a new thing beside the memory -/
theorem Fw.side {ρ : List Addr} {H : Hp} {p : Addr} {o : HO} (h : H p = none) : Fw ρ ρ H (upd H p o) :=
  ⟨⟨[], by simp⟩, fun b u e _ => by rw [upd_ne (ne_of_none e h)]; exact e, fun b m => .inl m⟩
theorem MemR.side {K : Kx} {M : Mem} {ρ : List Addr} {H : Hp} (m : MemR K M ρ H) {p : Addr} {o : HO} (h : H p = none) : MemR K M ρ (upd H p o) :=
  ⟨m.len, m.nd, fun n c a e1 e2 => by
    have hne : a ≠ p := fun z => m.fresh h (z ▸ List.mem_of_getElem? e2)
    rw [upd_ne hne]
    exact (m.cell n c a e1 e2).mono m.own (Fw.side h)⟩
/-- a new cell -/
theorem Fw.push {ρ : List Addr} {H : Hp} {p : Addr} {o : HO} (h : H p = none) : Fw ρ (ρ ++ [p]) H (upd H p o) :=
  ⟨⟨[p], rfl⟩, fun b u e _ => by rw [upd_ne (ne_of_none e h)]; exact e, fun b m => by
    rcases List.mem_append.mp m with q | q
    · exact .inl q
    · rw [List.mem_singleton.mp q]; exact .inr h⟩
/-- a cell, what is laid for it -/
def CellN (K : Kx) (ρ : List Addr) (H : Hp) (c : Cell) (o : HO) : Prop := CellR K ρ H c (some o)
theorem MemR.pushC {K : Kx} {M : Mem} {ρ : List Addr} {H : Hp} (m : MemR K M ρ H) {p : Addr} {c : Cell} {o : HO} (h : H p = none) (r : CellN K ρ H c o) : MemR K (M ++ [c]) (ρ ++ [p]) (upd H p o) := by
  have f : Fw ρ (ρ ++ [p]) H (upd H p o) := Fw.push h
  refine ⟨by simp [m.len], ?_, fun n d a e1 e2 => ?_⟩
  · rw [List.nodup_append]
    exact ⟨m.nd, by simp, fun a ha b hb => by rw [List.mem_singleton.mp hb]; exact fun z => m.fresh h (z ▸ ha)⟩
  · by_cases hn : n < M.length
    · rw [List.getElem?_append_left hn] at e1
      rw [List.getElem?_append_left (by rw [m.len]; exact hn)] at e2
      have hne : a ≠ p := fun z => m.fresh h (z ▸ List.mem_of_getElem? e2)
      rw [upd_ne hne]
      exact (m.cell n d a e1 e2).mono m.own f
    · have hl : n < (M ++ [c]).length := (List.getElem?_eq_some_iff.mp e1).1
      have e : n = M.length := by
        simp at hl
        omega
      subst e
      rw [List.getElem?_append_right (Nat.le_refl _)] at e1
      rw [List.getElem?_append_right (by rw [m.len]; exact Nat.le_refl _), m.len] at e2
      simp at e1 e2
      subst e1 e2
      rw [upd_same]
      exact CellR.mono m.own f r
theorem MemR.push {K : Kx} {M : Mem} {ρ : List Addr} {H : Hp} (m : MemR K M ρ H) {p : Addr} {xs : List PV} {us : List V} (h : H p = none) (r : VRs K ρ H xs us) : MemR K (M ++ [.lst xs]) (ρ ++ [p]) (upd H p (.lst us)) :=
  m.pushC h (show CellR K ρ H (.lst xs) (some (.lst us)) from ⟨us, rfl, r⟩)
/-- a cell is written -/
theorem Fw.write {ρ : List Addr} {H : Hp} {a : Addr} {o : HO} (h : a ∈ ρ) : Fw ρ ρ H (upd H a o) :=
  ⟨⟨[], by simp⟩, fun b u e n => by rw [upd_ne (show b ≠ a from fun z => n (by rw [z]; exact h))]; exact e, fun b m => .inl m⟩
theorem MemR.writeC {K : Kx} {M : Mem} {ρ : List Addr} {H : Hp} (m : MemR K M ρ H) {n : Nat} {a : Addr} {d : Cell} {o : HO} (ha : ρ[n]? = some a) (r : CellN K ρ H d o) : MemR K (M.set n d) ρ (upd H a o) := by
  have f : Fw ρ ρ H (upd H a o) := Fw.write (List.mem_of_getElem? ha)
  refine ⟨by simp [m.len], m.nd, fun k c b e1 e2 => ?_⟩
  by_cases hk : k = n
  · subst hk
    rw [ha] at e2
    cases e2
    rw [List.getElem?_set] at e1
    have hlt : k < M.length := by rw [← m.len]; exact (List.getElem?_eq_some_iff.mp ha).1
    simp [hlt] at e1
    subst e1
    rw [upd_same]
    exact CellR.mono m.own f r
  · rw [List.getElem?_set_ne (Ne.symm hk)] at e1
    have hne : b ≠ a := fun z => by
      subst z
      exact hk (nodupIx m.nd e2 ha)
    rw [upd_ne hne]
    exact (m.cell k c b e1 e2).mono m.own f
theorem MemR.write {K : Kx} {M : Mem} {ρ : List Addr} {H : Hp} (m : MemR K M ρ H) {n : Nat} {a : Addr} {xs : List PV} {us : List V} (ha : ρ[n]? = some a) (r : VRs K ρ H xs us) : MemR K (M.set n (.lst xs)) ρ (upd H a (.lst us)) :=
  m.writeC ha (show CellR K ρ H (.lst xs) (some (.lst us)) from ⟨us, rfl, r⟩)
theorem MemR.ins {K : Kx} {M : Mem} {ρ : List Addr} {H : Hp} (m : MemR K M ρ H) {n : Nat} {c : Nat} {ns : List Nat} {vs : List PV} {a : Addr} (h : M[n]? = some (.ins c ns vs)) (ha : ρ[n]? = some a) : c < K.Z.nc ∧ ∃ dx us, H a = some (.ins (K.Z.cls c) dx ((ns.map K.Z.anm).zip us)) ∧ us.length = ns.length ∧ VRs K ρ H vs us :=
  m.cell n _ a h ha

/-! ### a list beside the memory -/
theorem TR.out {K : Kx} {H : Hp} {D : Addr} {xs : List V} {o : HO} (hD : H D = some (.lst xs)) {a : Addr} {us : List V} (h : TR K H a us) : TR K (upd H D o) a us := by
  have ne : ∀ {u}, H a = some u → (∀ ys, u ≠ .lst ys) → a ≠ D := fun {u} e z q => by
    subst q
    rw [hD] at e
    cases e
    exact z xs rfl
  rcases h with h | ⟨q, h⟩ | h
  · exact .inl (by rw [upd_ne (ne h fun _ z => nomatch z)]; exact h)
  · exact .inr (.inl ⟨q, by rw [upd_ne (ne h fun _ z => nomatch z)]; exact h⟩)
  · exact .inr (.inr h)
theorem LR.out {K : Kx} {H : Hp} {D : Addr} {xs : List V} {o : HO} (hD : H D = some (.lst xs)) {a : Addr} {us : List V} (h : LR K H a us) : LR K (upd H D o) a us := by
  rcases h with ⟨q, h⟩ | h
  · refine .inl ⟨q, ?_⟩
    rw [upd_ne (fun z => by subst z; rw [hD] at h; cases h)]
    exact h
  · exact .inr h
mutual
theorem VR.out {K : Kx} {ρ : List Addr} {H : Hp} {D : Addr} {xs : List V} {o : HO} (hD : H D = some (.lst xs)) : ∀ (v : PV) (u : V), VR K ρ H v u → VR K ρ (upd H D o) v u
  | .non, u, h => by unfold VR at h ⊢; exact h
  | .bl b, u, h => by unfold VR at h ⊢; exact h
  | .int i, u, h => by unfold VR at h ⊢; exact h
  | .str s, u, h => by unfold VR at h ⊢; exact h
  | .tup vs, u, h => by
    unfold VR at h ⊢
    obtain ⟨a, us, e, t, r⟩ := h
    exact ⟨a, us, e, t.out hD, VRs.out hD vs us r⟩
  | .rol vs, u, h => by
    unfold VR at h ⊢
    obtain ⟨a, us, e, t, r⟩ := h
    exact ⟨a, us, e, t.out hD, VRs.out hD vs us r⟩
  | .ref n, u, h => by unfold VR at h ⊢; exact h
  | .obj c ns vs, u, h => by
    unfold VR at h ⊢
    obtain ⟨a, us, e, n, q, r⟩ := h
    refine ⟨a, us, e, n, ⟨q.1.at_ fun o z => ?_, q.2⟩, VRs.out hD vs us r⟩
    obtain ⟨C, dx, fs, hq⟩ := q.1.some
    rw [upd_ne (fun z => by subst z; rw [hD] at hq; cases hq)]
    exact z
  | .rod ks vs, u, h => by
    unfold VR at h ⊢
    obtain ⟨a, us, e, q, r⟩ := h
    exact ⟨a, us, e, q, VRs.out hD vs us r⟩
  | .ty T, u, h => by unfold VR at h ⊢; exact h
theorem VRs.out {K : Kx} {ρ : List Addr} {H : Hp} {D : Addr} {xs : List V} {o : HO} (hD : H D = some (.lst xs)) : ∀ (vs : List PV) (us : List V), VRs K ρ H vs us → VRs K ρ (upd H D o) vs us
  | [], us, h => by unfold VRs at h ⊢; exact h
  | v :: vs, us, h => by
    unfold VRs at h ⊢
    obtain ⟨u, ur, e, a, b⟩ := h
    exact ⟨u, ur, e, VR.out hD v u a, VRs.out hD vs ur b⟩
end
theorem CellR.out {K : Kx} {ρ : List Addr} {H : Hp} {D : Addr} {xs : List V} {o : HO} (hD : H D = some (.lst xs)) {c : Cell} {u : Option HO} (h : CellR K ρ H c u) : CellR K ρ (upd H D o) c u := by
  cases c with
  | lst xs =>
    obtain ⟨us, e, r⟩ := h
    exact ⟨us, e, r.out hD⟩
  | dic kvs =>
    obtain ⟨us, e, ⟨r1, r2⟩, q⟩ := h
    exact ⟨us, e, ⟨r1, r2.out hD⟩, q⟩
  | ins c ns vs =>
    obtain ⟨hc, dx, us, e, l, r⟩ := h
    exact ⟨hc, dx, us, e, l, r.out hD⟩
theorem MemR.out {K : Kx} {M : Mem} {ρ : List Addr} {H : Hp} {D : Addr} {xs : List V} {o : HO} (m : MemR K M ρ H) (hD : H D = some (.lst xs)) (hn : D ∉ ρ) : MemR K M ρ (upd H D o) :=
  ⟨m.len, m.nd, fun n c a e1 e2 => by
    have hne : a ≠ D := fun z => hn (z ▸ List.mem_of_getElem? e2)
    rw [upd_ne hne]
    exact (m.cell n c a e1 e2).out hD⟩
theorem Fw.out {ρ0 ρ : List Addr} {H0 H : Hp} {D : Addr} {o : HO} (f : Fw ρ0 ρ H0 H) (hD : H0 D = none) : Fw ρ0 ρ H0 (upd H D o) :=
  ⟨f.pre, fun b u e n => by rw [upd_ne (ne_of_none e hD)]; exact f.keep b u e n, f.new⟩
/-- a list that stood beside the memory comes into it -/
theorem Fw.adopt {ρ0 ρ : List Addr} {H0 H : Hp} {D : Addr} (f : Fw ρ0 ρ H0 H) (hD : H0 D = none) : Fw ρ0 (ρ ++ [D]) H0 H :=
  ⟨let ⟨r, e⟩ := f.pre; ⟨r ++ [D], by rw [e, List.append_assoc]⟩, f.keep, fun b m => by
    rcases List.mem_append.mp m with q | q
    · exact f.new b q
    · rw [List.mem_singleton.mp q]; exact .inr hD⟩
/-! ### values by a longer list of addresses -/
mutual
theorem VR.grow {K : Kx} {ρ r : List Addr} {H : Hp} (hn : ∀ a ∈ r, ∃ xs, H a = some (.lst xs)) : ∀ (v : PV) (u : V), VR K ρ H v u → VR K (ρ ++ r) H v u
  | .non, u, h => by unfold VR at h ⊢; exact h
  | .bl b, u, h => by unfold VR at h ⊢; exact h
  | .int i, u, h => by unfold VR at h ⊢; exact h
  | .str s, u, h => by unfold VR at h ⊢; exact h
  | .tup vs, u, h => by
    unfold VR at h ⊢
    obtain ⟨a, us, e, t, q⟩ := h
    exact ⟨a, us, e, t, VRs.grow hn vs us q⟩
  | .rol vs, u, h => by
    unfold VR at h ⊢
    obtain ⟨a, us, e, t, q⟩ := h
    exact ⟨a, us, e, t, VRs.grow hn vs us q⟩
  | .ref n, u, h => by
    unfold VR at h ⊢
    obtain ⟨a, e, q⟩ := h
    exact ⟨a, e, by rw [List.getElem?_append_left (List.getElem?_eq_some_iff.mp q).1]; exact q⟩
  | .obj c ns vs, u, h => by
    unfold VR at h ⊢
    obtain ⟨a, us, e, n, q, z⟩ := h
    refine ⟨a, us, e, fun m => ?_, q, VRs.grow hn vs us z⟩
    rcases List.mem_append.mp m with m | m
    · exact n m
    · obtain ⟨xs, hx⟩ := hn a m
      obtain ⟨C, dx, fs, hq⟩ := q.1.some
      rw [hx] at hq; cases hq
  | .rod ks vs, u, h => by
    unfold VR at h ⊢
    obtain ⟨a, us, e, q, z⟩ := h
    exact ⟨a, us, e, q, VRs.grow hn vs us z⟩
  | .ty T, u, h => by unfold VR at h ⊢; exact h
theorem VRs.grow {K : Kx} {ρ r : List Addr} {H : Hp} (hn : ∀ a ∈ r, ∃ xs, H a = some (.lst xs)) : ∀ (vs : List PV) (us : List V), VRs K ρ H vs us → VRs K (ρ ++ r) H vs us
  | [], us, h => by unfold VRs at h ⊢; exact h
  | v :: vs, us, h => by
    unfold VRs at h ⊢
    obtain ⟨u, ur, e, a, b⟩ := h
    exact ⟨u, ur, e, VR.grow hn v u a, VRs.grow hn vs ur b⟩
end
theorem CellR.grow {K : Kx} {ρ r : List Addr} {H : Hp} (hn : ∀ a ∈ r, ∃ xs, H a = some (.lst xs)) {c : Cell} {u : Option HO} (h : CellR K ρ H c u) : CellR K (ρ ++ r) H c u := by
  cases c with
  | lst xs =>
    obtain ⟨us, e, q⟩ := h
    exact ⟨us, e, q.grow hn⟩
  | dic kvs =>
    obtain ⟨us, e, ⟨r1, r2⟩, q⟩ := h
    exact ⟨us, e, ⟨r1, r2.grow hn⟩, q⟩
  | ins c ns vs =>
    obtain ⟨hc, dx, us, e, l, q⟩ := h
    exact ⟨hc, dx, us, e, l, q.grow hn⟩
theorem MemR.adopt {K : Kx} {M : Mem} {ρ : List Addr} {H : Hp} {D : Addr} {xs : List PV} {us : List V} (m : MemR K M ρ H) (hD : H D = some (.lst us)) (hn : D ∉ ρ) (r : VRs K ρ H xs us) : MemR K (M ++ [.lst xs]) (ρ ++ [D]) H := by
  have hg : ∀ a ∈ [D], ∃ xs, H a = some (.lst xs) := fun a ha => by rw [List.mem_singleton.mp ha]; exact ⟨us, hD⟩
  refine ⟨by simp [m.len], ?_, fun n c a e1 e2 => ?_⟩
  · rw [List.nodup_append]
    exact ⟨m.nd, by simp, fun a ha b hb => by rw [List.mem_singleton.mp hb]; exact fun z => hn (z ▸ ha)⟩
  · by_cases hl : n < M.length
    · rw [List.getElem?_append_left hl] at e1
      rw [List.getElem?_append_left (by rw [m.len]; exact hl)] at e2
      exact (m.cell n c a e1 e2).grow hg
    · have hl : n < (M ++ [Cell.lst xs]).length := (List.getElem?_eq_some_iff.mp e1).1
      have e : n = M.length := by
        simp at hl
        omega
      subst e
      rw [List.getElem?_append_right (Nat.le_refl _)] at e1
      rw [List.getElem?_append_right (by rw [m.len]; exact Nat.le_refl _), m.len] at e2
      simp at e1 e2
      subst e1 e2
      exact ⟨us, hD, r.grow hg⟩
/-! ### behind a call: less is named -/
mutual
theorem VR.low {K : Kx} {ρ : List Addr} {H : Hp} (n : Nat) : ∀ (v : PV) (u : V), low n v = true → VR K ρ H v u → VR K (ρ.take n) H v u
  | .non, u, _, h => by unfold VR at h ⊢; exact h
  | .bl b, u, _, h => by unfold VR at h ⊢; exact h
  | .int i, u, _, h => by unfold VR at h ⊢; exact h
  | .str s, u, _, h => by unfold VR at h ⊢; exact h
  | .tup vs, u, l, h => by
    unfold VR at h ⊢
    simp only [HP.low] at l
    obtain ⟨a, us, e, t, q⟩ := h
    exact ⟨a, us, e, t, VRs.low n vs us l q⟩
  | .rol vs, u, l, h => by
    unfold VR at h ⊢
    simp only [HP.low] at l
    obtain ⟨a, us, e, t, q⟩ := h
    exact ⟨a, us, e, t, VRs.low n vs us l q⟩
  | .ref k, u, l, h => by
    unfold VR at h ⊢
    simp only [HP.low, decide_eq_true_eq] at l
    obtain ⟨a, e, q⟩ := h
    exact ⟨a, e, by rw [List.getElem?_take_of_lt l]; exact q⟩
  | .obj c ns vs, u, l, h => by
    unfold VR at h ⊢
    simp only [HP.low] at l
    obtain ⟨a, us, e, z, q, r⟩ := h
    exact ⟨a, us, e, fun m => z (List.mem_of_mem_take m), q, VRs.low n vs us l r⟩
  | .rod ks vs, u, l, h => by
    unfold VR at h ⊢
    simp only [HP.low] at l
    obtain ⟨a, us, e, q, r⟩ := h
    exact ⟨a, us, e, q, VRs.low n vs us l r⟩
  | .ty T, u, _, h => by unfold VR at h ⊢; exact h
theorem VRs.low {K : Kx} {ρ : List Addr} {H : Hp} (n : Nat) : ∀ (vs : List PV) (us : List V), lows n vs = true → VRs K ρ H vs us → VRs K (ρ.take n) H vs us
  | [], us, _, h => by unfold VRs at h ⊢; exact h
  | v :: vs, us, l, h => by
    unfold VRs at h ⊢
    simp only [lows, Bool.and_eq_true] at l
    obtain ⟨u, ur, e, a, b⟩ := h
    exact ⟨u, ur, e, VR.low n v u l.1 a, VRs.low n vs ur l.2 b⟩
end
mutual
theorem VR.isLow {K : Kx} {ρ : List Addr} {H : Hp} {n : Nat} (hn : ρ.length = n) : ∀ (v : PV) (u : V), VR K ρ H v u → HP.low n v = true
  | .non, u, _ => by simp only [HP.low]
  | .bl b, u, _ => by simp only [HP.low]
  | .int i, u, _ => by simp only [HP.low]
  | .str s, u, _ => by simp only [HP.low]
  | .tup vs, u, h => by
    unfold VR at h
    obtain ⟨a, us, e, t, q⟩ := h
    simp only [HP.low]
    exact VRs.isLow hn vs us q
  | .rol vs, u, h => by
    unfold VR at h
    obtain ⟨a, us, e, t, q⟩ := h
    simp only [HP.low]
    exact VRs.isLow hn vs us q
  | .ref k, u, h => by
    unfold VR at h
    obtain ⟨a, e, q⟩ := h
    simp only [HP.low, decide_eq_true_eq]
    rw [← hn]
    exact (List.getElem?_eq_some_iff.mp q).1
  | .obj c ns vs, u, h => by
    unfold VR at h
    obtain ⟨a, us, e, z, q, r⟩ := h
    simp only [HP.low]
    exact VRs.isLow hn vs us r
  | .rod ks vs, u, h => by
    unfold VR at h
    obtain ⟨a, us, e, q, r⟩ := h
    simp only [HP.low]
    exact VRs.isLow hn vs us r
  | .ty T, u, _ => by simp only [HP.low]
theorem VRs.isLow {K : Kx} {ρ : List Addr} {H : Hp} {n : Nat} (hn : ρ.length = n) : ∀ (vs : List PV) (us : List V), VRs K ρ H vs us → lows n vs = true
  | [], us, _ => by simp only [lows]
  | v :: vs, us, h => by
    unfold VRs at h
    obtain ⟨u, ur, e, a, b⟩ := h
    simp only [lows, VR.isLow hn v u a, VRs.isLow hn vs ur b, Bool.and_self]
end
/-- from an outcome behind a call to the outcome that is told -/
theorem MemR.trim {K : Kx} {M M' : Mem} {ρ ρ' : List Addr} {H H' : Hp} {v : PV} (m : MemR K M ρ H) (f : Fw ρ ρ' H H') (m' : MemR K M' ρ' H') :
    ∃ ρ'', Fw ρ ρ'' H H' ∧ MemR K (trimM M M' v) ρ'' H' ∧ ∀ u, VR K ρ' H' v u → VR K ρ'' H' v u := by
  unfold trimM
  split
  · rename_i t
    obtain ⟨r, rfl⟩ := f.pre
    have hM : M.length ≤ M'.length := by rw [← m.len, ← m'.len]; simp
    have hρ : (ρ ++ r).take M.length = ρ := by rw [← m.len]; simp
    have f' : Fw ρ ρ H H' := ⟨⟨[], by simp⟩, fun b o e n => f.keep b o e n, fun b z => .inl z⟩
    refine ⟨ρ, f', ⟨by rw [List.length_take, m.len]; omega, m.nd, fun n c a e1 e2 => ?_⟩, fun u h => ?_⟩
    · have hn : n < M.length := by
        rw [← m.len]
        exact (List.getElem?_eq_some_iff.mp e2).1
      rw [List.getElem?_take_of_lt hn] at e1
      have e2' : (ρ ++ r)[n]? = some a := by rw [List.getElem?_append_left (by rw [m.len]; exact hn)]; exact e2
      have q := m'.cell n c a e1 e2'
      rcases t.2 n c hn e1 with z | z
      · -- as it was: its values are below
        have q0 := m.cell n c a z e2
        cases c with
        | lst xs =>
          obtain ⟨us, h1, h2⟩ := q
          refine ⟨us, h1, ?_⟩
          obtain ⟨us0, h3, h4⟩ := q0
          -- the same addresses below
          have : lows M.length xs = true := VRs.isLow m.len _ _ h4
          have := VRs.low M.length xs us this h2
          rwa [hρ] at this
        | dic kvs =>
          obtain ⟨us, h1, ⟨l1, h2⟩, qk⟩ := q
          refine ⟨us, h1, ⟨l1, ?_⟩, qk⟩
          obtain ⟨us0, h3, ⟨l2, h4⟩, _⟩ := q0
          have : lows M.length (kvs.map (·.2)) = true := VRs.isLow m.len _ _ h4
          have := VRs.low M.length _ _ this h2
          rwa [hρ] at this
        | ins cc ns vs =>
          obtain ⟨hc, dx, us, h1, l1, h2⟩ := q
          refine ⟨hc, dx, us, h1, l1, ?_⟩
          obtain ⟨_, dx0, us0, h3, l2, h4⟩ := q0
          have : lows M.length vs = true := VRs.isLow m.len _ _ h4
          have := VRs.low M.length vs us this h2
          rwa [hρ] at this
      · cases c with
        | lst xs =>
          obtain ⟨us, h1, h2⟩ := q
          refine ⟨us, h1, ?_⟩
          have := VRs.low M.length xs us z h2
          rwa [hρ] at this
        | dic kvs =>
          obtain ⟨us, h1, ⟨l1, h2⟩, qk⟩ := q
          refine ⟨us, h1, ⟨l1, ?_⟩, qk⟩
          have := VRs.low M.length _ _ z h2
          rwa [hρ] at this
        | ins cc ns vs =>
          obtain ⟨hc, dx, us, h1, l1, h2⟩ := q
          refine ⟨hc, dx, us, h1, l1, ?_⟩
          have := VRs.low M.length vs us z h2
          rwa [hρ] at this
    · have := VR.low M.length v u t.1 h
      rwa [hρ] at this
  · exact ⟨ρ', f, m', fun u h => h⟩
/-- the names' values -/
structure EnvR (K : Kx) (ρ : List Addr) (H : Hp) (env : Env) (σ : St) : Prop where
  len : env.length = σ.length
  val : ∀ (i : Nat) (v : PV), env[i]? = some (some v) → ∃ u : V, σ[i]? = some (some u) ∧ VR K ρ H v u
theorem EnvR.mono {K : Kx} {ρ ρ' : List Addr} {H H' : Hp} {env : Env} {σ : St} (w : Own ρ H) (f : Fw ρ ρ' H H') (h : EnvR K ρ H env σ) : EnvR K ρ' H' env σ :=
  ⟨h.len, fun i v e => by
    obtain ⟨u, a, b⟩ := h.val i v e
    exact ⟨u, a, b.mono w f⟩⟩
theorem EnvR.set {K : Kx} {ρ : List Addr} {H : Hp} {env : Env} {σ : St} {i : Nat} {v : PV} {u : V} (h : EnvR K ρ H env σ) (r : VR K ρ H v u) : EnvR K ρ H (env.set i (some v)) (σ.set i (some u)) := by
  refine ⟨by simp [h.len], fun j w e => ?_⟩
  by_cases hj : i = j
  · subst hj
    have hlt : i < env.length := by
      have := (List.getElem?_eq_some_iff.mp e).1
      simpa using this
    rw [List.getElem?_set_self hlt] at e
    cases e
    exact ⟨u, by rw [List.getElem?_set_self (by rw [← h.len]; exact hlt)], r⟩
  · rw [List.getElem?_set_ne hj] at e
    obtain ⟨x, a, b⟩ := h.val j w e
    exact ⟨x, by rw [List.getElem?_set_ne hj]; exact a, b⟩

/-! ### outcomes -/
/-- what is wanted of an exception of the class numbered c -/
abbrev XW := Nat → St → Hp → Prop
section
variable {α β : Type}
/-- an outcome, and what is wanted behind it -/
def Ps (K : Kx) (W : XW) (σ : St) (ρ : List Addr) (H : Hp) (r : Res α) (k : α → Mem → List Addr → Hp → Prop) : Prop :=
  match r with
  | .ok a M' => ∀ ρ' H', Fw ρ ρ' H H' → MemR K M' ρ' H' → k a M' ρ' H'
  | .exc c M' => ∀ ρ' H', Fw ρ ρ' H H' → MemR K M' ρ' H' → W c σ H'
  | .fail => False
variable {K : Kx} {W : XW} {σ : St} {ρ ρ' : List Addr} {H H' : Hp} {r : Res α} {k k' : α → Mem → List Addr → Hp → Prop}
theorem Ps.fw (f : Fw ρ ρ' H H') (h : Ps K W σ ρ H r k) : Ps K W σ ρ' H' r k := by
  cases r with
  | ok a M => exact fun ρ2 H2 f2 m => h ρ2 H2 (f.trans f2) m
  | exc c M => exact fun ρ2 H2 f2 m => h ρ2 H2 (f.trans f2) m
  | fail => exact h
theorem Ps.imp (h : Ps K W σ ρ H r k) (hk : ∀ a M' ρ' H', Fw ρ ρ' H H' → MemR K M' ρ' H' → k a M' ρ' H' → k' a M' ρ' H') : Ps K W σ ρ H r k' := by
  cases r with
  | ok a M => exact fun ρ2 H2 f2 m => hk a M ρ2 H2 f2 m (h ρ2 H2 f2 m)
  | exc c M => exact h
  | fail => exact h
theorem Ps.bind {f : α → Mem → Res β} {k : β → Mem → List Addr → Hp → Prop} (h : Ps K W σ ρ H (r.bind f) k) : Ps K W σ ρ H r (fun a M1 ρ1 H1 => Ps K W σ ρ1 H1 (f a M1) k) := by
  cases r with
  | ok a M => exact fun ρ2 H2 f2 m => Ps.fw f2 h
  | exc c M => exact h
  | fail => exact h
theorem Ps.here {a : α} {M : Mem} (h : Ps K W σ ρ H (.ok a M) k) (m : MemR K M ρ H) : k a M ρ H := h ρ H Fw.refl m
end

/-! ### readings by outcomes -/
def T1 (K : Kx) (W : XW) (m : Env → Mem → Res PV) : TE := fun σ H Q => ∃ env M ρ, EnvR K ρ H env σ ∧ MemR K M ρ H ∧ Ps K W σ ρ H (m env M) fun v _ ρ' H' => ∀ u, VR K ρ' H' v u → Q u H'
def Tn (K : Kx) (W : XW) (m : Env → Mem → Res (List PV)) : TA := fun σ H Q => ∃ env M ρ, EnvR K ρ H env σ ∧ MemR K M ρ H ∧ Ps K W σ ρ H (m env M) fun vs _ ρ' H' => ∀ us, VRs K ρ' H' vs us → Q us H'
def Tb (K : Kx) (W : XW) (m : Env → Mem → Res Bool) : TT := fun σ H Q => ∃ env M ρ, EnvR K ρ H env σ ∧ MemR K M ρ H ∧ Ps K W σ ρ H (m env M) fun b _ ρ' H' => Q b H'
theorem PE.imp {X : Cx} {e : Expr} {t t' : TE} (h : PE X e t) (f : ∀ σ H Q, t' σ H Q → t σ H Q) : PE X e t' := ⟨fun pins s σ H Q I q => h.run pins s σ H Q I (f σ H Q q)⟩
theorem PT.imp {X : Cx} {e : Expr} {t t' : TT} (h : PT X e t) (f : ∀ σ H Q, t' σ H Q → t σ H Q) : PT X e t' := ⟨fun pins s σ H Q I q => h.run pins s σ H Q I (f σ H Q q)⟩
theorem PA.imp {X : Cx} {es : List Expr} {t t' : TA} (h : PA X es t) (f : ∀ σ H Q, t' σ H Q → t σ H Q) : PA X es t' := ⟨fun pos pins s σ H Q I q => h.run pos pins s σ H Q I (f σ H Q q)⟩
end HP

set_option Elab.async false
set_option linter.all false
set_option autoImplicit false
set_option maxRecDepth 100000
set_option maxHeartbeats 4000000
/-! Data with instances that have an own ==: what == and in tell of them. -/
namespace HP
open PySem L2

/-- data as it stands in a heap -/
def DR (K : Kx) (H : Hp) : Nat → V → PD → Prop
  | 0, _, _ => False
  | k + 1, u, d => match d with
    | .non => u = .non
    | .bl b => u = .bl b
    | .int i => u = .int i
    | .str s => ∃ x : Str, u = .str x ∧ x.cps.toList = s
    | .tup ds => ∃ a us, u = .ref a ∧ SqT K.K H a us ∧ Paired (DR K H k) us ds
    | .lst ds => ∃ a us, u = .ref a ∧ SqL K.K H a us ∧ Paired (DR K H k) us ds
    | .atm x y => K.Z.atoms = true ∧ ∃ a dx fs p q, u = .ref a ∧ H a = some (.ins (K.Z.cls 0) dx fs) ∧ fs.lookup (K.Z.anm 0) = some p ∧ fs.lookup (K.Z.anm 1) = some q ∧ DR K H k p x ∧ DR K H k q y
theorem Ext.sqT {K : PySem.W.Frag} {H H' : Hp} {a : Addr} {us : List V} (e : Ext H H') (h : SqT K H a us) : SqT K H' a us := h.ext e
theorem DR.ext {K : Kx} {H H' : Hp} (e : Ext H H') : ∀ {k : Nat} {u : V} {d : PD}, DR K H k u d → DR K H' k u d
  | 0, _, _, h => h.elim
  | k + 1, u, d, h => by
    cases d with
    | non => exact h
    | bl b => exact h
    | int i => exact h
    | str s => exact h
    | tup ds =>
      obtain ⟨a, us, e1, e2, e3⟩ := h
      exact ⟨a, us, e1, e2.ext e, L2.Paired.mapP e3 fun _ _ => DR.ext e⟩
    | lst ds =>
      obtain ⟨a, us, e1, e2, e3⟩ := h
      exact ⟨a, us, e1, e2.ext e, L2.Paired.mapP e3 fun _ _ => DR.ext e⟩
    | atm x y =>
      obtain ⟨ha, a, dx, fs, p, q, e1, e2, e3, e4, e5, e6⟩ := h
      exact ⟨ha, a, dx, fs, p, q, e1, e _ _ e2, e3, e4, e5.ext e, e6.ext e⟩
theorem DR.mono {K : Kx} {H : Hp} : ∀ {k : Nat} {u : V} {d : PD}, DR K H k u d → DR K H (k + 1) u d
  | 0, _, _, h => h.elim
  | k + 1, u, d, h => by
    cases d with
    | non => exact h
    | bl b => exact h
    | int i => exact h
    | str s => exact h
    | tup ds =>
      obtain ⟨a, us, e1, e2, e3⟩ := h
      exact ⟨a, us, e1, e2, L2.Paired.mapP e3 fun _ _ => DR.mono⟩
    | lst ds =>
      obtain ⟨a, us, e1, e2, e3⟩ := h
      exact ⟨a, us, e1, e2, L2.Paired.mapP e3 fun _ _ => DR.mono⟩
    | atm x y =>
      obtain ⟨ha, a, dx, fs, p, q, e1, e2, e3, e4, e5, e6⟩ := h
      exact ⟨ha, a, dx, fs, p, q, e1, e2, e3, e4, e5.mono, e6.mono⟩
theorem paired_of {K : Kx} {M : Mem} {ρ : List Addr} {H : Hp} {k : Nat} {f : PV → Option PD} (hf : ∀ v u d, VR K ρ H v u → f v = some d → DR K H k u d) : ∀ {vs : List PV} {us : List V} {ds : List PD}, VRs K ρ H vs us → allD f vs = some ds → Paired (DR K H k) us ds
  | [], us, ds, h, e => by
    cases e
    rw [h.nil]
    exact .nil
  | v :: vs, us, ds, h, e => by
    obtain ⟨u, ur, rfl, a, b⟩ := h.inv
    unfold allD at e
    cases e1 : f v with
    | none => rw [e1] at e; cases e
    | some d =>
      rw [e1] at e
      cases e2 : allD f vs with
      | none => rw [e2] at e; cases e
      | some ds' =>
        rw [e2] at e
        cases e
        exact .cons (hf v u d a e1) (paired_of (M := M) hf b e2)
theorem lookup_zip {Z : Zx} (inj : ∀ i j, Z.anm i = Z.anm j → i = j) {n : Nat} : ∀ {ns : List Nat} {vs : List PV} {us : List V} {K : Kx} {ρ : List Addr} {H : Hp} {v : PV}, K.Z = Z → VRs K ρ H vs us → getA n ns vs = some v → ∃ u, ((ns.map Z.anm).zip us).lookup (Z.anm n) = some u ∧ VR K ρ H v u
  | [], vs, us, K, ρ, H, v, _, r, h => by cases h
  | m :: ns, [], us, K, ρ, H, v, _, r, h => by cases h
  | m :: ns, w :: vs, us, K, ρ, H, v, hz, r, h => by
    obtain ⟨u, ur, rfl, a, b⟩ := r.inv
    unfold getA at h
    rw [List.map_cons, List.zip_cons_cons, List.lookup_cons]
    by_cases hm : m = n
    · subst hm
      simp only [if_pos rfl] at h
      cases h
      exact ⟨u, by simp, a⟩
    · simp only [if_neg hm] at h
      have : (Z.anm n == Z.anm m) = false := beq_eq_false_iff_ne.mpr fun e => hm (inj _ _ e).symm
      rw [this]
      exact lookup_zip inj hz b h
theorem toD_DR {K : Kx} (inj : ∀ i j, K.Z.anm i = K.Z.anm j → i = j) {M : Mem} {ρ : List Addr} {H : Hp} (m : MemR K M ρ H) : ∀ (k : Nat) (v : PV) (u : V) (d : PD), VR K ρ H v u → toD M k v = some d → DR K H k u d
  | 0, v, u, d, _, e => by cases e
  | k + 1, v, u, d, r, e => by
    unfold toD at e
    cases v with
    | non =>
      cases e
      unfold VR at r
      exact r
    | bl b =>
      cases e
      unfold VR at r
      exact r
    | int b =>
      cases e
      unfold VR at r
      exact r
    | str s =>
      cases e
      unfold VR at r
      obtain ⟨x, h1, h2, h3⟩ := r
      exact ⟨x, h1, h2⟩
    | tup vs =>
      unfold VR at r
      obtain ⟨a, us, rfl, t, rs⟩ := r
      simp only at e
      split at e
      · rename_i ds hd
        cases e
        exact ⟨a, us, rfl, t.sq, paired_of (M := M) (toD_DR inj m k) rs hd⟩
      · cases e
    | rol vs =>
      unfold VR at r
      obtain ⟨a, us, rfl, t, rs⟩ := r
      simp only at e
      split at e
      · rename_i ds hd
        cases e
        exact ⟨a, us, rfl, t.sq, paired_of (M := M) (toD_DR inj m k) rs hd⟩
      · cases e
    | ref n =>
      unfold VR at r
      obtain ⟨a, rfl, ha⟩ := r
      simp only at e
      split at e
      · rename_i xs hx
        split at e
        · rename_i ds hd
          cases e
          obtain ⟨us, hu, rs⟩ := m.lst hx ha
          exact ⟨a, us, rfl, SqL.of hu, paired_of (M := M) (toD_DR inj m k) rs hd⟩
        · cases e
      · cases e
    | obj c ns fs =>
      simp only at e
      split at e
      rotate_left
      · cases e
      split at e
      rotate_left
      · cases e
      split at e
      rotate_left
      · cases e
      rename_i ns' a b vs'
      split at e
      rotate_left
      · cases e
      rename_i x hx
      split at e
      rotate_left
      · cases e
      rename_i y hy
      cases e
      unfold VR at r
      obtain ⟨p, us, rfl, hn, ⟨⟨dx, h1, h2⟩, h3, h4⟩, rs⟩ := r
      obtain ⟨u1, ur, rfl, r1, rs⟩ := rs.inv
      obtain ⟨u2, ur, rfl, r2, rs⟩ := rs.inv
      refine ⟨h3 rfl, p, dx, _, u1, u2, rfl, h1, ?_, ?_, toD_DR inj m k _ _ _ r1 hx, toD_DR inj m k _ _ _ r2 hy⟩
      · simp
      · have : (K.Z.anm 1 == K.Z.anm 0) = false := beq_eq_false_iff_ne.mpr fun e => by have := inj _ _ e; omega
        simp [List.lookup_cons, this]
    | rod ks vs => cases e
    | ty c => cases e
theorem Paired.get {α β : Type} {F : α → β → Prop} : ∀ {xs : List α} {ys : List β} {i : Nat} {x : α} {y : β}, Paired F xs ys → xs[i]? = some x → ys[i]? = some y → F x y
  | _, _, _, _, _, .nil, h, _ => by simp at h
  | _, _, 0, _, _, .cons r _, h, k => by
    simp at h k
    subst h k
    exact r
  | _, _, i + 1, _, _, .cons _ t, h, k => Paired.get (i := i) t (by simpa using h) (by simpa using k)
/-! ### == of data, pair by pair -/
def ndD (ds : List PD) (i : Nat) : PD := ds.getD i .non
def eqAtD (ds es : List PD) (i : Nat) : Bool := eqD (ndD ds i) (ndD es i)
theorem eqDs_range : ∀ (ds es : List PD), eqDs ds es = ((List.range (min ds.length es.length)).all (eqAtD ds es) && ds.length == es.length)
  | [], es => by cases es <;> simp [eqDs]
  | d :: ds, [] => by simp [eqDs]
  | d :: ds, e :: es => by
    simp only [eqDs]
    rw [eqDs_range ds es]
    have : min (d :: ds).length (e :: es).length = min ds.length es.length + 1 := by simp only [List.length_cons]; omega
    rw [this, List.range_succ_eq_map, List.all_cons, List.all_map]
    have h0 : eqAtD (d :: ds) (e :: es) 0 = eqD d e := rfl
    have h1 : (eqAtD (d :: ds) (e :: es) ∘ Nat.succ) = eqAtD ds es := by
      funext i
      simp [eqAtD, ndD, Function.comp]
    rw [h0, h1, Bool.and_assoc]
    simp
mutual
theorem eqD_refl : ∀ d : PD, eqD d d = true
  | .non => by simp [eqD]
  | .bl b => by simp [eqD]
  | .int i => by simp [eqD]
  | .str s => by simp [eqD]
  | .tup ds => by simp [eqD, eqDs_refl ds]
  | .lst ds => by simp [eqD, eqDs_refl ds]
  | .atm x y => by simp [eqD, eqD_refl x, eqD_refl y]
theorem eqDs_refl : ∀ ds : List PD, eqDs ds ds = true
  | [] => by simp [eqDs]
  | d :: ds => by simp [eqDs, eqD_refl d, eqDs_refl ds]
end

theorem RelV.inj {x y : V} {u : Value} (a : RelV x u) (b : RelV y u) : x = y := by
  cases x <;> cases y <;> simp only [RelV] at a b <;> first | rfl | (subst a; first | (cases b; rfl) | (obtain ⟨t, e⟩ := b; cases e) | (cases b)) | (obtain ⟨t, rfl⟩ := a; first | (cases b; done) | (obtain ⟨t2, e⟩ := b; cases e; rfl) | (obtain ⟨t2, e⟩ := b; cases e))
section
variable {X : Cx} {Z : Zx} {pins : List (Addr × Obj)} {σ : St} {H : Hp} {s : Shared}
theorem Vals.inj : ∀ {xs ys : List V} {us : List Value}, Vals xs us → Vals ys us → xs = ys
  | _, _, _, .nil, .nil => rfl
  | _, _, _, .cons a t, .cons b r => by rw [RelV.inj a b, Vals.inj t r]
theorem tup_inj (I : Inv X pins σ H s) {a : Addr} {us ws : List V} (h : SqT X.K H a us) (k : SqT X.K H a ws) : us = ws := by
  obtain ⟨its, r, ⟨o, e, c, n, d⟩, _⟩ := I.tuple h
  obtain ⟨its', r', ⟨o', e', c', n', d'⟩, _⟩ := I.tuple k
  rw [e] at e'
  cases e'
  rw [d] at d'
  cases d'
  exact Vals.inj r r'
theorem tup_lst (I : Inv X pins σ H s) {a : Addr} {us ws : List V} (h : SqT X.K H a us) (k : SqL X.K H a ws) : False := by
  obtain ⟨its, r, ⟨o, e, c, n, d⟩, _⟩ := I.tuple h
  obtain ⟨its', r', ⟨o', n', e', c', _, d'⟩, _⟩ := I.list k
  rw [e] at e'
  cases e'
  rw [c] at c'
  exact absurd c' (by decide)
theorem ins_obj (I : Inv X pins σ H s) {a C dx : Addr} {fs : List (Str × V)} (h : H a = some (.ins C dx fs)) : s.heap.get? a = some (PySem.W.instObj C dx) := by
  obtain ⟨_, _, _, e, _⟩ := (show ObjOk X.prog X.w H s.heap a (.ins C dx fs) from I.hok a _ h)
  exact e
theorem tup_ins (I : Inv X pins σ H s) {a C dx : Addr} {fs : List (Str × V)} {us : List V} (h : SqT X.K H a us) (k : H a = some (.ins C dx fs)) : False := by
  obtain ⟨its, r, ⟨o, e, c, n, d⟩, _⟩ := I.tuple h
  rw [ins_obj I k] at e
  cases e
  cases c
theorem lst_ins (I : Inv X pins σ H s) {a C dx : Addr} {fs : List (Str × V)} {us : List V} (h : SqL X.K H a us) (k : H a = some (.ins C dx fs)) : False := by
  obtain ⟨its, r, ⟨o, n, e, c, _, d⟩, _⟩ := I.list h
  rw [ins_obj I k] at e
  cases e
  cases c
theorem paired_inj {K : Kx} {H : Hp} {j k : Nat} (ih : ∀ (u : V) (d e : PD), DR K H k u d → DR K H j u e → d = e) : ∀ {us : List V} {ds es : List PD}, Paired (DR K H k) us ds → Paired (DR K H j) us es → ds = es
  | _, _, _, .nil, .nil => rfl
  | _, _, _, .cons a t, .cons b r => by rw [ih _ _ _ a b, paired_inj ih t r]
inductive Kg (K : Kx) (H : Hp) : V → Nat → Prop
  | non : Kg K H .non 0
  | bl (b : Bool) : Kg K H (.bl b) 1
  | int (i : Int) : Kg K H (.int i) 2
  | str (x : Str) : Kg K H (.str x) 3
  | tup {a : Addr} {us : List V} (h : SqT K.K H a us) : Kg K H (.ref a) 4
  | lst {a : Addr} {us : List V} (h : SqL K.K H a us) : Kg K H (.ref a) 5
  | ins {a C dx : Addr} {fs : List (Str × V)} (h : H a = some (.ins C dx fs)) : Kg K H (.ref a) 6
def tagD : PD → Nat | .non => 0 | .bl _ => 1 | .int _ => 2 | .str _ => 3 | .tup _ => 4 | .lst _ => 5 | .atm _ _ => 6
theorem DR.kg {K : Kx} {H : Hp} {k : Nat} {u : V} {d : PD} (h : DR K H k u d) : Kg K H u (tagD d) := by
  cases k with
  | zero => exact h.elim
  | succ k =>
    cases d with
    | non => cases h; exact .non
    | bl b => cases h; exact .bl b
    | int b => cases h; exact .int b
    | str t => obtain ⟨x, rfl, _⟩ := h; exact .str x
    | tup ds => obtain ⟨a, us, rfl, e, _⟩ := h; exact .tup e
    | lst ds => obtain ⟨a, us, rfl, e, _⟩ := h; exact .lst e
    | atm x y => obtain ⟨_, a, dx, fs, p, q, rfl, e, _⟩ := h; exact .ins e
theorem Kg.inj (I : Inv X pins σ H s) {u : V} {i j : Nat} (h : Kg (kx X Z) H u i) (h' : Kg (kx X Z) H u j) : i = j := by
  cases h <;> cases h' <;> first | rfl | exact (tup_lst I ‹_› ‹_›).elim | exact (tup_ins I ‹_› ‹_›).elim | exact (lst_ins I ‹_› ‹_›).elim
/-- a value has one data alone -/
theorem DR.inj (I : Inv X pins σ H s) : ∀ (k j : Nat) (u : V) (d e : PD), DR (kx X Z) H k u d → DR (kx X Z) H j u e → d = e
  | 0, _, _, _, _, h, _ => h.elim
  | _ + 1, 0, _, _, _, _, h => h.elim
  | k + 1, j + 1, u, d, e, h, h' => by
    have ht := Kg.inj (Z := Z) I h.kg h'.kg
    cases d <;> cases e <;> first | (cases ht; done) | skip
    · rfl
    · have a : u = _ := h
      have b : u = _ := h'
      rw [a] at b
      cases b
      rfl
    · have a : u = _ := h
      have b : u = _ := h'
      rw [a] at b
      cases b
      rfl
    · obtain ⟨x, rfl, hx⟩ := h
      obtain ⟨y, z, hy⟩ := h'
      cases z
      rw [← hx, ← hy]
    · obtain ⟨a, us, rfl, e2, e3⟩ := h
      obtain ⟨b, ws, z, f2, f3⟩ := h'
      cases z
      have := tup_inj I e2 f2
      subst this
      rw [paired_inj (fun u d e => DR.inj I k j u d e) e3 f3]
    · obtain ⟨a, us, rfl, e2, e3⟩ := h
      obtain ⟨b, ws, z, f2, f3⟩ := h'
      cases z
      have := I.list_inj e2 f2
      subst this
      rw [paired_inj (fun u d e => DR.inj I k j u d e) e3 f3]
    · obtain ⟨ha, a, dx, fs, p, q, rfl, e2, e3, e4, e5, e6⟩ := h
      obtain ⟨_, b, dy, gs, p', q', z, f2, f3, f4, f5, f6⟩ := h'
      cases z
      rw [e2] at f2
      cases f2
      rw [e3] at f3
      rw [e4] at f4
      cases f3
      cases f4
      rw [DR.inj I k j _ _ _ e5 f5, DR.inj I k j _ _ _ e6 f6]
end
end HP

set_option Elab.async false
set_option linter.all false
set_option autoImplicit false
set_option maxRecDepth 100000
set_option maxHeartbeats 4000000
/-! == of data with instances: by induction on the depth. -/
namespace HPQ
open PySem PySem.SeqAt
open MeetsSeq MeetsSeq2 MeetsSeq3 SeqRoads2
open GQ (call_here FinOf)
section
variable {prog : Program} {w : World} {A : Around} {E : Value → Shared → Prop} {s : Shared}
theorem rc_tup_eqB {l b : Addr} {items items2 : Array Value} {Q : Value → Shared → Prop} (hu : A.units < cLine) (e : Nat → Bool) (I : Nat → Shared → Prop) (hl : s.heap.IsTuple l items) (hb : s.heap.IsTuple b items2)
    (turn : ∀ i (h1 : i < items.size) (h2 : i < items2.size) s, I i s → wpAny (model prog w) A.in1 (eqBool items[i] items2[i]) (fun r s' => r = e i ∧ I (i + 1) s') E s)
    (fin : ∀ i s, I i s → Q (.bool ((List.range (min items.size items2.size)).all e && items.size == items2.size)) s) (h : I 0 s) : wpAny (model prog w) A (richCompare .Eq (.ref l) (.ref b)) Q E s := by
  obtain ⟨⟨cls, dd, data, sl⟩, ho, hc, n, hd⟩ := id hl
  obtain ⟨⟨cls2, dd2, data2, sl2⟩, ho2, hc2, n2, hd2⟩ := id hb
  simp only at hc hd hc2 hd2
  subst hc hd hc2 hd2
  refine wpAny_richCompare_same_room (op := .Eq) ⟨_, ho, rfl⟩ ⟨_, ho2, rfl⟩ F.slot_tuple_eq (call_here F.slot_tuple_eq ⟨_, ho, rfl⟩ F.entry_tuple_eq (F.args_tuple_eq_2 _ _) ?_) hu
  exact tuple_eqB (R := wants (fun v s' => v ≠ .notImplemented ∧ Q v s') E) l b items items2 n n2 dd dd2 sl sl2 e I turn (fun i s' q => ⟨(fun x => nomatch x), fin i s' q⟩) ho ho2 h
theorem rc_tup_neB {l b : Addr} {items items2 : Array Value} {Q : Value → Shared → Prop} (hu : A.units < cLine) (e : Nat → Bool) (I : Nat → Shared → Prop) (hl : s.heap.IsTuple l items) (hb : s.heap.IsTuple b items2)
    (turn : ∀ i (h1 : i < items.size) (h2 : i < items2.size) s, I i s → wpAny (model prog w) A.in1 (eqBool items[i] items2[i]) (fun r s' => r = e i ∧ I (i + 1) s') E s)
    (fin : ∀ i s, I i s → Q (.bool (!((List.range (min items.size items2.size)).all e && items.size == items2.size))) s) (h : I 0 s) : wpAny (model prog w) A (richCompare .NotEq (.ref l) (.ref b)) Q E s := by
  obtain ⟨⟨cls, dd, data, sl⟩, ho, hc, n, hd⟩ := id hl
  obtain ⟨⟨cls2, dd2, data2, sl2⟩, ho2, hc2, n2, hd2⟩ := id hb
  simp only at hc hd hc2 hd2
  subst hc hd hc2 hd2
  refine wpAny_richCompare_same_room (op := .NotEq) ⟨_, ho, rfl⟩ ⟨_, ho2, rfl⟩ F.slot_tuple_ne (call_here F.slot_tuple_ne ⟨_, ho, rfl⟩ F.entry_tuple_ne (F.args_tuple_ne_2 _ _) ?_) hu
  exact tuple_neB (R := wants (fun v s' => v ≠ .notImplemented ∧ Q v s') E) l b items items2 n n2 dd dd2 sl sl2 e I turn (fun i s' q => ⟨(fun x => nomatch x), fin i s' q⟩) ho ho2 h
theorem rc_list_eqB {l b : Addr} {N : Nat} {Q : Value → Shared → Prop} (hu : A.units < cLine) (e : Nat → Bool) (I : Nat → Shared → Prop) (hl : ListB prog w A E l b N e I)
    (fin : ∀ i s, I i s → Q (.bool ((List.range N).all e)) s) (h : I 0 s) : wpAny (model prog w) A (richCompare .Eq (.ref l) (.ref b)) Q E s := by
  obtain ⟨items, items2, n, n2, sl, sl2, hl1, hb1, _, _, _⟩ := hl _ _ h
  refine wpAny_richCompare_same_room (op := .Eq) ⟨_, hl1, rfl⟩ ⟨_, hb1, rfl⟩ F.slot_list_eq (call_here F.slot_list_eq ⟨_, hl1, rfl⟩ F.entry_list_eq (F.args_list_eq_2 _ _) ?_) hu
  exact list_eqB (R := wants (fun v s' => v ≠ .notImplemented ∧ Q v s') E) l b N e I hl (fun i s' q => ⟨(fun x => nomatch x), fin i s' q⟩) h
theorem rc_list_neB {l b : Addr} {N : Nat} {Q : Value → Shared → Prop} (hu : A.units < cLine) (e : Nat → Bool) (I : Nat → Shared → Prop) (hl : ListB prog w A E l b N e I)
    (fin : ∀ i s, I i s → Q (.bool (!(List.range N).all e)) s) (h : I 0 s) : wpAny (model prog w) A (richCompare .NotEq (.ref l) (.ref b)) Q E s := by
  obtain ⟨items, items2, n, n2, sl, sl2, hl1, hb1, _, _, _⟩ := hl _ _ h
  refine wpAny_richCompare_same_room (op := .NotEq) ⟨_, hl1, rfl⟩ ⟨_, hb1, rfl⟩ F.slot_list_ne (call_here F.slot_list_ne ⟨_, hl1, rfl⟩ F.entry_list_ne (F.args_list_ne_2 _ _) ?_) hu
  exact list_neB (R := wants (fun v s' => v ≠ .notImplemented ∧ Q v s') E) l b N e I hl (fun i s' q => ⟨(fun x => nomatch x), fin i s' q⟩) h
/-- == inside a builtin, of two values that are not the same value -/
theorem eqBool_rc {a b : Value} {Q : Bool → Shared → Prop} (hne : a ≠ b) (hf : ∀ x y t u, ¬ (a = .float x t ∧ b = .float y u)) (h : wpAny (model prog w) A (richCompare .Eq a b) (fun v s' => ∃ r, v = .bool r ∧ Q r s') E s) : wpAny (model prog w) A (eqBool a b) Q E s := by
  unfold eqBool
  refine wpAny_holding ?_
  refine wpAny_ite_split (fun hab => absurd (eq_of_beq hab) hne) (fun _ => ?_)
  have fin : wpAny (model prog w) A (do truthOfDropped (← richCompare .Eq a b)) Q E s := by
    refine wpAny_bind (wpAny_mono h (fun v s' hv => ?_) fun _ _ x => x)
    obtain ⟨r, rfl, q⟩ := hv
    exact wpAny_truthy_bool q
  split
  · rename_i x y t u hab
    simp only [Prod.mk.injEq] at hab
    exact absurd hab (hf _ _ _ _)
  · exact fin
end
end HPQ

namespace HP
open PySem L2
/-- what the own == promises, for data so deep -/
def spEq (K : Kx) (k : Nat) : Sp := fun vs H Q _ => ∃ a b x y e, vs = [a, b] ∧ DR K H (k + 1) a (.atm x y) ∧ DR K H (k + 1) b e ∧ ∀ H', Ext H H' → Q (.bl (eqD (.atm x y) e)) H'
/-- the own == of the class 0 -/
def OwnEq (X : Cx) (Z : Zx) (k : Nat) : Prop := Z.atoms = true → ∃ f fd ps, HPQ.OwnF X.K (Z.cls 0) f ∧ FnOk X.prog X.w X.K X.mg X.base (L2.CX X.prog X.w) (2 * k + 1) f fd ps (spEq (kx X Z) k) ∧ Binds X.K fd ps []
def RcE (X : Cx) (Z : Zx) (k : Nat) : Prop :=
  ∀ (A : Around) (pins : List (Addr × Obj)) (s : Shared) (σ : St) (H : Hp) (x y : V) (u v : Value) (d e : PD), Sub X (2 * k) A → L2.Inv X pins σ H s → RelV x u → RelV y v → DR (kx X Z) H k x d → DR (kx X Z) H k y e →
    wpAny (model X.prog X.w) A (richCompare .Eq u v) (fun r s' => r = .bool (eqD d e) ∧ LoopI X pins σ H s') X.xe s
def EqB (X : Cx) (Z : Zx) (k : Nat) : Prop :=
  ∀ (A : Around) (pins : List (Addr × Obj)) (s : Shared) (σ : St) (H : Hp) (x y : V) (u v : Value) (d e : PD), Sub X (2 * k) A → L2.Inv X pins σ H s → RelV x u → RelV y v → DR (kx X Z) H k x d → DR (kx X Z) H k y e →
    wpAny (model X.prog X.w) A (eqBool u v) (fun r s' => r = eqD d e ∧ LoopI X pins σ H s') X.xe s
def RcN (X : Cx) (Z : Zx) (k : Nat) : Prop :=
  ∀ (A : Around) (pins : List (Addr × Obj)) (s : Shared) (σ : St) (H : Hp) (x y : V) (u v : Value) (d e : PD), Sub X (2 * k) A → L2.Inv X pins σ H s → RelV x u → RelV y v → DR (kx X Z) H k x d → DR (kx X Z) H k y e →
    wpAny (model X.prog X.w) A (richCompare .NotEq u v) (fun r s' => r = .bool (!eqD d e) ∧ LoopI X pins σ H s') X.xe s
theorem DR.noflt {K : Kx} {H : Hp} {k : Nat} {x : V} {u : Value} {d : PD} (h : DR K H k x d) (r : RelV x u) : ∀ b t, u ≠ .float b t := by
  have g := h.kg
  generalize tagD d = n at g
  intro b t e
  subst e
  cases g <;> simp only [RelV] at r <;> first | (cases r; done) | (obtain ⟨_, r⟩ := r; cases r)
section
variable {X : Cx} {Z : Zx} {k : Nat}
theorem EqB.of (h : RcE X Z k) : EqB X Z k := by
  intro A pins s σ H x y u v d e sb I rx ry hd he
  by_cases huv : u = v
  · subst huv
    have := RelV.inj rx ry
    subst this
    have := DR.inj I k k x d e hd he
    subst this
    exact SeqAt.EqAt.same (A := A) (s := s) u X.prog X.w X.xe _ ⟨(eqD_refl d).symm, H, I, Ext.rfl'⟩
  · refine HPQ.eqBool_rc huv (fun b c t t' z => hd.noflt rx b t z.1) (wpAny_mono (h A pins s σ H x y u v d e sb I rx ry hd he) (fun r s' q => ?_) fun _ _ z => z)
    obtain ⟨rfl, q⟩ := q
    exact ⟨_, rfl, rfl, q⟩
/-- a turn of a loop over two sequences -/
theorem turnB (h : EqB X Z k) {A : Around} (sb : Sub X (2 * k + 1) A) {pins : List (Addr × Obj)} {σ : St} {H : Hp} {us ws : List V} {its its2 : List Value} {ds es : List PD} (p : Paired (DR (kx X Z) H k) us ds) (p2 : Paired (DR (kx X Z) H k) ws es) (r : Vals us its) (r2 : Vals ws its2)
    (i : Nat) (h1 : i < its.toArray.size) (h2 : i < its2.toArray.size) (s' : Shared) (l : LoopI X pins σ H s') :
    wpAny (model X.prog X.w) A.in1 (eqBool its.toArray[i] its2.toArray[i]) (fun r s2 => r = eqAtD ds es i ∧ LoopI X pins σ H s2) X.xe s' := by
  obtain ⟨H1, I1, e1⟩ := l
  have h1' : i < its.length := by simpa using h1
  have h2' : i < its2.length := by simpa using h2
  have k1 : i < us.length := by rw [r.length]; exact h1'
  have k2 : i < ws.length := by rw [r2.length]; exact h2'
  have m1 : i < ds.length := by rw [← p.length]; exact k1
  have m2 : i < es.length := by rw [← p2.length]; exact k2
  obtain ⟨u, hu, ru⟩ := r.get (List.getElem?_eq_getElem k1)
  obtain ⟨v, hv, rv⟩ := r2.get (List.getElem?_eq_getElem k2)
  have g1 : its[i]? = some its.toArray[i] := by rw [List.getElem?_eq_getElem h1'] <;> simp
  have g2 : its2[i]? = some its2.toArray[i] := by rw [List.getElem?_eq_getElem h2'] <;> simp
  rw [g1] at hu
  rw [g2] at hv
  rw [Option.some.inj hu, Option.some.inj hv]
  have q1 := Paired.get p (List.getElem?_eq_getElem k1) (List.getElem?_eq_getElem m1)
  have q2 := Paired.get p2 (List.getElem?_eq_getElem k2) (List.getElem?_eq_getElem m2)
  have hq : eqAtD ds es i = eqD ds[i] es[i] := by simp [eqAtD, ndD, List.getD_eq_getElem?_getD, m1, m2]
  rw [hq]
  refine wpAny_mono (h A.in1 pins s' σ H1 _ _ u v _ _ sb.in1 I1 ru rv (q1.ext e1) (q2.ext e1)) (fun r s2 q => ?_) fun _ _ x => x
  obtain ⟨hr, H2, I2, e2⟩ := q
  exact ⟨hr, H2, I2, e1.trans e2⟩
theorem own_call {f : Addr} {fd : FuncData} {ps : List Str} (F : FnOk X.prog X.w X.K X.mg X.base (L2.CX X.prog X.w) (2 * k + 1) f fd ps (spEq (kx X Z) k)) (hb : Binds X.K fd ps []) {A : Around} (sb : Sub X (2 * k + 1) A) {pins : List (Addr × Obj)} {s : Shared} {σ : St} {H : Hp} {a b : V} {u v : Value} {x y e : PD}
    (I : L2.Inv X pins σ H s) (ra : RelV a u) (rb : RelV b v) (hd : DR (kx X Z) H (k + 1) a (.atm x y)) (he : DR (kx X Z) H (k + 1) b e) :
    wpAny (model X.prog X.w) A (call (.ref f) [u, v]) (fun r s' => ∃ z, r = .bool z ∧ z = eqD (.atm x y) e ∧ LoopI X pins σ H s') X.xe s := by
  have hsp : spEq (kx X Z) k [a, b] H (fun r H' => r = .bl (eqD (.atm x y) e) ∧ Ext H H') E0 := ⟨a, b, x, y, e, rfl, hd, he, fun H' z => ⟨rfl, z⟩⟩
  have e0 : Env0 X.prog X.w X.K X.mg X.base A X.stack s H := by
    have e := I.env0
    exact ⟨by rw [sb.fr]; exact e.frames, e.mod, e.bs, e.bsz, e.funs, e.frf, e.hok, e.bare⟩
  have hl := F.len _ _ _ _ hsp
  have r2 : Vals [a, b] [u, v] := .cons ra (.cons rb .nil)
  refine wpAny_call (codeAny_mono (F.run A X.stack s H ⟨[u, v], []⟩ [u, v] [a, b] _ E0 sb.room e0 (by
    have := hb s [u, v] I.kIn (by simpa using hl)
    simpa using this) r2 hsp) fun r s' hq => ?_)
  cases r with
  | error er =>
    obtain ⟨_, _, _, _, _, _, _, _, _, _, _, _, z⟩ := (show L2.CX X.prog X.w X.stack H s E0 er s' from hq)
    exact z.elim
  | ok fl =>
    cases fl with
    | ret w =>
      obtain ⟨z, H', I', rz, ez, ex⟩ := I.after hq
      subst ez
      cases rz
      exact ⟨_, rfl, rfl, H', I', ex⟩
    | next => exact False.elim hq
    | brk => exact False.elim hq
    | cont => exact False.elim hq

theorem kin_of {pins : List (Addr × Obj)} {σ : St} {H : Hp} {s : Shared} (I : L2.Inv X pins σ H s) {x : V} {u : Value} {d : PD} {j : Nat} (rx : RelV x u) (h : DR (kx X Z) H j x d) : HPQ.Kin s u ∨ ∃ y dy, u = .ref y ∧ s.heap.get? y = some (PySem.W.instObj (Z.cls 0) dy) := by
  cases j with
  | zero => exact h.elim
  | succ j =>
    cases d with
    | non => cases h; cases (show u = Value.none from rx); exact .inl .none
    | bl b => cases h; cases (show u = Value.bool b from rx); exact .inl (.bool b)
    | int b => cases h; obtain ⟨t, rfl⟩ := (show ∃ t, u = Value.int b t from rx); exact .inl (.int b t)
    | str t => obtain ⟨z, rfl, _⟩ := h; obtain ⟨t, rfl⟩ := (show ∃ t, u = Value.str z t from rx); exact .inl (.str z t)
    | tup ds =>
      obtain ⟨a, us, rfl, e, _⟩ := h
      cases (show u = Value.ref a from rx)
      obtain ⟨its, r, p, _⟩ := I.tuple e
      exact .inl (.tuple p)
    | lst ds =>
      obtain ⟨a, us, rfl, e, _⟩ := h
      cases (show u = Value.ref a from rx)
      obtain ⟨its, r, p, _⟩ := I.list e
      exact .inl (.list p.isList)
    | atm x y =>
      obtain ⟨_, a, dx, fs, p, q, rfl, e, _⟩ := h
      cases (show u = Value.ref a from rx)
      exact .inr ⟨a, dx, rfl, ins_obj I e⟩
theorem kin_noatm {pins : List (Addr × Obj)} {σ : St} {H : Hp} {s : Shared} (I : L2.Inv X pins σ H s) {x : V} {u : Value} {d : PD} {j : Nat} (rx : RelV x u) (h : DR (kx X Z) H j x d) (ht : tagD d ≠ 6) : HPQ.Kin s u := by
  cases j with
  | zero => exact h.elim
  | succ j =>
    cases d with
    | non => cases h; cases (show u = Value.none from rx); exact .none
    | bl b => cases h; cases (show u = Value.bool b from rx); exact .bool b
    | int b => cases h; obtain ⟨t, rfl⟩ := (show ∃ t, u = Value.int b t from rx); exact .int b t
    | str t => obtain ⟨z, rfl, _⟩ := h; obtain ⟨t, rfl⟩ := (show ∃ t, u = Value.str z t from rx); exact .str z t
    | tup ds =>
      obtain ⟨a, us, rfl, e, _⟩ := h
      cases (show u = Value.ref a from rx)
      obtain ⟨its, r, p, _⟩ := I.tuple e
      exact .tuple p
    | lst ds =>
      obtain ⟨a, us, rfl, e, _⟩ := h
      cases (show u = Value.ref a from rx)
      obtain ⟨its, r, p, _⟩ := I.list e
      exact .list p.isList
    | atm x y => exact absurd rfl ht
/-- what is left where neither is an instance and they are no two tuples and no two lists -/
theorem flat_cmp {A : Around} {s : Shared} {H : Hp} {pins : List (Addr × Obj)} {σ : St} (I : L2.Inv X pins σ H s) (hu : A.units < cLine) {x y : V} {u v : Value} {d e : PD} (rx : RelV x u) (ry : RelV y v) (hd : DR (kx X Z) H (k + 1) x d) (he : DR (kx X Z) H (k + 1) y e)
    (h1 : tagD d ≠ 6) (h2 : tagD e ≠ 6) (h3 : ¬ (tagD d = 4 ∧ tagD e = 4)) (h4 : ¬ (tagD d = 5 ∧ tagD e = 5)) : SeqAt.RcAt A s u v (eqD d e) ∧ SeqAt.RcNeAt A s u v (!eqD d e) := by
  have seq : ∀ {d : PD} {x : V} {u : Value}, RelV x u → DR (kx X Z) H (k + 1) x d → (tagD d = 4 → ∃ l items, u = .ref l ∧ s.heap.IsTuple l items) ∧ (tagD d = 5 → ∃ l items, u = .ref l ∧ s.heap.IsList l items) := by
    intro d x u rx h
    refine ⟨fun ht => ?_, fun ht => ?_⟩
    · cases d <;> first | (cases ht; done) | skip
      obtain ⟨a, us, rfl, e, _⟩ := h
      cases (show u = Value.ref a from rx)
      obtain ⟨its, r, p, _⟩ := I.tuple e
      exact ⟨a, _, rfl, p⟩
    · cases d <;> first | (cases ht; done) | skip
      obtain ⟨a, us, rfl, e, _⟩ := h
      cases (show u = Value.ref a from rx)
      obtain ⟨its, r, p, _⟩ := I.list e
      exact ⟨a, _, rfl, p.isList⟩
  have str : ∀ {t : List Nat} {x : V} {u : Value}, RelV x u → DR (kx X Z) H (k + 1) x (.str t) → ∃ z tk, u = .str z tk ∧ z.cps.toList = t := by
    intro t x u rx h
    obtain ⟨z, rfl, hz⟩ := h
    obtain ⟨tk, rfl⟩ := (show ∃ t, u = Value.str z t from rx)
    exact ⟨z, tk, rfl, hz⟩
  have int : ∀ {t : Int} {x : V} {u : Value}, RelV x u → DR (kx X Z) H (k + 1) x (.int t) → ∃ tk, u = .int t tk := by
    intro t x u rx h
    cases h
    exact rx
  have bl : ∀ {t : Bool} {x : V} {u : Value}, RelV x u → DR (kx X Z) H (k + 1) x (.bl t) → u = .bool t := by
    intro t x u rx h
    cases h
    exact rx
  have non : ∀ {x : V} {u : Value}, RelV x u → DR (kx X Z) H (k + 1) x .non → u = .none := by
    intro x u rx h
    cases h
    exact rx
  cases d with
  | non =>
    cases non rx hd
    cases e with
    | non => cases non ry he; exact ⟨by simpa [eqD] using SeqAt.RcAt.none_none, by simpa [eqD] using SeqAt.RcNeAt.none_none⟩
    | bl b => cases bl ry he; exact ⟨by simpa [eqD] using SeqAt.RcAt.none_bool b, by simpa [eqD] using SeqAt.RcNeAt.none_bool b⟩
    | int i => obtain ⟨t, rfl⟩ := int ry he; exact ⟨by simpa [eqD] using SeqAt.RcAt.none_int i t, by simpa [eqD] using SeqAt.RcNeAt.none_int i t⟩
    | str i => obtain ⟨z, t, rfl, _⟩ := str ry he; exact ⟨by simpa [eqD] using SeqAt.RcAt.none_str z t, by simpa [eqD] using SeqAt.RcNeAt.none_str z t⟩
    | tup ds => obtain ⟨l, its, rfl, p⟩ := (seq ry he).1 rfl; exact ⟨by simpa [eqD] using SeqAt.RcAt.none_tuple p hu, by simpa [eqD] using SeqAt.RcNeAt.none_tuple p hu⟩
    | lst ds => obtain ⟨l, its, rfl, p⟩ := (seq ry he).2 rfl; exact ⟨by simpa [eqD] using SeqAt.RcAt.none_list p hu, by simpa [eqD] using SeqAt.RcNeAt.none_list p hu⟩
    | atm x y => exact absurd rfl h2
  | bl a =>
    cases bl rx hd
    cases e with
    | non => cases non ry he; exact ⟨by simpa [eqD] using SeqAt.RcAt.bool_none a, by simpa [eqD] using SeqAt.RcNeAt.bool_none a⟩
    | bl b => cases bl ry he; exact ⟨by simpa [eqD] using SeqAt.RcAt.bool_bool a b, by simpa [eqD] using SeqAt.RcNeAt.bool_bool a b⟩
    | int i => obtain ⟨t, rfl⟩ := int ry he; exact ⟨by simpa [eqD] using SeqAt.RcAt.bool_int a i t, by simpa [eqD] using SeqAt.RcNeAt.bool_int a i t⟩
    | str i => obtain ⟨z, t, rfl, _⟩ := str ry he; exact ⟨by simpa [eqD] using SeqAt.RcAt.bool_str a z t, by simpa [eqD] using SeqAt.RcNeAt.bool_str a z t⟩
    | tup ds => obtain ⟨l, its, rfl, p⟩ := (seq ry he).1 rfl; exact ⟨by simpa [eqD] using SeqAt.RcAt.bool_tuple a p hu, by simpa [eqD] using SeqAt.RcNeAt.bool_tuple a p hu⟩
    | lst ds => obtain ⟨l, its, rfl, p⟩ := (seq ry he).2 rfl; exact ⟨by simpa [eqD] using SeqAt.RcAt.bool_list a p hu, by simpa [eqD] using SeqAt.RcNeAt.bool_list a p hu⟩
    | atm x y => exact absurd rfl h2
  | int a =>
    obtain ⟨ta, rfl⟩ := int rx hd
    cases e with
    | non => cases non ry he; exact ⟨by simpa [eqD] using SeqAt.RcAt.int_none a ta, by simpa [eqD] using SeqAt.RcNeAt.int_none a ta⟩
    | bl b => cases bl ry he; exact ⟨by simpa [eqD] using SeqAt.RcAt.int_bool a ta b, by simpa [eqD] using SeqAt.RcNeAt.int_bool a ta b⟩
    | int i => obtain ⟨t, rfl⟩ := int ry he; exact ⟨by simpa [eqD] using SeqAt.RcAt.int_int a ta i t, by simpa [eqD] using SeqAt.RcNeAt.int_int a ta i t⟩
    | str i => obtain ⟨z, t, rfl, _⟩ := str ry he; exact ⟨by simpa [eqD] using SeqAt.RcAt.int_str a ta z t, by simpa [eqD] using SeqAt.RcNeAt.int_str a ta z t⟩
    | tup ds => obtain ⟨l, its, rfl, p⟩ := (seq ry he).1 rfl; exact ⟨by simpa [eqD] using SeqAt.RcAt.int_tuple a ta p hu, by simpa [eqD] using SeqAt.RcNeAt.int_tuple a ta p hu⟩
    | lst ds => obtain ⟨l, its, rfl, p⟩ := (seq ry he).2 rfl; exact ⟨by simpa [eqD] using SeqAt.RcAt.int_list a ta p hu, by simpa [eqD] using SeqAt.RcNeAt.int_list a ta p hu⟩
    | atm x y => exact absurd rfl h2
  | str a =>
    obtain ⟨za, ta, rfl, hza⟩ := str rx hd
    cases e with
    | non => cases non ry he; exact ⟨by simpa [eqD] using SeqAt.RcAt.str_none za ta, by simpa [eqD] using SeqAt.RcNeAt.str_none za ta⟩
    | bl b => cases bl ry he; exact ⟨by simpa [eqD] using SeqAt.RcAt.str_bool za ta b, by simpa [eqD] using SeqAt.RcNeAt.str_bool za ta b⟩
    | int i => obtain ⟨t, rfl⟩ := int ry he; exact ⟨by simpa [eqD] using SeqAt.RcAt.str_int za ta i t, by simpa [eqD] using SeqAt.RcNeAt.str_int za ta i t⟩
    | str i =>
      obtain ⟨z, t, rfl, hz⟩ := str ry he
      have hq : eqD (.str a) (.str i) = (za == z) := by
        rw [← hza, ← hz]
        simp only [eqD]
        exact SeqAt.str_beq za z
      rw [hq]
      exact ⟨SeqAt.RcAt.str_str za ta z t, SeqAt.RcNeAt.str_str za ta z t⟩
    | tup ds => obtain ⟨l, its, rfl, p⟩ := (seq ry he).1 rfl; exact ⟨by simpa [eqD] using SeqAt.RcAt.str_tuple za ta p hu, by simpa [eqD] using SeqAt.RcNeAt.str_tuple za ta p hu⟩
    | lst ds => obtain ⟨l, its, rfl, p⟩ := (seq ry he).2 rfl; exact ⟨by simpa [eqD] using SeqAt.RcAt.str_list za ta p hu, by simpa [eqD] using SeqAt.RcNeAt.str_list za ta p hu⟩
    | atm x y => exact absurd rfl h2
  | tup a =>
    obtain ⟨la, ita, rfl, pa⟩ := (seq rx hd).1 rfl
    cases e with
    | non => cases non ry he; exact ⟨by simpa [eqD] using SeqAt.RcAt.tuple_none pa hu, by simpa [eqD] using SeqAt.RcNeAt.tuple_none pa hu⟩
    | bl b => cases bl ry he; exact ⟨by simpa [eqD] using SeqAt.RcAt.tuple_bool b pa hu, by simpa [eqD] using SeqAt.RcNeAt.tuple_bool b pa hu⟩
    | int i => obtain ⟨t, rfl⟩ := int ry he; exact ⟨by simpa [eqD] using SeqAt.RcAt.tuple_int i t pa hu, by simpa [eqD] using SeqAt.RcNeAt.tuple_int i t pa hu⟩
    | str i => obtain ⟨z, t, rfl, _⟩ := str ry he; exact ⟨by simpa [eqD] using SeqAt.RcAt.tuple_str z t pa hu, by simpa [eqD] using SeqAt.RcNeAt.tuple_str z t pa hu⟩
    | tup ds => exact absurd ⟨rfl, rfl⟩ h3
    | lst ds => obtain ⟨l, its, rfl, p⟩ := (seq ry he).2 rfl; exact ⟨by simpa [eqD] using SeqAt.RcAt.tuple_list pa p hu, by simpa [eqD] using SeqAt.RcNeAt.tuple_list pa p hu⟩
    | atm x y => exact absurd rfl h2
  | lst a =>
    obtain ⟨la, ita, rfl, pa⟩ := (seq rx hd).2 rfl
    cases e with
    | non => cases non ry he; exact ⟨by simpa [eqD] using SeqAt.RcAt.list_none pa hu, by simpa [eqD] using SeqAt.RcNeAt.list_none pa hu⟩
    | bl b => cases bl ry he; exact ⟨by simpa [eqD] using SeqAt.RcAt.list_bool b pa hu, by simpa [eqD] using SeqAt.RcNeAt.list_bool b pa hu⟩
    | int i => obtain ⟨t, rfl⟩ := int ry he; exact ⟨by simpa [eqD] using SeqAt.RcAt.list_int i t pa hu, by simpa [eqD] using SeqAt.RcNeAt.list_int i t pa hu⟩
    | str i => obtain ⟨z, t, rfl, _⟩ := str ry he; exact ⟨by simpa [eqD] using SeqAt.RcAt.list_str z t pa hu, by simpa [eqD] using SeqAt.RcNeAt.list_str z t pa hu⟩
    | tup ds => obtain ⟨l, its, rfl, p⟩ := (seq ry he).1 rfl; exact ⟨by simpa [eqD] using SeqAt.RcAt.list_tuple pa p hu, by simpa [eqD] using SeqAt.RcNeAt.list_tuple pa p hu⟩
    | lst ds => exact absurd ⟨rfl, rfl⟩ h4
    | atm x y => exact absurd rfl h2
  | atm x y => exact absurd rfl h1
end
end HP

set_option Elab.async false
set_option linter.all false
set_option autoImplicit false
set_option maxRecDepth 100000
set_option maxHeartbeats 4000000
namespace HP
open PySem L2
section
variable {X : Cx} {Z : Zx} {k : Nat}
theorem eqD_atm_r {d x y : PD} (h : tagD d ≠ 6) : eqD d (.atm x y) = false := by cases d <;> first | exact absurd rfl h | simp [eqD]
theorem eqD_atm_sym {d x y : PD} (h : tagD d ≠ 6) : eqD (.atm x y) d = eqD d (.atm x y) := by cases d <;> first | exact absurd rfl h | simp [eqD]
theorem inst_of {pins : List (Addr × Obj)} {σ : St} {H : Hp} {s : Shared} (I : L2.Inv X pins σ H s) {x : V} {u : Value} {a b : PD} {j : Nat} (rx : RelV x u) (h : DR (kx X Z) H j x (.atm a b)) : Z.atoms = true ∧ ∃ y dy, u = .ref y ∧ s.heap.get? y = some (PySem.W.instObj (Z.cls 0) dy) := by
  cases j with
  | zero => exact h.elim
  | succ j =>
    obtain ⟨ha, a, dx, fs, p, q, rfl, e, _⟩ := h
    cases (show u = Value.ref a from rx)
    exact ⟨ha, a, dx, rfl, ins_obj I e⟩
theorem lists_read {pins : List (Addr × Obj)} {σ : St} {H : Hp} {a b : Addr} {us ws : List V} {ds es : List PD} (h : EqB X Z k) {A : Around} (sb : Sub X (2 * k + 1) A) (ha : SqL X.K H a us) (hb : SqL X.K H b ws) (p : Paired (DR (kx X Z) H k) us ds) (p2 : Paired (DR (kx X Z) H k) ws es) (hl : ds.length = es.length) :
    HPQ.ListB X.prog X.w A X.xe a b ds.length (eqAtD ds es) (fun _ s' => LoopI X pins σ H s') := by
  intro i s' q
  obtain ⟨H1, I1, e1⟩ := id q
  obtain ⟨its, r, ⟨⟨c1, d1, dt1, sl1⟩, n1, g1, c1', d1', t1⟩, _⟩ := I1.list (ha.ext e1)
  obtain ⟨its2, r2, ⟨⟨c2, d2, dt2, sl2⟩, n2, g2, c2', d2', t2⟩, _⟩ := I1.list (hb.ext e1)
  simp only at c1' d1' t1 c2' d2' t2
  subst c1' d1' t1 c2' d2' t2
  have l1 := p.length
  have l2 := p2.length
  have l3 := r.length
  have l4 := r2.length
  refine ⟨its.toArray, its2.toArray, n1, n2, sl1, sl2, g1, g2, by simp; omega, by simp; omega, fun h1 h2 => ?_⟩
  exact turnB h sb p p2 r r2 i h1 h2 s' q
theorem range_all {ds es : List PD} (h : ds.length = es.length) : (List.range ds.length).all (eqAtD ds es) = eqDs ds es := by
  rw [eqDs_range, ← h, Nat.min_self]
  simp
theorem rc_step (h : EqB X Z k) (own : OwnEq X Z k) : RcE X Z (k + 1) ∧ RcN X Z (k + 1) := by
  have two : ∀ (A : Around) (pins : List (Addr × Obj)) (s : Shared) (σ : St) (H : Hp) (x y : V) (u v : Value) (d e : PD), Sub X (2 * (k + 1)) A → L2.Inv X pins σ H s → RelV x u → RelV y v → DR (kx X Z) H (k + 1) x d → DR (kx X Z) H (k + 1) y e →
      wpAny (model X.prog X.w) A (richCompare .Eq u v) (fun r s' => r = .bool (eqD d e) ∧ LoopI X pins σ H s') X.xe s ∧
      wpAny (model X.prog X.w) A (richCompare .NotEq u v) (fun r s' => r = .bool (!eqD d e) ∧ LoopI X pins σ H s') X.xe s := by
    intro A pins s σ H x y u v d e sb I rx ry hd he
    have hu : A.units < cLine := sb.room.units0
    have hu1 : A.units + 1 < cLine := by have := sb.room.units; omega
    have L0 : LoopI X pins σ H s := ⟨H, I, Ext.rfl'⟩
    have sb1 : Sub X (2 * k + 1) A := sb.mono (by omega)
    by_cases h1 : tagD d = 6
    · cases d <;> first | (cases h1; done) | skip
      rename_i a b
      obtain ⟨hat, p, dp, rfl, hp⟩ := inst_of I rx hd
      obtain ⟨f, fd, ps, O, F, B⟩ := own hat
      have hb := kin_of I ry he
      have call := own_call (k := k) F B sb1 I rx ry hd he
      have call1 := own_call (k := k) (A := A.in1) F B (show Sub X (2 * k + 1) A.in1 from (sb.mono (by omega : 2 * (k + 1) ≤ 2 * k + 1 + 1)).in1) I rx ry hd he
      refine ⟨HPQ.rc_own_eq O I.kIn hu hp hb (wpAny_mono call (fun r s' q => ?_) fun _ _ z => z), HPQ.rc_own_ne O I.kIn hu1 hp hb (wpAny_mono call1 (fun r s' q => ?_) fun _ _ z => z)⟩
      · obtain ⟨z, rfl, rfl, q⟩ := q
        exact ⟨_, rfl, rfl, q⟩
      · obtain ⟨z, rfl, rfl, q⟩ := q
        exact ⟨_, rfl, rfl, q⟩
    by_cases h2 : tagD e = 6
    · cases e <;> first | (cases h2; done) | skip
      rename_i a b
      obtain ⟨hat, p, dp, rfl, hp⟩ := inst_of I ry he
      obtain ⟨f, fd, ps, O, F, B⟩ := own hat
      have hk := kin_noatm I rx hd h1
      have call := own_call (k := k) F B sb1 I ry rx he hd
      have call1 := own_call (k := k) (A := A.in1) F B (show Sub X (2 * k + 1) A.in1 from (sb.mono (by omega : 2 * (k + 1) ≤ 2 * k + 1 + 1)).in1) I ry rx he hd
      rw [eqD_atm_sym h1] at call call1
      refine ⟨HPQ.rc_kin_eq O I.kIn hu hk hp (wpAny_mono call (fun r s' q => ?_) fun _ _ z => z), HPQ.rc_kin_ne O I.kIn hu1 hk hp (wpAny_mono call1 (fun r s' q => ?_) fun _ _ z => z)⟩
      · obtain ⟨z, rfl, rfl, q⟩ := q
        exact ⟨_, rfl, rfl, q⟩
      · obtain ⟨z, rfl, rfl, q⟩ := q
        exact ⟨_, rfl, rfl, q⟩
    by_cases h3 : tagD d = 4 ∧ tagD e = 4
    · obtain ⟨h3, h4⟩ := h3
      cases d <;> first | (cases h3; done) | skip
      cases e <;> first | (cases h4; done) | skip
      rename_i ds es
      obtain ⟨a, us, rfl, ha, p⟩ := hd
      obtain ⟨b, ws, rfl, hb, p2⟩ := he
      cases (show u = Value.ref a from rx)
      cases (show v = Value.ref b from ry)
      obtain ⟨its, r, q1, _⟩ := I.tuple ha
      obtain ⟨its2, r2, q2, _⟩ := I.tuple hb
      have l1 := p.length
      have l2 := p2.length
      have l3 := r.length
      have l4 := r2.length
      have hr : ((List.range (min its.toArray.size its2.toArray.size)).all (eqAtD ds es) && its.toArray.size == its2.toArray.size) = eqDs ds es := by
        rw [eqDs_range, List.size_toArray, List.size_toArray, ← l3, ← l4, l1, l2]
      refine ⟨HPQ.rc_tup_eqB hu (eqAtD ds es) (fun _ s' => LoopI X pins σ H s') q1 q2 (fun i h1 h2 s' q => turnB h sb1 p p2 r r2 i h1 h2 s' q) (fun i s' q => ⟨?_, q⟩) L0,
        HPQ.rc_tup_neB hu (eqAtD ds es) (fun _ s' => LoopI X pins σ H s') q1 q2 (fun i h1 h2 s' q => turnB h sb1 p p2 r r2 i h1 h2 s' q) (fun i s' q => ⟨?_, q⟩) L0⟩
      · rw [hr]
        simp only [eqD]
      · rw [hr]
        simp only [eqD]
    by_cases h4 : tagD d = 5 ∧ tagD e = 5
    · obtain ⟨h5, h6⟩ := h4
      cases d <;> first | (cases h5; done) | skip
      cases e <;> first | (cases h6; done) | skip
      rename_i ds es
      obtain ⟨a, us, rfl, ha, p⟩ := hd
      obtain ⟨b, ws, rfl, hb, p2⟩ := he
      cases (show u = Value.ref a from rx)
      cases (show v = Value.ref b from ry)
      by_cases hl : ds.length = es.length
      · have lr := lists_read (pins := pins) (σ := σ) h sb1 ha hb p p2 hl
        refine ⟨HPQ.rc_list_eqB hu (eqAtD ds es) (fun _ s' => LoopI X pins σ H s') lr (fun i s' q => ⟨?_, q⟩) L0, HPQ.rc_list_neB hu (eqAtD ds es) (fun _ s' => LoopI X pins σ H s') lr (fun i s' q => ⟨?_, q⟩) L0⟩
        · rw [range_all hl]
          simp only [eqD]
        · rw [range_all hl]
          simp only [eqD]
      · obtain ⟨its, r, q1, _⟩ := I.list ha
        obtain ⟨its2, r2, q2, _⟩ := I.list hb
        have l1 := p.length
        have l2 := p2.length
        have l3 := r.length
        have l4 := r2.length
        have hsz : (its.toArray.size != its2.toArray.size) = true := by simp; omega
        have hf : eqD (.lst ds) (.lst es) = false := by
          simp only [eqD]
          rw [eqDs_range]
          have : (ds.length == es.length) = false := by simpa using hl
          rw [this, Bool.and_false]
        rw [hf]
        exact ⟨SeqAt.RcAt.lists_lengths q1.isList q2.isList hsz hu X.prog X.w X.xe _ ⟨rfl, L0⟩, SeqAt.RcNeAt.lists_lengths q1.isList q2.isList hsz hu X.prog X.w X.xe _ ⟨rfl, L0⟩⟩
    · obtain ⟨q1, q2⟩ := flat_cmp I hu rx ry hd he h1 h2 h3 h4
      exact ⟨q1 X.prog X.w X.xe _ ⟨rfl, L0⟩, q2 X.prog X.w X.xe _ ⟨rfl, L0⟩⟩
  exact ⟨fun A pins s σ H x y u v d e sb I rx ry hd he => (two A pins s σ H x y u v d e sb I rx ry hd he).1, fun A pins s σ H x y u v d e sb I rx ry hd he => (two A pins s σ H x y u v d e sb I rx ry hd he).2⟩
/-- x in a list, a tuple of data -/
theorem in_step (h : EqB X Z k) {A : Around} {pins : List (Addr × Obj)} {s : Shared} {σ : St} {H : Hp} {x y : V} {u v : Value} {d : PD} {ds : List PD} (sb : Sub X (2 * k + 1) A) (I : L2.Inv X pins σ H s) (rx : RelV x u) (ry : RelV y v) (hd : DR (kx X Z) H k x d)
    (hs : ∃ a us, y = .ref a ∧ (SqL X.K H a us ∨ SqT X.K H a us) ∧ Paired (DR (kx X Z) H k) us ds) (neg : Bool) :
    wpAny (model X.prog X.w) A (compareOp (if neg then .NotIn else .In) u v) (fun r s' => r = .bool (neg != ds.any fun z => eqD z d) ∧ LoopI X pins σ H s') X.xe s := by
  obtain ⟨a, us, rfl, hs, p⟩ := hs
  cases (show v = Value.ref a from ry)
  have L0 : LoopI X pins σ H s := ⟨H, I, Ext.rfl'⟩
  have hany : (List.range ds.length).any (fun i => eqD (ndD ds i) d) = ds.any fun z => eqD z d := by
    rw [Bool.eq_iff_iff, List.any_eq_true, List.any_eq_true]
    constructor
    · rintro ⟨i, hi, e⟩
      have hi := List.mem_range.mp hi
      refine ⟨ds[i], List.getElem_mem _, ?_⟩
      simpa [ndD, List.getD_eq_getElem?_getD, hi] using e
    · rintro ⟨z, hz, e⟩
      obtain ⟨i, hi, rfl⟩ := List.getElem_of_mem hz
      exact ⟨i, List.mem_range.mpr hi, by simpa [ndD, List.getD_eq_getElem?_getD, hi] using e⟩
  have l1 := p.length
  have turn : ∀ {its : List Value} (r : Vals us its) (i : Nat) (h1 : i < its.toArray.size) (s' : Shared), LoopI X pins σ H s' → wpAny (model X.prog X.w) A.in1 (eqBool its.toArray[i] u) (fun r s2 => r = eqD (ndD ds i) d ∧ LoopI X pins σ H s2) X.xe s' := by
    intro its r i h1 s' l
    obtain ⟨H1, I1, e1⟩ := l
    have h1' : i < its.length := by simpa using h1
    have k1 : i < us.length := by rw [r.length]; exact h1'
    have m1 : i < ds.length := by rw [← l1]; exact k1
    obtain ⟨w, hw, rw'⟩ := r.get (List.getElem?_eq_getElem k1)
    have g1 : its[i]? = some its.toArray[i] := by rw [List.getElem?_eq_getElem h1'] <;> simp
    rw [g1] at hw
    rw [Option.some.inj hw]
    have q1 := Paired.get p (List.getElem?_eq_getElem k1) (List.getElem?_eq_getElem m1)
    have hq : ndD ds i = ds[i] := by simp [ndD, List.getD_eq_getElem?_getD, m1]
    rw [hq]
    refine wpAny_mono (h A.in1 pins s' σ H1 _ _ w u _ _ sb.in1 I1 rw' rx (q1.ext e1) (hd.ext e1)) (fun r s2 q => ?_) fun _ _ x => x
    obtain ⟨hr, H2, I2, e2⟩ := q
    exact ⟨hr, H2, I2, e1.trans e2⟩
  have fin : ∀ {v : Value} {s' : Shared}, v = .bool (ds.any fun z => eqD z d) → LoopI X pins σ H s' → ∃ b, v = .bool b ∧ (PySem.Value.bool (neg != b) = .bool (neg != ds.any fun z => eqD z d) ∧ LoopI X pins σ H s') := fun e q => ⟨_, e, rfl, q⟩
  rcases hs with hs | hs
  · obtain ⟨its0, r0, ⟨⟨c0, d0, dt0, sl0⟩, n0, g0, c0', d0', t0⟩, _⟩ := I.list hs
    simp only at c0' d0' t0
    subst c0' d0' t0
    have hT : s.TypeIs (.ref a) "list" := ⟨_, g0, rfl⟩
    have lc : HPQ.ListC X.prog X.w A X.xe a u ds.length (fun i => eqD (ndD ds i) d) (fun _ s' => LoopI X pins σ H s') := by
      intro i s' q
      obtain ⟨H1, I1, e1⟩ := id q
      obtain ⟨its, r, ⟨⟨c1, d1, dt1, sl1⟩, n1, g1, c1', d1', t1⟩, _⟩ := I1.list (hs.ext e1)
      simp only at c1' d1' t1
      subst c1' d1' t1
      have l3 := r.length
      exact ⟨its.toArray, n1, sl1, g1, by simp; omega, fun h1 => turn r i h1 s' q⟩
    have call : ∀ Q : Value → Shared → Prop, (∀ s', LoopI X pins σ H s' → Q (.bool (ds.any fun z => eqD z d)) s') → wpAny (model X.prog X.w) A (call (.builtin "list.__contains__") [.ref a, u]) Q X.xe s := by
      intro Q hQ
      refine GQ.call_here F.slot_list_contains hT F.entry_list_contains (F.args_list_contains_2 _ _) ?_
      exact HPQ.list_containsB (R := wants Q X.xe) a u ds.length _ _ lc (fun i s' q => by
        have := hQ s' q
        rw [← hany] at this
        exact this) L0
    cases neg with
    | false =>
      show wpAny (model X.prog X.w) A (do return Value.bool (← contains (.ref a) u)) _ _ s
      refine wpAny_bind (PySem.wpAny_contains_slot hT F.slot_list_contains (call _ fun s' q => ?_))
      exact wpAny_truthy_bool (wpAny_pure ⟨by simp, q⟩)
    | true =>
      show wpAny (model X.prog X.w) A (do return Value.bool (!(← contains (.ref a) u))) _ _ s
      refine wpAny_bind (PySem.wpAny_contains_slot hT F.slot_list_contains (call _ fun s' q => ?_))
      exact wpAny_truthy_bool (wpAny_pure ⟨by simp, q⟩)
  · obtain ⟨its0, r0, q0, _⟩ := I.tuple hs
    obtain ⟨⟨c0, d0, dt0, sl0⟩, g0, c0', n0, t0⟩ := id q0
    simp only at c0' t0
    subst c0' t0
    have hT : s.TypeIs (.ref a) "tuple" := ⟨_, g0, rfl⟩
    have l3 := r0.length
    have call : ∀ Q : Value → Shared → Prop, (∀ s', LoopI X pins σ H s' → Q (.bool (ds.any fun z => eqD z d)) s') → wpAny (model X.prog X.w) A (call (.builtin "tuple.__contains__") [.ref a, u]) Q X.xe s := by
      intro Q hQ
      refine GQ.call_here F.slot_tuple_contains hT F.entry_tuple_contains (F.args_tuple_contains_2 _ _) ?_
      exact HPQ.tuple_containsB (R := wants Q X.xe) a u its0.toArray n0 d0 sl0 (fun i => eqD (ndD ds i) d) (fun _ s' => LoopI X pins σ H s') (fun i h1 s' q => turn r0 i h1 s' q) (fun i s' q => by
        have := hQ s' q
        rw [← hany] at this
        rw [List.size_toArray, ← l3, l1]
        exact this) g0 L0
    cases neg with
    | false =>
      show wpAny (model X.prog X.w) A (do return Value.bool (← contains (.ref a) u)) _ _ s
      refine wpAny_bind (PySem.wpAny_contains_slot hT F.slot_tuple_contains (call _ fun s' q => ?_))
      exact wpAny_truthy_bool (wpAny_pure ⟨by simp, q⟩)
    | true =>
      show wpAny (model X.prog X.w) A (do return Value.bool (!(← contains (.ref a) u))) _ _ s
      refine wpAny_bind (PySem.wpAny_contains_slot hT F.slot_tuple_contains (call _ fun s' q => ?_))
      exact wpAny_truthy_bool (wpAny_pure ⟨by simp, q⟩)
end
end HP

set_option Elab.async false
set_option linter.all false
set_option autoImplicit false
set_option maxRecDepth 100000
set_option maxHeartbeats 4000000
/-! The own == of a class: isinstance, then two attributes compared. -/
namespace HP
open PySem L2

/-- what isinstance asks of an own class -/
structure ClsI (K : PySem.W.Frag) (C : Addr) : Prop where
  cl : Cls K C
  ha : PySem.W.findIn K (.ref C) "__class__" = some (some (.builtin "object.__class__"))
  hn : PySem.W.specialIn K (.builtin "object.__class__") "__get__" = some (some (.builtin "getset_descriptor.__get__"))
  htk : PySem.W.takesIn K (.builtin "object.__class__") = some true
  hm : PySem.W.mroIn K C (.type "object") = some true
theorem ClsI.ty {K : PySem.W.Frag} {C : Addr} (c : ClsI K C) {H : Hp} {a dx : Addr} {fs : List (Str × V)} (e : H a = some (.ins C dx fs)) : TyX K H (.ref a) (.ref C) := .base (.ins e c.cl c.ha c.hn c.htk c.hm)
def bltT : List String := ["NoneType", "bool", "int", "str", "tuple", "list", "dict"]
theorem DR.tyx {K : Kx} {H : Hp} {j : Nat} {u : V} {d : PD} (ci : K.Z.atoms = true → ClsI K.K (K.Z.cls 0)) (h : DR K H j u d) : (tagD d ≠ 6 ∧ ∃ t, t ∈ bltT ∧ TyX K.K H u (.type t)) ∨ (tagD d = 6 ∧ TyX K.K H u (.ref (K.Z.cls 0))) := by
  cases j with
  | zero => exact h.elim
  | succ j =>
    cases d with
    | non => cases h; exact .inl ⟨by decide, "NoneType", by decide, .base .non⟩
    | bl b => cases h; exact .inl ⟨by simp [tagD], "bool", by decide, .base (.bl b)⟩
    | int b => cases h; exact .inl ⟨by simp [tagD], "int", by decide, .base (.int b)⟩
    | str t => obtain ⟨x, rfl, _⟩ := h; exact .inl ⟨by simp [tagD], "str", by decide, .base (.str x)⟩
    | tup ds =>
      obtain ⟨a, us, rfl, e, _⟩ := h
      refine .inl ⟨by simp [tagD], "tuple", by decide, ?_⟩
      rcases e with (e | ⟨o, e⟩) | ⟨o, its, n, e1, e2, _⟩
      · exact .base (.tup e)
      · exact .fTuple e
      · exact .kTuple e1 e2
    | lst ds =>
      obtain ⟨a, us, rfl, e, _⟩ := h
      refine .inl ⟨by simp [tagD], "list", by decide, ?_⟩
      rcases e with (e | ⟨o, e⟩) | ⟨o, its, n, e1, e2, _⟩
      · exact .base (.lst e)
      · exact .base (.frz e)
      · exact .kList e1 e2
    | atm x y =>
      obtain ⟨ha, a, dx, fs, p, q, rfl, e, _⟩ := h
      exact .inr ⟨rfl, (ci ha).ty e⟩
/-- the text of such an == -/
def EqShape (C k0 k1 : Str) (b : List Stmt) : Prop := ∃ p1 p2 p3 p4 p5 p6 p7 p8 p9 p10 p11 p12 p13 p14 p15 p16 p17, b = [.Return (some (.BoolOp .And [.Call (.Name "isinstance" p1) [.Name "other" p2, .Name C p3] [] p4,
  .Compare (.Attribute (.Name "self" p5) k0 p6) [.Eq] [.Attribute (.Name "other" p7) k0 p8] p9, .Compare (.Attribute (.Name "self" p10) k1 p11) [.Eq] [.Attribute (.Name "other" p12) k1 p13] p14] p15)) p16] ∧ p17 = ()
/-- what is known of the class 0 and its == -/
structure AtomF (K : PySem.W.Frag) (Z : Zx) (mg : Str → Option Value) (f : Addr) (fd : FuncData) : Prop where
  own : HPQ.OwnF K (Z.cls 0) f
  ci : ClsI K (Z.cls 0)
  n0 : NoAttr K (Z.cls 0) (Z.anm 0)
  n1 : NoAttr K (Z.cls 0) (Z.anm 1)
  k0 : PySem.W.kitOne K (.ref (Z.cls 0)) (.ref (Z.cls 0)) = some true
  kb : ∀ t, t ∈ bltT → PySem.W.kitOne K (.type t) (.ref (Z.cls 0)) = some false
  df : ∃ x qual params body scope C p, FunD K x qual params body scope [] [] f fd ∧ EqShape C (Z.anm 0) (Z.anm 1) body ∧ FnScope [("self" : Str), "other"] ["self", "other"] scope ∧ scope.names.lookup ("isinstance" : Str) = some .globalImplicit ∧ scope.names.lookup C = some .globalImplicit ∧
    mg "isinstance" = none ∧ mg C = some (.ref (Z.cls 0)) ∧ (C == ("__debug__" : Str)) = false ∧ p = ()
  bd : Binds K fd ["self", "other"] []
section
variable {P : Program} {w : World} {K : PySem.W.Frag} {mg : Str → Option Value} {base : Heap} {Z : Zx} {f : Addr} {fd : FuncData} {k : Nat}
theorem or_rc {X : Cx} (h : RcE X Z k) (hr : Room (2 * k) X.A) : OpR X (compareOp .Eq) (fun x y H Q => ∃ d e, DR (kx X Z) H k x d ∧ DR (kx X Z) H k y e ∧ ∀ H', Ext H H' → Q (.bl (eqD d e)) H') := by
  intro pins s σ H x y u v Q I rx ry ⟨d, e, hd, he, q⟩
  refine wpAny_mono (h X.A pins s σ H x y u v d e ⟨hr, rfl⟩ I rx ry hd he) (fun r s' z => ?_) fun _ _ z => z
  obtain ⟨rfl, H', I', e'⟩ := z
  exact ⟨.bl _, H', I', rfl, q H' e'⟩
theorem own_fn (T : AtomF K Z mg f fd) (ih : ∀ (N : List Str) (qual : Str) (scope : Scope) (cdv : Value) (A : Around) (outer : List PySem.Env) (s : Shared) (H : Hp) (E : XK), RcE (cxOf (L2.CX P w) P w K mg base N qual scope f cdv A outer s H E) Z k) :
    FnOk P w K mg base (L2.CX P w) (2 * k + 1) f fd ["self", "other"] (spEq ⟨K, w, Z⟩ k) := by
  obtain ⟨x, qual, params, body, scope, C, _, F, sh, S, gi, gc, mi, mc, hdb, _⟩ := T.df
  obtain ⟨p1, p2, p3, p4, p5, p6, p7, p8, p9, p10, p11, p12, p13, p14, p15, p16, p17, rfl, _⟩ := sh
  refine F.ok S (fun vs H Q E h => ?_) (fun cdv A outer s H vs Q E hr h => ?_)
  · obtain ⟨a, b, _, _, _, rfl, _⟩ := h
    rfl
  · obtain ⟨a, b, x, y, e, rfl, hd, he, q⟩ := h
    let X : Cx := cxOf (L2.CX P w) P w K mg base ["self", "other"] qual scope f cdv A outer s H E
    have vis : ∀ n, n ∈ (["self", "other"] : List Str) → Vis X.env.scope n := fun n hn => by
      rcases S.par n hn with z | z
      · exact .inl z
      · exact .inr (.inl z)
    have hx0 : PE X (.Name "self" p5) (tVar 0) := pe_var rfl (vis _ (by simp)) (by decide) (by decide)
    have hx0' : PE X (.Name "self" p10) (tVar 0) := pe_var rfl (vis _ (by simp)) (by decide) (by decide)
    have hx1 : PE X (.Name "other" p2) (tVar 1) := pe_var rfl (vis _ (by simp)) (by decide) (by decide)
    have hx1' : PE X (.Name "other" p7) (tVar 1) := pe_var rfl (vis _ (by simp)) (by decide) (by decide)
    have hx1'' : PE X (.Name "other" p12) (tVar 1) := pe_var rfl (vis _ (by simp)) (by decide) (by decide)
    have hC := pe_glob (X := X) (x := C) (v := .ref (Z.cls 0)) (pos := p3) gc mc rfl hdb
    have op := or_rc (X := X) (Z := Z) (k := k) (ih _ _ _ _ _ _ _ _ _) hr
    refine ⟨_, pss_one (ps_ret (pe_andT (pe_callB call_isi gi mi (by decide +kernel) (pa_cons hx1 (pa_cons hC pa_nil)))
      (pe_andT (pe_cmpR op (pe_fld hx0 rfl) (pe_fld hx1' rfl) rfl) (pe_one (pe_cmpR op (pe_fld hx0' rfl) (pe_fld hx1'' rfl) rfl))))), ?_⟩
    obtain ⟨hat, pa, da, fs, u0, u1, rfl, hA, l0, l1, d0, d1⟩ := id hd
    rcases he.tyx (K := ⟨K, w, Z⟩) (fun _ => T.ci) with ⟨ht, t, htm, hty⟩ | ⟨ht, hty⟩
    · refine ⟨_, rfl, b, .ref (Z.cls 0), .type t, .ref (Z.cls 0), false, rfl, .own _, hty, T.kb t htm, false, rfl, ?_⟩
      have := q H Ext.rfl'
      rw [eqD_atm_sym ht, eqD_atm_r ht] at this
      exact this
    · cases e <;> first | (cases ht; done) | skip
      rename_i x' y'
      obtain ⟨_, pb, db, gs, v0, v1, rfl, hB, m0, m1, e0, e1⟩ := id he
      refine ⟨_, rfl, .ref pb, .ref (Z.cls 0), .ref (Z.cls 0), .ref (Z.cls 0), true, rfl, .own _, hty, T.k0, true, rfl, ?_⟩
      refine ⟨_, rfl, pa, Z.cls 0, da, fs, u0, rfl, hA, T.ci.cl, T.n0, l0, _, rfl, pb, Z.cls 0, db, gs, v0, rfl, hB, T.ci.cl, T.n0, m0, x, x', d0, e0, fun H1 x1 => ⟨eqD x x', rfl, ?_⟩⟩
      cases hq : eqD x x' with
      | false =>
        have := q H1 x1
        rw [show eqD (.atm x y) (.atm x' y') = (eqD x x' && eqD y y') by simp [eqD], hq, Bool.false_and] at this
        exact this
      | true =>
        refine ⟨_, rfl, pa, Z.cls 0, da, fs, u1, rfl, x1 _ _ hA, T.ci.cl, T.n1, l1, _, rfl, pb, Z.cls 0, db, gs, v1, rfl, x1 _ _ hB, T.ci.cl, T.n1, m1, y, y', d1.ext x1, e1.ext x1, fun H2 x2 => ?_⟩
        have := q H2 (x1.trans x2)
        rw [show eqD (.atm x y) (.atm x' y') = (eqD x x' && eqD y y') by simp [eqD], hq, Bool.true_and] at this
        exact this

/-- == of data of any depth, in every body over this text -/
theorem eq_all (T : Z.atoms = true → AtomF K Z mg f fd) : ∀ k, (∀ X : Cx, X.prog = P → X.w = w → X.K = K → X.mg = mg → X.base = base → RcE X Z k ∧ RcN X Z k) ∧ (Z.atoms = true → FnOk P w K mg base (L2.CX P w) (2 * k + 1) f fd ["self", "other"] (spEq ⟨K, w, Z⟩ k))
  | 0 => by
    have h0 : ∀ X : Cx, RcE X Z 0 ∧ RcN X Z 0 := fun X => ⟨fun A pins s σ H x y u v d e _ _ _ _ hd _ => hd.elim, fun A pins s σ H x y u v d e _ _ _ _ hd _ => hd.elim⟩
    exact ⟨fun X _ _ _ _ _ => h0 X, fun ha => own_fn (T ha) fun N qual scope cdv A outer s H E => (h0 _).1⟩
  | k + 1 => by
    obtain ⟨h1, h2⟩ := eq_all T k
    have h3 : ∀ X : Cx, X.prog = P → X.w = w → X.K = K → X.mg = mg → X.base = base → RcE X Z (k + 1) ∧ RcN X Z (k + 1) := by
      intro X e1 e2 e3 e4 e5
      have hE := EqB.of (h1 X e1 e2 e3 e4 e5).1
      refine rc_step hE fun ha => ⟨f, fd, ["self", "other"], ?_, ?_, ?_⟩
      · rw [e3]
        exact (T ha).own
      · subst e1 e2 e3 e4 e5
        exact h2 ha
      · rw [e3]
        exact (T ha).bd
    exact ⟨h3, fun ha => own_fn (T ha) fun N qual scope cdv A outer s H E => (h3 _ rfl rfl rfl rfl rfl).1⟩
end
/-- what a body needs of == -/
structure EqF (X : Cx) (Z : Zx) : Prop where
  e : RcE X Z 90
  n : RcN X Z 90
  inj : ∀ i j, Z.anm i = Z.anm j → i = j
end HP

set_option Elab.async false
set_option linter.all false
set_option autoImplicit false
set_option maxRecDepth 100000
set_option maxHeartbeats 4000000
/-! Lists that never change: two made one, one many times. -/
namespace HP
open PySem PySem.Spec PyProof.Rows L2
theorem list_addW (l : Addr) (items : Array Value) (n : Nat) (sl : Array (Option Value)) (b : Addr) (items2 : Array Value) (n2 : Nat) (sl2 : Array (Option Value)) (hc0 : items.size + items2.size ≤ sizeLine) :
    Meets (Builtin.«list.__add__» ⟨[.ref l, .ref b], []⟩) (fun _ R s => s.heap.get? l = some { cls := .type "list", dict := none, data := .seq items n, slots := sl } ∧ s.heap.get? b = some { cls := .type "list", dict := none, data := .seq items2 n2, slots := sl2 } ∧ R (.ok (.ret (Value.ref s.heap.objs.size))) { s with heap := s.heap.push { cls := Value.type "list", data := Data.seq (items ++ items2) }, toks := s.toks }) :=
  .of_wp fun prog w A R s h => by
    obtain ⟨hp, g, d, tk, os⟩ := s
    obtain ⟨hl, hb, h⟩ := h
    have f1 := AutoSeq1.idx_int
    have f2 := AutoSeq1.sub_tuple_tuple
    have f3 := AutoSeq1.sub_list_list
    have f4 := AutoSeq1.sub_tuple_list
    have f5 := AutoSeq1.sub_list_tuple
    wp_walk using wpAny_loadPart' hl, wpAny_loadPart' hb
    exact ⟨_, rfl, h⟩
theorem int_rmulW (a : Int) (t : Tok) (l : Addr) (items : Array Value) (n : Nat) (sl : Array (Option Value)) :
    Meets (Builtin.«int.__rmul__» ⟨[.int a t, .ref l], []⟩) (fun _ R s => s.heap.get? l = some { cls := .type "list", dict := none, data := .seq items n, slots := sl } ∧ R (.ok (.ret Value.notImplemented)) s) :=
  .of_wp fun prog w A R s h => by obtain ⟨hp, g, d, tk, os⟩ := s; obtain ⟨hl, h⟩ := h; wp_walk using wpAny_loadPart' hl; exact ⟨_, rfl, h⟩
theorem list_mulW (l : Addr) (items : Array Value) (n : Nat) (sl : Array (Option Value)) (x : Int) (u : Tok) (hc0 : ¬(!Builtin.List.listFitsIndex x) = true) (hc1 : ¬items.size * x.toNat > (2 ^ 63 - 1) / 8) (hc2 : ¬Builtin.List.listTooLong (items.size * x.toNat) = true) :
    Meets (Builtin.«list.__mul__» ⟨[.ref l, .int x u], []⟩) (fun _ R s => s.heap.get? l = some { cls := .type "list", dict := none, data := .seq items n, slots := sl } ∧ R (.ok (.ret (Value.ref s.heap.objs.size))) { s with heap := s.heap.push { cls := Value.type "list", data := Data.seq (List.foldl (fun x1 x2 => x1 ++ x2) #[] (List.replicate (if items.isEmpty = true then 0 else x.toNat) items)) }, toks := s.toks }) :=
  .of_wp fun prog w A R s h => by
    obtain ⟨hp, g, d, tk, os⟩ := s; obtain ⟨hl, h⟩ := h
    have hsz := AutoListH.joined_fits hc2
    wp_walk using wpAny_loadPart' hl; refine wpAny_ite_false (decide_eq_false (Nat.not_lt.mpr hsz)) ?_; wp_walk using wpAny_loadPart' hl; exact ⟨_, rfl, h⟩
section
variable {X : Cx}
/-- a new list is frozen -/
theorem inv_lfrz {pins : List (Addr × Obj)} {σ : L2.St} {H : Hp} {s : Shared} {p : Addr} {xs : List V} (I : Inv X pins σ (upd H p (.lst xs)) s) : ∃ o, Inv X pins σ (upd H p (.frz o (.lst xs))) s := by
  obtain ⟨o, I'⟩ := L2.Inv.lock I (d := p) (u := .lst xs) upd_same trivial
  refine ⟨o, ?_⟩
  have e : upd (upd H p (.lst xs)) p (.frz o (.lst xs)) = upd H p (.frz o (.lst xs)) := by
    funext b
    unfold upd
    split <;> rfl
  rwa [e] at I'
def rCatF (K : PySem.W.Frag) : R2 := fun x y H Q => ∃ l b xs zs, x = .ref l ∧ y = .ref b ∧ SqL K H l xs ∧ SqL K H b zs ∧ xs.length + zs.length ≤ sizeLine ∧ ∀ p o, H p = none → Q (.ref p) (upd H p (.frz o (.lst (xs ++ zs))))
theorem op_catF : OpR X (binaryOp .Add) (rCatF X.K) := by
  intro pins s σ H x y v u Q I rx ry h
  obtain ⟨l, b, xs, zs, rfl, rfl, hH, hB, hz, q⟩ := h
  cases rx
  cases ry
  obtain ⟨its, r, ⟨⟨cls, dd, data, sl⟩, n, ho, hc, hdd, hd⟩, z⟩ := I.list hH
  obtain ⟨its2, r2, ⟨⟨cls2, dd2, data2, sl2⟩, n2, ho2, hc2, hdd2, hd2⟩, z2⟩ := I.list hB
  simp only at hc hd hc2 hd2 hdd hdd2
  subst hc hd hc2 hd2 hdd hdd2
  have hl := r.length
  have hl2 := r2.length
  refine concat_meets ⟨_, ho, rfl⟩ ⟨_, ho2, rfl⟩ noFill_list_add seq_list_add F.slot_list_add F.entry_list_add (F.args_list_add_2 _ _) (list_addW l its.toArray n sl b its2.toArray n2 sl2 (by rw [List.size_toArray, List.size_toArray]; omega)) ⟨ho, ho2, ?_⟩
  have ea : its.toArray ++ its2.toArray = (its ++ its2).toArray := by simp
  rw [ea]
  obtain ⟨o, I'⟩ := inv_lfrz (I.lnew (t' := s.toks) (r.append r2) (by rw [List.length_append]; omega))
  exact ⟨.ref _, _, I', rfl, q _ o I.fresh⟩
def rRepF (K : PySem.W.Frag) : R2 := fun x y H Q => ∃ l k xs, x = .ref l ∧ y = .int k ∧ SqL K H l xs ∧ -(2 ^ 63) ≤ k ∧ k < 2 ^ 63 ∧ xs.length * k.toNat ≤ sizeLine ∧
  ∀ p o, H p = none → Q (.ref p) (upd H p (.frz o (.lst (List.replicate k.toNat xs).flatten)))
theorem op_repF : OpR X (binaryOp .Mult) (rRepF X.K) := by
  intro pins s σ H x y v u Q I rx ry h
  obtain ⟨l, k, xs, rfl, rfl, hH, h1, h2, hz, q⟩ := h
  cases rx
  obtain ⟨t, rfl⟩ := ry
  obtain ⟨its, r, ⟨⟨cls, dd, data, sl⟩, n, ho, hc, hdd, hd⟩, z⟩ := I.list hH
  simp only at hc hd hdd
  subst hc hd hdd
  have hl := r.length
  have hlen : its.toArray.size * k.toNat ≤ sizeLine := by rw [List.size_toArray, ← hl]; exact hz
  have hcap : ¬ its.toArray.size * k.toNat > (2 ^ 63 - 1) / 8 := by
    have : (sizeLine : Nat) ≤ (2 ^ 63 - 1) / 8 := by decide
    omega
  have hfit : ¬ (!Builtin.List.listFitsIndex k) = true := by
    rw [fitsIndex_both h1 h2]
    exact Bool.false_ne_true
  have hlong : ¬ Builtin.List.listTooLong (its.toArray.size * k.toNat) = true := by
    rw [notLongL hlen]
    exact Bool.false_ne_true
  have hnew : List.foldl (fun x1 x2 => x1 ++ x2) #[] (List.replicate (if its.toArray.isEmpty = true then 0 else k.toNat) its.toArray) = (List.replicate k.toNat its).flatten.toArray := by
    have f0 : ∀ m : Nat, List.foldl (fun x1 x2 => x1 ++ x2) #[] (List.replicate m its.toArray) = (List.replicate m its).flatten.toArray := fun m => by
      have := foldl_rep its m []
      rw [List.nil_append] at this
      exact this
    rw [f0]
    cases its with
    | nil => simp
    | cons a r' => rw [if_neg (by simp)]
  refine wpAny_binaryOp_repeat_ref (T := "list") (U := "int") (by decide) ⟨_, ho, rfl⟩ (fun s' => typeIs_int s' k t) noFill_list_mul F.fills_int_mul F.slot_int_rmul repeat_list F.slot_int_index.lookup
    (call_meets F.slot_int_rmul (typeIs_int s k t) F.entry_int_rmul (F.args_int_rmul_2 _ _) (int_rmulW k t l its.toArray n sl)
      ⟨ho, rfl, ⟨_, ho, rfl⟩, call_meets F.slot_list_mul ⟨_, ho, rfl⟩ F.entry_list_mul (F.args_list_mul_2 _ _) (list_mulW l its.toArray n sl k t hfit hcap hlong) ⟨ho, ?_⟩⟩)
  rw [hnew]
  obtain ⟨o, I'⟩ := inv_lfrz (I.lnew (t' := s.toks) (r.rep k.toNat) (by rw [PyProof.Rows.lm_len_rep_flat, Nat.mul_comm]; exact hz))
  exact ⟨.ref _, _, I', rfl, q _ o I.fresh⟩
/-- an expression's new list is frozen -/
def frzQ (Q : VK) : VK := fun u H1 => (∃ p us, u = .ref p ∧ H1 p = some (.lst us) ∧ ∀ o, Q u (upd H1 p (.frz o (.lst us)))) ∨ Q u H1
theorem frz_ep {pins : List (Addr × Obj)} {σ : L2.St} {Q : VK} {r : Value} {s' : Shared} (z : EP X pins σ (frzQ Q) r s') : EP X pins σ Q r s' := by
  obtain ⟨v, H', I', rv, z⟩ := z
  rcases z with ⟨p, us, rfl, hp, hq⟩ | z
  · obtain ⟨o, I2⟩ := L2.Inv.lock I' hp trivial
    exact ⟨_, _, I2, rv, hq o⟩
  · exact ⟨v, H', I', rv, z⟩
theorem pe_frz {e : Expr} {t : TE} (h : PE X e t) : PE X e (fun σ H Q => t σ H (frzQ Q)) :=
  ⟨fun pins s σ H Q I q => wpAny_mono (h.run pins s σ H _ I q) (fun r s' z => frz_ep z) fun _ _ z => z⟩
/-- a call's new list is frozen -/
theorem callr_frz {f : Value} {t : List V → Hp → VK → Prop} (h : CallR X f t) : CallR X f (fun xs H Q => t xs H (frzQ Q)) :=
  fun pins s σ H xs us Q I r q => wpAny_mono (h pins s σ H xs us _ I r q) (fun r s' z => frz_ep z) fun _ _ z => z
/-- a statement leaves a list that is frozen then -/
theorem ps_frz {st : Stmt} {t : TS} (h : PS X st t) : PS X st (fun D σ H => t ⟨fun σ' H' => ∃ p us, H' p = some (.lst us) ∧ ∀ o, D.nx σ' (upd H' p (.frz o (.lst us))), D.rt, D.bk, D.ct⟩ σ H) :=
  ⟨fun pins s σ H D I q => wpAny_mono (h.run pins s σ H _ I q) (fun f s' z => by
    cases f with
    | next =>
      obtain ⟨σ', H', I', p, us, hp, hq⟩ := z
      obtain ⟨o, I2⟩ := L2.Inv.lock I' hp trivial
      exact ⟨σ', _, I2, hq o⟩
    | ret v => exact z
    | brk => exact z
    | cont => exact z) fun _ _ z => z⟩
end
end HP

set_option Elab.async false
set_option linter.all false
set_option autoImplicit false
set_option maxRecDepth 100000
set_option maxHeartbeats 4000000
/-! Dicts in the memory: keys, values, a pair that is put. -/
namespace HP
open PySem L2

theorem keyK_inj {a b : PK} (h : keyK a = keyK b) : a = b := by
  cases a <;> cases b <;> simp only [keyK] at h
  · injection h with h; rw [h]
  · cases h
  · cases h
  · injection h with h
    injection h with h
    have := congrArg Array.toList h
    simp only [List.toList_toArray] at this
    rw [this]
section
variable {K : Kx} {ρ : List Addr} {H : Hp}
theorem VR.key {a : PV} {k : PK} {x : V} (h : keyP a = some k) (r : VR K ρ H a x) : x = kV (keyK k) ∧ kOk k = true := by
  cases a <;> simp only [keyP] at h <;> try (cases h; done)
  · cases h
    unfold VR at r
    exact ⟨r, rfl⟩
  · cases h
    unfold VR at r
    obtain ⟨y, rfl, e, hv⟩ := r
    refine ⟨?_, hv⟩
    obtain ⟨c⟩ := y
    simp only at e
    subst e
    simp [keyK, kV]
theorem KVsR.nil {us : List (Key × V)} (h : KVsR K ρ H [] us) : us = [] := by
  obtain ⟨h1, _⟩ := h
  simpa using h1
theorem KVsR.cons {p : PK × PV} {kvs : List (PK × PV)} {us : List (Key × V)} (h : KVsR K ρ H (p :: kvs) us) : ∃ u ur, us = (keyK p.1, u) :: ur ∧ VR K ρ H p.2 u ∧ KVsR K ρ H kvs ur := by
  obtain ⟨h1, h2⟩ := h
  cases us with
  | nil => simp at h1
  | cons q ur =>
    simp only [List.map_cons, List.cons.injEq] at h1 h2
    obtain ⟨u, ur', e, a, b⟩ := h2.inv
    simp only [List.cons.injEq] at e
    obtain ⟨e1, e2⟩ := e
    subst e1 e2
    obtain ⟨q1, q2⟩ := q
    obtain ⟨h3, h4⟩ := h1
    simp only at h3
    subst h3
    exact ⟨q2, ur, rfl, a, h4, b⟩
theorem kvs_cons {p : PK × PV} {u : V} {kvs : List (PK × PV)} {ur : List (Key × V)} (a : VR K ρ H p.2 u) (b : KVsR K ρ H kvs ur) : KVsR K ρ H (p :: kvs) ((keyK p.1, u) :: ur) :=
  ⟨by simp [b.1], vrs_cons a b.2⟩
theorem KVsR.val : ∀ {kvs : List (PK × PV)} {us : List (Key × V)} (k : PK), KVsR K ρ H kvs us → (match valP k kvs with | none => valV us (keyK k) = none | some v => ∃ u, valV us (keyK k) = some u ∧ VR K ρ H v u)
  | [], us, k, r => by rw [r.nil]; rfl
  | p :: kvs, us, k, r => by
    obtain ⟨u, ur, rfl, a, b⟩ := r.cons
    have ih := KVsR.val k b
    unfold valP
    by_cases h : p.1 = k
    · rw [if_pos h]
      exact ⟨u, valV_pos (by rw [h]), a⟩
    · rw [if_neg h, valV_neg (fun z => h (keyK_inj z))]
      exact ih
theorem KVsR.keys {kvs : List (PK × PV)} {us : List (Key × V)} (r : KVsR K ρ H kvs us) : us.map (·.1) = (kvs.map (·.1)).map keyK := by
  rw [r.1, List.map_map]
  rfl
theorem KVsR.length {kvs : List (PK × PV)} {us : List (Key × V)} (r : KVsR K ρ H kvs us) : us.length = kvs.length := by
  have := congrArg List.length r.1
  simpa using this
theorem putK_cons {q : Key × V} {us : List (Key × V)} {k : Key} {u : V} (hn : q.1 = k → k ∉ us.map (·.1)) : putK (q :: us) k u = if q.1 = k then (k, u) :: us else q :: putK us k u := by
  unfold putK
  by_cases h : q.1 = k
  · have hk := hn h
    rw [if_pos h, if_pos (by simp [h])]
    rw [List.map_cons, if_pos h, h]
    congr 1
    have : ∀ kv ∈ us, (if kv.1 = k then (kv.1, u) else kv) = kv := fun kv hkv => by
      rw [if_neg]
      intro z
      rw [← z] at hk
      exact hk (List.mem_map_of_mem hkv)
    rw [List.map_congr_left this]
    simp
  · rw [if_neg h]
    simp only [List.any_cons, List.map_cons, h, decide_false, Bool.false_or, if_false]
    split
    · rfl
    · rfl
theorem KVsR.put : ∀ {kvs : List (PK × PV)} {us : List (Key × V)} {k : PK} {v : PV} {u : V}, KVsR K ρ H kvs us → (kvs.map (·.1)).Nodup → VR K ρ H v u → KVsR K ρ H (putP k v kvs) (putK us (keyK k) u)
  | [], us, k, v, u, r, _, a => by
    rw [r.nil]
    exact kvs_cons (p := (k, v)) a ⟨rfl, vrs_nil⟩
  | p :: kvs, us, k, v, u, r, hn, a => by
    obtain ⟨w, ur, rfl, a1, b⟩ := r.cons
    rw [List.map_cons, List.nodup_cons] at hn
    rw [putK_cons (fun h z => by
      have h' : p.1 = k := keyK_inj h
      rw [b.keys] at z
      obtain ⟨j, hj, e⟩ := List.mem_map.mp z
      have := keyK_inj e
      exact hn.1 (by rw [h', ← this]; exact hj))]
    unfold putP
    by_cases h : p.1 = k
    · rw [if_pos h, if_pos (by rw [h])]
      exact kvs_cons (p := (k, v)) a b
    · rw [if_neg h, if_neg (fun z => h (keyK_inj z))]
      exact kvs_cons a1 (KVsR.put b hn.2 a)
end
theorem putP_keys {k : PK} {v : PV} : ∀ {kvs : List (PK × PV)} {j : PK}, j ∈ (putP k v kvs).map (·.1) → j = k ∨ j ∈ kvs.map (·.1)
  | [], j, h => by simpa [putP] using h
  | p :: kvs, j, h => by
    unfold putP at h
    by_cases e : p.1 = k
    · rw [if_pos e] at h
      simp only [List.map_cons, List.mem_cons] at h ⊢
      rcases h with h | h
      · exact .inl h
      · exact .inr (.inr h)
    · rw [if_neg e] at h
      simp only [List.map_cons, List.mem_cons] at h ⊢
      rcases h with h | h
      · exact .inr (.inl h)
      · rcases putP_keys h with h | h
        · exact .inl h
        · exact .inr (.inr h)
theorem putP_nodup {k : PK} {v : PV} : ∀ {kvs : List (PK × PV)}, (kvs.map (·.1)).Nodup → ((putP k v kvs).map (·.1)).Nodup
  | [], _ => by simp [putP]
  | p :: kvs, h => by
    rw [List.map_cons, List.nodup_cons] at h
    unfold putP
    by_cases e : p.1 = k
    · rw [if_pos e, List.map_cons, List.nodup_cons]
      exact ⟨e ▸ h.1, h.2⟩
    · rw [if_neg e, List.map_cons, List.nodup_cons]
      refine ⟨fun z => ?_, putP_nodup h.2⟩
      rcases putP_keys z with z | z
      · exact e z
      · exact h.1 z
theorem KOk.put {kvs : List (PK × PV)} {k : PK} {v : PV} (ok : KOk kvs) (h : kOk k = true) : KOk (putP k v kvs) := by
  refine ⟨putP_nodup ok.1, fun p hp => ?_⟩
  have : p.1 ∈ (putP k v kvs).map (·.1) := List.mem_map_of_mem hp
  rcases putP_keys this with z | z
  · rw [z]; exact h
  · obtain ⟨q, hq, e⟩ := List.mem_map.mp z
    rw [← e]
    exact ok.2 q hq
theorem MemR.dic {K : Kx} {M : Mem} {ρ : List Addr} {H : Hp} (m : MemR K M ρ H) {n : Nat} {kvs : List (PK × PV)} {a : Addr} (h : M[n]? = some (.dic kvs)) (ha : ρ[n]? = some a) : ∃ us, H a = some (.dK us) ∧ KVsR K ρ H kvs us ∧ KOk kvs :=
  m.cell n _ a h ha
end HP

set_option Elab.async false
set_option linter.all false
set_option maxRecDepth 100000
set_option maxHeartbeats 4000000
/-! tuple(d) of a dict. -/
namespace PySem.W
open PySem PyProof.Rows L2
section
variable {prog : Program} {w : World} {A : Around} {E : Value → Shared → Prop} {s : Shared} {T : String} {r d : Addr} {n : Nat} {P : Nat → Value → Prop} {OK : Heap → Prop}
theorem collect_kdl {Q : List Value → Shared → Prop} (K : KdlSrc prog w T r d n P OK) (hh : A.handled = none) (hok : OK s.heap) (hn : n ≤ sizeLine)
    (hQ : ∀ (h' : Heap) (tk : Nat) (acc : Array Value), (∀ b o, s.heap.get? b = some o → h'.get? b = some o) → ItemsOf P acc n → Q acc.toList { s with heap := h', toks := tk }) :
    wpAny (model prog w) A (collect (.ref r)) Q E s := by
  unfold collect
  refine wpAny_bind (wpAny_runValue (codeAny_builtin F.entry_proto_collect ?_))
  rw [Around.under_plainId F.plain_proto_collect _]
  show wpAny _ A.in1 (newList [] >>= fun l => again (.builtin "list.__iadd__" ⟨[l, .ref r], []⟩)) _ _ s
  refine wpAny_bind (wpAny_newObj_type ?_)
  refine wpAny_pure ⟨plainId_quiet F.plain_list_iadd _, codeAny_builtin F.entry_list_iadd ?_⟩
  rw [Around.under_plainId F.plain_list_iadd _]
  show wpAny _ A.in1 (Builtin.List.listExtendWith (.ref s.heap.objs.size) (.ref r) (.ref s.heap.objs.size)) _ _ _
  have hS : (s.heap.push { cls := .type "list", data := .seq ([] : List Value).toArray }).get? s.heap.objs.size = some { cls := .type "list", data := .seq #[] 0 } := Heap.get?_push_size _ rfl
  have hlt := K.there _ hok
  refine wpAny_mono (kdl_extend (A := A) (R := fun rr s' => rr = .ok (.ret (.ref s.heap.objs.size)) ∧ ∃ (h' : Heap) (tk : Nat) (acc : Array Value) (c' : Nat), s' = { s with heap := h', toks := tk } ∧
      (∀ b o, s.heap.get? b = some o → h'.get? b = some o) ∧ h'.get? s.heap.objs.size = some { cls := .type "list", dict := none, data := .seq acc c', slots := #[] } ∧ ItemsOf P acc n)
    (s := { s with heap := s.heap.push { cls := .type "list", data := .seq ([] : List Value).toArray } }) K hh (K.keep _ _ hok fun b _ o e => Heap.get?_push_of_some _ e) s.heap.objs.size (Nat.ne_of_gt hlt.1) (Nat.ne_of_gt hlt.2) _ 0 hS
    (fun h' tk acc c' hk e hi => ⟨rfl, h', tk, acc, c', rfl, fun b o q => hk b o (Nat.ne_of_lt (Heap.lt_size q)) (Heap.get?_push_of_some _ q), e, hi⟩) hn) (fun fin s' h => ?_) (fun e s' h => ?_)
  · cases fin with
    | done f =>
      obtain ⟨e, h', tk, acc, c', rfl, hk, hS', hi⟩ := h
      cases e
      show wpAny _ A (load s.heap.objs.size >>= _) _ _ _
      exact wpAny_bind (wpAny_load hS' (wpAny_pure (hQ h' tk acc hk hi)))
    | again c' =>
      refine ⟨h.1, codeAny_mono h.2 fun rr s'' hr' => ?_⟩
      obtain ⟨rfl, h', tk, acc, c', rfl, hk, hS', hi⟩ := hr'
      show wpAny _ A (load s.heap.objs.size >>= _) _ _ _
      exact wpAny_bind (wpAny_load hS' (wpAny_pure (hQ h' tk acc hk hi)))
  · exact absurd h.1 (by simp)
theorem code_tuple_new_kdl {Q₁ : Value → Shared → Prop} (K : KdlSrc prog w T r d n P OK) (hh : A.handled = none) (hok : OK s.heap) (hn : n ≤ sizeLine)
    (h : ∀ (h' : Heap) (tk : Nat) (acc : Array Value), (∀ b o, s.heap.get? b = some o → h'.get? b = some o) → ItemsOf P acc n →
      Q₁ (.ref h'.objs.size) { s with heap := h'.push { cls := .type "tuple", data := .seq acc }, toks := tk }) :
    codeAny (model prog w) A (.call (.builtin "tuple.__new__") ⟨[.type "tuple", .ref r], []⟩) (wants Q₁ E) s := by
  refine codeAny_of_tree ?_
  show wpAny _ A.in1 (do checkBuiltinCall "tuple.__new__" ⟨[.type "tuple", .ref r], []⟩; again (.builtin "tuple.__new__" ⟨[.type "tuple", .ref r], []⟩)) _ _ s
  refine wpAny_bind (wpAny_of_eq (F.newCall_tuple_1 _) (wpAny_pure ⟨plainId_quiet F.plain_tuple_new _, codeAny_builtin F.entry_tuple_new ?_⟩))
  rw [Around.under_plainId F.plain_tuple_new _]
  have hsub := sub_tuple_self
  have hinit := init_tuple_lookup
  have hmh := madeHere_tuple
  have hTI : s.TypeIs (.ref r) T := K.type _ hok
  have hh1 : A.in1.handled = none := hh
  have nT := K.notTuple
  have nL := K.notList
  wp_walk using wpAny_typeOf hTI, collect_kdl (A := A.in1) K hh1 hok hn
  intro h' tk acc hk hacc
  show wpAny _ _ (Builtin.Tuple.tupleExact acc.toList.toArray >>= fun v => ret v) _ _ _
  unfold Builtin.Tuple.tupleExact
  refine wpAny_bind (wpAny_newObj_type ?_ (by show acc.toList.toArray.size ≤ sizeLine; simp only [Array.toArray_toList]; rw [hacc.1]; exact hn))
  refine wpAny_pure ?_
  have e : acc.toList.toArray = acc := by simp
  rw [e]
  exact h h' tk acc hk hacc
theorem call_tuple_kdl {Q : Value → Shared → Prop} (K : KdlSrc prog w T r d n P OK) (hh : A.handled = none) (hok : OK s.heap) (hn : n ≤ sizeLine)
    (hQ : ∀ (h' : Heap) (tk : Nat) (acc : Array Value), (∀ b o, s.heap.get? b = some o → h'.get? b = some o) → ItemsOf P acc n →
      Q (.ref h'.objs.size) { s with heap := h'.push { cls := .type "tuple", data := .seq acc }, toks := tk }) :
    wpAny (model prog w) A (call (.type "tuple") [.ref r]) Q E s := by
  refine callType_codes (Q₁ := fun obj s₁ => s₁.TypeIs obj "tuple" ∧ Q obj s₁) F.called_tuple (F.typeCall_tuple_1 _) F.entry_object_init
    (code_tuple_new_kdl (A := A.in1) K hh hok hn fun h' tk acc hk hacc => ⟨⟨_, Heap.get?_push_size _ rfl, rfl⟩, hQ h' tk acc hk hacc⟩) fun obj s₁ h₁ => ?_
  exact ⟨h₁.1, F.args_object_init_2 obj _, object_init_meets F.called_tuple.init.lookup F.called_tuple.made (by decide) prog w A.in1 _ s₁ ⟨h₁.1, rfl, h₁.2⟩⟩
end
end PySem.W
namespace HP
open PySem PySem.Spec PyProof.Rows L2
/-- tuple(d): its keys -/
theorem call_tupleD {X : Cx} (hcalm : X.calm = true) : CallR X (.type "tuple") (fun xs H Q => ∃ (a : Addr) (kvs : List (Key × V)), xs = [.ref a] ∧ Rd H a (.dK kvs) ∧ ∀ p, H p = none → Q (.ref p) (upd H p (.tup (kvs.map fun kv => kV kv.1)))) := by
  intro pins s σ H xs us Q I r q
  obtain ⟨a, kvs, ex, hd, q⟩ := q
  subst ex
  obtain ⟨u, eu, rx⟩ := vals1 r
  subst eu
  cases rx
  obtain ⟨z, lo, vs, rel, dd⟩ := dk_rd I.hok hd
  obtain ⟨ep, hat⟩ := dd.dictAt
  have ek : (kvs.map fun kv => kV kv.1) = vs.map fun p => kV p.1 := by
    have e := congrArg (List.map kV) rel.keys
    rw [List.map_map, List.map_map] at e
    exact e
  refine PySem.W.call_tuple_kdl (PySem.W.kdl_dict (knd := mixKind X.prog X.w) (kvs := vs) (ep := ep) lo) (I.ok.hd hcalm) hat (by rw [← rel.length]; exact z) fun h' tk acc hk hacc => ?_
  have hv : Vals (vs.map fun p => kV p.1) acc.toList := keys_at (by rw [Array.length_toList]; exact hacc.1) fun j v e => hacc.2 j v (by rw [← Array.getElem?_toList]; exact e)
  have I1 : Inv X pins σ H { s with heap := h', toks := tk } := I.kept (t' := tk) hk
  refine ⟨.ref h'.objs.size, upd H h'.objs.size (.tup (kvs.map fun kv => kV kv.1)), I1.laid (t' := tk) (fun b o e => Heap.get?_push_of_some _ e) (Nat.le_refl _)
    (show ObjOk X.prog X.w _ _ _ (.tup (kvs.map fun kv => kV kv.1)) from ⟨by rw [List.length_map]; exact z, acc.toList, by rw [ek]; exact hv, ?_⟩), rfl, q _ (I1.hok.fresh (Nat.le_refl _))⟩
  have e : acc = acc.toList.toArray := by simp
  rw [e]
  exact IsTup.new _ _
end HP

set_option Elab.async false
set_option linter.all false
set_option autoImplicit false
set_option maxRecDepth 100000
set_option maxHeartbeats 4000000
/-! The operations on values: what the layer's rules say of them. -/
namespace HP
open PySem L2

theorem lim_le : lim ≤ sizeLine := by decide
theorem lim_lt {n : Nat} (h : n < lim) : n < sizeLine := Nat.lt_of_lt_of_le h lim_le
theorem str_len {x : Str} {s : List Nat} (h : x.cps.toList = s) : x.length = s.length := by
  subst h
  show x.cps.size = _
  simp
theorem str_eq {x y : Str} (h : x.cps.toList = y.cps.toList) : x = y := by
  obtain ⟨a⟩ := x
  obtain ⟨b⟩ := y
  simp at h
  rw [h]

theorem ext_fw {ρ : List Addr} {H H' : Hp} (e : Ext H H') : Fw ρ ρ H H' := ⟨⟨[], by simp⟩, fun b o h _ => e b o h, fun b h => .inl h⟩
theorem MemR.ext {K : Kx} {M : Mem} {ρ : List Addr} {H H' : Hp} (m : MemR K M ρ H) (e : Ext H H') : MemR K M ρ H' :=
  ⟨m.len, m.nd, fun n c a h1 h2 => by
    have q := m.cell n c a h1 h2
    have hm := q.mut
    cases h : H a with
    | none => rw [h] at hm; exact hm.elim
    | some o =>
      rw [e a o h, ← h]
      exact q.mono m.own (ext_fw e)⟩
section
variable {K : Kx} {M : Mem} {ρ : List Addr} {H : Hp}
/-! ### two-place operations -/
/-- the reading of an operation by its outcome (which is no exception) -/
def Pv (K : Kx) (ρ : List Addr) (H : Hp) (r : Res PV) (Q : VK) : Prop :=
  match r with
  | .ok v M' => ∀ ρ' H', Fw ρ ρ' H H' → MemR K M' ρ' H' → ∀ u, VR K ρ' H' v u → Q u H'
  | _ => False
def rG (K : Kx) (o : O2) : R2 := fun x y H Q => ∃ M ρ a b, MemR K M ρ H ∧ VR K ρ H a x ∧ VR K ρ H b y ∧ Pv K ρ H (op2 o a b M) Q
theorem Pv.val {v : PV} {u : V} {Q : VK} (h : Pv K ρ H (.ok v M) Q) (m : MemR K M ρ H) (r : VR K ρ H v u) : Q u H := h ρ H Fw.refl m u r
theorem vr_int {i : Int} : VR K ρ H (.int i) (.int i) := by unfold VR; rfl
theorem vr_bl {b : Bool} : VR K ρ H (.bl b) (.bl b) := by unfold VR; rfl
theorem vr_non : VR K ρ H .non .non := by unfold VR; rfl
theorem vr_str {s : List Nat} {x : Str} (h : x.cps.toList = s) (hv : vstr s = true) : VR K ρ H (.str s) (.str x) := by unfold VR; exact ⟨x, rfl, h, hv⟩
theorem VR.vs {s : List Nat} {u : V} (h : VR K ρ H (.str s) u) : vstr s = true := by unfold VR at h; obtain ⟨_, _, _, q⟩ := h; exact q
theorem vstr_app {s t : List Nat} (h : vstr s = true) (k : vstr t = true) : vstr (s ++ t) = true := by
  unfold vstr at *
  rw [List.all_append, h, k]
  rfl
theorem vstr_mem {s : List Nat} {c j : Nat} (h : vstr s = true) (k : s[j]? = some c) : vstr [c] = true := by
  unfold vstr at *
  rw [List.all_eq_true] at h
  simpa using h c (List.mem_of_getElem? k)
theorem vr_tup {vs : List PV} {us : List V} {a : Addr} (t : TR K H a us) (r : VRs K ρ H vs us) : VR K ρ H (.tup vs) (.ref a) := by unfold VR; exact ⟨a, us, rfl, t, r⟩
theorem vr_rol {vs : List PV} {us : List V} {a : Addr} (t : LR K H a us) (r : VRs K ρ H vs us) : VR K ρ H (.rol vs) (.ref a) := by unfold VR; exact ⟨a, us, rfl, t, r⟩
theorem vr_ref {n : Nat} {a : Addr} (h : ρ[n]? = some a) : VR K ρ H (.ref n) (.ref a) := by unfold VR; exact ⟨a, rfl, h⟩
theorem VR.int_ {i : Int} {u : V} (h : VR K ρ H (.int i) u) : u = .int i := by unfold VR at h; exact h
theorem VR.bl_ {i : Bool} {u : V} (h : VR K ρ H (.bl i) u) : u = .bl i := by unfold VR at h; exact h
theorem VR.non_ {u : V} (h : VR K ρ H .non u) : u = .non := by unfold VR at h; exact h
theorem VR.str_ {s : List Nat} {u : V} (h : VR K ρ H (.str s) u) : ∃ x : Str, u = .str x ∧ x.cps.toList = s := by unfold VR at h; obtain ⟨x, e, q, _⟩ := h; exact ⟨x, e, q⟩
theorem VR.tup_ {vs : List PV} {u : V} (h : VR K ρ H (.tup vs) u) : ∃ a us, u = .ref a ∧ TR K H a us ∧ VRs K ρ H vs us := by unfold VR at h; exact h
theorem VR.rol_ {vs : List PV} {u : V} (h : VR K ρ H (.rol vs) u) : ∃ a us, u = .ref a ∧ LR K H a us ∧ VRs K ρ H vs us := by unfold VR at h; exact h
theorem VR.rod_ {ks vs : List PV} {u : V} (h : VR K ρ H (.rod ks vs) u) : ∃ a us, u = .ref a ∧ RodK K a ks us ∧ VRs K ρ H vs us := by unfold VR at h; exact h
theorem VR.ref_ {n : Nat} {u : V} (h : VR K ρ H (.ref n) u) : ∃ a, u = .ref a ∧ ρ[n]? = some a := by unfold VR at h; exact h
/-- a new tuple as an outcome -/
theorem Pv.tup {vs : List PV} {us : List V} {Q : VK} (h : Pv K ρ H (.ok (.tup vs) M) Q) (m : MemR K M ρ H) (r : VRs K ρ H vs us) {p : Addr} (hp : H p = none) : Q (.ref p) (upd H p (.tup us)) :=
  h ρ _ (Fw.side hp) (m.side hp) _ (vr_tup (.inl upd_same) (r.mono m.own (Fw.side hp)))
/-- a new list as an outcome -/
theorem Pv.lst {vs : List PV} {us : List V} {Q : VK} (h : Pv K ρ H (.ok (.ref M.length) (M ++ [.lst vs])) Q) (m : MemR K M ρ H) (r : VRs K ρ H vs us) {p : Addr} (hp : H p = none) : Q (.ref p) (upd H p (.lst us)) :=
  h (ρ ++ [p]) _ (Fw.push hp) (m.push hp r) _ (vr_ref (by rw [← m.len]; simp))
end

section
variable {K : Kx} {M : Mem} {ρ : List Addr} {H : Hp}
/-- a new list that never changes as an outcome -/
theorem Pv.rol {vs : List PV} {us : List V} {Q : VK} (h : Pv K ρ H (.ok (.rol vs) M) Q) (m : MemR K M ρ H) (r : VRs K ρ H vs us) {p : Addr} {o : Obj} (hp : H p = none) : Q (.ref p) (upd H p (.frz o (.lst us))) :=
  h ρ _ (Fw.side hp) (m.side hp) _ (vr_rol (.inl ⟨o, upd_same⟩) (r.mono m.own (Fw.side hp)))
end

theorem VRs.rep {K : Kx} {ρ : List Addr} {H : Hp} {vs : List PV} {us : List V} (h : VRs K ρ H vs us) : ∀ n : Nat, VRs K ρ H (List.replicate n vs).flatten (List.replicate n us).flatten
  | 0 => by simpa using vrs_nil
  | n + 1 => by
    rw [List.replicate_succ, List.replicate_succ, List.flatten_cons, List.flatten_cons]
    exact h.append (VRs.rep h n)
theorem TR.nil {K : Kx} {ρ : List Addr} {H : Hp} {vs : List PV} {us : List V} (r : VRs K ρ H vs us) : us = [] ↔ vs = [] := by
  rw [← List.length_eq_zero_iff, ← List.length_eq_zero_iff, r.length]

section
variable {X : Cx} {Z : Zx}
theorem or_add : OpR X (binaryOp .Add) (rG (kx X Z) .add) := by
  intro pins s σ H x y v u Q I rx ry h
  obtain ⟨M, ρ, a, b, m, ra, rb, h⟩ := h
  unfold op2 at h
  cases a <;> try exact h.elim
  case int i =>
    cases b <;> try exact h.elim
    case int j =>
      cases ra.int_
      cases rb.int_
      exact op_add pins s σ H _ _ _ _ Q I rx ry ⟨i, j, rfl, rfl, h.val m vr_int⟩
  case str s =>
    cases b <;> try exact h.elim
    case str t =>
      have vv := vstr_app ra.vs rb.vs
      obtain ⟨x1, rfl, e1⟩ := ra.str_
      obtain ⟨x2, rfl, e2⟩ := rb.str_
      simp only at h
      split at h
      · rename_i hl
        refine op_add_str pins _ σ H _ _ _ _ Q I rx ry ⟨x1, x2, rfl, rfl, ?_, h.val m (vr_str ?_ vv)⟩
        · rw [str_len e1, str_len e2]
          exact Nat.le_trans hl lim_le
        · show (x1.cps ++ x2.cps).toList = _
          rw [Array.toList_append, e1, e2]
      · exact h.elim
  case tup xs =>
    cases b <;> try exact h.elim
    case tup ys =>
      obtain ⟨p, us, rfl, t1, r1⟩ := ra.tup_
      obtain ⟨q, ws, rfl, t2, r2⟩ := rb.tup_
      simp only at h
      split at h
      · rename_i hl
        refine op_catA pins s σ H _ _ _ _ Q I rx ry ⟨p, q, us, ws, rfl, rfl, t1.sq, t2.sq, ?_, fun hx => ?_, fun hx hy => ?_, fun hx hy z hz => h.tup m (r1.append r2) hz⟩
        · rw [r1.length, r2.length]
          exact Nat.le_trans hl lim_le
        · rw [(TR.nil r1).mp hx] at h
          exact h.val m (vr_tup t2 r2)
        · rw [(TR.nil r2).mp hy, List.append_nil] at h
          exact h.val m (vr_tup t1 r1)
      · exact h.elim
  case ref n =>
    cases b <;> try exact h.elim
    case ref k =>
      obtain ⟨p, rfl, e1⟩ := ra.ref_
      obtain ⟨q, rfl, e2⟩ := rb.ref_
      simp only at h
      split at h
      · rename_i xs hx
        split at h
        · rename_i ys hy
          split at h
          · rename_i hl
            obtain ⟨us, hu, r1⟩ := m.lst hx e1
            obtain ⟨ws, hw, r2⟩ := m.lst hy e2
            refine op_cat pins s σ H _ _ _ _ Q I rx ry ⟨p, q, us, ws, rfl, rfl, hu, hw, ?_, fun z hz => h.lst m (r1.append r2) hz⟩
            rw [r1.length, r2.length]
            exact Nat.le_trans hl lim_le
          · exact h.elim
        · exact h.elim
      · exact h.elim
    case rol ys =>
      obtain ⟨p, rfl, e1⟩ := ra.ref_
      obtain ⟨q, ws, rfl, t2, r2⟩ := rb.rol_
      simp only at h
      split at h
      · rename_i xs hx
        split at h
        · rename_i hl
          obtain ⟨us, hu, r1⟩ := m.lst hx e1
          exact op_catF pins s σ H _ _ _ _ Q I rx ry ⟨p, q, us, ws, rfl, rfl, SqL.of hu, t2.sq, by rw [r1.length, r2.length]; exact Nat.le_trans hl lim_le, fun z o hz => h.rol m (r1.append r2) hz⟩
        · exact h.elim
      · exact h.elim
  case rol xs =>
    obtain ⟨p, us, rfl, t1, r1⟩ := ra.rol_
    cases b <;> try exact h.elim
    case ref k =>
      obtain ⟨q, rfl, e2⟩ := rb.ref_
      simp only at h
      split at h
      · rename_i ys hy
        split at h
        · rename_i hl
          obtain ⟨ws, hw, r2⟩ := m.lst hy e2
          exact op_catF pins s σ H _ _ _ _ Q I rx ry ⟨p, q, us, ws, rfl, rfl, t1.sq, SqL.of hw, by rw [r1.length, r2.length]; exact Nat.le_trans hl lim_le, fun z o hz => h.rol m (r1.append r2) hz⟩
        · exact h.elim
      · exact h.elim
    case rol ys =>
      obtain ⟨q, ws, rfl, t2, r2⟩ := rb.rol_
      simp only at h
      split at h
      · rename_i hl
        exact op_catF pins s σ H _ _ _ _ Q I rx ry ⟨p, q, us, ws, rfl, rfl, t1.sq, t2.sq, by rw [r1.length, r2.length]; exact Nat.le_trans hl lim_le, fun z o hz => h.rol m (r1.append r2) hz⟩
      · exact h.elim
theorem or_sub : OpR X (binaryOp .Sub) (rG (kx X Z) .sub) := by
  intro pins s σ H x y v u Q I rx ry h
  obtain ⟨M, ρ, a, b, m, ra, rb, h⟩ := h
  unfold op2 at h
  cases a <;> try exact h.elim
  cases b <;> try exact h.elim
  cases ra.int_
  cases rb.int_
  exact op_sub pins s σ H _ _ _ _ Q I rx ry ⟨_, _, rfl, rfl, h.val m vr_int⟩
theorem small_iff {i : Int} (h : small i = true) : -(2 ^ 64) < i ∧ i < 2 ^ 64 := by
  unfold small at h
  simpa using h
theorem foldl_cat (b : Array Nat) : ∀ (n : Nat) (a : Array Nat), ((List.replicate n b).foldl (· ++ ·) a).toList = a.toList ++ (List.replicate n b.toList).flatten
  | 0, a => by simp
  | n + 1, a => by
    rw [List.replicate_succ, List.foldl_cons, foldl_cat b n, List.replicate_succ, List.flatten_cons, Array.toList_append, List.append_assoc]
theorem vstr_rep {s : List Nat} (h : vstr s = true) : ∀ n, vstr (List.replicate n s).flatten = true
  | 0 => rfl
  | n + 1 => by
    rw [List.replicate_succ, List.flatten_cons]
    exact vstr_app h (vstr_rep h n)
theorem mul_ok {z : Str} {j : Int} (h1 : 2 ≤ j) (h2 : j ≤ 1000) (h3 : z.length ≤ 1000) : MulOk z j := by
  refine ⟨?_, fun _ _ => ?_, fun _ _ => ?_⟩
  · rw [Bool.or_eq_false_iff]
    exact ⟨decide_eq_false (by omega), decide_eq_false (by omega)⟩
  · have h : (1000 : Int) ≤ (2 ^ 63 - 1) / j := Int.le_ediv_of_mul_le (by omega) (by omega)
    omega
  · have h4 : z.length * j.toNat ≤ 1000 * 1000 := Nat.mul_le_mul h3 (by omega)
    have h5 : (1000 * 1000 : Nat) ≤ sizeLine := by decide
    unfold Builtin.Str.tooLong
    exact decide_eq_false (by omega)
theorem or_mul : OpR X (binaryOp .Mult) (rG (kx X Z) .mul) := by
  intro pins s σ H x y v u Q I rx ry h
  obtain ⟨M, ρ, a, b, m, ra, rb, h⟩ := h
  unfold op2 at h
  cases a <;> try exact h.elim
  case int i =>
    cases b <;> try exact h.elim
    cases ra.int_
    cases rb.int_
    simp only at h
    split at h
    · rename_i hs
      refine op_mul pins s σ H _ _ _ _ Q I rx ry ⟨_, _, rfl, rfl, ?_, h.val m vr_int⟩
      rw [Bool.or_eq_true] at hs
      rcases hs with hs | hs
      · exact .inl (small_iff hs)
      · exact .inr (small_iff hs)
    · exact h.elim
  case str xs =>
    cases b <;> try exact h.elim
    cases rb.int_
    simp only at h
    split at h
    · rename_i hs
      have hv := ra.vs
      obtain ⟨z, rfl, hz⟩ := ra.str_
      obtain ⟨t, rfl⟩ := rx
      obtain ⟨t', rfl⟩ := ry
      have hl := str_len hz
      refine SB.mul (mul_ok hs.2.1 hs.2.2.1 (by rw [hl]; exact hs.2.2.2)) fun t1 k => ⟨.str (Txt.mul z _), H, I.tok k, ⟨_, rfl⟩, h.val m (vr_str ?_ (vstr_rep hv _))⟩
      unfold Txt.mul
      have h0 : xs.length ≠ 0 := fun e => hs.1 (List.length_eq_zero_iff.mp e)
      rw [if_neg (by omega), if_neg (fun e => by
        rw [Bool.or_eq_true] at e
        rcases e with e | e
        · have := eq_of_beq e
          omega
        · have := eq_of_beq e
          omega)]
      rw [foldl_cat, hz]
      rfl
    · exact h.elim
  case tup xs =>
    cases b <;> try exact h.elim
    cases rb.int_
    simp only at h
    split at h
    · rename_i hs
      obtain ⟨p, us, rfl, t, rr⟩ := ra.tup_
      exact op_repT pins s σ H _ _ _ _ Q I rx ry ⟨p, _, us, rfl, rfl, t.sq, fun z => hs.1 ((TR.nil rr).mp z), hs.2.1, hs.2.2.1, by rw [rr.length]; exact hs.2.2.2, fun z hz => h.tup m (rr.rep _) hz⟩
    · exact h.elim
  case ref n =>
    cases b <;> try exact h.elim
    cases rb.int_
    obtain ⟨p, rfl, e1⟩ := ra.ref_
    simp only at h
    split at h
    · rename_i xs hx
      obtain ⟨us, hu, rr⟩ := m.lst hx e1
      split at h
      · rename_i hs
        exact op_rep pins s σ H _ _ _ _ Q I rx ry ⟨p, _, us, rfl, rfl, hu, hs.1, hs.2.1, by rw [rr.length]; exact Nat.le_trans hs.2.2 lim_le, fun z hz => h.lst m (rr.rep _) hz⟩
      · exact h.elim
    · exact h.elim
  case rol xs =>
    cases b <;> try exact h.elim
    cases rb.int_
    obtain ⟨p, us, rfl, t1, rr⟩ := ra.rol_
    simp only at h
    split at h
    · rename_i hs
      exact op_repF pins s σ H _ _ _ _ Q I rx ry ⟨p, _, us, rfl, rfl, t1.sq, hs.1, hs.2.1, by rw [rr.length]; exact Nat.le_trans hs.2.2 lim_le, fun z o hz => h.rol m (rr.rep _) hz⟩
    · exact h.elim
theorem or_fdiv : OpR X (binaryOp .FloorDiv) (rG (kx X Z) .fdiv) := by
  intro pins s σ H x y v u Q I rx ry h
  obtain ⟨M, ρ, a, b, m, ra, rb, h⟩ := h
  unfold op2 at h
  cases a <;> try exact h.elim
  cases b <;> try exact h.elim
  cases ra.int_
  cases rb.int_
  simp only at h
  split at h
  · rename_i hs
    exact op_fdivW pins s σ H _ _ _ _ Q I rx ry ⟨_, _, rfl, rfl, wide_div hs.1 (b := 64) (by omega) (by decide) (by decide), h.val m vr_int⟩
  · exact h.elim
theorem or_mod : OpR X (binaryOp .Mod) (rG (kx X Z) .mod) := by
  intro pins s σ H x y v u Q I rx ry h
  obtain ⟨M, ρ, a, b, m, ra, rb, h⟩ := h
  unfold op2 at h
  cases a <;> try exact h.elim
  cases b <;> try exact h.elim
  cases ra.int_
  cases rb.int_
  simp only at h
  split at h
  · rename_i hs
    exact op_mod pins s σ H _ _ _ _ Q I rx ry ⟨_, _, rfl, rfl, hs, h.val m vr_int⟩
  · exact h.elim
theorem or_pow : OpR X (binaryOp .Pow) (rG (kx X Z) .pow) := by
  intro pins s σ H x y v u Q I rx ry h
  obtain ⟨M, ρ, a, b, m, ra, rb, h⟩ := h
  unfold op2 at h
  cases a <;> try exact h.elim
  cases b <;> try exact h.elim
  cases ra.int_
  cases rb.int_
  simp only at h
  split at h
  · rename_i hs
    exact op_pow pins s σ H _ _ _ _ Q I rx ry ⟨_, _, rfl, rfl, hs, h.val m vr_int⟩
  · exact h.elim
theorem eqS_toD {a b : PV} {r : Bool} {M : Mem} {k : Nat} (h : eqS a b = some r) : ∃ d e, toD M (k + 1) a = some d ∧ toD M (k + 1) b = some e ∧ eqD d e = r := by
  cases a <;> first | (cases h; done) | (cases b <;> first | (cases h; done) | (cases h; exact ⟨_, _, rfl, rfl, rfl⟩))
theorem eqPV_toD {a b : PV} {r : Bool} {M : Mem} (h : eqPV M a b = some r) : ∃ d e, toD M 90 a = some d ∧ toD M 90 b = some e ∧ eqD d e = r := by
  unfold eqPV at h
  split at h
  · rename_i r' hr
    cases h
    exact eqS_toD hr
  · split at h
    · rename_i d hd
      split at h
      · rename_i e he
        cases h
        exact ⟨d, e, hd, he, rfl⟩
      · cases h
    · cases h
theorem or_eq (E : EqF X Z) (hr : Room 181 X.A) : OpR X (compareOp .Eq) (rG (kx X Z) .eq) := by
  intro pins s σ H x y v u Q I rx ry h
  obtain ⟨M, ρ, a, b, m, ra, rb, h⟩ := h
  unfold op2 at h
  simp only at h
  split at h
  · rename_i r hr'
    obtain ⟨d, e, h1, h2, rfl⟩ := eqPV_toD hr'
    have q := E.e X.A pins s σ H x y v u d e ⟨hr.mono (by decide), rfl⟩ I rx ry (toD_DR E.inj m 90 a x d ra h1) (toD_DR E.inj m 90 b y e rb h2)
    refine wpAny_mono q (fun r s' z => ?_) fun _ _ z => z
    obtain ⟨rfl, H', I', e'⟩ := z
    exact ⟨.bl _, H', I', rfl, h ρ H' (ext_fw e') (m.ext e') _ vr_bl⟩
  · exact h.elim
theorem or_ne (E : EqF X Z) (hr : Room 181 X.A) : OpR X (compareOp .NotEq) (rG (kx X Z) .ne) := by
  intro pins s σ H x y v u Q I rx ry h
  obtain ⟨M, ρ, a, b, m, ra, rb, h⟩ := h
  unfold op2 at h
  simp only at h
  split at h
  · rename_i r hr'
    obtain ⟨d, e, h1, h2, rfl⟩ := eqPV_toD hr'
    have q := E.n X.A pins s σ H x y v u d e ⟨hr.mono (by decide), rfl⟩ I rx ry (toD_DR E.inj m 90 a x d ra h1) (toD_DR E.inj m 90 b y e rb h2)
    refine wpAny_mono q (fun r s' z => ?_) fun _ _ z => z
    obtain ⟨rfl, H', I', e'⟩ := z
    exact ⟨.bl _, H', I', rfl, h ρ H' (ext_fw e') (m.ext e') _ vr_bl⟩
  · exact h.elim
theorem ltL_iff : ∀ a b : List Nat, ltL a b = decide (a < b)
  | [], [] => by simp [ltL]
  | [], y :: ys => by simp [ltL]
  | x :: xs, [] => by simp [ltL]
  | x :: xs, y :: ys => by
    unfold ltL
    simp only
    rw [ltL_iff xs ys, Bool.eq_iff_iff]
    rw [decide_eq_true_eq, List.cons_lt_cons_iff]
    split
    · rename_i h
      simp [h]
    · rename_i h
      split
      · rename_i h2
        simp at h2
        subst h2
        simp
      · rename_i h2
        simp at h2
        simp [h, h2]
theorem or_lt : OpR X (compareOp .Lt) (rG (kx X Z) .lt) := by
  intro pins s σ H x y v u Q I rx ry h
  obtain ⟨M, ρ, a, b, m, ra, rb, h⟩ := h
  unfold op2 at h
  cases a <;> try exact h.elim
  case int i =>
    cases b <;> try exact h.elim
    cases ra.int_
    cases rb.int_
    exact op_lt pins s σ H _ _ _ _ Q I rx ry ⟨_, _, rfl, rfl, h.val m vr_bl⟩
  case str a =>
    cases b <;> try exact h.elim
    obtain ⟨x1, rfl, e1⟩ := ra.str_
    obtain ⟨x2, rfl, e2⟩ := rb.str_
    subst e1 e2
    simp only [ltL_iff] at h
    exact op_lt_str pins s σ H _ _ _ _ Q I rx ry ⟨_, _, rfl, rfl, h.val m vr_bl⟩
theorem or_le : OpR X (compareOp .LtE) (rG (kx X Z) .le) := by
  intro pins s σ H x y v u Q I rx ry h
  obtain ⟨M, ρ, a, b, m, ra, rb, h⟩ := h
  unfold op2 at h
  cases a <;> try exact h.elim
  case int i =>
    cases b <;> try exact h.elim
    cases ra.int_
    cases rb.int_
    exact op_le pins s σ H _ _ _ _ Q I rx ry ⟨_, _, rfl, rfl, h.val m vr_bl⟩
  case str a =>
    cases b <;> try exact h.elim
    obtain ⟨x1, rfl, e1⟩ := ra.str_
    obtain ⟨x2, rfl, e2⟩ := rb.str_
    subst e1 e2
    simp only [ltL_iff] at h
    exact op_le_str pins s σ H _ _ _ _ Q I rx ry ⟨_, _, rfl, rfl, h.val m vr_bl⟩
theorem or_gt : OpR X (compareOp .Gt) (rG (kx X Z) .gt) := by
  intro pins s σ H x y v u Q I rx ry h
  obtain ⟨M, ρ, a, b, m, ra, rb, h⟩ := h
  unfold op2 at h
  cases a <;> try exact h.elim
  case int i =>
    cases b <;> try exact h.elim
    cases ra.int_
    cases rb.int_
    exact op_gt pins s σ H _ _ _ _ Q I rx ry ⟨_, _, rfl, rfl, h.val m vr_bl⟩
  case str a =>
    cases b <;> try exact h.elim
    obtain ⟨x1, rfl, e1⟩ := ra.str_
    obtain ⟨x2, rfl, e2⟩ := rb.str_
    subst e1 e2
    simp only [ltL_iff] at h
    exact op_gt_str pins s σ H _ _ _ _ Q I rx ry ⟨_, _, rfl, rfl, h.val m vr_bl⟩
theorem or_ge : OpR X (compareOp .GtE) (rG (kx X Z) .ge) := by
  intro pins s σ H x y v u Q I rx ry h
  obtain ⟨M, ρ, a, b, m, ra, rb, h⟩ := h
  unfold op2 at h
  cases a <;> try exact h.elim
  case int i =>
    cases b <;> try exact h.elim
    cases ra.int_
    cases rb.int_
    exact op_ge pins s σ H _ _ _ _ Q I rx ry ⟨_, _, rfl, rfl, h.val m vr_bl⟩
  case str a =>
    cases b <;> try exact h.elim
    obtain ⟨x1, rfl, e1⟩ := ra.str_
    obtain ⟨x2, rfl, e2⟩ := rb.str_
    subst e1 e2
    simp only [ltL_iff] at h
    exact op_ge_str pins s σ H _ _ _ _ Q I rx ry ⟨_, _, rfl, rfl, h.val m vr_bl⟩
theorem or_is : OpR X (compareOp .Is) (rG (kx X Z) .is) := by
  intro pins s σ H x y v u Q I rx ry h
  obtain ⟨M, ρ, a, b, m, ra, rb, h⟩ := h
  unfold op2 at h
  cases b <;> try exact h.elim
  case non =>
    cases rb.non_
    refine op_isN pins s σ H _ _ _ _ Q I rx ry ⟨rfl, ?_⟩
    cases a
    case non =>
      cases ra.non_
      simpa using h.val m vr_bl
    case bl => cases ra.bl_; simpa using h.val m vr_bl
    case int => cases ra.int_; simpa using h.val m vr_bl
    case str => obtain ⟨_, rfl, _⟩ := ra.str_; simpa using h.val m vr_bl
    case tup => obtain ⟨_, _, rfl, _⟩ := ra.tup_; simpa using h.val m vr_bl
    case rol => obtain ⟨_, _, rfl, _⟩ := ra.rol_; simpa using h.val m vr_bl
    case ref => obtain ⟨_, rfl, _⟩ := ra.ref_; simpa using h.val m vr_bl
    case obj => unfold VR at ra; obtain ⟨_, _, rfl, _⟩ := ra; simpa using h.val m vr_bl
    case rod => unfold VR at ra; obtain ⟨_, _, rfl, _⟩ := ra; simpa using h.val m vr_bl
    case ty T =>
      unfold VR at ra
      cases T <;> first | (cases ra; simpa using h.val m vr_bl) | (obtain ⟨rfl, _⟩ := ra; simpa using h.val m vr_bl)
  case bl k =>
    cases rb.bl_
    cases (show u = Value.bool k from ry)
    cases a
    case bl j =>
      cases ra.bl_
      exact op_isBl pins s σ H (.bl j) (.bl k) _ _ Q I rx (show RelV (.bl k) (.bool k) from rfl) ⟨j, k, rfl, rfl, h.val m vr_bl⟩
    case non =>
      cases ra.non_
      cases (show v = Value.none from rx)
      exact wpAny_is_other rfl (fun z => nomatch z) ⟨.bl false, H, I, rfl, h.val m vr_bl⟩
    case int => cases ra.int_; obtain ⟨t, rfl⟩ := rx; exact wpAny_is_other rfl (fun z => nomatch z) ⟨.bl false, H, I, rfl, h.val m vr_bl⟩
    case str => obtain ⟨_, rfl, _⟩ := ra.str_; obtain ⟨t, rfl⟩ := rx; exact wpAny_is_other rfl (fun z => nomatch z) ⟨.bl false, H, I, rfl, h.val m vr_bl⟩
    case tup => obtain ⟨_, _, rfl, _⟩ := ra.tup_; cases rx; exact wpAny_is_other rfl (fun z => nomatch z) ⟨.bl false, H, I, rfl, h.val m vr_bl⟩
    case rol => obtain ⟨_, _, rfl, _⟩ := ra.rol_; cases rx; exact wpAny_is_other rfl (fun z => nomatch z) ⟨.bl false, H, I, rfl, h.val m vr_bl⟩
    case ref => obtain ⟨_, rfl, _⟩ := ra.ref_; cases rx; exact wpAny_is_other rfl (fun z => nomatch z) ⟨.bl false, H, I, rfl, h.val m vr_bl⟩
    case obj => unfold VR at ra; obtain ⟨_, _, rfl, _⟩ := ra; cases rx; exact wpAny_is_other rfl (fun z => nomatch z) ⟨.bl false, H, I, rfl, h.val m vr_bl⟩
    case rod => unfold VR at ra; obtain ⟨_, _, rfl, _⟩ := ra; cases rx; exact wpAny_is_other rfl (fun z => nomatch z) ⟨.bl false, H, I, rfl, h.val m vr_bl⟩
    case ty T =>
      unfold VR at ra
      cases T <;> first | (cases ra; cases rx; exact wpAny_is_other rfl (fun z => nomatch z) ⟨.bl false, H, I, rfl, h.val m vr_bl⟩) | (obtain ⟨rfl, _⟩ := ra; cases rx; exact wpAny_is_other rfl (fun z => nomatch z) ⟨.bl false, H, I, rfl, h.val m vr_bl⟩)
theorem or_isnot : OpR X (compareOp .IsNot) (rG (kx X Z) .isnot) := by
  intro pins s σ H x y v u Q I rx ry h
  obtain ⟨M, ρ, a, b, m, ra, rb, h⟩ := h
  unfold op2 at h
  cases b <;> try exact h.elim
  case non =>
    cases rb.non_
    refine op_notN pins s σ H _ _ _ _ Q I rx ry ⟨rfl, ?_⟩
    cases a
    case non =>
      cases ra.non_
      simpa using h.val m vr_bl
    case bl => cases ra.bl_; simpa using h.val m vr_bl
    case int => cases ra.int_; simpa using h.val m vr_bl
    case str => obtain ⟨_, rfl, _⟩ := ra.str_; simpa using h.val m vr_bl
    case tup => obtain ⟨_, _, rfl, _⟩ := ra.tup_; simpa using h.val m vr_bl
    case rol => obtain ⟨_, _, rfl, _⟩ := ra.rol_; simpa using h.val m vr_bl
    case ref => obtain ⟨_, rfl, _⟩ := ra.ref_; simpa using h.val m vr_bl
    case obj => unfold VR at ra; obtain ⟨_, _, rfl, _⟩ := ra; simpa using h.val m vr_bl
    case rod => unfold VR at ra; obtain ⟨_, _, rfl, _⟩ := ra; simpa using h.val m vr_bl
    case ty T =>
      unfold VR at ra
      cases T <;> first | (cases ra; simpa using h.val m vr_bl) | (obtain ⟨rfl, _⟩ := ra; simpa using h.val m vr_bl)
  case bl k =>
    cases rb.bl_
    cases (show u = Value.bool k from ry)
    cases a
    case bl j =>
      cases ra.bl_
      exact op_notBl pins s σ H (.bl j) (.bl k) _ _ Q I rx (show RelV (.bl k) (.bool k) from rfl) ⟨j, k, rfl, rfl, h.val m vr_bl⟩
    case non =>
      cases ra.non_
      cases (show v = Value.none from rx)
      exact wpAny_isNot_other rfl (fun z => nomatch z) ⟨.bl true, H, I, rfl, h.val m vr_bl⟩
    case int => cases ra.int_; obtain ⟨t, rfl⟩ := rx; exact wpAny_isNot_other rfl (fun z => nomatch z) ⟨.bl true, H, I, rfl, h.val m vr_bl⟩
    case str => obtain ⟨_, rfl, _⟩ := ra.str_; obtain ⟨t, rfl⟩ := rx; exact wpAny_isNot_other rfl (fun z => nomatch z) ⟨.bl true, H, I, rfl, h.val m vr_bl⟩
    case tup => obtain ⟨_, _, rfl, _⟩ := ra.tup_; cases rx; exact wpAny_isNot_other rfl (fun z => nomatch z) ⟨.bl true, H, I, rfl, h.val m vr_bl⟩
    case rol => obtain ⟨_, _, rfl, _⟩ := ra.rol_; cases rx; exact wpAny_isNot_other rfl (fun z => nomatch z) ⟨.bl true, H, I, rfl, h.val m vr_bl⟩
    case ref => obtain ⟨_, rfl, _⟩ := ra.ref_; cases rx; exact wpAny_isNot_other rfl (fun z => nomatch z) ⟨.bl true, H, I, rfl, h.val m vr_bl⟩
    case obj => unfold VR at ra; obtain ⟨_, _, rfl, _⟩ := ra; cases rx; exact wpAny_isNot_other rfl (fun z => nomatch z) ⟨.bl true, H, I, rfl, h.val m vr_bl⟩
    case rod => unfold VR at ra; obtain ⟨_, _, rfl, _⟩ := ra; cases rx; exact wpAny_isNot_other rfl (fun z => nomatch z) ⟨.bl true, H, I, rfl, h.val m vr_bl⟩
    case ty T =>
      unfold VR at ra
      cases T <;> first | (cases ra; cases rx; exact wpAny_isNot_other rfl (fun z => nomatch z) ⟨.bl true, H, I, rfl, h.val m vr_bl⟩) | (obtain ⟨rfl, _⟩ := ra; cases rx; exact wpAny_isNot_other rfl (fun z => nomatch z) ⟨.bl true, H, I, rfl, h.val m vr_bl⟩)
/-! ### in -/
theorem in_any (EF : EqF X Z) (hr : Room 181 X.A) {pins : List (Addr × Obj)} {s : Shared} {σ : St} {H : Hp} {x y : V} {v u : Value} {M : Mem} {ρ : List Addr} {a b : PV} {r : Bool} (I : Inv X pins σ H s) (rx : RelV x v) (ry : RelV y u) (m : MemR (kx X Z) M ρ H) (ra : VR (kx X Z) ρ H a x) (rb : VR (kx X Z) ρ H b y) (h : inPV M a b = some r) (Q : VK) :
    ((∀ H', Ext H H' → Q (.bl r) H') → wpAny (model X.prog X.w) X.A (compareOp .In v u) (EP X pins σ Q) X.xe s) ∧ ((∀ H', Ext H H' → Q (.bl (!r)) H') → wpAny (model X.prog X.w) X.A (compareOp .NotIn v u) (EP X pins σ Q) X.xe s) := by
  have seq : ∀ {xs : List PV} {us : List V} {d : PD} {ds : List PD}, toD M 90 a = some d → allD (toD M 90) xs = some ds → VRs (kx X Z) ρ H xs us → r = (ds.any fun z => eqD z d) → (∃ p, y = .ref p ∧ (SqL X.K H p us ∨ SqT X.K H p us)) →
      ((∀ H', Ext H H' → Q (.bl r) H') → wpAny (model X.prog X.w) X.A (compareOp .In v u) (EP X pins σ Q) X.xe s) ∧ ((∀ H', Ext H H' → Q (.bl (!r)) H') → wpAny (model X.prog X.w) X.A (compareOp .NotIn v u) (EP X pins σ Q) X.xe s) := by
    intro xs us d ds h1 h2 rr er hp
    obtain ⟨p, rfl, hs⟩ := hp
    subst er
    have hd := toD_DR EF.inj m 90 a x d ra h1
    have hds := paired_of (M := M) (toD_DR EF.inj m 90) rr h2
    have q := fun neg => in_step (EqB.of EF.e) (A := X.A) ⟨hr, rfl⟩ I rx ry hd ⟨p, us, rfl, hs, hds⟩ neg
    refine ⟨fun hq => wpAny_mono (q false) (fun r s' z => ?_) fun _ _ z => z, fun hq => wpAny_mono (q true) (fun r s' z => ?_) fun _ _ z => z⟩
    · obtain ⟨rfl, H', I', e'⟩ := z
      exact ⟨.bl _, H', I', rfl, by simpa using hq H' e'⟩
    · obtain ⟨rfl, H', I', e'⟩ := z
      exact ⟨.bl _, H', I', rfl, by simpa using hq H' e'⟩
  unfold inPV at h
  split at h
  · rename_i xs
    split at h
    · rename_i d hd
      split at h
      · rename_i ds hds
        cases h
        obtain ⟨p, us, e, t, rr⟩ := rb.tup_
        exact seq hd hds rr rfl ⟨p, e, .inr t.sq⟩
      · cases h
    · cases h
  · rename_i xs
    split at h
    · rename_i d hd
      split at h
      · rename_i ds hds
        cases h
        obtain ⟨p, us, e, t, rr⟩ := rb.rol_
        exact seq hd hds rr rfl ⟨p, e, .inl t.sq⟩
      · cases h
    · cases h
  · rename_i n
    obtain ⟨p, e, e1⟩ := rb.ref_
    split at h
    · rename_i xs hx
      obtain ⟨us, hus, rr⟩ := m.lst hx e1
      split at h
      · rename_i d hd
        split at h
        · rename_i ds hds
          cases h
          exact seq hd hds rr rfl ⟨p, e, .inl (SqL.of hus)⟩
        · cases h
      · cases h
    · rename_i kvs hx
      obtain ⟨us, hus, rr, _⟩ := m.dic hx e1
      split at h
      · rename_i k hk
        cases h
        subst e
        obtain ⟨ek, _⟩ := ra.key hk
        obtain rfl : u = Value.ref p := ry
        have hu1 : X.A.units + 1 < cLine := by have := hr.un; omega
        have hv := rr.val k
        have e : (valV us (keyK k)).isSome = (valP k kvs).isSome := by
          cases q : valP k kvs with
          | none => rw [q] at hv; rw [hv]; rfl
          | some v => rw [q] at hv; obtain ⟨w, h1, _⟩ := hv; rw [h1]; rfl
        rw [← e]
        have g : DGet H p x (valV us (keyK k)) := by rw [ek]; exact DGet.k hus
        exact ⟨fun q => d_in hu1 I g rx fun s' I' => ⟨.bl _, H, I', rfl, q _ Ext.rfl'⟩, fun q => d_notIn hu1 I g rx fun s' I' => ⟨.bl _, H, I', rfl, q _ Ext.rfl'⟩⟩
      · cases h
    · cases h
  · rename_i ks vs
    split at h
    · rename_i t
      cases h
      obtain ⟨z, rfl, ez⟩ := ra.str_
      subst ez
      obtain ⟨p, us, rfl, hk, rr⟩ := rb.rod_
      obtain ⟨es, n, D, hz⟩ := hk
      have hz := hz z
      have key : ∃ o : Option Value, PySem.W.nsIn X.K p z = some o ∧ o.isSome = (keyIx z.cps.toList ks).isSome := by
        cases hi : keyIx z.cps.toList ks with
        | none =>
          rw [hi] at hz
          exact ⟨none, hz, rfl⟩
        | some j =>
          rw [hi] at hz
          obtain ⟨u0, uv, _, h2, _⟩ := hz
          exact ⟨some uv, h2, rfl⟩
      obtain ⟨o, h1, h2⟩ := key
      exact ⟨fun q => op_in_kd D pins s σ H _ _ _ _ Q I rx ry ⟨z, o, rfl, rfl, h1, by rw [h2]; exact q _ Ext.rfl'⟩, fun q => op_notIn_kd D pins s σ H _ _ _ _ Q I rx ry ⟨z, o, rfl, rfl, h1, by rw [h2]; exact q _ Ext.rfl'⟩⟩
    · cases h
  · rename_i t
    split at h
    · rename_i s0
      split at h
      rotate_left
      · cases h
      rename_i c
      cases h
      obtain ⟨z, rfl, ez⟩ := ra.str_
      obtain ⟨y, rfl, ey⟩ := rb.str_
      subst ey
      have e1 : z = ⟨#[c]⟩ := str_eq (by rw [ez])
      subst e1
      exact ⟨fun q => op_in_sign pins s σ H _ _ _ _ Q I rx ry ⟨c, y, rfl, rfl, q _ Ext.rfl'⟩, fun q => op_notIn_sign pins s σ H _ _ _ _ Q I rx ry ⟨c, y, rfl, rfl, q _ Ext.rfl'⟩⟩
    · cases h
  · cases h
theorem or_mem (EF : EqF X Z) (hrm : Room 181 X.A) : OpR X (compareOp .In) (rG (kx X Z) .mem) := by
  intro pins s σ H x y v u Q I rx ry h
  obtain ⟨M, ρ, a, b, m, ra, rb, h⟩ := h
  unfold op2 at h
  simp only at h
  split at h
  · rename_i r hr
    exact (in_any EF hrm I rx ry m ra rb hr Q).1 fun H' e' => h ρ H' (ext_fw e') (m.ext e') _ vr_bl
  · exact h.elim
theorem or_notin (EF : EqF X Z) (hrm : Room 181 X.A) : OpR X (compareOp .NotIn) (rG (kx X Z) .notin) := by
  intro pins s σ H x y v u Q I rx ry h
  obtain ⟨M, ρ, a, b, m, ra, rb, h⟩ := h
  unfold op2 at h
  simp only at h
  split at h
  · rename_i r hr
    exact (in_any EF hrm I rx ry m ra rb hr Q).2 fun H' e' => h ρ H' (ext_fw e') (m.ext e') _ vr_bl
  · exact h.elim
/-! ### an item -/
theorem ixP_eq (n : Nat) (i : Int) : ixP n i = ixN n i := rfl
theorem getI_ok {K : Kx} {ρ : List Addr} {H : Hp} {xs : List PV} {us : List V} {i : Int} {v : PV} (r : VRs K ρ H xs us) (h : getI xs i = some v) : ∃ u, atI us i = some u ∧ VR K ρ H v u := by
  unfold getI at h
  rw [ixP_eq] at h
  split at h
  · rename_i j hj
    obtain ⟨u, hu, ru⟩ := r.get h
    refine ⟨u, ?_, ru⟩
    unfold atI
    rw [r.length, hj]
    exact hu
  · cases h
/-- an item of a dict -/
theorem dic_at {M : Mem} {ρ : List Addr} {H : Hp} {n : Nat} {kvs : List (PK × PV)} {k : PK} {w : PV} {p : Addr} (m : MemR (kx X Z) M ρ H) (hx : M[n]? = some (.dic kvs)) (e : ρ[n]? = some p) (hw : valP k kvs = some w) : ∃ us z, H p = some (.dK us) ∧ valV us (keyK k) = some z ∧ VR (kx X Z) ρ H w z := by
  obtain ⟨us, hus, rr, _⟩ := m.dic hx e
  have hv := rr.val k
  rw [hw] at hv
  obtain ⟨z, h1, h2⟩ := hv
  exact ⟨us, z, hus, h1, h2⟩
theorem dic_sub (hu : X.A.units + 1 < cLine) {value slice : Expr} {pins : List (Addr × Obj)} {s : Shared} {σ : L2.St} {H : Hp} {p : Addr} {y z : V} {u : Value} {Q : VK} {k : Key} {us : List (Key × V)} (I : Inv X pins σ H s) (ry : RelV y u) (hus : H p = some (.dK us)) (hy : y = kV k) (hv : valV us k = some z) (q : Q z H)
    (hs : subscripted slice false (.ref p) u = operate [.ref p, u] (getItem (.ref p) u)) : wpAny (model X.prog X.w) X.A (PyProof.Rows.subscriptTail value slice (.ref p) u) (EP X pins σ Q) X.xe s := by
  have g : DGet H p y (some z) := by rw [hy, ← hv]; exact DGet.k hus
  exact PyProof.Rows.tail_any (dict_typeIs I g) PySem.F.slot_dict_getitem.lookup (d_getItem hu I g ry fun w' s' I' rw' => ⟨z, H, I', rw', q⟩) hs
theorem ixr_idx (hu : X.A.units + 1 < cLine) : IxR X (rG (kx X Z) .idx) := by
  intro value slice pins s σ H x y v u Q I rx ry h hs
  obtain ⟨M, ρ, a, b, m, ra, rb, h⟩ := h
  unfold op2 at h
  cases b <;> try exact h.elim
  case str s' =>
    cases a <;> try exact h.elim
    case ref n =>
      obtain ⟨p, rfl, e1⟩ := ra.ref_
      obtain rfl : v = Value.ref p := rx
      simp only at h
      split at h
      · rename_i kvs hx
        split at h
        · rename_i w hw
          obtain ⟨us, z, hus, hv, rz⟩ := dic_at m hx e1 hw
          exact dic_sub hu I ry hus (VR.key (k := .s s') rfl rb).1 hv (h.val m rz) hs
        · exact h.elim
      · exact h.elim
    case rod ks vs =>
    obtain ⟨z, rfl, ez⟩ := rb.str_
    subst ez
    obtain ⟨p, us, rfl, hk, rr⟩ := ra.rod_
    obtain ⟨es, n, D, hz⟩ := hk
    have hz := hz z
    simp only at h
    split at h
    · rename_i j hj
      rw [hj] at hz
      obtain ⟨u0, uv, h1, h2, h3⟩ := hz
      split at h
      · rename_i w hw
        obtain ⟨u1, hu1, r1⟩ := rr.get hw
        rw [h1] at hu1
        cases hu1
        exact ix_kdict value slice pins s σ H _ _ v u Q I rx ry ⟨p, z, u0, rfl, rfl, ⟨es, n, uv, D.at_, D.lit, h2, h3⟩, h.val m r1⟩ hs
      · exact h.elim
    · exact h.elim
  case int i =>
  cases rb.int_
  cases a <;> try exact h.elim
  case str s' =>
    have vv := ra.vs
    obtain ⟨x1, rfl, e1⟩ := ra.str_
    subst e1
    simp only at h
    split at h
    · rename_i hl
      split at h
      · rename_i j hj
        split at h
        · rename_i c hc
          refine ix_str value slice pins s σ H _ _ v u Q I rx ry ⟨x1, _, c, rfl, rfl, ?_, ?_, h.val m (vr_str rfl (vstr_mem vv hc))⟩ hs
          · rw [str_len rfl]
            exact Nat.le_trans hl lim_le
          · unfold atI
            rw [← ixP_eq, hj]
            exact hc
        · exact h.elim
      · exact h.elim
    · exact h.elim
  case tup xs =>
    obtain ⟨p, us, rfl, t, r⟩ := ra.tup_
    simp only at h
    split at h
    · rename_i w hw
      obtain ⟨z, hz, rz⟩ := getI_ok r hw
      exact ix_tup value slice pins s σ H _ _ v u Q I rx ry ⟨p, us, _, z, rfl, rfl, t.sq, hz, h.val m rz⟩ hs
    · exact h.elim
  case rol xs =>
    obtain ⟨p, us, rfl, t, r⟩ := ra.rol_
    simp only at h
    split at h
    · rename_i w hw
      obtain ⟨z, hz, rz⟩ := getI_ok r hw
      exact ix_list value slice pins s σ H _ _ v u Q I rx ry ⟨p, us, _, z, rfl, rfl, t.sq, hz, h.val m rz⟩ hs
    · exact h.elim
  case ref n =>
    obtain ⟨p, rfl, e1⟩ := ra.ref_
    simp only at h
    split at h
    · rename_i xs hx
      split at h
      · rename_i w hw
        obtain ⟨us, hul, r⟩ := m.lst hx e1
        obtain ⟨z, hz, rz⟩ := getI_ok r hw
        exact ix_list value slice pins s σ H _ _ v u Q I rx ry ⟨p, us, _, z, rfl, rfl, SqL.of hul, hz, h.val m rz⟩ hs
      · exact h.elim
    · rename_i kvs hx
      obtain rfl : v = Value.ref p := rx
      split at h
      · rename_i w hw
        obtain ⟨us, z, hus, hv, rz⟩ := dic_at m hx e1 hw
        exact dic_sub hu I ry hus rfl hv (h.val m rz) hs
      · exact h.elim
    · exact h.elim
/-! ### one-place operations -/
def rG1 (K : Kx) (o : O1) : V → Hp → VK → Prop := fun x H Q => ∃ M ρ a, MemR K M ρ H ∧ VR K ρ H a x ∧ Pv K ρ H (op1 o a M) Q
theorem ur_neg : UnR X (unaryOp .USub) (rG1 (kx X Z) .neg) := by
  intro pins s σ H x v Q I rx h
  obtain ⟨M, ρ, a, m, ra, h⟩ := h
  unfold op1 at h
  cases a <;> try exact h.elim
  cases ra.int_
  exact un_neg pins s σ H _ _ Q I rx ⟨_, rfl, h.val m vr_int⟩
/-! ### calls of what is built in -/
def rGn (K : Kx) (o : On) : List V → Hp → VK → Prop := fun xs H Q => ∃ M ρ as, MemR K M ρ H ∧ VRs K ρ H as xs ∧ Pv K ρ H (opn o as M) Q
theorem one_inv {K : Kx} {ρ : List Addr} {H : Hp} {a : PV} {us : List V} (h : VRs K ρ H [a] us) : ∃ u, us = [u] ∧ VR K ρ H a u := by
  obtain ⟨u, ur, rfl, r, t⟩ := h.inv
  cases t.nil
  exact ⟨u, rfl, r⟩
theorem two_inv {K : Kx} {ρ : List Addr} {H : Hp} {a b : PV} {us : List V} (h : VRs K ρ H [a, b] us) : ∃ u v, us = [u, v] ∧ VR K ρ H a u ∧ VR K ρ H b v := by
  obtain ⟨u, ur, rfl, r, t⟩ := h.inv
  obtain ⟨v, rfl, r2⟩ := one_inv t
  exact ⟨u, v, rfl, r, r2⟩
theorem cr_len : CallR X (.builtin "len") (rGn (kx X Z) .len) := by
  intro pins s σ H xs us Q I r h
  obtain ⟨M, ρ, as, m, ra, h⟩ := h
  unfold opn at h
  simp only at h
  split at h
  · obtain ⟨u, rfl, q⟩ := one_inv ra
    obtain ⟨p, ws, rfl, t, rr⟩ := q.tup_
    exact call_len pins s σ H _ us Q I r ⟨_, ws.length, rfl, .inr ⟨ws, t.sq, rfl⟩, by rw [rr.length]; exact h.val m vr_int⟩
  · obtain ⟨u, rfl, q⟩ := one_inv ra
    obtain ⟨p, ws, rfl, t, rr⟩ := q.rol_
    exact call_len pins s σ H _ us Q I r ⟨_, ws.length, rfl, .inl ⟨ws, t.sq, rfl⟩, by rw [rr.length]; exact h.val m vr_int⟩
  · obtain ⟨u, rfl, q⟩ := one_inv ra
    obtain ⟨x, rfl, e⟩ := q.str_
    split at h
    · rename_i hl
      refine call_len pins s σ H _ us Q I r ⟨_, x.length, rfl, ⟨?_, rfl⟩, by rw [str_len e]; exact h.val m vr_int⟩
      rw [str_len e]
      exact Nat.le_trans hl lim_le
    · exact h.elim
  · obtain ⟨u, rfl, q⟩ := one_inv ra
    obtain ⟨p, rfl, e⟩ := q.ref_
    split at h
    · rename_i xs hx
      obtain ⟨ws, hw, rr⟩ := m.lst hx e
      exact call_len pins s σ H _ us Q I r ⟨_, ws.length, rfl, .inl ⟨ws, SqL.of hw, rfl⟩, by rw [rr.length]; exact h.val m vr_int⟩
    · rename_i kvs hx
      obtain ⟨ws, hw, rr, _⟩ := m.dic hx e
      obtain ⟨u1, rfl, ru⟩ := vals1 r
      obtain rfl : u1 = Value.ref p := ru
      refine d_len I (.inl hw) fun t s' I' => ⟨.int kvs.length, H, I', ⟨t, by rw [rr.length]⟩, h.val m vr_int⟩
    · exact h.elim
  · exact h.elim
theorem cr_abs : CallR X (.builtin "abs") (rGn (kx X Z) .abs) := by
  intro pins s σ H xs us Q I r h
  obtain ⟨M, ρ, as, m, ra, h⟩ := h
  unfold opn at h
  simp only at h
  split at h
  · obtain ⟨u, rfl, q⟩ := one_inv ra
    cases q.int_
    exact call_abs pins s σ H _ us Q I r ⟨_, rfl, h.val m vr_int⟩
  · exact h.elim
theorem cr_int : CallR X (.type "int") (rGn (kx X Z) .int) := by
  intro pins s σ H xs us Q I r h
  obtain ⟨M, ρ, as, m, ra, h⟩ := h
  unfold opn at h
  simp only at h
  split at h
  · obtain ⟨u, rfl, q⟩ := one_inv ra
    cases q.int_
    exact call_int1 pins s σ H _ us Q I r (.inl ⟨_, rfl, h.val m vr_int⟩)
  · obtain ⟨u, rfl, q⟩ := one_inv ra
    cases q.bl_
    exact call_int1 pins s σ H _ us Q I r (.inr ⟨_, rfl, h.val m vr_int⟩)
  · exact h.elim
theorem cr_list : CallR X (.type "list") (rGn (kx X Z) .list) := by
  intro pins s σ H xs us Q I r h
  obtain ⟨M, ρ, as, m, ra, h⟩ := h
  unfold opn at h
  simp only at h
  split at h
  · obtain ⟨u, rfl, q⟩ := one_inv ra
    obtain ⟨p, ws, rfl, t, rr⟩ := q.tup_
    exact call_list_of pins s σ H _ us Q I r ⟨p, ws, rfl, .inr t.sq, fun l hl => h.lst m rr hl⟩
  · obtain ⟨u, rfl, q⟩ := one_inv ra
    obtain ⟨p, ws, rfl, t, rr⟩ := q.rol_
    exact call_list_of pins s σ H _ us Q I r ⟨p, ws, rfl, .inl t.sq, fun l hl => h.lst m rr hl⟩
  · obtain ⟨u, rfl, q⟩ := one_inv ra
    obtain ⟨p, rfl, e⟩ := q.ref_
    split at h
    · rename_i xs hx
      obtain ⟨ws, hw, rr⟩ := m.lst hx e
      exact call_list_of pins s σ H _ us Q I r ⟨p, ws, rfl, .inl (SqL.of hw), fun l hl => h.lst m rr hl⟩
    · exact h.elim
  · exact h.elim
theorem upd_upd {H : Hp} {p : Addr} {a b : HO} : upd (upd H p a) p b = upd H p b := by
  funext c
  unfold upd
  split <;> rfl
theorem cr_rlist : CallR X (.type "list") (rGn (kx X Z) .rlist) := by
  intro pins s σ H xs us Q I r h
  obtain ⟨M, ρ, as, m, ra, h⟩ := h
  unfold opn at h
  simp only at h
  split at h
  · obtain ⟨u, rfl, q⟩ := one_inv ra
    obtain ⟨p, ws, rfl, t, rr⟩ := q.tup_
    exact callr_frz call_list_of pins s σ H _ us Q I r ⟨p, ws, rfl, .inr t.sq, fun l hl => .inl ⟨l, ws, rfl, upd_same, fun o => by rw [upd_upd]; exact h.rol m rr hl⟩⟩
  · obtain ⟨u, rfl, q⟩ := one_inv ra
    obtain ⟨p, ws, rfl, t, rr⟩ := q.rol_
    exact callr_frz call_list_of pins s σ H _ us Q I r ⟨p, ws, rfl, .inl t.sq, fun l hl => .inl ⟨l, ws, rfl, upd_same, fun o => by rw [upd_upd]; exact h.rol m rr hl⟩⟩
  · obtain ⟨u, rfl, q⟩ := one_inv ra
    obtain ⟨p, rfl, e⟩ := q.ref_
    split at h
    · rename_i xs hx
      obtain ⟨ws, hw, rr⟩ := m.lst hx e
      exact callr_frz call_list_of pins s σ H _ us Q I r ⟨p, ws, rfl, .inl (SqL.of hw), fun l hl => .inl ⟨l, ws, rfl, upd_same, fun o => by rw [upd_upd]; exact h.rol m rr hl⟩⟩
    · exact h.elim
  · exact h.elim
theorem keys_rel {K : Kx} {ρ : List Addr} {H : Hp} : ∀ {kvs : List (PK × PV)} {us : List (Key × V)}, us.map (·.1) = kvs.map (fun p => keyK p.1) → (∀ p ∈ kvs, kOk p.1 = true) → VRs K ρ H (kvs.map fun p => pkV p.1) (us.map fun kv => kV kv.1)
  | [], us, h, _ => by
    have : us = [] := by simpa using h
    rw [this]
    exact vrs_nil
  | p :: kvs, [], h, _ => by simp at h
  | p :: kvs, u :: us, h, hk => by
    simp only [List.map_cons, List.cons.injEq] at h
    refine vrs_cons ?_ (keys_rel h.2 fun q hq => hk q (List.mem_cons_of_mem _ hq))
    show VR K ρ H (pkV p.1) (kV u.1)
    rw [h.1]
    have h0 := hk p List.mem_cons_self
    cases hp : p.1 with
    | i i => exact vr_int
    | s s =>
      rw [hp] at h0
      exact vr_str rfl h0
theorem cr_tuple (hc : X.calm = true) : CallR X (.type "tuple") (rGn (kx X Z) .tuple) := by
  intro pins s σ H xs us Q I r h
  obtain ⟨M, ρ, as, m, ra, h⟩ := h
  unfold opn at h
  simp only at h
  split at h
  · obtain ⟨u, rfl, q⟩ := one_inv ra
    obtain ⟨p, ws, rfl, t, rr⟩ := q.tup_
    exact call_tuple_of pins s σ H _ us Q I r ⟨p, ws, rfl, .inr ⟨t.sq, h.val m (vr_tup t rr)⟩⟩
  · obtain ⟨u, rfl, q⟩ := one_inv ra
    obtain ⟨p, ws, rfl, t, rr⟩ := q.rol_
    exact call_tuple_of pins s σ H _ us Q I r ⟨p, ws, rfl, .inl ⟨t.sq, fun l hl => h.tup m rr hl⟩⟩
  · obtain ⟨u, rfl, q⟩ := one_inv ra
    obtain ⟨p, rfl, e⟩ := q.ref_
    split at h
    · rename_i xs hx
      obtain ⟨ws, hw, rr⟩ := m.lst hx e
      exact call_tuple_of pins s σ H _ us Q I r ⟨p, ws, rfl, .inl ⟨SqL.of hw, fun l hl => h.tup m rr hl⟩⟩
    · rename_i kvs hx
      obtain ⟨ws, hw, ⟨rk, _⟩, ok⟩ := m.dic hx e
      exact call_tupleD hc pins s σ H _ us Q I r ⟨p, ws, rfl, .inl hw, fun l hl => h.tup m (keys_rel rk ok.2) hl⟩
    · exact h.elim
  · exact h.elim
/-- a method, by the receiver and the arguments -/
def rGm (K : Kx) (o : On) : V → List V → Hp → VK → Prop := fun x xs H Q => ∃ M ρ a as, MemR K M ρ H ∧ VR K ρ H a x ∧ VRs K ρ H as xs ∧ Pv K ρ H (opn o (a :: as) M) Q
theorem mr_append : MtM X "list.append" (rGm (kx X Z) .append) := by
  intro pins s σ H x xs v us Q I rx r h
  obtain ⟨M, ρ, a, as, m, ra, rs, h⟩ := h
  unfold opn at h
  simp only at h
  split at h
  · rename_i n w e
    cases e
    obtain ⟨y, rfl, ry⟩ := one_inv rs
    obtain ⟨p, rfl, e⟩ := ra.ref_
    split at h
    · rename_i ys hy
      split at h
      · rename_i hl
        obtain ⟨ws, hw, rr⟩ := m.lst hy e
        refine mt_append pins s σ H _ _ v us Q I rx r ⟨p, ws, y, rfl, rfl, hw, ?_, ?_⟩
        · rw [rr.length]
          exact lim_lt hl
        · exact h ρ _ (Fw.write (List.mem_of_getElem? e)) (m.write e (rr.append (vrs_cons ry vrs_nil))) _ vr_non
      · exact h.elim
    · exact h.elim
  · exact h.elim
theorem VRs.dropLast {K : Kx} {ρ : List Addr} {H : Hp} : ∀ {vs : List PV} {us : List V}, VRs K ρ H vs us → VRs K ρ H vs.dropLast us.dropLast
  | vs, us, h => by
    rw [List.dropLast_eq_take, List.dropLast_eq_take, h.length]
    exact h.take _
theorem VRs.eraseIdx {K : Kx} {ρ : List Addr} {H : Hp} {vs : List PV} {us : List V} (j : Nat) (h : VRs K ρ H vs us) : VRs K ρ H (vs.eraseIdx j) (us.eraseIdx j) := by
  rw [List.eraseIdx_eq_take_drop_succ, List.eraseIdx_eq_take_drop_succ]
  exact (h.take j).append (h.drop (j + 1))
theorem mr_pop : MtM X "list.pop" (rGm (kx X Z) .pop) := by
  intro pins s σ H x xs v us Q I rx r h
  obtain ⟨M, ρ, a, as, m, ra, rs, h⟩ := h
  unfold opn at h
  simp only at h
  split at h
  · rename_i n e
    cases e
    obtain rfl := rs.nil
    obtain ⟨p, rfl, e⟩ := ra.ref_
    split at h
    · rename_i ys hy
      split at h
      · rename_i w hw
        obtain ⟨ws, hws, rr⟩ := m.lst hy e
        obtain ⟨u, hu, ru⟩ := rr.get hw
        have f : Fw ρ ρ H (upd H p (.lst ws.dropLast)) := Fw.write (List.mem_of_getElem? e)
        exact mt_pop pins s σ H _ _ v us Q I rx r ⟨p, ws, u, rfl, rfl, hws, by rw [rr.length]; exact hu, h ρ _ f (m.write e rr.dropLast) _ (ru.mono m.own f)⟩
      · exact h.elim
    · exact h.elim
  · rename_i n i e
    cases e
    obtain ⟨y, rfl, ry⟩ := one_inv rs
    cases ry.int_
    obtain ⟨p, rfl, e⟩ := ra.ref_
    split at h
    · rename_i ys hy
      split at h
      · rename_i j hj
        split at h
        · rename_i w hw
          obtain ⟨ws, hws, rr⟩ := m.lst hy e
          obtain ⟨u, hu, ru⟩ := rr.get hw
          rw [ixP_eq, ← rr.length] at hj
          obtain ⟨h1, h2, h3, h4⟩ := ixN_seq hj
          have hz := (I.lst hws)
          obtain ⟨its, n, r2, ho, hz⟩ := hz
          have hn := line63
          have f : Fw ρ ρ H (upd H p (.lst (ws.eraseIdx j))) := Fw.write (List.mem_of_getElem? e)
          exact mt_popAt pins s σ H _ _ v us Q I rx r ⟨p, ws, i, j, u, rfl, rfl, hws, by omega, by omega, h1, hu, h ρ _ f (m.write e (rr.eraseIdx j)) _ (ru.mono m.own f)⟩
        · exact h.elim
      · exact h.elim
    · exact h.elim
  · exact h.elim
/-! ### isinstance, truth -/
/-- what is asked of the text's classes -/
structure ClsF (K : Kx) : Prop where
  ci : ∀ c, c < K.Z.nc → ClsI K.K (K.Z.cls c)
  bo : ∀ c T, c < K.Z.nc → T ∈ ["NoneType", "bool", "int", "str", "tuple", "list", "dict"] → PySem.W.kitOne K.K (.type T) (.ref (K.Z.cls c)) = some false
  oo : ∀ c d, c < K.Z.nc → d < K.Z.nc → PySem.W.kitOne K.K (.ref (K.Z.cls d)) (.ref (K.Z.cls c)) = some (c == d)
  ob : ∀ c T, c < K.Z.nc → T ∈ ["bool", "int", "str", "tuple", "list", "dict"] → PySem.W.kitOne K.K (.ref (K.Z.cls c)) (.type T) = some false
def clsU (K : Kx) : Ty → Value
  | .own c => .ref (K.Z.cls c)
  | T => .type (tyS T)
theorem kd_ty {K : Kx} (F : ClsF K) {k : Kd} {t : String} {T : Ty} {b : Bool} (hT : ∀ c, T = .own c → c < K.Z.nc) (h : isK k T = some b)
    (hk : (k = .non ∧ t = "NoneType") ∨ (k = .bl ∧ t = "bool") ∨ (k = .int ∧ t = "int") ∨ (k = .str ∧ t = "str") ∨ (k = .tup ∧ t = "tuple") ∨ (k = .lst ∧ t = "list") ∨ (k = .dic ∧ t = "dict")) : PySem.W.kitOne K.K (.type t) (clsU K T) = some b := by
  rcases hk with ⟨rfl, rfl⟩ | ⟨rfl, rfl⟩ | ⟨rfl, rfl⟩ | ⟨rfl, rfl⟩ | ⟨rfl, rfl⟩ | ⟨rfl, rfl⟩ | ⟨rfl, rfl⟩ <;> cases T <;> cases h <;> first | exact kit_ty (by decide +kernel) | exact F.bo _ _ (hT _ rfl) (by decide)
theorem ty_ofA {M : Mem} {ρ : List Addr} {H : Hp} {v : PV} {u : V} {k : Kd} (F : ClsF (kx X Z)) (m : MemR (kx X Z) M ρ H) (r : VR (kx X Z) ρ H v u) (hk : kd v M = some k) : ∃ t, TyX X.K H u t ∧ ∀ (T : Ty) (b : Bool), (∀ c, T = .own c → c < Z.nc) → isK k T = some b → PySem.W.kitOne X.K t (clsU (kx X Z) T) = some b := by
  have fin : ∀ t, (k = .non ∧ t = "NoneType") ∨ (k = .bl ∧ t = "bool") ∨ (k = .int ∧ t = "int") ∨ (k = .str ∧ t = "str") ∨ (k = .tup ∧ t = "tuple") ∨ (k = .lst ∧ t = "list") ∨ (k = .dic ∧ t = "dict") → ∀ (T : Ty) (b : Bool), (∀ c, T = .own c → c < Z.nc) → isK k T = some b → PySem.W.kitOne X.K (.type t) (clsU (kx X Z) T) = some b := fun t z T b hT h => kd_ty (K := kx X Z) F hT h z
  have own : ∀ (c : Nat) (a dx : Addr) (fs : List (Str × V)), c < Z.nc → k = .own c → H a = some (.ins (Z.cls c) dx fs) → ∃ t, TyX X.K H (.ref a) t ∧ ∀ (T : Ty) (b : Bool), (∀ c, T = .own c → c < Z.nc) → isK k T = some b → PySem.W.kitOne X.K t (clsU (kx X Z) T) = some b := by
    intro c a dx fs hc ek ha
    refine ⟨.ref (Z.cls c), (F.ci c hc).ty ha, fun T b hT h => ?_⟩
    subst ek
    cases T
    case own d =>
      cases h
      exact F.oo d c (hT d rfl) hc
    all_goals
      cases h
      exact F.ob c _ hc (by decide)
  cases v
  case non =>
    cases r.non_
    cases hk
    exact ⟨_, .base .non, fin _ (by simp)⟩
  case bl j =>
    cases r.bl_
    cases hk
    exact ⟨_, .base (.bl j), fin _ (by simp)⟩
  case int j =>
    cases r.int_
    cases hk
    exact ⟨_, .base (.int j), fin _ (by simp)⟩
  case str j =>
    obtain ⟨x, rfl, _⟩ := r.str_
    cases hk
    exact ⟨_, .base (.str x), fin _ (by simp)⟩
  case tup vs =>
    obtain ⟨p, us, rfl, t, _⟩ := r.tup_
    cases hk
    refine ⟨.type "tuple", ?_, fin _ (by simp)⟩
    rcases t with t | ⟨o, t⟩ | t
    · exact .base (.tup t)
    · exact .fTuple t
    · rcases t (fun _ => none) with (t | ⟨_, t⟩) | ⟨o, its, n, e1, e2, _⟩
      · cases t
      · cases t
      · exact .kTuple e1 e2
  case rol vs =>
    obtain ⟨p, us, rfl, t, _⟩ := r.rol_
    cases hk
    refine ⟨.type "list", ?_, fin _ (by simp)⟩
    rcases t with ⟨o, t⟩ | t
    · exact .base (.frz t)
    · rcases t (fun _ => none) with (t | ⟨_, t⟩) | ⟨o, its, n, e1, e2, _⟩
      · cases t
      · cases t
      · exact .kList e1 e2
  case ref n =>
    obtain ⟨p, rfl, e⟩ := r.ref_
    unfold kd at hk
    simp only at hk
    cases hM : M[n]? with
    | none => rw [hM] at hk; cases hk
    | some c =>
      rw [hM] at hk
      cases c with
      | lst xs =>
        cases hk
        obtain ⟨us, hu, _⟩ := m.lst hM e
        exact ⟨.type "list", .base (.lst hu), fin _ (by simp)⟩
      | dic kvs =>
        cases hk
        obtain ⟨us, hu, _⟩ := m.dic hM e
        exact ⟨.type "dict", .base (.dK hu), fin _ (by simp)⟩
      | ins c ns vs =>
        obtain ⟨hc, dx, us, hu, _⟩ := m.cell n _ p hM e
        exact own c p dx _ hc (Option.some.inj hk).symm hu
  case obj c ns vs =>
    unfold VR at r
    obtain ⟨a, us, rfl, _, ⟨⟨dx, hu, _⟩, _, hc⟩, _⟩ := r
    exact own c a dx _ hc (Option.some.inj hk).symm hu
  case rod ks vs =>
    obtain ⟨p, us, rfl, ⟨es, n, D, _⟩, _⟩ := r.rod_
    cases hk
    exact ⟨.type "dict", .kDict D.at_ rfl, fin _ (by simp)⟩
  case ty => cases hk
theorem ty_of {M : Mem} {ρ : List Addr} {H : Hp} {v : PV} {u : V} {T : Ty} {b : Bool} (F : ClsF (kx X Z)) (hT : ∀ c, T = .own c → c < Z.nc) (m : MemR (kx X Z) M ρ H) (r : VR (kx X Z) ρ H v u) (h : isi v M T = some b) : ∃ t, TyX X.K H u t ∧ PySem.W.kitOne X.K t (clsU (kx X Z) T) = some b := by
  unfold isi at h
  split at h
  rotate_left
  · cases h
  rename_i k hk
  obtain ⟨t, h1, h2⟩ := ty_ofA F m r hk
  exact ⟨t, h1, h2 T b hT h⟩
theorem ty_v {K : Kx} {ρ : List Addr} {H : Hp} {T : Ty} {c : V} (r : VR K ρ H (.ty T) c) : ClsV c (clsU K T) ∧ ∀ d, T = .own d → d < K.Z.nc := by
  unfold VR at r
  cases T
  case own d =>
    obtain ⟨rfl, h⟩ := r
    exact ⟨.own _, fun e he => by cases he; exact h⟩
  all_goals
    subst r
    exact ⟨.ty _, fun e he => nomatch he⟩
theorem isiA_kit {M : Mem} {ρ : List Addr} {H : Hp} {v : PV} {k : Kd} {t : Value} (hk : kd v M = some k) (ht : ∀ (T : Ty) (b : Bool), (∀ c, T = .own c → c < Z.nc) → isK k T = some b → PySem.W.kitOne X.K t (clsU (kx X Z) T) = some b) :
    ∀ {ts : List PV} {cs : List V} {b : Bool}, VRs (kx X Z) ρ H ts cs → isiA v M ts = some b → ∃ us, Paired ClsV cs us ∧ PySem.W.kitAny X.K t us = some b
  | [], cs, b, r, h => by
    cases h
    cases r.nil
    exact ⟨[], .nil, kitAny_nil⟩
  | x :: xs, cs, b, r, h => by
    obtain ⟨c, cr, rfl, r1, r2⟩ := r.inv
    unfold isiA at h
    split at h
    · rename_i T
      obtain ⟨k1, k2⟩ := ty_v r1
      split at h
      · rename_i b0 hb
        unfold isi at hb
        rw [hk] at hb
        have e0 := ht T b0 k2 hb
        split at h
        · rename_i r0 hr0
          cases h
          obtain ⟨us, p, e⟩ := isiA_kit hk ht r2 hr0
          refine ⟨_, .cons k1 p, kitAny_cons e0 (fun z => ?_) (fun z => ?_)⟩
          · rw [z]; exact e
          · rw [z]; rfl
        · cases h
      · cases h
    · cases h
theorem cr_isi (F : ClsF (kx X Z)) : CallR X (.builtin "isinstance") (rGn (kx X Z) .isi) := by
  intro pins s σ H xs us Q I r h
  obtain ⟨M, ρ, as, m, ra, h⟩ := h
  unfold opn at h
  simp only at h
  split at h
  · rename_i v T
    obtain ⟨u, c, rfl, r1, r2⟩ := two_inv ra
    split at h
    · rename_i b hb
      obtain ⟨k1, k2⟩ := ty_v r2
      obtain ⟨ty, h1, h2⟩ := ty_of F k2 m r1 hb
      exact call_isi pins s σ H _ us Q I r ⟨u, c, ty, clsU (kx X Z) T, b, rfl, k1, h1, h2, h.val m vr_bl⟩
    · exact h.elim
  · rename_i v ts
    obtain ⟨u, c, rfl, r1, r2⟩ := two_inv ra
    split at h
    · rename_i k hk
      split at h
      · rename_i b hb
        obtain ⟨p, cs, rfl, t, rr⟩ := r2.tup_
        obtain ⟨u1, u2, rfl, q1, q2⟩ := vals2 r
        cases (show u2 = Value.ref p from q2)
        obtain ⟨ty, h1, h2⟩ := ty_ofA F m r1 hk
        obtain ⟨ws, k1, e⟩ := isiA_kit hk h2 rr hb
        obtain ⟨P, Z', pz, hx⟩ := kit_of I q1 h1
        obtain ⟨its, rv, ⟨o, g1, g2, n, g3⟩, _⟩ := I.tuple t.sq
        have e3 := ClsV.all k1 rv
        subst e3
        obtain ⟨oc, od, dt, sl⟩ := o
        simp only at g2 g3
        subst g2 g3
        exact PySem.W.kia_tup Z' I.kIn pz g1 e hx fun tk => ⟨.bl b, H, I.tok tk, rfl, h.val m vr_bl⟩
      · exact h.elim
    · exact h.elim
  · exact h.elim
/-! ### of a list of ints, of truths -/
theorem ints_of {K : Kx} {ρ : List Addr} {H : Hp} : ∀ {xs : List PV} {us : List V} {is : List Int}, VRs K ρ H xs us → intsV xs = some is → us = is.map V.int
  | [], us, is, r, h => by
    cases h
    exact r.nil
  | x :: xs, us, is, r, h => by
    obtain ⟨u, ur, rfl, a, b⟩ := r.inv
    unfold intsV at h
    split at h
    · rename_i i
      split at h
      · rename_i js hj
        cases h
        rw [a.int_, ints_of b hj]
        rfl
      · cases h
    · cases h
theorem bls_of {K : Kx} {ρ : List Addr} {H : Hp} : ∀ {xs : List PV} {us : List V} {is : List Bool}, VRs K ρ H xs us → blsV xs = some is → us = is.map V.bl
  | [], us, is, r, h => by
    cases h
    exact r.nil
  | x :: xs, us, is, r, h => by
    obtain ⟨u, ur, rfl, a, b⟩ := r.inv
    unfold blsV at h
    split at h
    · rename_i i
      split at h
      · rename_i js hj
        cases h
        rw [a.bl_, bls_of b hj]
        rfl
      · cases h
    · cases h
theorem foldl_max : ∀ (is : List Int) (i m : Int), m ∈ i :: is → (∀ y ∈ i :: is, y ≤ m) → is.foldl max i = m
  | [], i, m, h, _ => (List.mem_singleton.mp h).symm
  | j :: is, i, m, h, hl => by
    rw [List.foldl_cons]
    refine foldl_max is (max i j) m ?_ fun y hy => ?_
    · have h1 := hl i (by simp)
      have h2 := hl j (by simp)
      rcases List.mem_cons.mp h with rfl | h
      · rw [Int.max_eq_left h2]; simp
      · rcases List.mem_cons.mp h with rfl | h
        · rw [Int.max_eq_right h1]; simp
        · exact List.mem_cons_of_mem _ h
    · rcases List.mem_cons.mp hy with rfl | hy
      · have h1 := hl i (by simp)
        have h2 := hl j (by simp)
        omega
      · exact hl y (by simp [hy])
theorem foldl_min : ∀ (is : List Int) (i m : Int), m ∈ i :: is → (∀ y ∈ i :: is, m ≤ y) → is.foldl min i = m
  | [], i, m, h, _ => (List.mem_singleton.mp h).symm
  | j :: is, i, m, h, hl => by
    rw [List.foldl_cons]
    refine foldl_min is (min i j) m ?_ fun y hy => ?_
    · have h1 := hl i (by simp)
      have h2 := hl j (by simp)
      rcases List.mem_cons.mp h with rfl | h
      · rw [Int.min_eq_left h2]; simp
      · rcases List.mem_cons.mp h with rfl | h
        · rw [Int.min_eq_right h1]; simp
        · exact List.mem_cons_of_mem _ h
    · rcases List.mem_cons.mp hy with rfl | hy
      · have h1 := hl i (by simp)
        have h2 := hl j (by simp)
        omega
      · exact hl y (by simp [hy])
theorem cr_max_ (hc : X.calm = true) : CallR X (.builtin "max") (rGn (kx X Z) .max) := by
  intro pins s σ H xs us Q I r h
  obtain ⟨M, ρ, as, m, ra, h⟩ := h
  unfold opn at h
  simp only at h
  split at h
  · obtain ⟨u, rfl, q⟩ := one_inv ra
    obtain ⟨p, ws, rfl, hw, rr⟩ := q.rol_
    split at h
    · rename_i i is hi
      have eu := ints_of rr hi
      subst eu
      exact cr_max hc pins s σ H _ us Q I r ⟨p, i :: is, rfl, hw.sq, by simp, fun k h1 h2 => by rw [← foldl_max is i k h1 h2]; exact h.val m vr_int⟩
    · exact h.elim
  · obtain ⟨u, rfl, q⟩ := one_inv ra
    obtain ⟨p, rfl, e⟩ := q.ref_
    split at h
    · rename_i xs hx
      obtain ⟨ws, hw, rr⟩ := m.lst hx e
      split at h
      · rename_i i is hi
        have eu := ints_of rr hi
        subst eu
        exact cr_max hc pins s σ H _ us Q I r ⟨p, i :: is, rfl, SqL.of hw, by simp, fun k h1 h2 => by rw [← foldl_max is i k h1 h2]; exact h.val m vr_int⟩
      · exact h.elim
    · exact h.elim
  · obtain ⟨u, v, rfl, r1, r2⟩ := two_inv ra
    cases r1.int_
    cases r2.int_
    exact call_max2 hc pins s σ H _ us Q I r ⟨_, _, rfl, h.val m vr_int⟩
  · exact h.elim
theorem cr_min_ (hc : X.calm = true) : CallR X (.builtin "min") (rGn (kx X Z) .min) := by
  intro pins s σ H xs us Q I r h
  obtain ⟨M, ρ, as, m, ra, h⟩ := h
  unfold opn at h
  simp only at h
  split at h
  · obtain ⟨u, rfl, q⟩ := one_inv ra
    obtain ⟨p, ws, rfl, hw, rr⟩ := q.rol_
    split at h
    · rename_i i is hi
      have eu := ints_of rr hi
      subst eu
      exact cr_min hc pins s σ H _ us Q I r ⟨p, i :: is, rfl, hw.sq, by simp, fun k h1 h2 => by rw [← foldl_min is i k h1 h2]; exact h.val m vr_int⟩
    · exact h.elim
  · obtain ⟨u, rfl, q⟩ := one_inv ra
    obtain ⟨p, rfl, e⟩ := q.ref_
    split at h
    · rename_i xs hx
      obtain ⟨ws, hw, rr⟩ := m.lst hx e
      split at h
      · rename_i i is hi
        have eu := ints_of rr hi
        subst eu
        exact cr_min hc pins s σ H _ us Q I r ⟨p, i :: is, rfl, SqL.of hw, by simp, fun k h1 h2 => by rw [← foldl_min is i k h1 h2]; exact h.val m vr_int⟩
      · exact h.elim
    · exact h.elim
  · obtain ⟨u, v, rfl, r1, r2⟩ := two_inv ra
    cases r1.int_
    cases r2.int_
    exact call_min2 hc pins s σ H _ us Q I r ⟨_, _, rfl, h.val m vr_int⟩
  · exact h.elim
theorem cr_sum_ (hc : X.calm = true) : CallR X (.builtin "sum") (rGn (kx X Z) .sum) := by
  intro pins s σ H xs us Q I r h
  obtain ⟨M, ρ, as, m, ra, h⟩ := h
  unfold opn at h
  simp only at h
  split at h
  · obtain ⟨u, rfl, q⟩ := one_inv ra
    obtain ⟨p, ws, rfl, hw, rr⟩ := q.rol_
    split at h
    · rename_i is hi
      have eu := ints_of rr hi
      subst eu
      exact cr_sum hc pins s σ H _ us Q I r ⟨p, is, rfl, hw.sq, h.val m vr_int⟩
    · exact h.elim
  · obtain ⟨u, rfl, q⟩ := one_inv ra
    obtain ⟨p, rfl, e⟩ := q.ref_
    split at h
    · rename_i xs hx
      obtain ⟨ws, hw, rr⟩ := m.lst hx e
      split at h
      · rename_i is hi
        have eu := ints_of rr hi
        subst eu
        exact cr_sum hc pins s σ H _ us Q I r ⟨p, is, rfl, SqL.of hw, h.val m vr_int⟩
      · exact h.elim
    · exact h.elim
  · exact h.elim
theorem cr_all_ (hc : X.calm = true) : CallR X (.builtin "all") (rGn (kx X Z) .all) := by
  intro pins s σ H xs us Q I r h
  obtain ⟨M, ρ, as, m, ra, h⟩ := h
  unfold opn at h
  simp only at h
  split at h
  · obtain ⟨u, rfl, q⟩ := one_inv ra
    obtain ⟨p, ws, rfl, hw, rr⟩ := q.rol_
    split at h
    · rename_i is hi
      have eu := bls_of rr hi
      subst eu
      exact cr_all hc pins s σ H _ us Q I r ⟨p, is, rfl, hw.sq, h.val m vr_bl⟩
    · exact h.elim
  · obtain ⟨u, rfl, q⟩ := one_inv ra
    obtain ⟨p, rfl, e⟩ := q.ref_
    split at h
    · rename_i xs hx
      obtain ⟨ws, hw, rr⟩ := m.lst hx e
      split at h
      · rename_i is hi
        have eu := bls_of rr hi
        subst eu
        exact cr_all hc pins s σ H _ us Q I r ⟨p, is, rfl, SqL.of hw, h.val m vr_bl⟩
      · exact h.elim
    · exact h.elim
  · exact h.elim
theorem cr_any_ (hc : X.calm = true) : CallR X (.builtin "any") (rGn (kx X Z) .any) := by
  intro pins s σ H xs us Q I r h
  obtain ⟨M, ρ, as, m, ra, h⟩ := h
  unfold opn at h
  simp only at h
  split at h
  · obtain ⟨u, rfl, q⟩ := one_inv ra
    obtain ⟨p, ws, rfl, hw, rr⟩ := q.rol_
    split at h
    · rename_i is hi
      have eu := bls_of rr hi
      subst eu
      exact cr_any hc pins s σ H _ us Q I r ⟨p, is, rfl, hw.sq, h.val m vr_bl⟩
    · exact h.elim
  · obtain ⟨u, rfl, q⟩ := one_inv ra
    obtain ⟨p, rfl, e⟩ := q.ref_
    split at h
    · rename_i xs hx
      obtain ⟨ws, hw, rr⟩ := m.lst hx e
      split at h
      · rename_i is hi
        have eu := bls_of rr hi
        subst eu
        exact cr_any hc pins s σ H _ us Q I r ⟨p, is, rfl, SqL.of hw, h.val m vr_bl⟩
      · exact h.elim
    · exact h.elim
  · exact h.elim
/-- d.get(k), d of the module -/
theorem mr_dget (hu : X.A.units + 1 < cLine) : MtR X "dict.get" (rGm (kx X Z) .dget) := by
  intro pins s σ H x xs v us Q I rx r h
  obtain ⟨M, ρ, a, as, m, ra, rs, h⟩ := h
  unfold opn at h
  simp only at h
  split at h
  · rename_i ks vs t e
    cases e
    obtain ⟨y, rfl, ry⟩ := one_inv rs
    obtain ⟨z, rfl, ez⟩ := ry.str_
    subst ez
    obtain ⟨p, ws, rfl, hk, rr⟩ := ra.rod_
    obtain ⟨es, n, D, hz⟩ := hk
    have hz := hz z
    obtain rfl : v = Value.ref p := rx
    obtain ⟨u1, rfl, ru⟩ := vals1 r
    obtain ⟨t, rfl⟩ := ru
    have hm := PySem.W.mapOf_K (prog := X.prog) (w := X.w) I.kIn D.at_ D.lit
    have fin : ∀ o : Option Value, PySem.W.nsIn X.K p z = some o → (∀ s', Inv X pins σ H s' → EP X pins σ Q (o.getD .none) s') → wpAny (model X.prog X.w) X.A (call (.builtin "dict.get") [.ref p, .str z t]) (EP X pins σ Q) X.xe s := fun o h1 h2 => by
      refine call_meetsIn PySem.F.slot_dict_get hm.typeIs PySem.F.entry_dict_get (PySem.F.args_dict_get_2 _ _) (meets_dict_get (PySem.strKind X.prog X.w) p (PySem.strKind_is X.prog X.w z t) D.low) ⟨_, hm, ?_⟩
      rw [PySem.W.find_K D.at_ h1]
      exact h2 _ (I.tok _)
    split at h
    · rename_i j hj
      rw [hj] at hz
      obtain ⟨u0, uv, h1, h2, h3⟩ := hz
      split at h
      · rename_i w hw
        obtain ⟨u1, hu1, r1⟩ := rr.get hw
        rw [h1] at hu1
        cases hu1
        exact fin (some uv) h2 fun s' I' => ⟨u0, H, I', h3, h.val m r1⟩
      · exact h.elim
    · rename_i hj
      rw [hj] at hz
      exact fin none hz fun s' I' => ⟨.non, H, I', rfl, h.val m vr_non⟩
  · rename_i n k0 e
    cases e
    obtain ⟨y, rfl, ry⟩ := one_inv rs
    obtain ⟨p, rfl, e1⟩ := ra.ref_
    split at h
    · rename_i kvs hx
      obtain ⟨us2, hus, rr, _⟩ := m.dic hx e1
      split at h
      · rename_i k hk
        obtain ⟨ek, _⟩ := ry.key hk
        obtain rfl : v = Value.ref p := rx
        obtain ⟨u1, rfl, ru⟩ := vals1 r
        have hv := rr.val k
        have g : DGet H p y (valV us2 (keyK k)) := by rw [ek]; exact DGet.k hus
        refine d_get1 hu I g ru fun w' s' I' rw' => ⟨_, H, I', rw', ?_⟩
        cases q : valP k kvs with
        | none => rw [q] at hv h; rw [hv]; exact h.val m vr_non
        | some w => rw [q] at hv h; obtain ⟨w0, h1, h2⟩ := hv; rw [h1]; exact h.val m h2
      · exact h.elim
    · exact h.elim
  · rename_i n k0 d0 e
    cases e
    obtain ⟨y, y2, rfl, ry, ry2⟩ := two_inv rs
    obtain ⟨p, rfl, e1⟩ := ra.ref_
    split at h
    · rename_i kvs hx
      obtain ⟨us2, hus, rr, _⟩ := m.dic hx e1
      split at h
      · rename_i k hk
        obtain ⟨ek, _⟩ := ry.key hk
        obtain rfl : v = Value.ref p := rx
        obtain ⟨u1, u2, rfl, ru, ru2⟩ := vals2 r
        have hv := rr.val k
        have g : DGet H p y (valV us2 (keyK k)) := by rw [ek]; exact DGet.k hus
        refine d_get2 hu I g ru ru2 fun w' s' I' rw' => ⟨_, H, I', rw', ?_⟩
        cases q : valP k kvs with
        | none => rw [q] at hv h; rw [hv]; exact h.val m ry2
        | some w => rw [q] at hv h; obtain ⟨w0, h1, h2⟩ := hv; rw [h1]; exact h.val m h2
      · exact h.elim
    · exact h.elim
  · exact h.elim
/-- dict(d): a copy -/
theorem cr_dict : CallR X (.type "dict") (rGn (kx X Z) .dict) := by
  intro pins s σ H xs us Q I r h
  obtain ⟨M, ρ, as, m, ra, h⟩ := h
  unfold opn at h
  simp only at h
  split at h
  · obtain ⟨u, rfl, q⟩ := one_inv ra
    obtain ⟨p, rfl, e⟩ := q.ref_
    split at h
    · rename_i kvs hx
      obtain ⟨ws, hw, rr, ok⟩ := m.dic hx e
      obtain ⟨u1, rfl, ru⟩ := vals1 r
      obtain rfl : u1 = Value.ref p := ru
      refine d_copyOf I (.inl hw) fun z s' hz I' => ⟨.ref z, _, I', rfl, ?_⟩
      exact h (ρ ++ [z]) _ (Fw.push hz) (m.pushC hz ⟨ws, rfl, rr, ok⟩) _ (vr_ref (by rw [← m.len]; simp))
    · exact h.elim
  · exact h.elim
theorem tru_of {K : Kx} {M : Mem} {ρ : List Addr} {H : Hp} {v : PV} {u : V} {b : Bool} (m : MemR K M ρ H) (r : VR K ρ H v u) (h : tru v M = some b) : TruV K.K u H b := by
  have ie : ∀ {xs : List PV} {us : List V}, VRs K ρ H xs us → us.isEmpty = xs.isEmpty := fun {xs us} r => by
    have := r.length
    cases xs <;> cases us <;> simp_all
  cases v
  case non => cases r.non_; cases h; rfl
  case bl => cases r.bl_; cases h; rfl
  case int => cases r.int_; cases h; rfl
  case str k =>
    obtain ⟨x, rfl, e⟩ := r.str_
    unfold tru at h
    simp only at h
    split at h
    · rename_i hl
      cases h
      refine ⟨by rw [str_len e]; exact Nat.le_trans hl lim_le, ?_⟩
      rw [str_len e, Bool.eq_iff_iff]
      simp
    · cases h
  case tup =>
    obtain ⟨p, us, rfl, t, rr⟩ := r.tup_
    cases h
    exact .inr (.inl ⟨us, t.sq, by rw [ie rr]⟩)
  case rol =>
    obtain ⟨p, us, rfl, t, rr⟩ := r.rol_
    cases h
    exact .inl ⟨us, t.sq, by rw [ie rr]⟩
  case ref n =>
    obtain ⟨p, rfl, e⟩ := r.ref_
    unfold tru at h
    simp only at h
    split at h
    · rename_i xs hx
      cases h
      obtain ⟨us, hu, rr⟩ := m.lst hx e
      exact .inl ⟨us, SqL.of hu, by rw [ie rr]⟩
    · rename_i kvs hx
      cases h
      obtain ⟨us, hu, rr, _⟩ := m.dic hx e
      refine .inr (.inr ⟨us, hu, ?_⟩)
      have := rr.length
      cases kvs <;> cases us <;> simp_all
    · cases h
  case obj => cases h
  case rod => cases h
  case ty => cases h
/-! ### op= -/
def rGi (K : Kx) (o : O2) : R2 := fun x y H Q => ∃ M ρ a b, MemR K M ρ H ∧ VR K ρ H a x ∧ VR K ρ H b y ∧ Pv K ρ H (iop o a b M) Q
theorem ior_add : OpR X (inplaceOp .Add) (rGi (kx X Z) .add) := by
  intro pins s σ H x y v u Q I rx ry h
  obtain ⟨M, ρ, a, b, m, ra, rb, h⟩ := h
  unfold iop op2 at h
  cases a <;> try exact h.elim
  case int i =>
    cases b <;> try exact h.elim
    cases ra.int_
    cases rb.int_
    exact iop_add pins s σ H _ _ _ _ Q I rx ry ⟨_, _, rfl, rfl, h.val m vr_int⟩
  case str s =>
    cases b <;> try exact h.elim
    have vv := vstr_app ra.vs rb.vs
    obtain ⟨x1, rfl, e1⟩ := ra.str_
    obtain ⟨x2, rfl, e2⟩ := rb.str_
    simp only at h
    split at h
    · rename_i hl
      refine iop_add_str pins _ σ H _ _ _ _ Q I rx ry ⟨x1, x2, rfl, rfl, ?_, h.val m (vr_str ?_ vv)⟩
      · rw [str_len e1, str_len e2]
        exact Nat.le_trans hl lim_le
      · show (x1.cps ++ x2.cps).toList = _
        rw [Array.toList_append, e1, e2]
    · exact h.elim
theorem ior_sub : OpR X (inplaceOp .Sub) (rGi (kx X Z) .sub) := by
  intro pins s σ H x y v u Q I rx ry h
  obtain ⟨M, ρ, a, b, m, ra, rb, h⟩ := h
  unfold iop op2 at h
  cases a <;> try exact h.elim
  cases b <;> try exact h.elim
  cases ra.int_
  cases rb.int_
  exact iop_sub pins s σ H _ _ _ _ Q I rx ry ⟨_, _, rfl, rfl, h.val m vr_int⟩
/-! ### an item by values, a store -/
theorem pget_idx (hu : X.A.units + 1 < cLine) : PGet X (fun x y H Q => ∃ M ρ n b, MemR (kx X Z) M ρ H ∧ VR (kx X Z) ρ H (.ref n) x ∧ VR (kx X Z) ρ H b y ∧ Pv (kx X Z) ρ H (op2 .idx (.ref n) b M) Q) := by
  intro pins s σ H x y v u Q I rx ry h
  obtain ⟨M, ρ, n, b, m, ra, rb, h⟩ := h
  unfold op2 at h
  cases b <;> try exact h.elim
  case str s' =>
    obtain ⟨p, rfl, e1⟩ := ra.ref_
    obtain rfl : v = Value.ref p := rx
    simp only at h
    split at h
    · rename_i kvs hx
      split at h
      · rename_i w hw
        obtain ⟨us, z, hus, hv, rz⟩ := dic_at m hx e1 hw
        have g : DGet H p y (some z) := by rw [(VR.key (k := .s s') rfl rb).1, ← hv]; exact DGet.k hus
        exact d_getItem hu I g ry fun w' s' I' rw' => ⟨z, H, I', rw', h.val m rz⟩
      · exact h.elim
    · exact h.elim
  case int i =>
  cases rb.int_
  obtain ⟨p, rfl, e1⟩ := ra.ref_
  simp only at h
  split at h
  · rename_i xs hx
    split at h
    · rename_i w hw
      obtain ⟨us, hul, r⟩ := m.lst hx e1
      obtain ⟨z, hz, rz⟩ := getI_ok r hw
      cases rx
      obtain ⟨t, rfl⟩ := ry
      obtain ⟨its, r2, pl, hsz⟩ := I.list (SqL.of hul)
      obtain ⟨j, h1, h2, h3, h4, h5⟩ := atI_get hz
      obtain ⟨w', ew, rw'⟩ := r2.get h2
      have hl := r2.length
      have hn := line63
      have fin : EP X pins σ Q w' s := ⟨z, H, I, rw', h.val m rz⟩
      by_cases h0 : 0 ≤ i
      · have hj : i.toNat = j := by
          rw [seqIndex_of h0 h5] at h1
          exact Option.some.inj h1
        exact wpAny_getItem_list pl.isList h0 (by omega) (by simpa [hj] using ew) fin
      · have hj : (i + (its.toArray.size : Int)).toNat = j := by
          unfold seqIndex? at h1
          simp only [List.size_toArray]
          rw [← hl]
          split at h1 <;> first | omega | skip
          all_goals (try (simp at h1; omega))
        exact wpAny_getItem_list_neg pl.isList (by omega) (by simp only [List.size_toArray]; omega) (by omega) (by rw [hj]; simpa using ew) fin
    · exact h.elim
  · rename_i kvs hx
    obtain rfl : v = Value.ref p := rx
    split at h
    · rename_i w hw
      obtain ⟨us, z, hus, hv, rz⟩ := dic_at m hx e1 hw
      have g : DGet H p (.int i) (some z) := by rw [← hv]; exact DGet.k (k := .inl i) hus
      exact d_getItem hu I g ry fun w' s' I' rw' => ⟨z, H, I', rw', h.val m rz⟩
    · exact h.elim
  · exact h.elim
/-- v[i] = x by what it leaves -/
def sG (K : Kx) : TSet := fun o i v H Q => ∃ M ρ a b c, MemR K M ρ H ∧ VR K ρ H a o ∧ VR K ρ H b i ∧ VR K ρ H c v ∧ match setL a b c M with
  | some M' => ∀ H', Fw ρ ρ H H' → MemR K M' ρ H' → Q H'
  | none => False
theorem dic_put (hu : X.A.units + 1 < cLine) {pins : List (Addr × Obj)} {s : Shared} {σ : L2.St} {H : Hp} {M : Mem} {ρ : List Addr} {n : Nat} {kvs : List (PK × PV)} {p : Addr} {b c : PV} {k : PK} {i v : V} {iv u : Value} {Q : Hp → Prop} (I : Inv X pins σ H s) (m : MemR (kx X Z) M ρ H) (hx : M[n]? = some (.dic kvs)) (e1 : ρ[n]? = some p)
    (ri : RelV i iv) (rv : RelV v u) (hk : keyP b = some k) (rb : VR (kx X Z) ρ H b i) (rc : VR (kx X Z) ρ H c v) (hl : kvs.length < lim) (h : ∀ H', Fw ρ ρ H H' → MemR (kx X Z) (M.set n (.dic (putP k c kvs))) ρ H' → Q H') :
    wpAny (model X.prog X.w) X.A (setItem (.ref p) iv u) (fun _ s' => ∃ H', Inv X pins σ H' s' ∧ Q H') X.xe s := by
  obtain ⟨us, hus, rr, ok⟩ := m.dic hx e1
  obtain ⟨ek, hok⟩ := rb.key hk
  have f : Fw ρ ρ H (upd H p (.dK (putK us (keyK k) v))) := Fw.write (List.mem_of_getElem? e1)
  refine d_setItem hu I (by rw [ek]; exact DPut.k hus (by rw [rr.length]; exact lim_lt hl)) ri rv fun s' I' => ⟨_, I', h _ f (m.writeC e1 ?_)⟩
  exact ⟨_, rfl, rr.put ok.1 rc, ok.put hok⟩
theorem pset_lst (hu : X.A.units + 1 < cLine) : PSet X (sG (kx X Z)) := by
  intro pins s σ H o i v ov iv u Q I ro ri rv h
  obtain ⟨M, ρ, a, b, c, m, ra, rb, rc, h⟩ := h
  cases a <;> try exact h.elim
  case ref n =>
  cases b <;> try exact h.elim
  case str k =>
    obtain ⟨p, rfl, e1⟩ := ra.ref_
    obtain rfl : ov = Value.ref p := ro
    unfold setL at h
    simp only at h
    cases hx : M[n]? with
    | none => simp [hx] at h
    | some cl =>
      cases cl with
      | lst _ => simp [hx] at h
      | ins _ _ _ => simp [hx] at h
      | dic kvs =>
        simp only [hx] at h
        by_cases hl : kvs.length < lim
        · rw [if_pos hl] at h
          exact dic_put hu I m hx e1 ri rv rfl rb rc hl h
        · rw [if_neg hl] at h
          exact h.elim
  case int k =>
  obtain ⟨p, rfl, e1⟩ := ra.ref_
  cases rb.int_
  unfold setL at h
  simp only at h
  cases hx : M[n]? with
  | none => simp [hx] at h
  | some cl =>
    cases cl with
    | dic kvs =>
      obtain rfl : ov = Value.ref p := ro
      simp only [hx] at h
      by_cases hl : kvs.length < lim
      · rw [if_pos hl] at h
        exact dic_put hu I m hx e1 ri rv (b := .int k) rfl vr_int rc hl h
      · rw [if_neg hl] at h
        exact h.elim
    | ins _ _ => simp [hx] at h
    | lst xs =>
      simp only [hx] at h
      cases hj : ixP xs.length k with
      | none => simp [hj] at h
      | some j =>
        simp only [hj] at h
        obtain ⟨us, hul, r⟩ := m.lst hx e1
        refine set_list pins s σ H _ _ _ _ _ _ Q I ro ri rv ⟨p, us, k, j, rfl, rfl, hul, ?_, ?_⟩
        · rw [← ixP_eq, r.length]
          exact hj
        · exact h _ (Fw.write (List.mem_of_getElem? e1)) (m.write e1 (VRs.set j rc r))
end
end HP

set_option Elab.async false
set_option linter.all false
set_option autoImplicit false
set_option maxRecDepth 100000
set_option maxHeartbeats 4000000
/-! xs.remove(x), by own ==. -/
namespace HPQ
open PySem PySem.SeqAt PySem.Calls
open GQ (FinOf)
open AutoSeq1 (wpAny_loadPart')
open MeetsSeq MeetsSeq2 MeetsSeq3 SeqRoads2
section
variable {prog : Program} {w : World} {A : Around} {R : Result → Shared → Prop}
theorem remove_loopB (l : Addr) (x : Value) (N : Nat) (e : Nat → Bool) (I : Nat → Shared → Prop) (hl : ListC prog w A (fun e s' => R (.error e) s') l x N e I) (j : Nat) (hj : j < N) (hit : e j = true) (hN : N ≤ sizeLine)
    (fin : ∀ s items n sl, I (j + 1) s → s.heap.get? l = some { cls := .type "list", dict := none, data := .seq items n, slots := sl } → items.size = N → R (.ok (.ret .none)) { s with heap := s.heap.update l (Obj.mapSeq fun xs => xs.eraseIdxIfInBounds j) }) (k : Nat) :
    ∀ i : Nat, j - i = k → i ≤ j → (∀ m, i ≤ m → m < j → e m = false) → ∀ s, I i s →
      wpAny (model prog w) A.in1 (Builtin.«list.remove.loop» ⟨[.ref l, x, rawInt i], []⟩) (FinOf prog w A R) (fun e s' => R (.error e) s') s := by
  induction k with
  | zero =>
    intro i hk hi hno s h
    have hij : i = j := by omega
    subst hij
    obtain ⟨items, n, sl, hl1, hs1, turn⟩ := hl _ _ h
    have hlt : i < items.size := by omega
    have ht := turn hlt
    obtain ⟨hp, g, d, tk, os⟩ := s
    wp_walk using wpAny_loadPart' hl1
    have hi1 : items[((i : Nat) : Int).toNat]? = some items[i] := by simp [hlt]
    rw [hi1]
    refine wpAny_bind (wpAny_mono ht (fun r s2 h2 => ?_) fun _ _ x => x)
    obtain ⟨hr, h2⟩ := h2
    subst hr
    rw [hit]
    obtain ⟨items2, n2, sl2, hl2, hs2, _⟩ := hl _ _ h2
    have hR := fin _ _ _ _ h2 hl2 hs2
    have hs1' : items2.size ≤ sizeLine := by omega
    have hz' : (items2.eraseIdxIfInBounds i).size ≤ sizeLine + 1 := Nat.le_trans (size_erased items2 _) (Nat.le_succ_of_le hs1')
    obtain ⟨hp2, g2, d2, tk2, os2⟩ := s2
    wp_walk using (wpAny_updateSeq hl2 rfl (hz := hs1') (_hz' := hz')), wpAny_loadPart' hl2
    simpa using hR
  | succ k ih =>
    intro i hk hi hno s h
    obtain ⟨items, n, sl, hl1, hs1, turn⟩ := hl _ _ h
    have hlt : i < items.size := by omega
    have ht := turn hlt
    obtain ⟨hp, g, d, tk, os⟩ := s
    wp_walk using wpAny_loadPart' hl1
    have hi1 : items[((i : Nat) : Int).toNat]? = some items[i] := by simp [hlt]
    have hc : ((i : Int) + 1) = ((i + 1 : Nat) : Int) := by omega
    rw [hi1]
    refine wpAny_bind (wpAny_mono ht (fun r s2 h2 => ?_) fun _ _ x => x)
    obtain ⟨hr, h2⟩ := h2
    subst hr
    rw [hno i (Nat.le_refl _) (by omega)]
    have hrec := ih (i + 1) (by omega) (by omega) (fun m h1 h2 => hno m (by omega) h2) s2 h2
    obtain ⟨hp2, g2, d2, tk2, os2⟩ := s2
    wp_walk
    rw [hc]
    exact ⟨plainId_quiet plain_remove_loop _, codeAny_builtin entry_remove_loop (by
      rw [Around.under_plainId plain_remove_loop _]
      exact hrec)⟩
theorem list_removeB (l : Addr) (x : Value) (N : Nat) (e : Nat → Bool) (I : Nat → Shared → Prop) (hl : ListC prog w A (fun e s' => R (.error e) s') l x N e I) (j : Nat) (hj : j < N) (hit : e j = true) (hno : ∀ m, m < j → e m = false) (hN : N ≤ sizeLine)
    (fin : ∀ s items n sl, I (j + 1) s → s.heap.get? l = some { cls := .type "list", dict := none, data := .seq items n, slots := sl } → items.size = N → R (.ok (.ret .none)) { s with heap := s.heap.update l (Obj.mapSeq fun xs => xs.eraseIdxIfInBounds j) })
    {s : Shared} (h : I 0 s) : wpAny (model prog w) A.in1 (Builtin.«list.remove» ⟨[.ref l, x], []⟩) (FinOf prog w A R) (fun e s' => R (.error e) s') s := by
  have hrec := remove_loopB (A := A) (R := R) l x N e I hl j hj hit hN fin _ 0 rfl (Nat.zero_le _) (fun m _ h2 => hno m h2) s h
  obtain ⟨items, n, sl, hl1, hs1, _⟩ := hl _ _ h
  obtain ⟨hp, g, d, tk, os⟩ := s
  wp_walk using wpAny_loadPart' hl1
  exact ⟨plainId_quiet plain_remove_loop _, codeAny_builtin entry_remove_loop (by
    rw [Around.under_plainId plain_remove_loop _]
    exact hrec)⟩
end
end HPQ
namespace HP
open PySem L2
section
variable {X : Cx} {Z : Zx} {k : Nat}
theorem rem_at (h : EqB X Z k) {A : Around} {pins : List (Addr × Obj)} {s : Shared} {σ : St} {H : Hp} {x : V} {u : Value} {a : Addr} {us : List V} {d : PD} {ds : List PD} {j : Nat} (sb : Sub X (2 * k + 1) A) (I : L2.Inv X pins σ H s) (rx : RelV x u) (hd : DR (kx X Z) H k x d)
    (hH : H a = some (.lst us)) (p : Paired (DR (kx X Z) H k) us ds) (hj : ds.findIdx? (fun z => eqD z d) = some j) :
    wpAny (model X.prog X.w) A (call (.builtin "list.remove") [.ref a, u]) (fun r s' => r = .none ∧ ∃ H1, Ext H H1 ∧ L2.Inv X pins σ (upd H1 a (.lst (us.eraseIdx j))) s') X.xe s := by
  have L0 : LoopI X pins σ H s := ⟨H, I, Ext.rfl'⟩
  have l1 := p.length
  have hs : SqL X.K H a us := SqL.of hH
  have turn : ∀ {its : List Value} (r : Vals us its) (i : Nat) (h1 : i < its.toArray.size) (s' : Shared), LoopI X pins σ H s' → wpAny (model X.prog X.w) A.in1 (eqBool its.toArray[i] u) (fun r s2 => r = eqD (ndD ds i) d ∧ LoopI X pins σ H s2) X.xe s' := by
    intro its r i h1 s' l
    obtain ⟨H1, I1, e1⟩ := l
    have h1' : i < its.length := by simpa using h1
    have k1 : i < us.length := by rw [r.length]; exact h1'
    have m1 : i < ds.length := by rw [← l1]; exact k1
    obtain ⟨w, hw, rw'⟩ := r.get (List.getElem?_eq_getElem k1)
    have g1 : its[i]? = some its.toArray[i] := by rw [List.getElem?_eq_getElem h1'] <;> simp
    rw [g1] at hw
    rw [Option.some.inj hw]
    have q1 := Paired.get p (List.getElem?_eq_getElem k1) (List.getElem?_eq_getElem m1)
    have hq : ndD ds i = ds[i] := by simp [ndD, List.getD_eq_getElem?_getD, m1]
    rw [hq]
    refine wpAny_mono (h A.in1 pins s' σ H1 _ _ w u _ _ sb.in1 I1 rw' rx (q1.ext e1) (hd.ext e1)) (fun r s2 q => ?_) fun _ _ x => x
    obtain ⟨hr, H2, I2, e2⟩ := q
    exact ⟨hr, H2, I2, e1.trans e2⟩
  obtain ⟨hjl, hjt, hjn⟩ := List.findIdx?_eq_some_iff_getElem.mp hj
  obtain ⟨its0, r0, ⟨⟨c0, d0, dt0, sl0⟩, n0, g0, c0', d0', t0⟩, _⟩ := I.list hs
  simp only at c0' d0' t0
  subst c0' d0' t0
  have hT : s.TypeIs (.ref a) "list" := ⟨_, g0, rfl⟩
  have lc : HPQ.ListC X.prog X.w A X.xe a u ds.length (fun i => eqD (ndD ds i) d) (fun _ s' => LoopI X pins σ H s') := by
    intro i s' q
    obtain ⟨H1, I1, e1⟩ := id q
    obtain ⟨its, r, ⟨⟨c1, d1, dt1, sl1⟩, n1, g1, c1', d1', t1⟩, _⟩ := I1.list (hs.ext e1)
    simp only at c1' d1' t1
    subst c1' d1' t1
    have l3 := r.length
    exact ⟨its.toArray, n1, sl1, g1, by simp; omega, fun h1 => turn r i h1 s' q⟩
  obtain ⟨zz, _, _, rz, hzl, _⟩ := I.lstM hH
  refine GQ.call_here F.slot_list_remove hT F.entry_list_remove (F.args_list_remove_2 _ _) ?_
  refine HPQ.list_removeB (R := wants _ X.xe) a u ds.length _ _ lc j hjl (by simpa [ndD, List.getD_eq_getElem?_getD, hjl] using hjt) (fun m hm => ?_) (by rw [← l1]; exact zz) (fun s' items n sl q e2 hs2 => ?_) L0
  · have hml : m < ds.length := by omega
    have := hjn m hm
    simpa [ndD, List.getD_eq_getElem?_getD, hml] using this
  · obtain ⟨H1, I1, e1⟩ := q
    have hH1 : H1 a = some (.lst us) := e1 a _ hH
    obtain ⟨z, its, n2, r, hl, e⟩ := I1.lstM hH1
    refine ⟨rfl, H1, e1, I1.lset (its' := its.eraseIdx j) (t' := s'.toks) hH1 e ?_ (r.eraseIdx j) ?_⟩
    · show its.toArray.eraseIdxIfInBounds j = (its.eraseIdx j).toArray
      rw [List.eraseIdxIfInBounds_toArray]
    · exact Nat.le_trans (List.length_eraseIdx_le _ _) z
theorem mr_remove (EF : EqF X Z) (hrm : Room 181 X.A) : MtM X "list.remove" (rGm (kx X Z) .remove) := by
  intro pins s σ H x xs v us Q I rx r h
  obtain ⟨M, ρ, a, as, m, ra, rs, h⟩ := h
  unfold opn at h
  simp only at h
  split at h
  · rename_i n v0 e
    cases e
    obtain ⟨y, rfl, ry⟩ := one_inv rs
    obtain ⟨p, rfl, e⟩ := ra.ref_
    split at h
    · rename_i ys hy
      split at h
      · rename_i d hd
        split at h
        · rename_i ds hds
          split at h
          · rename_i j hj
            obtain ⟨ws, hws, rr⟩ := m.lst hy e
            obtain ⟨u0, rfl, ru⟩ := r.one
            cases (show v = Value.ref p from rx)
            have hd' := toD_DR EF.inj m 90 v0 y d ry hd
            have hds' := paired_of (M := M) (toD_DR EF.inj m 90) rr hds
            refine wpAny_mono (rem_at (EqB.of EF.e) (A := X.A) ⟨hrm, rfl⟩ I ru hd' hws hds' hj) (fun r s' z => ?_) fun _ _ z => z
            obtain ⟨rfl, H1, e1, I1⟩ := z
            have m1 := m.ext e1
            have f : Fw ρ ρ H (upd H1 p (.lst (ws.eraseIdx j))) := (ext_fw e1).trans (Fw.write (List.mem_of_getElem? e))
            exact ⟨.non, _, I1, rfl, h ρ _ f (m1.write e ((rr.mono m.own (ext_fw e1)).eraseIdx j)) _ vr_non⟩
          · exact h.elim
        · exact h.elim
      · exact h.elim
    · exact h.elim
  · exact h.elim
end
end HP

set_option Elab.async false
set_option linter.all false
set_option autoImplicit false
set_option maxRecDepth 100000
set_option maxHeartbeats 4000000
/-! A body's text, read into plain form; what its plain form comes to is what the layer's judgements say. -/
namespace HP
open PySem L2

/-! ### no operation raises -/
theorem op2_noexc {o : O2} {a b : PV} {M M' : Mem} {c : Nat} : op2 o a b M ≠ .exc c M' := by
  intro h
  unfold op2 at h
  cases o <;> (repeat' (first | (simp only at h; done) | (split at h) | (cases h; done)))
theorem iop_noexc {o : O2} {a b : PV} {M M' : Mem} {c : Nat} : iop o a b M ≠ .exc c M' := by
  intro h
  unfold iop at h
  cases o <;> simp only at h <;> (repeat' (first | exact op2_noexc h | (split at h) | (cases h; done)))
theorem op1_noexc {o : O1} {a : PV} {M M' : Mem} {c : Nat} : op1 o a M ≠ .exc c M' := by
  intro h
  unfold op1 at h
  cases o <;> (repeat' (first | (simp only at h; done) | (split at h) | (cases h; done)))
theorem opn_noexc {o : On} {as : List PV} {M M' : Mem} {c : Nat} : opn o as M ≠ .exc c M' := by
  intro h
  unfold opn at h
  cases o <;> (repeat' (first | (simp only at h; done) | (split at h) | (cases h; done)))
theorem Pv.of {K : Kx} {W : XW} {σ : St} {ρ : List Addr} {H : Hp} {r : Res PV} {Q : VK} (h : Ps K W σ ρ H r fun v _ ρ' H' => ∀ u, VR K ρ' H' v u → Q u H') (n : ∀ c M', r ≠ .exc c M') : Pv K ρ H r Q := by
  cases r with
  | ok v M => exact h
  | exc c M => exact absurd rfl (n c M)
  | fail => exact h

/-! ### the parts of an expression, from the left -/
section
variable {K : Kx} {W : XW} {σ : St} {H : Hp} {Q : VK} {w : Wd}
/-- a value with what stands behind it -/
theorem T1.go {m : Env → Mem → Res PV} {env : Env} {M : Mem} {ρ : List Addr} (e : EnvR K ρ H env σ) (mm : MemR K M ρ H) (h : Ps K W σ ρ H (m env M) fun v M' ρ' H' => Fw ρ ρ' H H' → EnvR K ρ' H' env σ → MemR K M' ρ' H' → ∀ u, VR K ρ' H' v u → Q u H') : T1 K W m σ H Q :=
  ⟨env, M, ρ, e, mm, h.imp fun v M' ρ' H' f m' q u r => q f (e.mono mm.own f) m' u r⟩
end

section
variable {X : Cx} {Z : Zx} {W : XW} {w : Wd} {a b c : Expr} {ia ib ic : E} {pos : Pos}
theorem s_op2 {op : Operator} {o : O2} (hop : OpR X (binaryOp op) (rG (kx X Z) o)) (ha : PE X a (T1 (kx X Z) W (evE w ia))) (hb : PE X b (T1 (kx X Z) W (evE w ib))) : PE X (.BinOp a op b pos) (T1 (kx X Z) W (evE w (.op2 o ia ib))) := by
  refine PE.imp (pe_op hop ha hb) fun σ H Q h => ?_
  obtain ⟨env, M, ρ, e, m, p⟩ := h
  simp only [evE] at p
  refine T1.go e m (p.bind.imp fun x M1 ρ1 H1 f1 m1 q _ e1 _ u ru => ?_)
  refine T1.go e1 m1 (q.bind.imp fun y M2 ρ2 H2 f2 m2 q2 _ e2 _ u2 ru2 => ?_)
  exact ⟨M2, ρ2, x, y, m2, ru.mono m1.own f2, ru2, Pv.of q2 fun _ _ => op2_noexc⟩
theorem s_cmp {op : CmpOp} {o : O2} (hop : OpR X (compareOp op) (rG (kx X Z) o)) (hm : behindInMarks op b = false) (ha : PE X a (T1 (kx X Z) W (evE w ia))) (hb : PE X b (T1 (kx X Z) W (evE w ib))) : PE X (.Compare a [op] [b] pos) (T1 (kx X Z) W (evE w (.op2 o ia ib))) := by
  refine PE.imp (pe_cmpR hop ha hb hm) fun σ H Q h => ?_
  obtain ⟨env, M, ρ, e, m, p⟩ := h
  simp only [evE] at p
  refine T1.go e m (p.bind.imp fun x M1 ρ1 H1 f1 m1 q _ e1 _ u ru => ?_)
  refine T1.go e1 m1 (q.bind.imp fun y M2 ρ2 H2 f2 m2 q2 _ e2 _ u2 ru2 => ?_)
  exact ⟨M2, ρ2, x, y, m2, ru.mono m1.own f2, ru2, Pv.of q2 fun _ _ => op2_noexc⟩
theorem s_idx (hu : X.A.units + 1 < cLine) (hs : PlainIx b) (ha : PE X a (T1 (kx X Z) W (evE w ia))) (hb : PE X b (T1 (kx X Z) W (evE w ib))) : PE X (.Subscript a b pos) (T1 (kx X Z) W (evE w (.op2 .idx ia ib))) := by
  refine PE.imp (pe_ix (ixr_idx (Z := Z) hu) ha hb hs) fun σ H Q h => ?_
  obtain ⟨env, M, ρ, e, m, p⟩ := h
  simp only [evE] at p
  refine T1.go e m (p.bind.imp fun x M1 ρ1 H1 f1 m1 q _ e1 _ u ru => ?_)
  refine T1.go e1 m1 (q.bind.imp fun y M2 ρ2 H2 f2 m2 q2 _ e2 _ u2 ru2 => ?_)
  exact ⟨M2, ρ2, x, y, m2, ru.mono m1.own f2, ru2, Pv.of q2 fun _ _ => op2_noexc⟩
theorem s_op1 {op : UnaryOp} {o : O1} (hop : UnR X (unaryOp op) (rG1 (kx X Z) o)) (ha : PE X a (T1 (kx X Z) W (evE w ia))) : PE X (.UnaryOp op a pos) (T1 (kx X Z) W (evE w (.op1 o ia))) := by
  refine PE.imp (pe_un hop ha) fun σ H Q h => ?_
  obtain ⟨env, M, ρ, e, m, p⟩ := h
  simp only [evE] at p
  refine T1.go e m (p.bind.imp fun x M1 ρ1 H1 f1 m1 q _ e1 _ u ru => ?_)
  exact ⟨M1, ρ1, x, m1, ru, Pv.of q fun _ _ => op1_noexc⟩
theorem s_not (ha : PE X a (T1 (kx X Z) W (evE w ia))) : PE X (.UnaryOp .Not a pos) (T1 (kx X Z) W (evE w (.nott ia))) := by
  refine PE.imp (pe_notT ha) fun σ H Q h => ?_
  obtain ⟨env, M, ρ, e, m, p⟩ := h
  simp only [evE] at p
  refine T1.go e m (p.bind.imp fun x M1 ρ1 H1 f1 m1 q _ e1 _ u ru => ?_)
  split at q
  · rename_i k hk
    exact ⟨k, tru_of m1 ru hk, q.here m1 _ vr_bl⟩
  · exact q.elim
theorem s_var {i : Nat} {x : Str} (hN : X.N[i]? = some x) (hv : Vis X.env.scope x) (hd : (x == ("__debug__" : Str)) = false) (hcd : (x == ("__classdict__" : Str)) = false) : PE X (.Name x pos) (T1 (kx X Z) W (evE w (.var i))) := by
  refine PE.imp (pe_var hN hv hd hcd) fun σ H Q h => ?_
  obtain ⟨env, M, ρ, e, m, p⟩ := h
  simp only [evE] at p
  split at p
  · rename_i v hv
    obtain ⟨u, e1, r⟩ := e.val i v hv
    exact ⟨u, e1, p.here m _ r⟩
  · exact p.elim
theorem s_int {i : Int} {j : Nat} : PE X (.Constant (.int i) j pos) (T1 (kx X Z) W (evE w (.lit (.int i)))) := by
  refine PE.imp pe_int fun σ H Q h => ?_
  obtain ⟨env, M, ρ, e, m, p⟩ := h
  simp only [evE] at p
  exact p.here m _ vr_int
theorem s_bl {i : Bool} {j : Nat} : PE X (.Constant (.bool i) j pos) (T1 (kx X Z) W (evE w (.lit (.bl i)))) := by
  refine PE.imp pe_bl fun σ H Q h => ?_
  obtain ⟨env, M, ρ, e, m, p⟩ := h
  simp only [evE] at p
  exact p.here m _ vr_bl
theorem s_non {j : Nat} : PE X (.Constant .none j pos) (T1 (kx X Z) W (evE w (.lit .non))) := by
  refine PE.imp pe_non fun σ H Q h => ?_
  obtain ⟨env, M, ρ, e, m, p⟩ := h
  simp only [evE] at p
  exact p.here m _ vr_non
theorem s_ty {x : Str} {T : Ty} (ht : x = tyS T) (hT : ∀ c, T ≠ .own c) (hg : Gl X x) (hm : X.mg x = none) (hv : bootBuiltins x = some (.type (tyS T))) (hn : x ≠ "__name__") (hd : (x == ("__debug__" : Str)) = false) : PE X (.Name x pos) (T1 (kx X Z) W (evE w (.lit (.ty T)))) := by
  refine PE.imp (pe_bltn (v := .ty (tyS T)) hg hm hv rfl hn hd) fun σ H Q h => ?_
  obtain ⟨env, M, ρ, e, m, p⟩ := h
  simp only [evE] at p
  refine p.here m _ ?_
  unfold VR
  cases T <;> first | rfl | exact absurd rfl (hT _)
theorem s_str {x : Str} {j : Nat} (hv : vstr x.cps.toList = true) : PE X (.Constant (.str x) j pos) (T1 (kx X Z) W (evE w (.lit (.str x.cps.toList)))) := by
  refine PE.imp pe_str fun σ H Q h => ?_
  obtain ⟨env, M, ρ, e, m, p⟩ := h
  simp only [evE] at p
  exact p.here m _ (vr_str rfl hv)
/-- a constant of the module -/
theorem s_glob {g : Nat} {x : Str} {v : PV} {u : V} {uv : Value} (hg : Gl X x) (hm : X.mg x = some uv) (r : RelV u uv) (hw : w.glob g = some v) (hv : ∀ ρ H, VR (kx X Z) ρ H v u) (hd : (x == ("__debug__" : Str)) = false) : PE X (.Name x pos) (T1 (kx X Z) W (evE w (.glob g))) := by
  refine PE.imp (pe_glob hg hm r hd) fun σ H Q h => ?_
  obtain ⟨env, M, ρ, e, m, p⟩ := h
  simp only [evE, hw] at p
  exact p.here m _ (hv ρ H)
theorem s_and {rest : List Expr} (ha : PE X a (T1 (kx X Z) W (evE w ia))) (hb : PE X (.BoolOp .And (b :: rest) pos) (T1 (kx X Z) W (evE w ib))) : PE X (.BoolOp .And (a :: b :: rest) pos) (T1 (kx X Z) W (evE w (.and ia ib))) := by
  refine PE.imp (pe_andT ha hb) fun σ H Q h => ?_
  obtain ⟨env, M, ρ, e, m, p⟩ := h
  simp only [evE] at p
  refine T1.go e m (p.bind.imp fun x M1 ρ1 H1 f1 m1 q _ e1 _ u ru => ?_)
  split at q
  · rename_i k hk
    refine ⟨k, tru_of m1 ru hk, ?_⟩
    cases k with
    | true => exact ⟨env, M1, ρ1, e1, m1, q⟩
    | false => exact q.here m1 _ ru
  · exact q.elim
theorem s_or {rest : List Expr} (ha : PE X a (T1 (kx X Z) W (evE w ia))) (hb : PE X (.BoolOp .Or (b :: rest) pos) (T1 (kx X Z) W (evE w ib))) : PE X (.BoolOp .Or (a :: b :: rest) pos) (T1 (kx X Z) W (evE w (.or ia ib))) := by
  refine PE.imp (pe_orT ha hb) fun σ H Q h => ?_
  obtain ⟨env, M, ρ, e, m, p⟩ := h
  simp only [evE] at p
  refine T1.go e m (p.bind.imp fun x M1 ρ1 H1 f1 m1 q _ e1 _ u ru => ?_)
  split at q
  · rename_i k hk
    refine ⟨k, tru_of m1 ru hk, ?_⟩
    cases k with
    | true => exact q.here m1 _ ru
    | false => exact ⟨env, M1, ρ1, e1, m1, q⟩
  · exact q.elim
theorem s_one {op : BoolOp} (ha : PE X a (T1 (kx X Z) W (evE w ia))) : PE X (.BoolOp op [a] pos) (T1 (kx X Z) W (evE w ia)) := pe_one ha
theorem s_chain {op op' : CmpOp} {o p : O2} (ho : OpR X (compareOp op) (rG (kx X Z) o)) (ho' : OpR X (compareOp op') (rG (kx X Z) p)) (hm : behindInMarks op' c = false) (ha : PE X a (T1 (kx X Z) W (evE w ia))) (hb : PE X b (T1 (kx X Z) W (evE w ib))) (hc : PE X c (T1 (kx X Z) W (evE w ic))) :
    PE X (.Compare a [op, op'] [b, c] pos) (T1 (kx X Z) W (evE w (.chain o p ia ib ic))) := by
  refine PE.imp (pe_chain ho ho' ha hb hc hm) fun σ H Q h => ?_
  obtain ⟨env, M, ρ, e, m, p⟩ := h
  simp only [evE] at p
  refine T1.go e m (p.bind.imp fun x M1 ρ1 H1 f1 m1 q _ e1 _ u ru => ?_)
  refine T1.go e1 m1 (q.bind.imp fun y M2 ρ2 H2 f2 m2 q2 _ e2 _ u2 ru2 => ?_)
  refine ⟨M2, ρ2, x, y, m2, ru.mono m1.own f2, ru2, Pv.of (q2.bind.imp fun r M3 ρ3 H3 f3 m3 q3 z rz => ?_) fun _ _ => op2_noexc⟩
  split at q3
  · rename_i k
    cases rz.bl_
    refine ⟨k, rfl, ?_⟩
    cases k with
    | true =>
      refine T1.go (e2.mono m2.own f3) m3 (q3.bind.imp fun z M4 ρ4 H4 f4 m4 q4 _ e4 _ u4 ru4 => ?_)
      exact ⟨M4, ρ4, y, z, m4, (ru2.mono m2.own f3).mono m3.own f4, ru4, Pv.of q4 fun _ _ => op2_noexc⟩
    | false => exact q3.here m3 _ vr_bl
  · exact q3.elim
theorem s_ife {t : T} {tst : Expr} (ht : PT X tst (Tb (kx X Z) W (evT w t))) (ha : PE X a (T1 (kx X Z) W (evE w ia))) (hb : PE X b (T1 (kx X Z) W (evE w ib))) : PE X (.IfExp tst a b pos) (T1 (kx X Z) W (evE w (.ife t ia ib))) := by
  refine PE.imp (pe_ifExp ht ha hb) fun σ H Q h => ?_
  obtain ⟨env, M, ρ, e, m, p⟩ := h
  simp only [evE] at p
  refine ⟨env, M, ρ, e, m, p.bind.imp fun k M1 ρ1 H1 f1 m1 q => ?_⟩
  cases k with
  | true => exact ⟨env, M1, ρ1, e.mono m.own f1, m1, q⟩
  | false => exact ⟨env, M1, ρ1, e.mono m.own f1, m1, q⟩
end

/-! ### lists of expressions -/
section
variable {X : Cx} {Z : Zx} {W : XW} {w : Wd} {a : Expr} {es : List Expr} {ia : E} {is : List E} {pos : Pos}
theorem sn_nil : PA X [] (Tn (kx X Z) W (evEs w [])) := by
  refine PA.imp pa_nil fun σ H Q h => ?_
  obtain ⟨env, M, ρ, e, m, p⟩ := h
  simp only [evEs] at p
  exact p.here m _ vrs_nil
theorem sn_cons (ha : PE X a (T1 (kx X Z) W (evE w ia))) (hs : PA X es (Tn (kx X Z) W (evEs w is))) (he : starEach (a :: es) X.env = (false, eval a X.env) :: starEach es X.env) : PA X (a :: es) (Tn (kx X Z) W (evEs w (ia :: is))) := by
  refine PA.imp (pa_cons ha hs he) fun σ H Q h => ?_
  obtain ⟨env, M, ρ, e, m, p⟩ := h
  simp only [evEs] at p
  refine T1.go e m (p.bind.imp fun x M1 ρ1 H1 f1 m1 q _ e1 _ u ru => ?_)
  refine ⟨env, M1, ρ1, e1, m1, q.bind.imp fun xs M2 ρ2 H2 f2 m2 q2 us rus => ?_⟩
  exact q2.here m2 _ (vrs_cons (ru.mono m1.own f2) rus)
theorem s_tup {k : Nat} (hs : PA X es (Tn (kx X Z) W (evEs w is))) : PE X (.Tuple es k pos) (T1 (kx X Z) W (evE w (.tup is))) := by
  refine PE.imp (pe_tup hs) fun σ H Q h => ?_
  obtain ⟨env, M, ρ, e, m, p⟩ := h
  simp only [evE] at p
  refine ⟨env, M, ρ, e, m, p.bind.imp fun xs M1 ρ1 H1 f1 m1 q us rus => ?_⟩
  split at q
  · rename_i hl
    refine ⟨by rw [rus.length]; exact Nat.le_trans hl lim_le, fun z hz => ?_⟩
    exact (Pv.of q fun _ _ z => nomatch z).tup m1 rus hz
  · exact q.elim
theorem s_lst (hs : PA X es (Tn (kx X Z) W (evEs w is))) : PE X (.List es pos) (T1 (kx X Z) W (evE w (.lst is))) := by
  refine PE.imp (pe_lst hs) fun σ H Q h => ?_
  obtain ⟨env, M, ρ, e, m, p⟩ := h
  simp only [evE] at p
  refine ⟨env, M, ρ, e, m, p.bind.imp fun xs M1 ρ1 H1 f1 m1 q us rus => ?_⟩
  split at q
  · rename_i hl
    refine ⟨by rw [rus.length]; exact Nat.le_trans hl lim_le, fun z hz => ?_⟩
    exact (Pv.of q fun _ _ z => nomatch z).lst m1 rus hz
  · exact q.elim
/-- a built-in function, a built-in class -/
theorem s_callB {x : Str} {p : Pos} {id : String} {o : On} (hc : CallR X (.builtin id) (rGn (kx X Z) o)) (hg : Gl X x) (hm : X.mg x = none) (hv : bootBuiltins x = some (.builtin id)) (hs : PA X (a :: es) (Tn (kx X Z) W (evEs w is))) (hn : x ≠ "__name__") (hdb : (x == ("__debug__" : Str)) = false)
    (he : starEach (a :: es) X.env = (false, eval a X.env) :: starEach es X.env) (hpl : (backTo pos (starEach es X.env)).any (·.1) = false) : PE X (.Call (.Name x p) (a :: es) [] pos) (T1 (kx X Z) W (evE w (.opn o is))) := by
  refine PE.imp (pe_callB hc hg hm hv hs hn hdb he hpl) fun σ H Q h => ?_
  obtain ⟨env, M, ρ, e, m, p⟩ := h
  simp only [evE] at p
  exact ⟨env, M, ρ, e, m, p.bind.imp fun xs M1 ρ1 H1 f1 m1 q us rus => ⟨M1, ρ1, xs, m1, rus, Pv.of q fun _ _ => opn_noexc⟩⟩
theorem s_callTy {x : Str} {p : Pos} {id : String} {o : On} (hc : CallR X (.type id) (rGn (kx X Z) o)) (hg : Gl X x) (hm : X.mg x = none) (hv : bootBuiltins x = some (.type id)) (hs : PA X (a :: es) (Tn (kx X Z) W (evEs w is))) (hn : x ≠ "__name__") (hdb : (x == ("__debug__" : Str)) = false)
    (he : starEach (a :: es) X.env = (false, eval a X.env) :: starEach es X.env) (hpl : (backTo pos (starEach es X.env)).any (·.1) = false) : PE X (.Call (.Name x p) (a :: es) [] pos) (T1 (kx X Z) W (evE w (.opn o is))) := by
  refine PE.imp (pe_callTy hc hg hm hv hs hn hdb he hpl) fun σ H Q h => ?_
  obtain ⟨env, M, ρ, e, m, p⟩ := h
  simp only [evE] at p
  exact ⟨env, M, ρ, e, m, p.bind.imp fun xs M1 ρ1 H1 f1 m1 q us rus => ⟨M1, ρ1, xs, m1, rus, Pv.of q fun _ _ => opn_noexc⟩⟩
end
end HP

set_option Elab.async false
set_option linter.all false
set_option autoImplicit false
set_option maxRecDepth 100000
set_option maxHeartbeats 4000000
/-! .. calls, tests, what a for walks, targets, statements, loops. -/
namespace HP
open PySem L2

/-! ### forms of the text -/
def isStar : Expr → Bool
  | .Starred .. => true
  | _ => false
def noStar : List Expr → Bool
  | [] => true
  | e :: es => !isStar e && noStar es
def plainBase : Expr → Bool
  | .Call (.Name _ _) [] [] _ => false
  | _ => true
def isComp : Expr → Bool
  | .ListComp .. => true
  | .SetComp .. => true
  | .DictComp .. => true
  | _ => false
theorem star_cons {e : Expr} {es : List Expr} {env : PySem.Env} (h : isStar e = false) : starEach (e :: es) env = (false, eval e env) :: starEach es env := by
  cases e <;> first | rfl | (cases h; done)
theorem star_flags {env : PySem.Env} : ∀ {es : List Expr}, noStar es = true → ∀ x ∈ starEach es env, x.1 = false
  | [], _, x, hx => by cases hx
  | e :: es, h, x, hx => by
    unfold noStar at h
    rw [Bool.and_eq_true] at h
    have h1 : isStar e = false := by simpa using h.1
    rw [star_cons h1] at hx
    rcases List.mem_cons.mp hx with rfl | hx
    · rfl
    · exact star_flags h.2 x hx
theorem back_any {env : PySem.Env} {es : List Expr} {pos : Pos} (h : noStar es = true) : (backTo pos (starEach es env)).any (·.1) = false := by
  unfold backTo
  rw [List.any_map, List.any_eq_false]
  intro x hx
  simp [star_flags h x hx]
theorem back_all {env : PySem.Env} {es : List Expr} {pos : Pos} (h : noStar es = true) : (backTo pos (starEach es env)).all (fun x => !x.1) = true := by
  unfold backTo
  rw [List.all_map, List.all_eq_true]
  intro x hx
  simp [star_flags h x hx]
theorem base_plain {o : Expr} {attr : Str} {env : PySem.Env} {whole : Sem Value} (h : plainBase o = true) : attributeBase o attr env whole = whole := by
  unfold attributeBase
  split
  · cases h
  · rfl
theorem swaps_plain {e : Expr} {t : Option Expr} {l : Nat} {env : PySem.Env} (h : isComp e = false) : swapsWith e t l env = pure false := by
  cases e <;> first | rfl | (cases h; done)

section
variable {X : Cx} {Z : Zx} {W : XW} {w : Wd} {a o : Expr} {es : List Expr} {ia io : E} {is : List E} {pos : Pos}
/-- a built-in's method -/
def mtS : MT → String
  | .list => "list" | .str => "str" | .dict => "dict"
def tyW (K : PySem.W.Frag) (w : World) (T : String) (x : V) (H : Hp) : Prop := tyV K T x H ∨ (T = "dict" ∧ ∃ p es n, x = .ref p ∧ KDict K w p es n)
theorem tyW_is {pins : List (Addr × Obj)} {σ : St} {H : Hp} {s : Shared} {T : String} {x : V} {v : Value} (I : Inv X pins σ H s) (r : RelV x v) (ty : tyW X.K X.w T x H) : s.TypeIs v T ∧ ∀ a, v = .ref a → ∃ ob, s.heap.get? a = some ob ∧ ob.dict = none := by
  rcases ty with ty | ⟨rfl, p, es, n, rfl, D⟩
  · exact tyV_is I r ty
  · obtain rfl : v = Value.ref p := r
    exact ⟨kd_type D I, fun a e => by cases e; exact ⟨_, I.kIn _ _ D.at_, rfl⟩⟩
def tBMw (K : PySem.W.Frag) (w : World) (T : String) (r : V → List V → Hp → VK → Prop) (to : TE) (t : TA) : TE := fun σ H Q => to σ H fun x H1 => tyW K w T x H1 ∧ t σ H1 fun vs H2 => r x vs H2 Q
theorem pe_bmW {T id : String} {name : Str} {r : V → List V → Hp → VK → Prop} {o e : Expr} {es : List Expr} {to : TE} {t : TA} {apos cpos : Pos} (pa : PlainAttrs T) (slot : Slot T name id) (hty : typeOf (.builtin id) = pure (.type "method_descriptor")) (hm : MtR X id r) (ho : PE X o to) (ha : PA X (e :: es) t)
    (hbase : attributeBase o name X.env (eval o X.env) = eval o X.env)
    (hfew : ((backTo cpos (starEach (e :: es) X.env)).all (fun x => !x.1) && (backToKw cpos (keywordEach [] X.env)).all (fun x => x.1.isSome)
      && decide ((e :: es).length + ([] : List Keyword).length + (if ([] : List Keyword).isEmpty then 0 else 1) < 30)) = true)
    (hline : (apos.endLine == cpos.line) = true) (hs : starEach (e :: es) X.env = (false, eval e X.env) :: starEach es X.env) (hplain : (backTo cpos (starEach es X.env)).any (·.1) = false) :
    PE X (.Call (.Attribute o name apos) (e :: es) [] cpos) (tBMw X.K X.w T r to t) := by
  refine ⟨fun pins s σ H Q I h => ?_⟩
  refine wpAny_Call_method_late hbase hfew hline rfl (thn (ho.run pins s σ H _ I h) fun v s1 ⟨x, H1, I1, r1, ty, q1⟩ => ?_)
  obtain ⟨h1, h2⟩ := tyW_is I1 r1 ty
  refine ⟨T, id, pa, slot, hty, h1, h2, ?_⟩
  have hA := ha.run cpos pins s1 σ H1 _ I1 q1
  rw [hs] at hA ⊢
  refine Calls.callWith_builtin (by show (false || (backTo cpos (starEach es X.env)).any (·.1)) = false; rw [hplain] <;> rfl) (Calls.evalArgs_plain ?_)
  exact thn hA fun us s2 ⟨vs, H2, I2, r2, q2⟩ => hm pins s2 σ H2 x vs v us Q I2 r1 r2 q2
theorem tyV_of {M : Mem} {ρ : List Addr} {H : Hp} {v : PV} {u : V} {k : MT} (m : MemR (kx X Z) M ρ H) (r : VR (kx X Z) ρ H v u) (h : tyM k v M = true) : tyW X.K X.w (mtS k) u H := by
  unfold tyM at h
  cases k with
  | list =>
    cases v <;> try (cases h; done)
    case ref n =>
    obtain ⟨p, rfl, e⟩ := r.ref_
    simp only at h
    split at h
    · rename_i xs hx
      obtain ⟨us, hu, _⟩ := m.lst hx e
      exact .inl (.inl ⟨rfl, us, SqL.of hu⟩)
    · cases h
  | str =>
    cases v <;> try (cases h; done)
    case str s =>
    obtain ⟨x, rfl, _⟩ := r.str_
    exact .inl rfl
  | dict =>
    cases v <;> try (cases h; done)
    case rod ks vs =>
      obtain ⟨p, us, rfl, ⟨es, n, D, _⟩, _⟩ := r.rod_
      exact .inr ⟨rfl, p, es, n, rfl, D⟩
    case ref n =>
      obtain ⟨p, rfl, e⟩ := r.ref_
      simp only at h
      split at h
      · rename_i kvs hx
        obtain ⟨us, hu, _⟩ := m.dic hx e
        exact .inl (.inr (.inr (.inl ⟨rfl, .inl ⟨us, hu⟩⟩)))
      · cases h
theorem s_meth {name : Str} {id : String} {k : MT} {om : On} {apos : Pos} (pa : PlainAttrs (mtS k)) (slot : Slot (mtS k) name id) (hty : typeOf (.builtin id) = pure (.type "method_descriptor")) (hm : MtR X id (rGm (kx X Z) om))
    (hb : plainBase o = true) (hs : noStar (a :: es) = true) (hn : (a :: es).length < 29) (hline : (apos.endLine == pos.line) = true) (ho : PE X o (T1 (kx X Z) W (evE w io))) (ha : PA X (a :: es) (Tn (kx X Z) W (evEs w is))) : PE X (.Call (.Attribute o name apos) (a :: es) [] pos) (T1 (kx X Z) W (evE w (.meth k om io is))) := by
  have hs2 : noStar es = true := by unfold noStar at hs; exact (Bool.and_eq_true_iff.mp hs).2
  have hs1 : isStar a = false := by unfold noStar at hs; simpa using (Bool.and_eq_true_iff.mp hs).1
  refine PE.imp (pe_bmW pa slot hty hm ho ha (base_plain hb) ?_ hline (star_cons hs1) (back_any hs2)) fun σ H Q h => ?_
  · rw [back_all hs, Bool.true_and]
    simp [keywordEach, backToKw]
    simp at hn
    omega
  · obtain ⟨env, M, ρ, e, m, p⟩ := h
    simp only [evE] at p
    refine T1.go e m (p.bind.imp fun x M1 ρ1 H1 f1 m1 q _ e1 _ u ru => ?_)
    split at q
    · rename_i ht
      refine ⟨tyV_of m1 ru ht, env, M1, ρ1, e1, m1, q.bind.imp fun vs M2 ρ2 H2 f2 m2 q2 us rus => ?_⟩
      exact ⟨M2, ρ2, x, vs, m2, ru.mono m1.own f2, rus, Pv.of q2 fun _ _ => opn_noexc⟩
    · exact q.elim
/-! ### tests -/
theorem t_val {e : Expr} (he : ∀ whole, isTrue e X.env whole = (do let v ← whole; standAt e.pos; holding [v] (truthy v))) (h : PE X e (T1 (kx X Z) W (evE w ia))) : PT X e (Tb (kx X Z) W (evT w (.val ia))) := by
  refine PT.imp (pt_truth h he) fun σ H Q h => ?_
  obtain ⟨env, M, ρ, e, m, p⟩ := h
  simp only [evT] at p
  refine T1.go e m (p.bind.imp fun x M1 ρ1 H1 f1 m1 q _ e1 _ u ru => ?_)
  split at q
  · rename_i b hb
    exact ⟨b, tru_of m1 ru hb, q.here m1⟩
  · exact q.elim
theorem t_cmp {b : Expr} {ib : E} {op : CmpOp} {o : O2} (hop : OpR X (compareOp op) (rG (kx X Z) o)) (hm : behindInMarks op b = false) (ha : PE X a (T1 (kx X Z) W (evE w ia))) (hb : PE X b (T1 (kx X Z) W (evE w ib))) : PT X (.Compare a [op] [b] pos) (Tb (kx X Z) W (evT w (.cmp o ia ib))) := by
  refine PT.imp (pt_cmpR hop ha hb hm) fun σ H Q h => ?_
  obtain ⟨env, M, ρ, e, m, p⟩ := h
  simp only [evT] at p
  refine T1.go e m (p.bind.imp fun x M1 ρ1 H1 f1 m1 q _ e1 _ u ru => ?_)
  refine T1.go e1 m1 (q.bind.imp fun y M2 ρ2 H2 f2 m2 q2 _ e2 _ u2 ru2 => ?_)
  refine ⟨M2, ρ2, x, y, m2, ru.mono m1.own f2, ru2, Pv.of (q2.bind.imp fun r M3 ρ3 H3 f3 m3 q3 z rz => ?_) fun _ _ => op2_noexc⟩
  split at q3
  · rename_i k
    cases rz.bl_
    exact ⟨k, rfl, q3.here m3⟩
  · exact q3.elim
theorem t_chain {b c : Expr} {ib ic : E} {op op' : CmpOp} {o p : O2} (ho : OpR X (compareOp op) (rG (kx X Z) o)) (ho' : OpR X (compareOp op') (rG (kx X Z) p)) (hm : behindInMarks op' c = false) (ha : PE X a (T1 (kx X Z) W (evE w ia))) (hb : PE X b (T1 (kx X Z) W (evE w ib))) (hc : PE X c (T1 (kx X Z) W (evE w ic))) :
    PT X (.Compare a [op, op'] [b, c] pos) (Tb (kx X Z) W (evT w (.chain o p ia ib ic))) := by
  refine PT.imp (pt_chain ho ho' ha hb hc hm) fun σ H Q h => ?_
  obtain ⟨env, M, ρ, e, m, p⟩ := h
  simp only [evT] at p
  refine T1.go e m (p.bind.imp fun x M1 ρ1 H1 f1 m1 q _ e1 _ u ru => ?_)
  refine T1.go e1 m1 (q.bind.imp fun y M2 ρ2 H2 f2 m2 q2 _ e2 _ u2 ru2 => ?_)
  refine ⟨M2, ρ2, x, y, m2, ru.mono m1.own f2, ru2, Pv.of (q2.bind.imp fun r M3 ρ3 H3 f3 m3 q3 z rz => ?_) fun _ _ => op2_noexc⟩
  split at q3
  · rename_i k
    cases rz.bl_
    refine ⟨k, rfl, ?_⟩
    cases k with
    | true =>
      refine T1.go (e2.mono m2.own f3) m3 (q3.bind.imp fun z M4 ρ4 H4 f4 m4 q4 _ e4 _ u4 ru4 => ?_)
      refine ⟨M4, ρ4, y, z, m4, (ru2.mono m2.own f3).mono m3.own f4, ru4, Pv.of (q4.bind.imp fun r M5 ρ5 H5 f5 m5 q5 z5 rz5 => ?_) fun _ _ => op2_noexc⟩
      split at q5
      · rename_i k5
        cases rz5.bl_
        exact ⟨k5, rfl, q5.here m5⟩
      · exact q5.elim
    | false => exact ⟨false, rfl, q3.here m3⟩
  · exact q3.elim
theorem t_not {ta : T} (h : PT X a (Tb (kx X Z) W (evT w ta))) : PT X (.UnaryOp .Not a pos) (Tb (kx X Z) W (evT w (.not ta))) := by
  refine PT.imp (pt_not h) fun σ H Q h => ?_
  obtain ⟨env, M, ρ, e, m, p⟩ := h
  simp only [evT] at p
  exact ⟨env, M, ρ, e, m, p.bind.imp fun k M1 ρ1 H1 f1 m1 q => q.here m1⟩
theorem PW.imp {e : Expr} {t t' : TT} (h : PW X e t) (f : ∀ σ H Q, t' σ H Q → t σ H Q) : PW X e t' := ⟨fun wh pins s σ H Q I q => h.run wh pins s σ H Q I (f σ H Q q)⟩
theorem t_and {b : Expr} {rest : List Expr} {ta tb : T} (h : PT X a (Tb (kx X Z) W (evT w ta))) (hb : PW X (.BoolOp .And (b :: rest) pos) (Tb (kx X Z) W (evT w tb))) : PW X (.BoolOp .And (a :: b :: rest) pos) (Tb (kx X Z) W (evT w (.and ta tb))) := by
  refine PW.imp (pw_and h hb) fun σ H Q h => ?_
  obtain ⟨env, M, ρ, e, m, p⟩ := h
  simp only [evT] at p
  refine ⟨env, M, ρ, e, m, p.bind.imp fun k M1 ρ1 H1 f1 m1 q => ?_⟩
  cases k with
  | true => exact ⟨env, M1, ρ1, e.mono m.own f1, m1, q⟩
  | false => exact q.here m1
theorem t_or {b : Expr} {rest : List Expr} {ta tb : T} (h : PT X a (Tb (kx X Z) W (evT w ta))) (hb : PW X (.BoolOp .Or (b :: rest) pos) (Tb (kx X Z) W (evT w tb))) : PW X (.BoolOp .Or (a :: b :: rest) pos) (Tb (kx X Z) W (evT w (.or ta tb))) := by
  refine PW.imp (pw_or h hb) fun σ H Q h => ?_
  obtain ⟨env, M, ρ, e, m, p⟩ := h
  simp only [evT] at p
  refine ⟨env, M, ρ, e, m, p.bind.imp fun k M1 ρ1 H1 f1 m1 q => ?_⟩
  cases k with
  | true => exact q.here m1
  | false => exact ⟨env, M1, ρ1, e.mono m.own f1, m1, q⟩
end

/-! ### calls of defs of the text -/
/-- a def's promise: what its plain form comes to -/
def spF (K : Kx) (clsV : Nat → Value) (r : List PV → Mem → Res PV) (n : Nat) : Sp := fun vs H Q E => ∃ as M ρ, as.length = n ∧ MemR K M ρ H ∧ VRs K ρ H as vs ∧
  Ps K (fun c _ H' => E (clsV c) none H') [] ρ H (r as M) fun v _ ρ' H' => ∀ u, VR K ρ' H' v u → Q u H'
/-- what is wanted of exceptions, in the layer's words -/
def wx (clsV : Nat → Value) (W : XW) : WX := fun cls d σ H => ∃ c, cls = clsV c ∧ d = none ∧ W c σ H
theorem Ps.exc {K : Kx} {W W' : XW} {σ σ' : St} {ρ : List Addr} {H : Hp} {α : Type} {r : Res α} {k : α → Mem → List Addr → Hp → Prop} (h : Ps K W σ ρ H r k) (f : ∀ c H', W c σ H' → W' c σ' H') : Ps K W' σ' ρ H r k := by
  cases r with
  | ok a M => exact h
  | exc c M => exact fun ρ' H' fw m => f c H' (h ρ' H' fw m)
  | fail => exact h
section
variable {X : Cx} {Z : Zx} {W : XW} {w : Wd} {a : Expr} {es : List Expr} {ia : E} {is : List E} {pos p : Pos} {x : Str} {clsV : Nat → Value} {k : Nat} {f : Addr} {fd : FuncData} {ps : List Str} {fi n : Nat}
theorem s_call (F : FnOk X.prog X.w X.K X.mg X.base (L2.CX X.prog X.w) k f fd ps (spF (kx X Z) clsV (w.call fi) n)) (hr : Room k X.A) (hg : Gl X x) (hm : X.mg x = some (.ref f)) (hk : PySem.W.keepIn X.K (.ref f) = true) (hb : Binds X.K fd ps [])
    (tk : Takes X (wx clsV W)) (hdb : (x == ("__debug__" : Str)) = false) (hs : noStar (a :: es) = true) (hl : is.length = n) (ha : PA X (a :: es) (Tn (kx X Z) W (evEs w is))) (hlen : ∀ env M vs M', evEs w is env M = .ok vs M' → vs.length = is.length) :
    PE X (.Call (.Name x p) (a :: es) [] pos) (T1 (kx X Z) W (evE w (.call fi is))) := by
  have hs2 : noStar es = true := by unfold noStar at hs; exact (Bool.and_eq_true_iff.mp hs).2
  have hs1 : isStar a = false := by unfold noStar at hs; simpa using (Bool.and_eq_true_iff.mp hs).1
  refine PE.imp (pe_callS F hr hg hm hk hb (fun σ => passAt tk σ) ha hdb (star_cons hs1) (back_any hs2)) fun σ H Q h => ?_
  obtain ⟨env, M, ρ, e, m, p⟩ := h
  simp only [evE] at p
  have hv := hlen env M
  refine ⟨env, M, ρ, e, m, ?_⟩
  cases hr : evEs w is env M with
  | fail =>
    rw [hr] at p
    exact p
  | exc c M1 =>
    rw [hr] at p
    exact p
  | ok vs M1 =>
    rw [hr] at p
    have q : Ps (kx X Z) W σ ρ H (w.call fi vs M1) fun v _ ρ' H' => ∀ u, VR (kx X Z) ρ' H' v u → Q u H' := p
    intro ρ1 H1 f1 m1 us rus
    refine ⟨vs, M1, ρ1, ?_, m1, rus, ?_⟩
    · rw [hv vs M1 hr, hl]
    · exact (Ps.fw f1 q).exc fun c H' z => ⟨c, rfl, rfl, z⟩
theorem s_call0 (F : FnOk X.prog X.w X.K X.mg X.base (L2.CX X.prog X.w) k f fd ps (spF (kx X Z) clsV (w.call fi) 0)) (hr : Room k X.A) (hg : Gl X x) (hm : X.mg x = some (.ref f)) (hk : PySem.W.keepIn X.K (.ref f) = true) (hb : Binds X.K fd ps [])
    (tk : Takes X (wx clsV W)) (hdb : (x == ("__debug__" : Str)) = false) : PE X (.Call (.Name x p) [] [] pos) (T1 (kx X Z) W (evE w (.call fi []))) := by
  refine ⟨fun pins s σ H Q I h => ?_⟩
  refine wpAny_Call_Name_kw (ld_glob I hg hm ?_ hdb)
  refine PySem.W.callWith_K0 I.kIn hk (run_fnSD (us := []) (vs := []) (E := fun σ => fun cls d H => wx clsV W cls d σ H) F hr hb (dvs := []) .nil (passAt tk σ) I .nil ?_)
  obtain ⟨env, M, ρ, e, m, p⟩ := h
  simp only [evE, evEs, Res.bind_ok] at p
  exact ⟨[], M, ρ, rfl, m, vrs_nil, p.exc fun c H' z => ⟨c, rfl, rfl, z⟩⟩
end
theorem evEs_len {w : Wd} : ∀ (is : List E) (env : Env) (M : Mem) (vs : List PV) (M' : Mem), evEs w is env M = .ok vs M' → vs.length = is.length
  | [], env, M, vs, M', h => by
    simp only [evEs] at h
    cases h
    rfl
  | i :: is, env, M, vs, M', h => by
    simp only [evEs] at h
    cases h1 : evE w i env M with
    | fail => rw [h1] at h; cases h
    | exc c M1 => rw [h1] at h; cases h
    | ok v M1 =>
      rw [h1] at h
      simp only [Res.bind_ok] at h
      cases h2 : evEs w is env M1 with
      | fail => rw [h2] at h; cases h
      | exc c M1 => rw [h2] at h; cases h
      | ok vs2 M2 =>
        rw [h2] at h
        simp only [Res.bind_ok] at h
        cases h
        rw [List.length_cons, List.length_cons, evEs_len is env M1 vs2 _ h2]
end HP

set_option Elab.async false
set_option linter.all false
set_option autoImplicit false
set_option maxRecDepth 100000
set_option maxHeartbeats 4000000
/-! .. what a for walks, targets, statements, loops. -/
namespace HP
open PySem L2

/-! ### what a for walks -/
/-- the turns of a walk are those of the source -/
def ItOk (K : Kx) (J : It) (s : Src) (ρ0 : List Addr) (H0 : Hp) : Prop :=
  match s with
  | .items xs => ∀ (ρ : List Addr) (H : Hp) (M : Mem) (i : Nat), Fw ρ0 ρ H0 H → MemR K M ρ H → match xs[i]? with
    | none => J.stop i H
    | some v => J.go i H ∧ ∀ x H', J.yld i H x H' → Fw ρ ρ H H' ∧ MemR K M ρ H' ∧ VR K ρ H' v x
  | .mem n => ∀ (ρ : List Addr) (H : Hp) (M : Mem) (i : Nat) (xs : List PV), Fw ρ0 ρ H0 H → MemR K M ρ H → M[n]? = some (.lst xs) → match xs[i]? with
    | none => J.stop i H
    | some v => J.go i H ∧ ∀ x H', J.yld i H x H' → Fw ρ ρ H H' ∧ MemR K M ρ H' ∧ VR K ρ H' v x
def Tw (K : Kx) (W : XW) (m : Env → Mem → Res Src) : TI := fun σ H R => ∃ env M ρ, EnvR K ρ H env σ ∧ MemR K M ρ H ∧ Ps K W σ ρ H (m env M) fun s _ ρ' H' => ∀ J, ItOk K J s ρ' H' → R J H'
theorem PI.imp {X : Cx} {tg e : Expr} {t t' : TI} (h : PI X tg e t) (f : ∀ σ H R, t' σ H R → t σ H R) : PI X tg e t' := ⟨fun pins s σ H R I q => h.run pins s σ H R I (f σ H R q)⟩
/-- a list, a tuple, a text -/
def iSeq (K : PySem.W.Frag) (tl : TE) : TI := fun σ H R => tl σ H fun x H1 =>
  (∃ a, x = .ref a ∧ (∃ xs, SqL K H1 a xs) ∧ R (Itl K a) H1) ∨ (∃ a, x = .ref a ∧ (∃ xs, SqT K H1 a xs) ∧ R (Itt K a) H1) ∨ ∃ z, x = .str z ∧ R (Its z) H1
theorem pi_seq {X : Cx} {tg l : Expr} {tl : TE} (hl : PE X l tl) : PI X tg l (iSeq X.K tl) := by
  refine ⟨fun pins s σ H R I h => ?_⟩
  refine thn (hl.run pins s σ H _ I h) fun v s1 ⟨x, H1, I1, r1, q1⟩ => ?_
  rcases q1 with ⟨a, e, ⟨xs, hq⟩, q⟩ | ⟨a, e, ⟨xs, hq⟩, q⟩ | ⟨z, e, q⟩
  · subst e
    cases r1
    obtain ⟨its, rv, p, hz⟩ := I1.list hq
    refine wpAny_pyIter_list p.isList ?_
    refine ⟨s1.heap.objs.size, [s1.heap.objs.size], _, _, H1, rfl, I1.kept (t' := s1.toks) fun b o e => Heap.get?_push_of_some _ e, turn_list a _, ⟨_, Heap.get?_push_size _ rfl, rfl, rfl⟩, fun b hb => ?_, q⟩
    have e : b = s1.heap.objs.size := by simpa using hb
    subst e
    exact I1.fpOk (Nat.le_refl _) (I1.hok.fresh (Nat.le_refl _))
  · subst e
    cases r1
    obtain ⟨its, rv, p, hz⟩ := I1.tuple hq
    refine wpAny_pyIter_tuple (show s1.heap.IsTuple a its.toArray from p) ?_
    refine ⟨s1.heap.objs.size, [s1.heap.objs.size], _, _, H1, rfl, I1.kept (t' := s1.toks) fun b o e => Heap.get?_push_of_some _ e, turn_tuple a _, ⟨_, Heap.get?_push_size _ rfl, rfl, rfl⟩, fun b hb => ?_, q⟩
    have e : b = s1.heap.objs.size := by simpa using hb
    subst e
    exact I1.fpOk (Nat.le_refl _) (I1.hok.fresh (Nat.le_refl _))
  · subst e
    obtain ⟨t, rfl⟩ := r1
    cases ha : z.cps.all (· < 128)
    · exact wpAny_pyIter_wide ha (pi_one (tk := s1.toks) I1 _ (turn_str _ z t "str_iterator" (.inr rfl)) ⟨_, Heap.get?_push_size _ rfl, rfl, rfl⟩ q)
    · exact wpAny_pyIter_ascii ha (pi_one (tk := s1.toks) I1 _ (turn_str _ z t "str_ascii_iterator" (.inl rfl)) ⟨_, Heap.get?_push_size _ rfl, rfl, rfl⟩ q)
section
variable {K : Kx} {ρ0 : List Addr} {H0 : Hp}
theorem itok_tup {a : Addr} {us : List V} {xs : List PV} (w : Own ρ0 H0) (t : TR K H0 a us) (r : VRs K ρ0 H0 xs us) : ItOk K (Itt K.K a) (.items xs) ρ0 H0 := by
  intro ρ H M i f m
  have t' : TR K H a us := t.mono w f
  have r' := r.mono w f
  cases e : xs[i]? with
  | none => exact ⟨us, t'.sq, by rw [r'.length]; exact List.getElem?_eq_none_iff.mp e⟩
  | some v =>
    obtain ⟨u, hu, ru⟩ := r'.get e
    refine ⟨⟨us, u, t'.sq, hu⟩, fun x H' y => ?_⟩
    obtain ⟨rfl, y⟩ := y
    have := y us t'.sq
    rw [hu] at this
    cases this
    exact ⟨Fw.refl, m, ru⟩
theorem itok_rol {a : Addr} {us : List V} {xs : List PV} (w : Own ρ0 H0) (t : LR K H0 a us) (r : VRs K ρ0 H0 xs us) : ItOk K (Itl K.K a) (.items xs) ρ0 H0 := by
  intro ρ H M i f m
  have t' : LR K H a us := t.mono w f
  have r' := r.mono w f
  cases e : xs[i]? with
  | none => exact ⟨us, t'.sq, by rw [r'.length]; exact List.getElem?_eq_none_iff.mp e⟩
  | some v =>
    obtain ⟨u, hu, ru⟩ := r'.get e
    refine ⟨⟨us, u, t'.sq, hu⟩, fun x H' y => ?_⟩
    obtain ⟨rfl, y⟩ := y
    have := y us t'.sq
    rw [hu] at this
    cases this
    exact ⟨Fw.refl, m, ru⟩
theorem itok_mem {a : Addr} {n : Nat} (e : ρ0[n]? = some a) : ItOk K (Itl K.K a) (.mem n) ρ0 H0 := by
  intro ρ H M i xs f m hx
  have e' : ρ[n]? = some a := f.get e
  obtain ⟨us, hu, r⟩ := m.lst hx e'
  cases e : xs[i]? with
  | none => exact ⟨us, SqL.of hu, by rw [r.length]; exact List.getElem?_eq_none_iff.mp e⟩
  | some v =>
    obtain ⟨u, hu2, ru⟩ := r.get e
    refine ⟨⟨us, u, SqL.of hu, hu2⟩, fun x H' y => ?_⟩
    obtain ⟨rfl, y⟩ := y
    have := y us (SqL.of hu)
    rw [hu2] at this
    cases this
    exact ⟨Fw.refl, m, ru⟩
theorem itok_str {z : Str} {s : List Nat} (e : z.cps.toList = s) (hv : vstr s = true) : ItOk K (Its z) (.items (s.map fun c => .str [c])) ρ0 H0 := by
  subst e
  intro ρ H M i f m
  rw [List.getElem?_map, Array.getElem?_toList]
  cases e : z.cps[i]? with
  | none => exact Array.getElem?_eq_none_iff.mp e
  | some c =>
    refine ⟨(Array.getElem?_eq_some_iff.mp e).1, fun x H' y => ?_⟩
    obtain ⟨rfl, d, hd, rfl⟩ := y
    rw [e] at hd
    cases hd
    exact ⟨Fw.refl, m, vr_str rfl (vstr_mem hv (by rw [Array.getElem?_toList]; exact e))⟩
theorem itok_range {lo : Int} {n : Nat} : ItOk K (Itr lo n) (.items (rangeL lo n)) ρ0 H0 := by
  intro ρ H M i f m
  unfold rangeL
  rw [List.getElem?_map]
  by_cases h : i < n
  · rw [List.getElem?_eq_getElem (by simpa using h)]
    refine ⟨h, fun x H' y => ?_⟩
    obtain ⟨rfl, rfl⟩ := y
    refine ⟨Fw.refl, m, ?_⟩
    simp only [List.getElem_range]
    exact vr_int
  · rw [List.getElem?_eq_none (by simpa using h)]
    exact (by omega : n ≤ i)
end
section
variable {X : Cx} {Z : Zx} {W : XW} {w : Wd} {a tg : Expr} {es : List Expr} {ia : E} {is : List E} {pos p : Pos}
theorem i_val (ha : PE X a (T1 (kx X Z) W (evE w ia))) : PI X tg a (Tw (kx X Z) W (evI w (.val ia))) := by
  refine PI.imp (pi_seq ha) fun σ H R h => ?_
  obtain ⟨env, M, ρ, e, m, p⟩ := h
  simp only [evI] at p
  refine T1.go e m (p.bind.imp fun x M1 ρ1 H1 f1 m1 q _ e1 _ u ru => ?_)
  split at q
  · obtain ⟨b, us, rfl, t, rr⟩ := ru.tup_
    exact .inr (.inl ⟨b, rfl, ⟨us, t.sq⟩, q.here m1 _ (itok_tup m1.own t rr)⟩)
  · obtain ⟨b, us, rfl, t, rr⟩ := ru.rol_
    exact .inl ⟨b, rfl, ⟨us, t.sq⟩, q.here m1 _ (itok_rol m1.own t rr)⟩
  · have hv := ru.vs
    obtain ⟨z, rfl, hz⟩ := ru.str_
    exact .inr (.inr ⟨z, rfl, q.here m1 _ (itok_str hz hv)⟩)
  · obtain ⟨b, rfl, hb⟩ := ru.ref_
    split at q
    · rename_i xs hx
      obtain ⟨us, hu, _⟩ := m1.lst hx hb
      exact .inl ⟨b, rfl, ⟨us, SqL.of hu⟩, q.here m1 _ (itok_mem hb)⟩
    · exact q.elim
  · exact q.elim
theorem i_range1 {x : Str} (hx : x = "range") (hg : Gl X x) (hm : X.mg x = none) (hs : isStar a = false) (ha : PA X [a] (Tn (kx X Z) W (evEs w is))) (hl : is.length = 1) : PI X tg (.Call (.Name x p) [a] [] pos) (Tw (kx X Z) W (evI w (.range is))) := by
  subst hx
  refine PI.imp (pi_range1 hg hm ha (star_cons hs)) fun σ H R h => ?_
  obtain ⟨env, M, ρ, e, m, p⟩ := h
  simp only [evI] at p
  refine ⟨env, M, ρ, e, m, ?_⟩
  cases hr : evEs w is env M with
  | fail => rw [hr] at p; exact p
  | exc c M1 => rw [hr] at p; exact p
  | ok vs M1 =>
    rw [hr] at p
    simp only [Res.bind_ok] at p
    have hlen := evEs_len is env M vs M1 hr
    intro ρ1 H1 f1 m1 us rus
    have q := Ps.fw f1 p
    split at q
    · obtain ⟨u, rfl, ru⟩ := one_inv rus
      cases ru.int_
      split at q
      · rename_i hj
        exact ⟨_, rfl, hj.1, hj.2, q.here m1 _ itok_range⟩
      · exact q.elim
    · rw [hl] at hlen
      simp at hlen
    · exact q.elim
theorem i_range2 {b : Expr} {x : Str} (hx : x = "range") (hg : Gl X x) (hm : X.mg x = none) (hs : isStar a = false) (hs2 : isStar b = false) (ha : PA X [a, b] (Tn (kx X Z) W (evEs w is))) (hl : is.length = 2) : PI X tg (.Call (.Name x p) [a, b] [] pos) (Tw (kx X Z) W (evI w (.range is))) := by
  subst hx
  refine PI.imp (pi_range2 hg hm ha (by rw [star_cons hs, star_cons hs2] <;> rfl) (star_cons hs2)) fun σ H R h => ?_
  obtain ⟨env, M, ρ, e, m, p⟩ := h
  simp only [evI] at p
  refine ⟨env, M, ρ, e, m, ?_⟩
  cases hr : evEs w is env M with
  | fail => rw [hr] at p; exact p
  | exc c M1 => rw [hr] at p; exact p
  | ok vs M1 =>
    rw [hr] at p
    simp only [Res.bind_ok] at p
    have hlen := evEs_len is env M vs M1 hr
    intro ρ1 H1 f1 m1 us rus
    have q := Ps.fw f1 p
    split at q
    · rw [hl] at hlen
      simp at hlen
    · obtain ⟨u, v, rfl, ru, rv⟩ := two_inv rus
      cases ru.int_
      cases rv.int_
      split at q
      · rename_i hj
        exact ⟨_, _, rfl, hj, q.here m1 _ itok_range⟩
      · exact q.elim
    · exact q.elim
end

/-! ### targets -/
mutual
/-- the names that a target writes -/
def tgN : Tg → List Nat
  | .name i => [i]
  | .tup ts => tgNs ts
def tgNs : List Tg → List Nat
  | [] => []
  | t :: ts => tgN t ++ tgNs ts
end
theorem wipe_out {σ : St} {i : Nat} {x : Option V} : ∀ {vs : List Nat}, wipe (σ.set i x) vs = (wipe σ vs).set i (if i ∈ vs then none else x)
  | [] => by simp [wipe]
  | v :: vs => by
    unfold wipe
    rw [wipe_out]
    by_cases h : i = v
    · subst h
      simp
    · rw [List.set_comm _ _ h]
      by_cases h2 : i ∈ vs <;> simp [h, h2]
theorem wipe_none {σ : St} {i : Nat} : ∀ {vs : List Nat}, i ∈ vs → (wipe σ vs).set i none = wipe σ vs
  | v :: vs, h => by
    unfold wipe
    by_cases e : i = v
    · subst e
      simp
    · rw [List.set_comm _ _ (Ne.symm e), wipe_none (by simpa [e] using h)]
theorem wipe_set {σ : St} {i : Nat} {x : Option V} {vs : List Nat} (h : i ∈ vs) : wipe (σ.set i x) vs = wipe σ vs := by
  rw [wipe_out, if_pos h, wipe_none h]
def Tch (ns : List Nat) (σ σ' : St) : Prop := ∀ vs : List Nat, (∀ n ∈ ns, n ∈ vs) → wipe σ' vs = wipe σ vs
def Tg1 (K : Kx) (g : Tg) : TG := fun u σ H Q => ∃ env M ρ v, EnvR K ρ H env σ ∧ MemR K M ρ H ∧ VR K ρ H v u ∧ ∃ env', bindT g v env = some env' ∧ ∀ σ', EnvR K ρ H env' σ' → Tch (tgN g) σ σ' → Q σ' H
def Tgn (K : Kx) (gs : List Tg) : TGs := fun us σ H Q => ∃ env M ρ vs, EnvR K ρ H env σ ∧ MemR K M ρ H ∧ VRs K ρ H vs us ∧ ∃ env', bindTs gs vs env = some env' ∧ ∀ σ', EnvR K ρ H env' σ' → Tch (tgNs gs) σ σ' → Q σ' H
theorem PG.imp {X : Cx} {e : Expr} {t t' : TG} (h : PG X e t) (f : ∀ u σ H Q, t' u σ H Q → t u σ H Q) : PG X e t' := ⟨fun pins s σ H v u Q I r q => h.run pins s σ H v u Q I r (f v σ H Q q)⟩
theorem PGs.imp {X : Cx} {e : List Expr} {t t' : TGs} (h : PGs X e t) (f : ∀ u σ H Q, t' u σ H Q → t u σ H Q) : PGs X e t' := ⟨fun pins s σ H v u Q I r q => h.run pins s σ H v u Q I r (f v σ H Q q)⟩
section
variable {X : Cx} {Z : Zx} {pos : Pos}
theorem g_name {i : Nat} {x : Str} (hN : X.N.Nodup) (hi : X.N[i]? = some x) (hx : Loc X.env.scope x) (hf : X.fn x = true ∨ X.env.scope.names.lookup x = some .local) : PG X (.Name x pos) (Tg1 (kx X Z) (.name i)) := by
  refine PG.imp (pg_name hN hi hx hf) fun u σ H Q h => ?_
  obtain ⟨env, M, ρ, v, e, m, r, env', hb, q⟩ := h
  simp only [bindT] at hb
  split at hb
  · cases hb
    exact q _ (e.set r) fun vs hv => wipe_set (hv i (by simp [tgN]))
  · cases hb
theorem gs_nil : PGs X [] (Tgn (kx X Z) []) := by
  refine PGs.imp pgs_nil fun us σ H Q h => ?_
  obtain ⟨env, M, ρ, vs, e, m, r, env', hb, q⟩ := h
  cases vs with
  | nil =>
    simp only [bindTs] at hb
    cases hb
    exact ⟨r.nil, q _ e fun _ _ => rfl⟩
  | cons v vs =>
    simp only [bindTs] at hb
    cases hb
theorem gs_cons {e : Expr} {es : List Expr} {g : Tg} {gs : List Tg} (h1 : PG X e (Tg1 (kx X Z) g)) (h2 : PGs X es (Tgn (kx X Z) gs)) (hs : isStar e = false) : PGs X (e :: es) (Tgn (kx X Z) (g :: gs)) := by
  have h0 : (assignEach (e :: es) X.env).map (·.2) = assign e X.env :: (assignEach es X.env).map (·.2) := by
    cases e <;> first | rfl | (cases hs; done)
  refine PGs.imp (pgs_cons h1 h2 h0) fun us σ H Q h => ?_
  obtain ⟨env, M, ρ, vs, e, m, r, env', hb, q⟩ := h
  cases vs with
  | nil =>
    simp only [bindTs] at hb
    cases hb
  | cons v vs =>
    simp only [bindTs] at hb
    obtain ⟨u, ur, rfl, a, b⟩ := r.inv
    split at hb
    · rename_i env1 h1
      exact ⟨u, ur, rfl, env, M, ρ, v, e, m, a, env1, h1, fun σ1 e1 t1 => ⟨env1, M, ρ, vs, e1, m, b, env', hb, fun σ2 e2 t2 => q σ2 e2 fun vs hv => (t2 vs fun n hn => hv n (by simp [tgNs, hn])).trans (t1 vs fun n hn => hv n (by simp [tgNs, hn]))⟩⟩
    · cases hb
theorem assign_len {env : PySem.Env} : ∀ es : List Expr, (assignEach es env).length = es.length
  | [] => rfl
  | e :: es => by cases e <;> (show (assignEach es env).length + 1 = es.length + 1; rw [assign_len es])
theorem assign_nostar {env : PySem.Env} : ∀ {es : List Expr}, noStar es = true → (assignEach es env).findIdx? (·.1) = none
  | [], _ => rfl
  | e :: es, h => by
    unfold noStar at h
    rw [Bool.and_eq_true] at h
    have ih := assign_nostar (env := env) h.2
    have h1 : isStar e = false := by simpa using h.1
    have h0 : assignEach (e :: es) env = (false, assign e env) :: assignEach es env := by
      cases e <;> first | rfl | (cases h1; done)
    rw [h0, List.findIdx?_cons]
    simp [ih]
theorem bindTs_len : ∀ {gs : List Tg} {vs : List PV} {env env' : Env}, bindTs gs vs env = some env' → gs.length = vs.length
  | [], vs, env, env', h => by
    cases vs with
    | nil => rfl
    | cons => simp only [bindTs] at h; cases h
  | g :: gs, vs, env, env', h => by
    cases vs with
    | nil => simp only [bindTs] at h; cases h
    | cons v vs =>
      simp only [bindTs] at h
      split at h
      · rw [List.length_cons, List.length_cons, bindTs_len h]
      · cases h
theorem g_tup {es : List Expr} {k : Nat} {gs : List Tg} (hc : X.calm = true) (h : PGs X es (Tgn (kx X Z) gs)) (hl : gs.length = es.length) (hs : noStar es = true) : PG X (.Tuple es k pos) (Tg1 (kx X Z) (.tup gs)) := by
  refine PG.imp (pg_tup hc h (assign_len es) (assign_nostar hs)) fun u σ H Q h => ?_
  obtain ⟨env, M, ρ, v, e, m, r, env', hb, q⟩ := h
  simp only [bindT] at hb
  split at hb
  · rename_i vs
    obtain ⟨a, us, rfl, t, rr⟩ := r.tup_
    refine ⟨a, us, rfl, t.sq, ?_, env, M, ρ, vs, e, m, rr, env', hb, fun σ' e' t' => q σ' e' (by simpa [tgN] using t')⟩
    rw [rr.length, ← bindTs_len hb, hl]
  · cases hb
end

/-! ### statements -/
/-- a statement's outcome, and what is wanted behind it -/
def PC (K : Kx) (W : XW) (ρ : List Addr) (H : Hp) (c : Ctl) (D : Ends) : Prop :=
  match c with
  | .nxt env M' => ∀ ρ' H' σ', Fw ρ ρ' H H' → MemR K M' ρ' H' → EnvR K ρ' H' env σ' → D.nx σ' H'
  | .ret v M' => ∀ ρ' H' u, Fw ρ ρ' H H' → MemR K M' ρ' H' → VR K ρ' H' v u → D.rt u H'
  | .brk env M' => ∀ ρ' H' σ', Fw ρ ρ' H H' → MemR K M' ρ' H' → EnvR K ρ' H' env σ' → D.bk σ' H'
  | .cnt env M' => ∀ ρ' H' σ', Fw ρ ρ' H H' → MemR K M' ρ' H' → EnvR K ρ' H' env σ' → D.ct σ' H'
  | .exc c env M' => ∀ ρ' H' σ', Fw ρ ρ' H H' → MemR K M' ρ' H' → EnvR K ρ' H' env σ' → W c σ' H'
  | .fail => False
def TS1 (K : Kx) (W : XW) (m : Env → Mem → Ctl) : TS := fun D σ H => ∃ env M ρ, EnvR K ρ H env σ ∧ MemR K M ρ H ∧ PC K W ρ H (m env M) D
section
variable {K : Kx} {W : XW} {ρ ρ' : List Addr} {H H' : Hp} {c : Ctl} {D : Ends} {σ : St} {α : Type}
theorem PC.fw (f : Fw ρ ρ' H H') (h : PC K W ρ H c D) : PC K W ρ' H' c D := by
  cases c with
  | nxt env M => exact fun ρ2 H2 σ2 f2 m e => h ρ2 H2 σ2 (f.trans f2) m e
  | ret v M => exact fun ρ2 H2 u f2 m e => h ρ2 H2 u (f.trans f2) m e
  | brk env M => exact fun ρ2 H2 σ2 f2 m e => h ρ2 H2 σ2 (f.trans f2) m e
  | cnt env M => exact fun ρ2 H2 σ2 f2 m e => h ρ2 H2 σ2 (f.trans f2) m e
  | exc c env M => exact fun ρ2 H2 σ2 f2 m e => h ρ2 H2 σ2 (f.trans f2) m e
  | fail => exact h
theorem PC.thn {r : Res α} {env : Env} {M : Mem} {f : α → Mem → Ctl} (e : EnvR K ρ H env σ) (mm : MemR K M ρ H) (h : PC K W ρ H (r.thn env f) D) : Ps K W σ ρ H r fun a M1 ρ1 H1 => PC K W ρ1 H1 (f a M1) D := by
  cases r with
  | ok a M => exact fun ρ2 H2 f2 m => PC.fw f2 h
  | exc c M => exact fun ρ2 H2 f2 m => h ρ2 H2 σ f2 m (e.mono mm.own f2)
  | fail => exact h
theorem PC.nx {env : Env} {M : Mem} (h : PC K W ρ H (.nxt env M) D) (e : EnvR K ρ H env σ) (m : MemR K M ρ H) : D.nx σ H := h ρ H σ Fw.refl m e
end
theorem PS.imp {X : Cx} {st : Stmt} {t t' : TS} (h : PS X st t) (f : ∀ D σ H, t' D σ H → t D σ H) : PS X st t' := ⟨fun pins s σ H D I q => h.run pins s σ H D I (f D σ H q)⟩
theorem PSs.imp {X : Cx} {st : List Stmt} {t t' : TS} (h : PSs X st t) (f : ∀ D σ H, t' D σ H → t D σ H) : PSs X st t' := ⟨fun pins s σ H D I q => h.run pins s σ H D I (f D σ H q)⟩
section
variable {X : Cx} {Z : Zx} {W : XW} {w : Wd} {a b e : Expr} {ia ib ie : E} {pos pos2 : Pos}
theorem ss_nil : PSs X [] (TS1 (kx X Z) W (evSs w [])) := by
  refine PSs.imp pss_nil fun D σ H h => ?_
  obtain ⟨env, M, ρ, e, m, p⟩ := h
  simp only [evSs] at p
  exact p.nx e m
theorem ss_cons {st : Stmt} {sts : List Stmt} {s : S} {ss : List S} (h1 : PS X st (TS1 (kx X Z) W (evS w s))) (h2 : PSs X sts (TS1 (kx X Z) W (evSs w ss))) : PSs X (st :: sts) (TS1 (kx X Z) W (evSs w (s :: ss))) := by
  refine PSs.imp (pss_cons h1 h2) fun D σ H h => ?_
  obtain ⟨env, M, ρ, e, m, p⟩ := h
  simp only [evSs] at p
  refine ⟨env, M, ρ, e, m, ?_⟩
  cases hc : evS w s env M with
  | nxt env1 M1 =>
    rw [hc] at p
    exact fun ρ1 H1 σ1 f1 m1 e1 => ⟨env1, M1, ρ1, e1, m1, PC.fw f1 p⟩
  | ret v M1 => rw [hc] at p; exact p
  | brk v M1 => rw [hc] at p; exact p
  | cnt v M1 => rw [hc] at p; exact p
  | exc c v M1 => rw [hc] at p; exact p
  | fail => rw [hc] at p; exact p
theorem ss_pass : PS X (.Pass pos) (TS1 (kx X Z) W (evS w .pass)) := by
  refine PS.imp ps_pass fun D σ H h => ?_
  obtain ⟨env, M, ρ, e, m, p⟩ := h
  simp only [evS] at p
  exact p.nx e m
theorem ss_brk : PS X (.Break pos) (TS1 (kx X Z) W (evS w .brk)) := by
  refine PS.imp ps_break fun D σ H h => ?_
  obtain ⟨env, M, ρ, e, m, p⟩ := h
  simp only [evS] at p
  exact p ρ H σ Fw.refl m e
theorem ss_cnt : PS X (.Continue pos) (TS1 (kx X Z) W (evS w .cnt)) := by
  refine PS.imp ps_continue fun D σ H h => ?_
  obtain ⟨env, M, ρ, e, m, p⟩ := h
  simp only [evS] at p
  exact p ρ H σ Fw.refl m e
theorem ss_retN : PS X (.Return none pos) (TS1 (kx X Z) W (evS w .retN)) := by
  refine PS.imp ps_retN fun D σ H h => ?_
  obtain ⟨env, M, ρ, e, m, p⟩ := h
  simp only [evS] at p
  exact p ρ H _ Fw.refl m vr_non
theorem ss_ret (h : PE X e (T1 (kx X Z) W (evE w ie))) : PS X (.Return (some e) pos) (TS1 (kx X Z) W (evS w (.ret ie))) := by
  refine PS.imp (ps_ret h) fun D σ H h => ?_
  obtain ⟨env, M, ρ, e, m, p⟩ := h
  simp only [evS] at p
  refine T1.go e m ((p.thn e m).imp fun x M1 ρ1 H1 f1 m1 q _ e1 _ u ru => ?_)
  exact q ρ1 H1 u Fw.refl m1 ru
theorem ss_expr (h : PE X e (T1 (kx X Z) W (evE w ie))) (hs : isComp e = false) : PS X (.Expr e pos) (TS1 (kx X Z) W (evS w (.expr ie))) := by
  refine PS.imp (ps_expr h (swaps_plain hs)) fun D σ H h => ?_
  obtain ⟨env, M, ρ, e, m, p⟩ := h
  simp only [evS] at p
  refine T1.go e m ((p.thn e m).imp fun x M1 ρ1 H1 f1 m1 q _ e1 _ u ru => ?_)
  exact q.nx e1 m1
theorem ss_if {t : T} {sa sb : List Stmt} {pa pb : List S} (ht : PT X a (Tb (kx X Z) W (evT w t))) (h1 : PSs X sa (TS1 (kx X Z) W (evSs w pa))) (h2 : PSs X sb (TS1 (kx X Z) W (evSs w pb))) : PS X (.If a sa sb pos) (TS1 (kx X Z) W (evS w (.ifs t pa pb))) := by
  refine PS.imp (ps_if ht h1 h2) fun D σ H h => ?_
  obtain ⟨env, M, ρ, e, m, p⟩ := h
  simp only [evS] at p
  refine ⟨env, M, ρ, e, m, (p.thn e m).imp fun k M1 ρ1 H1 f1 m1 q => ?_⟩
  cases k with
  | true => exact ⟨env, M1, ρ1, e.mono m.own f1, m1, q⟩
  | false => exact ⟨env, M1, ρ1, e.mono m.own f1, m1, q⟩
/-- a target that is no tuple's display, or a value that is none -/
theorem ss_asg {t : Expr} {g : Tg} (h : PE X e (T1 (kx X Z) W (evE w ie))) (hg : PG X t (Tg1 (kx X Z) g)) (hs : isComp e = false) (hw : swappedStores [t] e X.env = pure none) (ht : isStar t = false) : PS X (.Assign [t] e pos) (TS1 (kx X Z) W (evS w (.asg g ie))) := by
  have h1 : (assignEach [t] X.env).map (·.2) = [assign t X.env] := by cases t <;> first | rfl | (cases ht; done)
  refine PS.imp (ps_asg h hg (swaps_plain hs) hw h1) fun D σ H h => ?_
  obtain ⟨env, M, ρ, e, m, p⟩ := h
  simp only [evS] at p
  refine T1.go e m ((p.thn e m).imp fun x M1 ρ1 H1 f1 m1 q _ e1 _ u ru => ?_)
  split at q
  · rename_i env' hb
    exact ⟨env, M1, ρ1, x, e1, m1, ru, env', hb, fun σ' e' _ => q.nx e' m1⟩
  · exact q.elim
def isSlice : Expr → Bool
  | .Slice .. => true
  | _ => false
theorem swaps_sub {e a b : Expr} {p : Pos} {l : Nat} {env : PySem.Env} : swapsWith e (some (.Subscript a b p)) l env = pure false := by cases e <;> rfl
theorem swaps_att {e a : Expr} {x : Str} {p : Pos} {l : Nat} {env : PySem.Env} : swapsWith e (some (.Attribute a x p)) l env = pure false := by cases e <;> rfl
theorem ss_setI (hu : X.A.units + 1 < cLine) (hsl : isSlice b = false) (ha : PE X a (T1 (kx X Z) W (evE w ia))) (hb : PE X b (T1 (kx X Z) W (evE w ib))) (he : PE X e (T1 (kx X Z) W (evE w ie))) : PS X (.Assign [.Subscript a b pos2] e pos) (TS1 (kx X Z) W (evS w (.setI ia ib ie))) := by
  have hsub : PG X (.Subscript a b pos2) (gSub (T1 (kx X Z) W (evE w ia)) (T1 (kx X Z) W (evE w ib)) (sG (kx X Z))) := pg_sub ha hb (pset_lst (Z := Z) hu) (fun v => by cases b <;> first | rfl | (cases hsl; done))
  refine PS.imp (ps_asg he hsub (swaps_sub (e := e) (a := a) (b := b) (p := pos2) (l := pos.line) (env := X.env)) rfl rfl) fun D σ H h => ?_
  obtain ⟨env, M, ρ, e, m, p⟩ := h
  simp only [evS] at p
  refine T1.go e m ((p.thn e m).imp fun x M1 ρ1 H1 f1 m1 q _ e1 _ u ru => ?_)
  refine T1.go e1 m1 ((q.thn e1 m1).imp fun y M2 ρ2 H2 f2 m2 q2 _ e2 _ u2 ru2 => ?_)
  refine T1.go e2 m2 ((q2.thn e2 m2).imp fun z M3 ρ3 H3 f3 m3 q3 _ e3 _ u3 ru3 => ?_)
  refine ⟨M3, ρ3, y, z, x, m3, ru2.mono m2.own f3, ru3, (ru.mono m1.own f2).mono m2.own f3, ?_⟩
  cases hset : setL y z x M3 with
  | none =>
    rw [hset] at q3
    exact q3
  | some M4 =>
    rw [hset] at q3
    exact fun H' f' m' => q3 ρ3 H' σ f' m' (e3.mono m3.own f')
theorem ss_aug {i : Nat} {x : Str} {op : Operator} {o : O2} (hop : OpR X (inplaceOp op) (rGi (kx X Z) o)) (hN : X.N.Nodup) (hi : X.N[i]? = some x) (hx : Loc X.env.scope x) (hf : X.fn x = true ∨ X.env.scope.names.lookup x = some .local) (he : PE X e (T1 (kx X Z) W (evE w ie))) :
    PS X (.AugAssign (.Name x pos2) op e pos) (TS1 (kx X Z) W (evS w (.aug i o ie))) := by
  refine PS.imp (ps_aug hN hi hx he (show PIp X op (rGi (kx X Z) o) from hop) hf) fun D σ H h => ?_
  obtain ⟨env, M, ρ, e, m, p⟩ := h
  simp only [evS] at p
  split at p
  · rename_i v hv
    obtain ⟨u0, hu0, r0⟩ := e.val i v hv
    refine ⟨u0, hu0, T1.go e m ((p.thn e m).imp fun y M1 ρ1 H1 f1 m1 q _ e1 _ u ru => ?_)⟩
    refine ⟨M1, ρ1, v, y, m1, r0.mono m.own f1, ru, Pv.of ((q.thn e1 m1).imp fun z M2 ρ2 H2 f2 m2 q2 u2 ru2 => ?_) fun _ _ => iop_noexc⟩
    exact q2.nx ((e1.mono m1.own f2).set ru2) m2
  · exact p.elim
theorem ss_augI (hu : X.A.units + 1 < cLine) {op : Operator} {o : O2} (hop : OpR X (inplaceOp op) (rGi (kx X Z) o)) (ha : PE X a (T1 (kx X Z) W (evE w ia))) (hb : PE X b (T1 (kx X Z) W (evE w ib))) (he : PE X e (T1 (kx X Z) W (evE w ie)))
    (haug : ∀ ov iv new, augStore b ov iv new = (do holding [new, ov, iv] (setItem ov iv new); release [new, ov, iv] []; pure .next)) : PS X (.AugAssign (.Subscript a b pos2) op e pos) (TS1 (kx X Z) W (evS w (.augI ia ib o ie))) := by
  refine PS.imp (ps_augS ha hb (pget_idx (Z := Z) hu) he (show PIp X op (rGi (kx X Z) o) from hop) (pset_lst (Z := Z) hu) haug) fun D σ H h => ?_
  obtain ⟨env, M, ρ, e, m, p⟩ := h
  simp only [evS] at p
  refine T1.go e m ((p.thn e m).imp fun v M1 ρ1 H1 f1 m1 q _ e1 _ u ru => ?_)
  refine T1.go e1 m1 ((q.thn e1 m1).imp fun j M2 ρ2 H2 f2 m2 q2 _ e2 _ u2 ru2 => ?_)
  cases v <;> try exact q2.elim
  case ref n =>
  refine ⟨M2, ρ2, n, j, m2, ru.mono m1.own f2, ru2, Pv.of ((q2.thn e2 m2).imp fun x M3 ρ3 H3 f3 m3 q3 u3 ru3 => ?_) fun _ _ => op2_noexc⟩
  have e3 := e2.mono m2.own f3
  refine T1.go e3 m3 ((q3.thn e3 m3).imp fun y M4 ρ4 H4 f4 m4 q4 _ e4 _ u4 ru4 => ?_)
  refine ⟨M4, ρ4, x, y, m4, ru3.mono m3.own f4, ru4, Pv.of ((q4.thn e4 m4).imp fun z M5 ρ5 H5 f5 m5 q5 u5 ru5 => ?_) fun _ _ => iop_noexc⟩
  refine ⟨M5, ρ5, .ref n, j, z, m5, (((ru.mono m1.own f2).mono m2.own f3).mono m3.own f4).mono m4.own f5, ((ru2.mono m2.own f3).mono m3.own f4).mono m4.own f5, ru5, ?_⟩
  cases hset : setL (.ref n) j z M5 with
  | none =>
    rw [hset] at q5
    exact q5
  | some M6 =>
    rw [hset] at q5
    exact fun H' f' m' => q5 ρ5 H' σ f' m' ((e4.mono m4.own f5).mono m5.own f')
/-- two names at once -/
theorem ss_par {i j : Nat} {x y : Str} {px py pt : Pos} {kt k2 : Nat} {pt2 : Pos} (hc : X.calm = true) (hN : X.N.Nodup) (hi : X.N[i]? = some x) (hj : X.N[j]? = some y) (hij : i ≠ j) (hx : X.env.scope.names.lookup x = some .local) (hy : X.env.scope.names.lookup y = some .local)
    (hsa : isStar a = false) (hsb : isStar b = false) (ha : PE X a (T1 (kx X Z) W (evE w ia))) (hb : PE X b (T1 (kx X Z) W (evE w ib))) (hw : swappedStores [.Tuple [.Name x px, .Name y py] kt pt] (.Tuple [a, b] k2 pt2) X.env = pure (some [x, y])) :
    PS X (.Assign [.Tuple [.Name x px, .Name y py] kt pt] (.Tuple [a, b] k2 pt2) pos) (TS1 (kx X Z) W (evS w (.par i j ia ib))) := by
  refine PS.imp (ps_par hc hN hi hj hij hx hy (pa_cons ha (pa_cons hb pa_nil (star_cons hsb)) (star_cons hsa)) hw rfl) fun D σ H h => ?_
  obtain ⟨env, M, ρ, e, m, p⟩ := h
  simp only [evS] at p
  refine T1.go e m ((p.thn e m).imp fun v M1 ρ1 H1 f1 m1 q _ e1 _ u ru => ?_)
  refine T1.go e1 m1 ((q.thn e1 m1).imp fun v2 M2 ρ2 H2 f2 m2 q2 _ e2 _ u2 ru2 => ?_)
  exact ⟨u, u2, rfl, q2.nx ((e2.set (ru.mono m1.own f2)).set ru2) m2⟩
theorem ss_par3 {c : Expr} {ic : E} {i j l : Nat} {x y z : Str} {px py pz pt : Pos} {kt k2 : Nat} {pt2 : Pos} (hc : X.calm = true) (hN : X.N.Nodup) (hi : X.N[i]? = some x) (hj : X.N[j]? = some y) (hl : X.N[l]? = some z) (hij : i ≠ j) (hil : i ≠ l) (hjl : j ≠ l)
    (hx : X.env.scope.names.lookup x = some .local) (hy : X.env.scope.names.lookup y = some .local) (hz : X.env.scope.names.lookup z = some .local)
    (hsa : isStar a = false) (hsb : isStar b = false) (hsc : isStar c = false) (ha : PE X a (T1 (kx X Z) W (evE w ia))) (hb : PE X b (T1 (kx X Z) W (evE w ib))) (hcc : PE X c (T1 (kx X Z) W (evE w ic)))
    (hw : swappedStores [.Tuple [.Name x px, .Name y py, .Name z pz] kt pt] (.Tuple [a, b, c] k2 pt2) X.env = pure (some [x, y, z])) :
    PS X (.Assign [.Tuple [.Name x px, .Name y py, .Name z pz] kt pt] (.Tuple [a, b, c] k2 pt2) pos) (TS1 (kx X Z) W (evS w (.par3 i j l ia ib ic))) := by
  refine PS.imp (ps_par3 hc hN hi hj hl hij hil hjl hx hy hz (pa_cons ha (pa_cons hb (pa_cons hcc pa_nil (star_cons hsc)) (star_cons hsb)) (star_cons hsa)) hw rfl) fun D σ H h => ?_
  obtain ⟨env, M, ρ, e, m, p⟩ := h
  simp only [evS] at p
  refine T1.go e m ((p.thn e m).imp fun v M1 ρ1 H1 f1 m1 q _ e1 _ u ru => ?_)
  refine T1.go e1 m1 ((q.thn e1 m1).imp fun v2 M2 ρ2 H2 f2 m2 q2 _ e2 _ u2 ru2 => ?_)
  refine T1.go e2 m2 ((q2.thn e2 m2).imp fun v3 M3 ρ3 H3 f3 m3 q3 _ e3 _ u3 ru3 => ?_)
  exact ⟨u, u2, u3, rfl, q3.nx (((e3.set ((ru.mono m1.own f2).mono m2.own f3)).set (ru2.mono m2.own f3)).set ru3) m3⟩

/-! ### loops -/
/-- behind a turn -/
theorem PC.turn {K : Kx} {ρ : List Addr} {H : Hp} {c : Ctl} {on : Env → Mem → Ctl} {D : Ends} {N : St → Hp → Prop} (h : PC K W ρ H (c.turn on .nxt) D)
    (hN : ∀ env M ρ' H' σ', Fw ρ ρ' H H' → MemR K M ρ' H' → EnvR K ρ' H' env σ' → PC K W ρ' H' (on env M) D → N σ' H') : PC K W ρ H c { D with nx := N, ct := N, bk := D.nx } := by
  cases c with
  | nxt env M => exact fun ρ' H' σ' f m e => hN env M ρ' H' σ' f m e (PC.fw f h)
  | cnt env M => exact fun ρ' H' σ' f m e => hN env M ρ' H' σ' f m e (PC.fw f h)
  | brk env M => exact h
  | ret v M => exact h
  | exc c env M => exact h
  | fail => exact h
theorem ss_while {t : T} {sb : List Stmt} {pb : List S} (hp : PassesOwn (model X.prog X.w) X.A X.env X.xe) (ht : PT X a (Tb (kx X Z) W (evT w t))) (hb : PSs X sb (TS1 (kx X Z) W (evSs w pb))) : PS X (.While a sb [] pos) (TS1 (kx X Z) W (evS w (.whil t pb))) := by
  refine PS.imp (ps_while hp ht hb) fun D σ H h => ?_
  obtain ⟨env, M, ρ, e, m, p⟩ := h
  simp only [evS] at p
  refine ⟨fun n σ H => ∃ env M ρ, EnvR (kx X Z) ρ H env σ ∧ MemR (kx X Z) M ρ H ∧ PC (kx X Z) W ρ H (loopW (evT w t) (fun env M => evSs w pb env M) n env M) D, ⟨w.fuel, env, M, ρ, e, m, p⟩, ?_⟩
  rintro n σ H ⟨env, M, ρ, e, m, p⟩
  cases n with
  | zero => exact p.elim
  | succ n =>
    simp only [loopW] at p
    refine ⟨env, M, ρ, e, m, (p.thn e m).imp fun k M1 ρ1 H1 f1 m1 q => ?_⟩
    have e1 := e.mono m.own f1
    cases k with
    | true =>
      refine ⟨fun σ' H' => ∃ env M ρ, EnvR (kx X Z) ρ H' env σ' ∧ MemR (kx X Z) M ρ H' ∧ PC (kx X Z) W ρ H' (loopW (evT w t) (fun env M => evSs w pb env M) n env M) D, fun σ' H' z => ⟨n, by omega, z⟩, env, M1, ρ1, e1, m1, ?_⟩
      exact PC.turn q fun env2 M2 ρ2 H2 σ2 f2 m2 e2 q2 => ⟨env2, M2, ρ2, e2, m2, q2⟩
    | false => exact q.nx e1 m1
theorem ss_for {tg it : Expr} {g : Tg} {ii : I} {sb : List Stmt} {pb : List S} (hp : PassesOwn (model X.prog X.w) X.A X.env X.xe) (hc : X.calm = true) (hi : PI X tg it (Tw (kx X Z) W (evI w ii))) (hg : PG X tg (Tg1 (kx X Z) g)) (hb : PSs X sb (TS1 (kx X Z) W (evSs w pb)))
    (hs : ∀ x, foldedSetIterable it X.env x = pure x) : PS X (.For tg it sb [] pos) (TS1 (kx X Z) W (evS w (.forr g ii pb))) := by
  refine PS.imp (ps_for hp hc hi hg hb hs) fun D σ H h => ?_
  obtain ⟨env, M, ρ, e, m, p⟩ := h
  simp only [evS] at p
  refine ⟨env, M, ρ, e, m, (p.thn e m).imp fun s M1 ρ1 H1 f1 m1 q J ok => ?_⟩
  have e1 := e.mono m.own f1
  cases s with
  | items xs =>
    have q : PC (kx X Z) W ρ1 H1 (loopX g (fun env M => evSs w pb env M) xs env M1) D := q
    refine ⟨fun i n σ H => ∃ env M ρ, Fw ρ1 ρ H1 H ∧ EnvR (kx X Z) ρ H env σ ∧ MemR (kx X Z) M ρ H ∧ n = xs.length - i ∧ PC (kx X Z) W ρ H (loopX g (fun env M => evSs w pb env M) (xs.drop i) env M) D,
      ⟨xs.length, env, M1, ρ1, Fw.refl, e1, m1, rfl, q⟩, ?_⟩
    rintro i n σ H ⟨env, M, ρ, f, e, m, rfl, p⟩
    have o := ok ρ H M i f m
    cases hx : xs[i]? with
    | none =>
      rw [hx] at o
      have hl : xs.length ≤ i := List.getElem?_eq_none_iff.mp hx
      rw [List.drop_eq_nil_of_le hl] at p
      exact .inl ⟨o, p.nx e m⟩
    | some v =>
      rw [hx] at o
      have hl : i < xs.length := (List.getElem?_eq_some_iff.mp hx).1
      have hd : xs.drop i = v :: xs.drop (i + 1) := by
        rw [List.drop_eq_getElem_cons hl, (List.getElem?_eq_some_iff.mp hx).2]
      rw [hd] at p
      simp only [loopX] at p
      refine .inr ⟨o.1, fun σ' H' => ∃ env M ρ, Fw ρ1 ρ H1 H' ∧ EnvR (kx X Z) ρ H' env σ' ∧ MemR (kx X Z) M ρ H' ∧ PC (kx X Z) W ρ H' (loopX g (fun env M => evSs w pb env M) (xs.drop (i + 1)) env M) D,
        fun σ' H' ⟨env, M, ρ, f, e, m, p⟩ => ⟨xs.length - (i + 1), by omega, env, M, ρ, f, e, m, rfl, p⟩, fun x H' y => ?_⟩
      obtain ⟨f2, m2, rv⟩ := o.2 x H' y
      have e2 := e.mono m.own f2
      split at p
      · exact p.elim
      · rename_i env' hb'
        refine ⟨env, M, ρ, v, e2, m2, rv, env', hb', fun σ' e3 _ => ⟨env', M, ρ, e3, m2, ?_⟩⟩
        exact PC.turn (PC.fw f2 p) fun env3 M3 ρ3 H3 σ3 f3 m3 e3 q3 => ⟨env3, M3, ρ3, (f.trans f2).trans f3, e3, m3, q3⟩
  | mem k =>
    have q : PC (kx X Z) W ρ1 H1 (loopM g (fun env M => evSs w pb env M) k w.fuel 0 env M1) D := q
    refine ⟨fun i n σ H => ∃ env M ρ, Fw ρ1 ρ H1 H ∧ EnvR (kx X Z) ρ H env σ ∧ MemR (kx X Z) M ρ H ∧ PC (kx X Z) W ρ H (loopM g (fun env M => evSs w pb env M) k n i env M) D,
      ⟨w.fuel, env, M1, ρ1, Fw.refl, e1, m1, q⟩, ?_⟩
    rintro i n σ H ⟨env, M, ρ, f, e, m, p⟩
    cases n with
    | zero => exact p.elim
    | succ n =>
      simp only [loopM] at p
      split at p
      · rename_i xs hM
        have o := ok ρ H M i xs f m hM
        split at p
        · rename_i hx
          rw [hx] at o
          exact .inl ⟨o, p.nx e m⟩
        · rename_i v hx
          rw [hx] at o
          refine .inr ⟨o.1, fun σ' H' => ∃ env M ρ, Fw ρ1 ρ H1 H' ∧ EnvR (kx X Z) ρ H' env σ' ∧ MemR (kx X Z) M ρ H' ∧ PC (kx X Z) W ρ H' (loopM g (fun env M => evSs w pb env M) k n (i + 1) env M) D,
            fun σ' H' z => ⟨n, by omega, z⟩, fun x H' y => ?_⟩
          obtain ⟨f2, m2, rv⟩ := o.2 x H' y
          have e2 := e.mono m.own f2
          split at p
          · exact p.elim
          · rename_i env' hb'
            refine ⟨env, M, ρ, v, e2, m2, rv, env', hb', fun σ' e3 _ => ⟨env', M, ρ, e3, m2, ?_⟩⟩
            exact PC.turn (PC.fw f2 p) fun env3 M3 ρ3 H3 σ3 f3 m3 e3 q3 => ⟨env3, M3, ρ3, (f.trans f2).trans f3, e3, m3, q3⟩
      · exact p.elim
end
end HP

set_option Elab.async false
set_option linter.all false
set_option autoImplicit false
set_option maxRecDepth 100000
set_option maxHeartbeats 4000000
/-! .. slices, list comprehensions. -/
namespace HP
open PySem L2

/-! ### slices -/
theorem cutIx_eq (n d : Nat) (o : Option Int) : HT.sIx n d o = cutIx n d o := by
  cases o <;> rfl
theorem cut_rel {K : Kx} {ρ : List Addr} {H : Hp} {xs : List PV} {us : List V} (r : VRs K ρ H xs us) (lo hi : Option Int) : VRs K ρ H (cut xs lo hi) (cutV us lo hi) := by
  unfold cut cutV
  rw [cutIx_eq, cutIx_eq, r.length]
  exact VRs.take _ (VRs.drop _ r)
theorem vstr_cut {s : List Nat} (h : vstr s = true) (a b : Nat) : vstr ((s.drop a).take b) = true := by
  unfold vstr at *
  rw [List.all_eq_true] at *
  exact fun c hc => h c (List.mem_of_mem_drop (List.mem_of_mem_take hc))
/-- what a slice comes to -/
def rSl (K : Kx) : V → Option Int → Option Int → Hp → VK → Prop := fun x lo hi H Q => ∃ M ρ a, MemR K M ρ H ∧ VR K ρ H a x ∧ Pv K ρ H (cutR a lo hi M) Q
section
variable {X : Cx} {Z : Zx} {W : XW} {w : Wd} {a b c : Expr} {ia ib ic : E} {pos : Pos}
theorem sl_any : SlR X (rSl (kx X Z)) := by
  intro pins s σ H x v vl vu lo hi sl Q I rx hs pl pu h
  obtain ⟨M, ρ, a, m, ra, h⟩ := h
  unfold cutR at h
  split at h
  · rename_i xs
    obtain ⟨p, us, rfl, t, rr⟩ := ra.tup_
    refine sl_tupA pins s σ H _ v vl vu lo hi sl Q I rx hs pl pu ⟨p, us, rfl, t.sq, fun hw => ?_, fun _ z hz => h.tup m (cut_rel rr lo hi) hz⟩
    have e : cut xs lo hi = xs := by
      unfold cut
      rw [← cutIx_eq, ← cutIx_eq, ← rr.length, hw.1, hw.2, rr.length]
      simp
    rw [e] at h
    exact h.val m (vr_tup t rr)
  · rename_i xs
    obtain ⟨p, us, rfl, t, rr⟩ := ra.rol_
    exact sl_list pins s σ H _ v vl vu lo hi sl Q I rx hs pl pu ⟨p, us, rfl, t.sq, fun z hz => h.lst m (cut_rel rr lo hi) hz⟩
  · rename_i k
    have hv := ra.vs
    obtain ⟨z, rfl, e⟩ := ra.str_
    subst e
    split at h
    · rename_i hl
      refine sl_str pins s σ H _ v vl vu lo hi sl Q I rx hs pl pu ⟨z, rfl, by rw [str_len rfl]; exact Nat.le_trans hl lim_le, h.val m (vr_str ?_ ?_)⟩
      · unfold cutS cut
        rw [cutIx_eq, cutIx_eq, str_len rfl]
      · unfold cut
        exact vstr_cut hv _ _
    · exact h.elim
  · rename_i n
    obtain ⟨p, rfl, e⟩ := ra.ref_
    split at h
    · rename_i xs hx
      obtain ⟨us, hu, rr⟩ := m.lst hx e
      exact sl_list pins s σ H _ v vl vu lo hi sl Q I rx hs pl pu ⟨p, us, rfl, SqL.of hu, fun z hz => h.lst m (cut_rel rr lo hi) hz⟩
    · exact h.elim
  · exact h.elim
/-- a slice's part -/
def To (K : Kx) (W : XW) (f : Bool) (m : Env → Mem → Res PV) : TO := fun σ H Q => ∃ env M ρ, EnvR K ρ H env σ ∧ MemR K M ρ H ∧ Ps K W σ ρ H (if f then m env M else .ok .non M) fun v _ ρ' H' => ∃ o, partV f v = some o ∧ Q o H'
theorem PO.imp {e : Option Expr} {t t' : TO} (h : PO X e t) (f : ∀ σ H Q, t' σ H Q → t σ H Q) : PO X e t' := ⟨fun pins s σ H Q I q => h.run pins s σ H Q I (f σ H Q q)⟩
theorem so_none {i : E} : PO X none (To (kx X Z) W false (evE w i)) := by
  refine PO.imp po_none fun σ H Q h => ?_
  obtain ⟨env, M, ρ, e, m, p⟩ := h
  obtain ⟨o, h1, h2⟩ := Ps.here p m
  cases h1
  exact h2
theorem so_some (h : PE X a (T1 (kx X Z) W (evE w ia))) : PO X (some a) (To (kx X Z) W true (evE w ia)) := by
  refine PO.imp (po_some h) fun σ H Q h => ?_
  obtain ⟨env, M, ρ, e, m, p⟩ := h
  refine ⟨env, M, ρ, e, m, p.imp fun v M1 ρ1 H1 f1 m1 q u ru => ?_⟩
  obtain ⟨o, h1, h2⟩ := q
  unfold partV at h1
  simp only [if_true] at h1
  split at h1
  · cases h1
    cases ru.int_
    exact ⟨_, rfl, h2⟩
  · cases h1
theorem s_cut {lo hi : Option Expr} {fl fh : Bool} {il ih : E} {p2 : Pos} (ha : PE X a (T1 (kx X Z) W (evE w ia))) (hl : PO X lo (To (kx X Z) W fl (evE w il))) (hh : PO X hi (To (kx X Z) W fh (evE w ih))) : PE X (.Subscript a (.Slice lo hi none p2) pos) (T1 (kx X Z) W (evE w (.cut fl fh ia il ih))) := by
  refine PE.imp (pe_slice (sl_any (Z := Z)) ha hl hh) fun σ H Q h => ?_
  obtain ⟨env, M, ρ, e, m, p⟩ := h
  simp only [evE] at p
  refine T1.go e m (p.bind.imp fun v M1 ρ1 H1 f1 m1 q _ e1 _ u ru => ?_)
  refine ⟨env, M1, ρ1, e1, m1, q.bind.imp fun l M2 ρ2 H2 f2 m2 q2 => ?_⟩
  have e2 := e1.mono m1.own f2
  have r2 := ru.mono m1.own f2
  cases hpl : partV fl l with
  | none =>
    simp only [hpl] at q2
    exact q2.elim
  | some pl =>
    simp only [hpl] at q2
    refine ⟨pl, rfl, env, M2, ρ2, e2, m2, q2.bind.imp fun h M3 ρ3 H3 f3 m3 q3 => ?_⟩
    split at q3
    · rename_i ph hph
      exact ⟨ph, hph, M3, ρ3, v, m3, r2.mono m2.own f3, Pv.of q3 fun c M' hc => by
        unfold cutR at hc
        split at hc <;> first | (cases hc; done) | (split at hc <;> cases hc)⟩
    · exact q3.elim
/-! ### a list comprehension -/
theorem wipe_wipe (σ : St) (vs : List Nat) : wipe (wipe σ vs) vs = wipe σ vs := by
  have : ∀ ws : List Nat, (∀ v ∈ ws, v ∈ vs) → wipe (wipe σ vs) ws = wipe σ vs := by
    intro ws
    induction ws with
    | nil => exact fun _ => rfl
    | cons v ws ih =>
      intro h
      show (wipe (wipe σ vs) ws).set v none = wipe σ vs
      rw [ih fun x hx => h x (List.mem_cons_of_mem _ hx), wipe_none (h v List.mem_cons_self)]
  exact this vs fun _ h => h
theorem wipe_env {K : Kx} {ρ : List Addr} {H : Hp} {env : Env} {σ : St} (e : EnvR K ρ H env σ) : ∀ vs : List Nat, EnvR K ρ H (wipeE env vs) (wipe σ vs)
  | [] => e
  | v :: vs => by
    have ih := wipe_env e vs
    unfold wipeE wipe
    refine ⟨by simp [ih.len], fun j x hx => ?_⟩
    by_cases hj : v = j
    · subst hj
      rw [List.getElem?_set] at hx
      simp at hx
    · rw [List.getElem?_set_ne hj] at hx
      obtain ⟨u, h1, h2⟩ := ih.val j x hx
      exact ⟨u, by rw [List.getElem?_set_ne hj]; exact h1, h2⟩
/-- nothing is raised here -/
def W0 : XW := fun _ _ _ => False
theorem only_bind {α β γ : Type} {r : Res α} {f : α → Mem → Res β} {g : β → Mem → Res γ} : (r.only f).bind g = r.only fun a M => (f a M).bind g := by cases r <;> rfl
theorem Ps.only {α β : Type} {K : Kx} {W : XW} {σ : St} {ρ : List Addr} {H : Hp} {r : Res α} {f : α → Mem → Res β} {k : β → Mem → List Addr → Hp → Prop} (h : Ps K W σ ρ H (r.only f) k) : ∃ a M, r = .ok a M ∧ Ps K W σ ρ H (f a M) k := by
  cases r with
  | ok a M => exact ⟨a, M, rfl, h⟩
  | exc c M => exact h.elim
  | fail => exact h.elim
theorem evTs_one {t : T} {env : Env} {M : Mem} : evTs w [t] env M = evT w t env M := by
  simp only [evTs]
  cases h : evT w t env M with
  | ok b M1 => cases b <;> rfl
  | exc c M1 => rfl
  | fail => rfl
/-- the tests of a clause -/
theorem sts_nil : PTs X [] (Tb (kx X Z) W (evTs w [])) := ⟨fun pins s σ H Q I h => pts_nil.run pins s σ H Q I (by
  obtain ⟨env, M, ρ, e, m, p⟩ := h
  simp only [evTs] at p
  exact p.here m)⟩
theorem sts_one {t : T} (h : PT X a (Tb (kx X Z) W (evT w t))) : PTs X [a] (Tb (kx X Z) W (evTs w [t])) := ⟨fun pins s σ H Q I hw => (pts_one h).run pins s σ H Q I (by
  obtain ⟨env, M, ρ, e, m, p⟩ := hw
  rw [evTs_one] at p
  exact ⟨env, M, ρ, e, m, p⟩)⟩
theorem lc_readsG {own : List (Str × Nat)} {g : Tg} {ii : I} {ts : List T} {ie : E} {fin : List PV → Mem → Res PV} (hns : ∀ n ∈ tgN g, n ∈ own.map (·.2)) (σ : St) (H : Hp) (Q Q0 : VK)
    (hfin : ∀ (ρ1 ρ : List Addr) (H1 H : Hp) (M : Mem) (acc : List PV) (us : List V) (D : Addr), H1 D = none → Fw ρ1 ρ H1 H → MemR (kx X Z) M ρ H → D ∉ ρ → H D = some (.lst us) → VRs (kx X Z) ρ H acc us →
      Ps (kx X Z) W σ ρ1 H1 (fin acc M) (fun v _ ρ' H' => ∀ u, VR (kx X Z) ρ' H' v u → Q u H') → Q0 (.ref D) H)
    (h : ∃ env M ρ, EnvR (kx X Z) ρ H env σ ∧ MemR (kx X Z) M ρ H ∧ Ps (kx X Z) W σ ρ H ((evI w ii env M).bind fun s M1 => (lcS g (fun env M => evTs w ts env M) (fun env M => evE w ie env M) (wipeE env (own.map (·.2))) s M1).bind fin) fun v _ ρ' H' => ∀ u, VR (kx X Z) ρ' H' v u → Q u H') :
    tLc (Tw (kx X Z) W (evI w ii)) (Tg1 (kx X Z) g) (Tb (kx X Z) W0 (evTs w ts)) (T1 (kx X Z) W0 (evE w ie)) (own.map (·.2)) σ H Q0 := by
  obtain ⟨env, M, ρ, e, m, p⟩ := h
  refine ⟨env, M, ρ, e, m, p.bind.imp fun s M1 ρ1 H1 f1 m1 q J okJ D hD => ?_⟩
  have e1 := e.mono m.own f1
  have hDr : D ∉ ρ1 := m1.fresh hD
  -- the turns over items, the list that is walked standing as c says
  have key : ∀ (xs : List PV) (c : Mem → Prop), xs.length ≤ lim → (∀ (ρ : List Addr) (H : Hp) (M : Mem) (i : Nat), Fw ρ1 ρ H1 H → MemR (kx X Z) M ρ H → c M → match xs[i]? with
      | none => J.stop i H
      | some v => J.go i H ∧ ∀ x H', J.yld i H x H' → Fw ρ ρ H H' ∧ MemR (kx X Z) M ρ H' ∧ VR (kx X Z) ρ H' v x) →
      Ps (kx X Z) W σ ρ1 H1 ((lcX g (fun env M => evTs w ts env M) (fun env M => evE w ie env M) (wipeE env (own.map (·.2))) c xs M1).bind fin) (fun v _ ρ' H' => ∀ u, VR (kx X Z) ρ' H' v u → Q u H') →
      ∃ Wn : Nat → Nat → Hp → Prop, (∃ m, Wn 0 m (upd H1 D (.lst []))) ∧ ∀ i m H, Wn i m H →
        (J.stop i H ∧ Q0 (.ref D) H) ∨ (J.go i H ∧ ∃ Nx : Hp → Prop, (∀ H', Nx H' → ∃ m', m' < m ∧ Wn (i + 1) m' H') ∧ ∀ x H', J.yld i H x H' → Tg1 (kx X Z) g x (wipe σ (own.map (·.2))) H' fun σ2 H2 => wipe σ2 (own.map (·.2)) = wipe σ (own.map (·.2)) ∧ Tb (kx X Z) W0 (evTs w ts) σ2 H2 fun b H3 =>
          if b = true then T1 (kx X Z) W0 (evE w ie) σ2 H3 fun y H4 => ∃ acc, H4 D = some (.lst acc) ∧ acc.length < sizeLine ∧ Nx (upd H4 D (.lst (acc ++ [y]))) else Nx H3) := by
    intro xs c hlen okc p
    refine ⟨fun i n H => ∃ M ρ acc us, Fw ρ1 ρ H1 H ∧ MemR (kx X Z) M ρ H ∧ D ∉ ρ ∧ H D = some (.lst us) ∧ VRs (kx X Z) ρ H acc us ∧ n = xs.length - i ∧ i ≤ xs.length ∧ acc.length ≤ i ∧
      Ps (kx X Z) W σ ρ1 H1 ((lcX g (fun env M => evTs w ts env M) (fun env M => evE w ie env M) (wipeE env (own.map (·.2))) c (xs.drop i) M).bind fun vs M2 => fin (acc ++ vs) M2) (fun v _ ρ' H' => ∀ u, VR (kx X Z) ρ' H' v u → Q u H'),
      ⟨xs.length, M1, ρ1, [], [], Fw.out Fw.refl hD, m1.side hD, hDr, upd_same, vrs_nil, rfl, Nat.zero_le _, Nat.le_refl _, by simpa using p⟩, ?_⟩
    rintro i n H ⟨M, ρ, acc, us, f, m, hn, hu, rr, rfl, hile, hal, p⟩
    have eE : EnvR (kx X Z) ρ H env σ := e1.mono m1.own f
    cases hx : xs[i]? with
    | none =>
      have hl : xs.length ≤ i := List.getElem?_eq_none_iff.mp hx
      rw [List.drop_eq_nil_of_le hl] at p
      unfold lcX at p
      split at p
      · rename_i hcM
        have o := okc ρ H M i f m hcM
        rw [hx] at o
        refine .inl ⟨o, ?_⟩
        simp only [Res.bind_ok, List.append_nil] at p
        exact hfin ρ1 ρ H1 H M acc us D hD f m hn hu rr p
      · exact p.elim
    | some v =>
      have hl : i < xs.length := (List.getElem?_eq_some_iff.mp hx).1
      have hd : xs.drop i = v :: xs.drop (i + 1) := by
        rw [List.drop_eq_getElem_cons hl, (List.getElem?_eq_some_iff.mp hx).2]
      rw [hd] at p
      unfold lcX at p
      split at p
      rotate_left
      · exact p.elim
      rename_i hcM
      have o := okc ρ H M i f m hcM
      rw [hx] at o
      split at p
      · exact p.elim
      rename_i env' hb
      refine .inr ⟨o.1, fun H' => ∃ M ρ acc us, Fw ρ1 ρ H1 H' ∧ MemR (kx X Z) M ρ H' ∧ D ∉ ρ ∧ H' D = some (.lst us) ∧ VRs (kx X Z) ρ H' acc us ∧ acc.length ≤ i + 1 ∧
        Ps (kx X Z) W σ ρ1 H1 ((lcX g (fun env M => evTs w ts env M) (fun env M => evE w ie env M) (wipeE env (own.map (·.2))) c (xs.drop (i + 1)) M).bind fun vs M2 => fin (acc ++ vs) M2) (fun v _ ρ' H' => ∀ u, VR (kx X Z) ρ' H' v u → Q u H'),
        fun H' ⟨M, ρ, acc, us, z1, z2, z3, z4, z5, z6, z7⟩ => ⟨xs.length - (i + 1), by omega, M, ρ, acc, us, z1, z2, z3, z4, z5, rfl, hl, z6, z7⟩, fun x H' y => ?_⟩
      obtain ⟨f2, m2, rv⟩ := o.2 x H' y
      have eE2 := wipe_env (eE.mono m.own f2) (own.map (·.2))
      refine ⟨wipeE env (own.map (·.2)), M, ρ, v, eE2, m2, rv, env', hb, fun σ2 e3 t3 => ⟨?_, env', M, ρ, e3, m2, ?_⟩⟩
      · have z := t3 (own.map (·.2)) hns
        rw [z]
        exact wipe_wipe σ _
      -- D is kept while the turn runs
      have keepD : ∀ {ρ' H''}, Fw ρ ρ' H H'' → H'' D = some (.lst us) ∧ D ∉ ρ' := fun {ρ' H''} fw => ⟨fw.keep D _ hu hn, fun z => by
        rcases fw.new D z with q | q
        · exact hn q
        · rw [hu] at q; cases q⟩
      rw [only_bind] at p
      obtain ⟨b, Mb, hr, pb⟩ := p.only
      rw [hr]
      intro ρ2 H2 f3 m3
      have f23 : Fw ρ ρ2 H H2 := f2.trans f3
      cases b with
      | false =>
        simp only [Bool.false_eq_true, if_false] at pb ⊢
        exact ⟨Mb, ρ2, acc, us, f.trans f23, m3, (keepD f23).2, (keepD f23).1, rr.mono m.own f23, by omega, pb⟩
      | true =>
        simp only [if_true] at pb ⊢
        rw [only_bind] at pb
        obtain ⟨v', Mv, hv, pv⟩ := pb.only
        refine ⟨env', Mb, ρ2, e3.mono m2.own f3, m3, ?_⟩
        rw [hv]
        intro ρ4 H4 f4 m4 y ry
        have f24 : Fw ρ ρ4 H H4 := f23.trans f4
        obtain ⟨hD4, hn4⟩ := keepD f24
        have rr4 := rr.mono m.own f24
        rw [only_bind] at pv
        obtain ⟨vs, M3, hl3, pl⟩ := pv.only
        refine ⟨us, hD4, ?_, Mv, ρ4, acc ++ [v'], us ++ [y], Fw.out (f.trans f24) hD, m4.out hD4 hn4, hn4, upd_same, VRs.out hD4 _ _ (rr4.append (vrs_cons ry vrs_nil)), by rw [List.length_append, List.length_singleton]; omega, ?_⟩
        · rw [rr.length]
          exact lim_lt (by omega)
        · rw [hl3]
          simpa using pl
  have q : Ps (kx X Z) W σ ρ1 H1 ((lcS g (fun env M => evTs w ts env M) (fun env M => evE w ie env M) (wipeE env (own.map (·.2))) s M1).bind fin) fun v _ ρ' H' => ∀ u, VR (kx X Z) ρ' H' v u → Q u H' := q
  cases s with
  | items xs =>
    unfold lcS at q
    simp only at q
    split at q
    · rename_i hlen
      exact key xs (fun _ => True) hlen (fun ρ H M i f m _ => okJ ρ H M i f m) q
    · exact q.elim
  | mem n =>
    unfold lcS at q
    simp only at q
    split at q
    · rename_i xs hM
      split at q
      · rename_i hlen
        exact key xs (fun M => M[n]? = some (.lst xs)) hlen (fun ρ H M i f m hcM => okJ ρ H M i xs f m hcM) q
      · exact q.elim
    · exact q.elim
theorem lc_reads {own : List (Str × Nat)} {g : Tg} {ii : I} {ts : List T} {ie : E} (hns : ∀ n ∈ tgN g, n ∈ own.map (·.2)) (σ : St) (H : Hp) (Q : VK) (h : T1 (kx X Z) W (evE w (.lc g ii ts (own.map (·.2)) ie)) σ H Q) :
    tLc (Tw (kx X Z) W (evI w ii)) (Tg1 (kx X Z) g) (Tb (kx X Z) W0 (evTs w ts)) (T1 (kx X Z) W0 (evE w ie)) (own.map (·.2)) σ H Q := by
  obtain ⟨env, M, ρ, e, m, p⟩ := h
  simp only [evE] at p
  refine lc_readsG hns σ H Q Q (fun ρ1 ρ H1 H M acc us D hD f m hn hu rr p => ?_) ⟨env, M, ρ, e, m, p⟩
  refine p (ρ ++ [D]) H (f.adopt hD) (m.adopt hu hn rr) _ (vr_ref ?_)
  rw [List.getElem?_append_right (by rw [m.len]; exact Nat.le_refl _), m.len]
  simp
/-- .. to a list that never changes -/
theorem rlc_reads {own : List (Str × Nat)} {g : Tg} {ii : I} {ts : List T} {ie : E} (hns : ∀ n ∈ tgN g, n ∈ own.map (·.2)) (σ : St) (H : Hp) (Q Q0 : VK) (hQ : ∀ u H1, (∃ p us, u = .ref p ∧ H1 p = some (.lst us) ∧ ∀ o, Q u (upd H1 p (.frz o (.lst us)))) → Q0 u H1) (h : T1 (kx X Z) W (evE w (.rlc g ii ts (own.map (·.2)) ie)) σ H Q) :
    tLc (Tw (kx X Z) W (evI w ii)) (Tg1 (kx X Z) g) (Tb (kx X Z) W0 (evTs w ts)) (T1 (kx X Z) W0 (evE w ie)) (own.map (·.2)) σ H Q0 := by
  obtain ⟨env, M, ρ, e, m, p⟩ := h
  simp only [evE] at p
  refine lc_readsG hns σ H Q _ (fun ρ1 ρ H1 H M acc us D hD f m hn hu rr p => hQ _ _ ⟨D, us, rfl, hu, fun o => ?_⟩) ⟨env, M, ρ, e, m, p⟩
  exact p ρ _ (f.out hD) (m.out hu hn) _ (vr_rol (.inl ⟨o, upd_same⟩) (rr.out hu))
theorem s_lc {elt tg iter : Expr} {ifs : List Expr} {scope : Scope} {own : List (Str × Nat)} {g : Tg} {ii : I} {ts : List T} {ie : E} (hc : X.calm = true) (hN : X.N.Nodup) (hi : PI X tg iter (Tw (kx X Z) W (evI w ii))) (ok : BlkOk X.N X.env.scope scope own) (hns : ∀ n ∈ tgN g, n ∈ own.map (·.2))
    (hg : ∀ (s : Shared) (H : Hp) (C : Addr) (cl : List (Str × Addr)) (fp : List Addr), PG (X.blk s H scope (compEnvC scope cl C X.env) fp) tg (Tg1 (kx X Z) g)) (ht : ∀ (s : Shared) (H : Hp) (C : Addr) (cl : List (Str × Addr)) (fp : List Addr), PTs (X.blk s H scope (compEnvC scope cl C X.env) fp) ifs (Tb (kx X Z) W0 (evTs w ts)))
    (he : ∀ (s : Shared) (H : Hp) (C : Addr) (cl : List (Str × Addr)) (fp : List Addr), PE (X.blk s H scope (compEnvC scope cl C X.env) fp) elt (T1 (kx X Z) W0 (evE w ie))) (hs : ∀ x, foldedSetIterable iter X.env x = pure x) :
    PE X (.ListComp elt [⟨tg, iter, ifs, 0⟩] scope pos) (T1 (kx X Z) W (evE w (.lc g ii ts (own.map (·.2)) ie))) := by
  exact PE.imp (pe_lc hc hN hi ok hg ht he hs) (lc_reads hns)
theorem s_rlc {elt tg iter : Expr} {ifs : List Expr} {scope : Scope} {own : List (Str × Nat)} {g : Tg} {ii : I} {ts : List T} {ie : E} (hc : X.calm = true) (hN : X.N.Nodup) (hi : PI X tg iter (Tw (kx X Z) W (evI w ii))) (ok : BlkOk X.N X.env.scope scope own) (hns : ∀ n ∈ tgN g, n ∈ own.map (·.2))
    (hg : ∀ (s : Shared) (H : Hp) (C : Addr) (cl : List (Str × Addr)) (fp : List Addr), PG (X.blk s H scope (compEnvC scope cl C X.env) fp) tg (Tg1 (kx X Z) g)) (ht : ∀ (s : Shared) (H : Hp) (C : Addr) (cl : List (Str × Addr)) (fp : List Addr), PTs (X.blk s H scope (compEnvC scope cl C X.env) fp) ifs (Tb (kx X Z) W0 (evTs w ts)))
    (he : ∀ (s : Shared) (H : Hp) (C : Addr) (cl : List (Str × Addr)) (fp : List Addr), PE (X.blk s H scope (compEnvC scope cl C X.env) fp) elt (T1 (kx X Z) W0 (evE w ie))) (hs : ∀ x, foldedSetIterable iter X.env x = pure x) :
    PE X (.ListComp elt [⟨tg, iter, ifs, 0⟩] scope pos) (T1 (kx X Z) W (evE w (.rlc g ii ts (own.map (·.2)) ie))) := by
  exact PE.imp (pe_frz (pe_lc hc hN hi ok hg ht he hs)) fun σ H Q h => rlc_reads hns σ H Q _ (fun u H1 z => .inl z) h
/-- name = [..] on one line -/
theorem ss_setLc {i : Nat} {y : Str} {py spos : Pos} {elt tg iter : Expr} {ifs : List Expr} {scope : Scope} {own : List (Str × Nat)} {g : Tg} {ii : I} {ts : List T} {ie : E} (hc : X.calm = true) (hN : X.N.Nodup) (hy : X.N[i]? = some y) (hyl : X.env.scope.names.lookup y = some .local)
    (hk : X.env.scope.kind = .function) (hl : (py.line == pos.line) = true) (ha : (scope.names.any fun (n, k) => n == y && (k == .local || k == .cell)) = false) (hi : PI X tg iter (Tw (kx X Z) W (evI w ii))) (ok : BlkOk X.N X.env.scope scope own) (hns : ∀ n ∈ tgN g, n ∈ own.map (·.2))
    (hg : ∀ (s : Shared) (H : Hp) (C : Addr) (cl : List (Str × Addr)) (fp : List Addr), PG (X.blk s H scope (compEnvC scope cl C X.env) fp) tg (Tg1 (kx X Z) g)) (ht : ∀ (s : Shared) (H : Hp) (C : Addr) (cl : List (Str × Addr)) (fp : List Addr), PTs (X.blk s H scope (compEnvC scope cl C X.env) fp) ifs (Tb (kx X Z) W0 (evTs w ts)))
    (he : ∀ (s : Shared) (H : Hp) (C : Addr) (cl : List (Str × Addr)) (fp : List Addr), PE (X.blk s H scope (compEnvC scope cl C X.env) fp) elt (T1 (kx X Z) W0 (evE w ie))) (hs : ∀ x, foldedSetIterable iter X.env x = pure x) :
    PS X (.Assign [.Name y py] (.ListComp elt [⟨tg, iter, ifs, 0⟩] scope pos) spos) (TS1 (kx X Z) W (evS w (.asg (.name i) (.lc g ii ts (own.map (·.2)) ie)))) := by
  refine PS.imp (ps_setLc hc hN hy hyl (sw_true hk hyl hl ha) hi ok hg ht he hs) fun D σ H h => ?_
  obtain ⟨env, M, ρ, e, m, p⟩ := h
  simp only [evS] at p
  refine lc_reads hns σ H _ (T1.go e m ((p.thn e m).imp fun x M1 ρ1 H1 f1 m1 q _ e1 _ u ru => ?_))
  split at q
  · rename_i env' hb
    simp only [bindT] at hb
    split at hb
    · cases hb
      exact q.nx (e1.set ru) m1
    · cases hb
  · exact q.elim
/-- name = [..] on one line -/
theorem ss_setRlc {i : Nat} {y : Str} {py spos : Pos} {elt tg iter : Expr} {ifs : List Expr} {scope : Scope} {own : List (Str × Nat)} {g : Tg} {ii : I} {ts : List T} {ie : E} (hc : X.calm = true) (hN : X.N.Nodup) (hy : X.N[i]? = some y) (hyl : X.env.scope.names.lookup y = some .local)
    (hk : X.env.scope.kind = .function) (hl : (py.line == pos.line) = true) (ha : (scope.names.any fun (n, k) => n == y && (k == .local || k == .cell)) = false) (hi : PI X tg iter (Tw (kx X Z) W (evI w ii))) (ok : BlkOk X.N X.env.scope scope own) (hns : ∀ n ∈ tgN g, n ∈ own.map (·.2))
    (hg : ∀ (s : Shared) (H : Hp) (C : Addr) (cl : List (Str × Addr)) (fp : List Addr), PG (X.blk s H scope (compEnvC scope cl C X.env) fp) tg (Tg1 (kx X Z) g)) (ht : ∀ (s : Shared) (H : Hp) (C : Addr) (cl : List (Str × Addr)) (fp : List Addr), PTs (X.blk s H scope (compEnvC scope cl C X.env) fp) ifs (Tb (kx X Z) W0 (evTs w ts)))
    (he : ∀ (s : Shared) (H : Hp) (C : Addr) (cl : List (Str × Addr)) (fp : List Addr), PE (X.blk s H scope (compEnvC scope cl C X.env) fp) elt (T1 (kx X Z) W0 (evE w ie))) (hs : ∀ x, foldedSetIterable iter X.env x = pure x) :
    PS X (.Assign [.Name y py] (.ListComp elt [⟨tg, iter, ifs, 0⟩] scope pos) spos) (TS1 (kx X Z) W (evS w (.asg (.name i) (.rlc g ii ts (own.map (·.2)) ie)))) := by
  refine PS.imp (ps_frz (ps_setLc hc hN hy hyl (sw_true hk hyl hl ha) hi ok hg ht he hs)) fun D σ H h => ?_
  obtain ⟨env, M, ρ, e, m, p⟩ := h
  simp only [evS] at p
  refine rlc_reads hns σ H (fun u H' => D.nx (σ.set i (some u)) H') _ (fun u H1 z => by obtain ⟨p, us, rfl, hp, z⟩ := z; exact ⟨p, us, hp, z⟩) (T1.go e m ((p.thn e m).imp fun x M1 ρ1 H1 f1 m1 q _ e1 _ u ru => ?_))
  split at q
  · rename_i env' hb
    simp only [bindT] at hb
    split at hb
    · cases hb
      exact q.nx (e1.set ru) m1
    · cases hb
  · exact q.elim
end
end HP

set_option Elab.async false
set_option linter.all false
set_option autoImplicit false
set_option maxRecDepth 100000
set_option maxHeartbeats 4000000
/-! .. lists that never change, dicts' displays, attributes, instances that are made, own methods. -/
namespace HP
open PySem L2

section
variable {X : Cx} {Z : Zx} {W : XW} {w : Wd} {a b c : Expr} {es : List Expr} {ia ib ic : E} {is : List E} {pos : Pos}
/-! ### lists that never change -/
theorem s_rls (hs : PA X es (Tn (kx X Z) W (evEs w is))) : PE X (.List es pos) (T1 (kx X Z) W (evE w (.rls is))) := by
  refine PE.imp (pe_frz (pe_lst hs)) fun σ H Q h => ?_
  obtain ⟨env, M, ρ, e, m, p⟩ := h
  simp only [evE] at p
  refine ⟨env, M, ρ, e, m, p.bind.imp fun xs M1 ρ1 H1 f1 m1 q us rus => ?_⟩
  split at q
  · rename_i hl
    refine ⟨by rw [rus.length]; exact Nat.le_trans hl lim_le, fun z hz => .inl ⟨z, us, rfl, upd_same, fun o => ?_⟩⟩
    rw [upd_upd]
    exact (Pv.of q fun _ _ z => nomatch z).rol m1 rus hz
  · exact q.elim
theorem sl_frz {r : V → Option Int → Option Int → Hp → VK → Prop} (h : SlR X r) : SlR X (fun x lo hi H Q => r x lo hi H (frzQ Q)) := by
  intro pins s σ H x v vl vu lo hi sl Q I rx hs pl pu q
  obtain ⟨T, id, h1, h2, h3⟩ := h pins s σ H x v vl vu lo hi sl _ I rx hs pl pu q
  exact ⟨T, id, h1, h2, wpAny_mono h3 (fun r s' z => frz_ep z) fun _ _ z => z⟩
def rSlR (K : Kx) : V → Option Int → Option Int → Hp → VK → Prop := fun x lo hi H Q => ∃ M ρ a, MemR K M ρ H ∧ VR K ρ H a x ∧ Pv K ρ H (rcutR a lo hi M) Q
theorem sl_anyR : SlR X (rSlR (kx X Z)) := by
  intro pins s σ H x v vl vu lo hi sl Q I rx hs pl pu h
  obtain ⟨M, ρ, a, m, ra, h⟩ := h
  unfold rcutR at h
  split at h
  · refine sl_any (Z := Z) pins s σ H x v vl vu lo hi sl Q I rx hs pl pu ⟨M, ρ, _, m, ra, ?_⟩
    unfold cutR
    exact h
  · refine sl_any (Z := Z) pins s σ H x v vl vu lo hi sl Q I rx hs pl pu ⟨M, ρ, _, m, ra, ?_⟩
    unfold cutR
    exact h
  · rename_i xs
    obtain ⟨p, us, rfl, t, rr⟩ := ra.rol_
    exact sl_frz sl_list pins s σ H _ v vl vu lo hi sl Q I rx hs pl pu ⟨p, us, rfl, t.sq, fun z hz => .inl ⟨z, _, rfl, upd_same, fun o => by rw [upd_upd]; exact h.rol m (cut_rel rr lo hi) hz⟩⟩
  · rename_i n
    obtain ⟨p, rfl, e⟩ := ra.ref_
    split at h
    · rename_i xs hx
      obtain ⟨us, hu, rr⟩ := m.lst hx e
      exact sl_frz sl_list pins s σ H _ v vl vu lo hi sl Q I rx hs pl pu ⟨p, us, rfl, SqL.of hu, fun z hz => .inl ⟨z, _, rfl, upd_same, fun o => by rw [upd_upd]; exact h.rol m (cut_rel rr lo hi) hz⟩⟩
    · exact h.elim
  · exact h.elim
theorem s_rcut {lo hi : Option Expr} {fl fh : Bool} {il ih : E} {p2 : Pos} (ha : PE X a (T1 (kx X Z) W (evE w ia))) (hl : PO X lo (To (kx X Z) W fl (evE w il))) (hh : PO X hi (To (kx X Z) W fh (evE w ih))) : PE X (.Subscript a (.Slice lo hi none p2) pos) (T1 (kx X Z) W (evE w (.rcut fl fh ia il ih))) := by
  refine PE.imp (pe_slice (sl_anyR (Z := Z)) ha hl hh) fun σ H Q h => ?_
  obtain ⟨env, M, ρ, e, m, p⟩ := h
  simp only [evE] at p
  refine T1.go e m (p.bind.imp fun v M1 ρ1 H1 f1 m1 q _ e1 _ u ru => ?_)
  refine ⟨env, M1, ρ1, e1, m1, q.bind.imp fun l M2 ρ2 H2 f2 m2 q2 => ?_⟩
  have e2 := e1.mono m1.own f2
  have r2 := ru.mono m1.own f2
  cases hpl : partV fl l with
  | none =>
    simp only [hpl] at q2
    exact q2.elim
  | some pl =>
    simp only [hpl] at q2
    refine ⟨pl, rfl, env, M2, ρ2, e2, m2, q2.bind.imp fun h M3 ρ3 H3 f3 m3 q3 => ?_⟩
    split at q3
    · rename_i ph hph
      exact ⟨ph, hph, M3, ρ3, v, m3, r2.mono m2.own f3, Pv.of q3 fun c M' hc => by
        unfold rcutR at hc
        split at hc <;> first | (cases hc; done) | (split at hc <;> cases hc)⟩
    · exact q3.elim

/-! ### attributes -/
theorem ins_of {M : Mem} {ρ : List Addr} {H : Hp} {v : PV} {x : V} {c : Nat} {ns : List Nat} {vs : List PV} (m : MemR (kx X Z) M ρ H) (r : VR (kx X Z) ρ H v x) (h : insOf v M = some (c, ns, vs)) :
    ∃ p dx us, x = .ref p ∧ H p = some (.ins (Z.cls c) dx ((ns.map Z.anm).zip us)) ∧ us.length = ns.length ∧ VRs (kx X Z) ρ H vs us ∧ c < Z.nc := by
  cases v <;> simp only [insOf] at h <;> try (cases h; done)
  case obj =>
    cases h
    unfold VR at r
    obtain ⟨p, us, rfl, _, ⟨⟨dx, h1, h2⟩, _, hc⟩, rr⟩ := r
    exact ⟨p, dx, us, rfl, h1, h2, rr, hc⟩
  case ref n =>
    obtain ⟨p, rfl, e⟩ := r.ref_
    split at h
    · rename_i c' ns' vs' hM
      cases h
      obtain ⟨hc, dx, us, h1, h2, rr⟩ := m.cell n _ p hM e
      exact ⟨p, dx, us, rfl, h1, h2, rr, hc⟩
    · cases h
theorem lookup_at {K : Kx} {ρ : List Addr} {H : Hp} (inj : ∀ i j, Z.anm i = Z.anm j → i = j) {n : Nat} : ∀ {ns : List Nat} {vs : List PV} {us : List V} {v : PV}, getA n ns vs = some v → VRs K ρ H vs us → ∃ u, ((ns.map Z.anm).zip us).lookup (Z.anm n) = some u ∧ VR K ρ H v u
  | [], _, _, _, h, _ => by simp [getA] at h
  | m :: ns, [], _, _, h, _ => by simp [getA] at h
  | m :: ns, x :: vs, us, v, h, r => by
    obtain ⟨u, ur, rfl, a, b⟩ := r.inv
    simp only [getA] at h
    simp only [List.map_cons, List.zip_cons_cons, List.lookup_cons]
    by_cases e : m = n
    · rw [if_pos e] at h
      cases h
      subst e
      exact ⟨u, by simp, a⟩
    · rw [if_neg e] at h
      have hne : (Z.anm n == Z.anm m) = false := beq_eq_false_iff_ne.mpr fun z => e (inj _ _ z).symm
      rw [hne]
      exact lookup_at inj h b
theorem lookup_none (inj : ∀ i j, Z.anm i = Z.anm j → i = j) {n : Nat} : ∀ {ns : List Nat} {us : List V}, n ∉ ns → ((ns.map Z.anm).zip us).lookup (Z.anm n) = none
  | [], _, _ => by simp
  | m :: ns, [], _ => by simp
  | m :: ns, u :: us, h => by
    simp only [List.mem_cons, not_or] at h
    simp only [List.map_cons, List.zip_cons_cons, List.lookup_cons]
    have hne : (Z.anm n == Z.anm m) = false := beq_eq_false_iff_ne.mpr fun z => h.1 (inj _ _ z)
    rw [hne]
    exact lookup_none inj h.2
/-- .. where no instance has such a name -/
theorem lookup_not {x : Str} (hx : ∀ i, Z.anm i ≠ x) : ∀ {ns : List Nat} {us : List V}, ((ns.map Z.anm).zip us).lookup x = none
  | [], _ => by simp
  | m :: ns, [] => by simp
  | m :: ns, u :: us => by
    simp only [List.map_cons, List.zip_cons_cons, List.lookup_cons]
    have hne : (x == Z.anm m) = false := beq_eq_false_iff_ne.mpr fun z => hx m z.symm
    rw [hne]
    exact lookup_not hx
theorem put_at {K : Kx} {ρ : List Addr} {H : Hp} (inj : ∀ i j, Z.anm i = Z.anm j → i = j) {n : Nat} {v : PV} {y : V} (rv : VR K ρ H v y) : ∀ {ns : List Nat} {vs : List PV} {us : List V}, VRs K ρ H vs us → us.length = ns.length →
    ∃ us', putF (Z.anm n) y ((ns.map Z.anm).zip us) = ((putAn n ns).map Z.anm).zip us' ∧ us'.length = (putAn n ns).length ∧ VRs K ρ H (putAv n v ns vs) us'
  | [], vs, us, r, l => by
    have : us = [] := List.eq_nil_of_length_eq_zero (by simpa using l)
    subst this
    exact ⟨[y], rfl, rfl, vrs_cons rv vrs_nil⟩
  | m :: ns, [], us, r, l => by
    rw [r.nil] at l
    simp at l
  | m :: ns, x :: vs, us, r, l => by
    obtain ⟨u, ur, rfl, a, b⟩ := r.inv
    simp only [putAn, putAv, List.map_cons, List.zip_cons_cons, putF]
    by_cases e : m = n
    · subst e
      rw [if_pos rfl, if_pos rfl, if_pos rfl]
      exact ⟨y :: ur, by simp, by simpa using l, vrs_cons rv b⟩
    · rw [if_neg e, if_neg e, if_neg (fun z => e (inj _ _ z))]
      obtain ⟨us', h1, h2, h3⟩ := put_at inj rv b (by simpa using l)
      exact ⟨u :: us', by simp [h1], by simp [h2], vrs_cons a h3⟩
/-- an attribute's rules: of the text -/
def AtF (K : PySem.W.Frag) (Z : Zx) (n : Nat) (cs : List Nat) : Prop := ∀ c ∈ cs, NoAttr K (Z.cls c) (Z.anm n)
theorem fldR_ok {M : Mem} {ρ : List Addr} {H : Hp} {v : PV} {x : V} {n : Nat} {cs : List Nat} {Q : PV → Mem → List Addr → Hp → Prop} {W : XW} {σ : L2.St} (inj : ∀ i j, Z.anm i = Z.anm j → i = j) (F : ClsF (kx X Z)) (at_ : AtF X.K Z n cs) (m : MemR (kx X Z) M ρ H) (r : VR (kx X Z) ρ H v x) (h : Ps (kx X Z) W σ ρ H (fldR v n cs M) Q) :
    ∃ p C dx fs u w', x = .ref p ∧ H p = some (.ins C dx fs) ∧ Cls X.K C ∧ NoAttr X.K C (Z.anm n) ∧ fs.lookup (Z.anm n) = some u ∧ VR (kx X Z) ρ H w' u ∧ fldR v n cs M = .ok w' M ∧ ∃ c, (insOf v M).map (·.1) = some c ∧ C = Z.cls c := by
  unfold fldR at h
  split at h
  · rename_i c ns vs hi
    obtain ⟨p, dx, us, rfl, h1, h2, rr, hc⟩ := ins_of m r hi
    split at h
    · rename_i hcs
      split at h
      · rename_i u hu
        obtain ⟨y, hy, ry⟩ := lookup_at (Z := Z) inj hu rr
        exact ⟨p, _, dx, _, y, u, rfl, h1, (F.ci c hc).cl, at_ c hcs, hy, ry, by unfold fldR; rw [hi]; simp only [hcs, if_true, hu], c, by rw [hi]; rfl, rfl⟩
      · exact h.elim
    · exact h.elim
  · exact h.elim
theorem s_fld {n : Nat} {cs : List Nat} {x : Str} (inj : ∀ i j, Z.anm i = Z.anm j → i = j) (F : ClsF (kx X Z)) (at_ : AtF X.K Z n cs) (hx : Z.anm n = x) (hb : plainBase a = true) (ha : PE X a (T1 (kx X Z) W (evE w ia))) : PE X (.Attribute a x pos) (T1 (kx X Z) W (evE w (.fld ia n cs))) := by
  subst hx
  refine PE.imp (pe_fld ha (base_plain hb)) fun σ H Q h => ?_
  obtain ⟨env, M, ρ, e, m, p⟩ := h
  simp only [evE] at p
  refine T1.go e m (p.bind.imp fun v M1 ρ1 H1 f1 m1 q _ e1 _ u ru => ?_)
  obtain ⟨p, C, dx, fs, y, w', h1, h2, h3, h4, h5, h6, h7, _⟩ := fldR_ok inj F at_ m1 ru q
  rw [h7] at q
  exact ⟨p, C, dx, fs, y, h1, h2, h3, h4, h5, q.here m1 _ h6⟩
theorem setAR_ok {M M' : Mem} {ρ : List Addr} {H : Hp} {v y : PV} {x u : V} {n : Nat} {cs : List Nat} (inj : ∀ i j, Z.anm i = Z.anm j → i = j) (F : ClsF (kx X Z)) (at_ : AtF X.K Z n cs) (m : MemR (kx X Z) M ρ H) (r : VR (kx X Z) ρ H v x) (ry : VR (kx X Z) ρ H y u) (h : setAR v n cs y M = some M') :
    ∃ p C dx fs, x = .ref p ∧ H p = some (.ins C dx fs) ∧ Cls X.K C ∧ NoAttr X.K C (Z.anm n) ∧ fs.length < 1000 ∧ Fw ρ ρ H (upd H p (.ins C dx (putF (Z.anm n) u fs))) ∧ MemR (kx X Z) M' ρ (upd H p (.ins C dx (putF (Z.anm n) u fs))) ∧ ∃ c, (insOf v M).map (·.1) = some c ∧ C = Z.cls c := by
  unfold setAR at h
  split at h
  · rename_i k
    obtain ⟨p, rfl, e⟩ := r.ref_
    split at h
    · rename_i c ns vs hM
      split at h
      · rename_i hc
        cases h
        obtain ⟨hcn, dx, us, h1, h2, rr⟩ := m.cell k _ p hM e
        obtain ⟨us', g1, g2, g3⟩ := put_at (Z := Z) (n := n) inj ry rr h2
        refine ⟨p, _, dx, _, rfl, h1, (F.ci c hcn).cl, at_ c hc.1, ?_, Fw.write (List.mem_of_getElem? e), m.writeC e ?_, c, by unfold insOf; simp only [hM]; rfl, rfl⟩
        · rw [List.length_zip, List.length_map, h2]
          simpa using hc.2
        · exact ⟨hcn, dx, us', by rw [g1], g2, g3⟩
      · cases h
    · cases h
  · cases h
theorem ss_setA {n : Nat} {cs : List Nat} {x : Str} {e : Expr} {ie : E} {pos2 : Pos} (inj : ∀ i j, Z.anm i = Z.anm j → i = j) (F : ClsF (kx X Z)) (at_ : AtF X.K Z n cs) (hx : Z.anm n = x) (ha : PE X a (T1 (kx X Z) W (evE w ia))) (he : PE X e (T1 (kx X Z) W (evE w ie))) :
    PS X (.Assign [.Attribute a x pos2] e pos) (TS1 (kx X Z) W (evS w (.setA ia n cs ie))) := by
  subst hx
  refine PS.imp (ps_fld ha he swaps_att) fun D σ H h => ?_
  obtain ⟨env, M, ρ, e, m, p⟩ := h
  simp only [evS] at p
  refine T1.go e m ((p.thn e m).imp fun y M1 ρ1 H1 f1 m1 q _ e1 _ u ru => ?_)
  refine T1.go e1 m1 ((q.thn e1 m1).imp fun v M2 ρ2 H2 f2 m2 q2 _ e2 _ u2 ru2 => ?_)
  cases hset : setAR v n cs y M2 with
  | none =>
    rw [hset] at q2
    exact q2.elim
  | some M3 =>
    rw [hset] at q2
    obtain ⟨p, C, dx, fs, h1, h2, h3, h4, h5, f3, m3, _⟩ := setAR_ok inj F at_ m2 ru2 (ru.mono m1.own f2) hset
    exact ⟨p, C, dx, fs, h1, h2, h3, h4, h5, q2 ρ2 _ σ f3 m3 (e2.mono m2.own f3)⟩
theorem ss_augA {n : Nat} {cs : List Nat} {x : Str} {e : Expr} {ie : E} {pos2 : Pos} {op : Operator} {o : O2} (inj : ∀ i j, Z.anm i = Z.anm j → i = j) (F : ClsF (kx X Z)) (at_ : AtF X.K Z n cs) (hx : Z.anm n = x) (hop : OpR X (inplaceOp op) (rGi (kx X Z) o)) (ha : PE X a (T1 (kx X Z) W (evE w ia))) (he : PE X e (T1 (kx X Z) W (evE w ie))) :
    PS X (.AugAssign (.Attribute a x pos2) op e pos) (TS1 (kx X Z) W (evS w (.augA ia n cs o ie))) := by
  subst hx
  refine PS.imp (ps_fldaug ha he (show InOp X op (rGi (kx X Z) o) from hop)) fun D σ H h => ?_
  obtain ⟨env, M, ρ, e, m, p⟩ := h
  simp only [evS] at p
  refine T1.go e m ((p.thn e m).imp fun v M1 ρ1 H1 f1 m1 q _ e1 _ u ru => ?_)
  have q0 := q.thn e1 m1
  obtain ⟨p, C, dx, fs, y, w', h1, h2, h3, h4, h5, h6, h7, cc, hc1, hc2⟩ := fldR_ok inj F at_ m1 ru q0
  rw [h7] at q0
  have q1 := q0.here m1
  refine ⟨p, C, dx, fs, y, h1, h2, h3, h4, h5, ?_⟩
  refine T1.go e1 m1 ((q1.thn e1 m1).imp fun y2 M2 ρ2 H2 f2 m2 q2 _ e2 _ u2 ru2 => ?_)
  refine ⟨M2, ρ2, w', y2, m2, h6.mono m1.own f2, ru2, Pv.of ((q2.thn e2 m2).imp fun z M3 ρ3 H3 f3 m3 q3 u3 ru3 => ?_) fun _ _ => iop_noexc⟩
  split at q3
  rotate_left
  · exact q3.elim
  rename_i hcl
  cases hset : setAR v n cs z M3 with
  | none =>
    rw [hset] at q3
    exact q3.elim
  | some M4 =>
    rw [hset] at q3
    obtain ⟨p', C', dx', fs', g1, g2, g3, g4, g5, f4, m4, c2, hd1, hd2⟩ := setAR_ok inj F at_ m3 ((ru.mono m1.own f2).mono m2.own f3) ru3 hset
    rw [h1] at g1
    cases g1
    rw [hc1, hd1] at hcl
    cases hcl
    subst hc2 hd2
    exact ⟨dx', fs', g2, g5, q3 ρ3 _ σ f4 m4 ((e2.mono m2.own f3).mono m3.own f4)⟩
end
end HP

set_option Elab.async false
set_option linter.all false
set_option autoImplicit false
set_option maxRecDepth 100000
set_option maxHeartbeats 4000000
/-! .. dicts' displays, instances that are made, own methods. -/
namespace HP
open PySem L2

/-! ### a dict's display -/
/-- a key that is written -/
def keyE : Expr → Option PK
  | .Constant (.str x) _ _ => if vstr x.cps.toList then some (.s x.cps.toList) else none
  | .Constant (.int i) _ _ => some (.i i)
  | _ => none
def keysE : List (Option Expr) → Option (List PK)
  | [] => some []
  | e :: es => match e with
    | some e => match keyE e, keysE es with
      | some k, some ks => some (k :: ks)
      | _, _ => none
    | none => none
section
variable {X : Cx} {Z : Zx} {W : XW} {w : Wd} {a : Expr} {es : List Expr} {ia : E} {is : List E} {pos : Pos}
theorem key_pe {e : Expr} {k : PK} (h : keyE e = some k) : PE X e (fun _ H Q => Q (kV (keyK k)) H) ∧ kOk k = true := by
  unfold keyE at h
  split at h
  · rename_i x j p
    split at h
    · rename_i hv
      cases h
      refine ⟨PE.imp pe_str fun σ H Q h => ?_, hv⟩
      have e : kV (keyK (.s x.cps.toList)) = .str x := by
        obtain ⟨c⟩ := x
        simp [keyK, kV]
      rw [e] at h
      exact h
    · cases h
  · cases h
    exact ⟨PE.imp pe_int fun σ H Q h => h, rfl⟩
  · cases h
/-- the pairs -/
inductive Vls (X : Cx) (Z : Zx) (W : XW) (w : Wd) : List Expr → List E → Prop
  | nil : Vls X Z W w [] []
  | cons {a : Expr} {es : List Expr} {ia : E} {is : List E} (h : PE X a (T1 (kx X Z) W (evE w ia))) (t : Vls X Z W w es is) : Vls X Z W w (a :: es) (ia :: is)
theorem s_pairs : ∀ {keys : List (Option Expr)} {ks : List PK} {es : List Expr} {is : List E}, keysE keys = some ks → Vls X Z W w es is → keys.length = es.length →
    (∀ k ∈ ks, kOk k = true) ∧ keys.all (·.isSome) = true ∧ ks.length = keys.length ∧ ∃ trs, PPs X pos keys es trs ∧ ∀ (σ : L2.St) (H : Hp) (Q : List (V × V) → Hp → Prop) (env : Env) (M : Mem) (ρ : List Addr), EnvR (kx X Z) ρ H env σ → MemR (kx X Z) M ρ H →
      Ps (kx X Z) W σ ρ H (evEs w is env M) (fun vs M' ρ' H' => Fw ρ ρ' H H' → MemR (kx X Z) M' ρ' H' → ∀ us, VRs (kx X Z) ρ' H' vs us → Q ((ks.zip us).map fun p => (kV (keyK p.1), p.2)) H') → tPairs trs σ H Q
  | [], ks, es, is, hk, hv, hl => by
    cases hk
    cases hv with
    | nil =>
      refine ⟨fun k hk => by simp at hk, rfl, rfl, [], pps_nil, fun σ H Q env M ρ e m p => ?_⟩
      simp only [evEs] at p
      exact p.here m Fw.refl m [] vrs_nil
    | cons h t => simp at hl
  | ke :: keys, ks, es, is, hk, hv, hl => by
    unfold keysE at hk
    cases ke with
    | none => cases hk
    | some ke =>
      simp only at hk
      cases h1 : keyE ke with
      | none => rw [h1] at hk; cases hk
      | some k =>
        cases h2 : keysE keys with
        | none => rw [h1, h2] at hk; cases hk
        | some ks' =>
          rw [h1, h2] at hk
          cases hk
          cases hv with
          | nil => simp at hl
          | cons h t =>
            obtain ⟨g0, g1, g2, trs, g3, g4⟩ := s_pairs h2 t (by simpa using hl)
            obtain ⟨pk, ok⟩ := key_pe (X := X) h1
            refine ⟨fun j hj => ?_, by simpa using g1, by simp [g2], (_, _) :: trs, pps_cons pk h g3, fun σ H Q env M ρ e m p => ?_⟩
            · rcases List.mem_cons.mp hj with rfl | hj
              · exact ok
              · exact g0 j hj
            · simp only [evEs] at p
              show T1 (kx X Z) W _ σ H _
              refine T1.go e m (p.bind.imp fun x M1 ρ1 H1 f1 m1 q _ e1 _ u ru => ?_)
              refine g4 σ H1 _ env M1 ρ1 e1 m1 (q.bind.imp fun xs M2 ρ2 H2 f2 m2 q2 ff mm us rus => ?_)
              have := q2.here m2 (f1.trans f2) m2 (u :: us) (vrs_cons (ru.mono m1.own f2) rus)
              simpa using this
theorem mergeK_new : ∀ {more acc : List (Key × V)}, ((acc ++ more).map (·.1)).Nodup → mergeK acc more = acc ++ more
  | [], acc, _ => by simp [mergeK]
  | p :: more, acc, h => by
    have hn : valV acc p.1 = none := by
      have hp : p.1 ∉ acc.map (·.1) := by
        rw [List.map_append, List.nodup_append] at h
        exact fun z => h.2.2 p.1 z p.1 (by simp) rfl
      cases hv : valV acc p.1 with
      | none => rfl
      | some v =>
        exfalso
        have := valV_any p.1 acc
        rw [hv] at this
        simp only [Option.isSome_some, List.any_eq_true, decide_eq_true_eq] at this
        obtain ⟨q, hq, e⟩ := this
        exact hp (e ▸ List.mem_map_of_mem hq)
    show mergeK (putK acc p.1 p.2) more = _
    rw [putK_new p.2 hn, mergeK_new (by simpa using h)]
    simp
theorem s_dct {keys : List (Option Expr)} {ks : List PK} (hk : keysE keys = some ks) (hv : Vls X Z W w es is) (hl : keys.length = es.length) (hn : ks.Nodup) (h15 : keys.length ≤ 15) : PE X (.Dict keys es pos) (T1 (kx X Z) W (evE w (.dct ks is))) := by
  obtain ⟨g0, g1, g2, trs, g3, g4⟩ := s_pairs (pos := pos) hk hv hl
  by_cases h0 : keys = []
  · subst h0
    cases hk
    have : es = [] := List.eq_nil_of_length_eq_zero (by simpa using hl.symm)
    subst this
    cases hv
    refine PE.imp pe_dnewK fun σ H Q h => ?_
    obtain ⟨env, M, ρ, e, m, p⟩ := h
    intro z hz
    simp only [evE, evEs, Res.bind_ok] at p
    have hg : (M ++ [Cell.dic []])[M.length]? = some (.dic []) := by simp
    rw [hg] at p
    simp only [List.length_nil, List.zip_nil_left] at p
    rw [if_pos ⟨trivial, by omega⟩] at p
    have hs : (M ++ [Cell.dic []]).set M.length (.dic []) = M ++ [.dic []] := by
      rw [List.set_append_right _ _ (Nat.le_refl _)]
      simp
    rw [hs] at p
    exact p (ρ ++ [z]) _ (Fw.push hz) (m.pushC hz ⟨[], rfl, ⟨rfl, vrs_nil⟩, by simp [KOk]⟩) _ (vr_ref (by rw [← m.len]; simp))
  · refine PE.imp (pe_disp g3 g1 hl h0 h15) fun σ H Q h => ?_
    obtain ⟨env, M, ρ, e, m, p⟩ := h
    intro z hz
    simp only [evE] at p
    have f0 : Fw ρ (ρ ++ [z]) H (upd H z (.dK [])) := Fw.push hz
    have m0 : MemR (kx X Z) (M ++ [.dic []]) (ρ ++ [z]) (upd H z (.dK [])) := m.pushC hz ⟨[], rfl, ⟨rfl, vrs_nil⟩, by simp [KOk]⟩
    refine g4 σ _ _ env (M ++ [.dic []]) (ρ ++ [z]) (e.mono m.own f0) m0 ((Ps.fw f0 p).bind.imp fun vs M1 ρ1 H1 f1 m1 q _ _ us rus => ?_)
    have hz1 : ρ1[M.length]? = some z := f1.get (by rw [← m.len]; simp)
    split at q
    · rename_i hM
      obtain ⟨us0, h1, h2, _⟩ := m1.dic hM hz1
      rw [h2.nil] at h1
      split at q
      · rename_i hlen
        refine ⟨h1, (ks.zip us).map fun p => (keyK p.1, p.2), by rw [List.map_map]; rfl, ?_, ?_⟩
        · rw [List.length_map, List.length_zip]
          omega
        · have hul : us.length = ks.length := by rw [rus.length]; exact hlen.1
          have ek : ((ks.zip us).map fun p => (keyK p.1, p.2)).map (·.1) = ks.map keyK := by
            rw [List.map_map]
            have : ((fun x : Key × V => x.1) ∘ fun p : PK × V => (keyK p.1, p.2)) = keyK ∘ (fun p : PK × V => p.1) := rfl
            rw [this, ← List.map_map]
            congr 1
            exact List.map_fst_zip (by omega)
          have eu : ((ks.zip us).map fun p => (keyK p.1, p.2)).map (·.2) = us := by
            rw [List.map_map]
            have : ((fun x : Key × V => x.2) ∘ fun p : PK × V => (keyK p.1, p.2)) = (fun p : PK × V => p.2) := rfl
            rw [this]
            exact List.map_snd_zip (by omega)
          have nd : (ks.map keyK).Nodup := by
            rw [List.Nodup, List.pairwise_map]
            exact List.Pairwise.imp (fun {a b} hab z => hab (keyK_inj z)) hn
          rw [mergeK_new (by rw [List.nil_append, ek]; exact nd), List.nil_append]
          refine q ρ1 _ (Fw.write (List.mem_of_getElem? hz1)) (m1.writeC hz1 ⟨_, rfl, ⟨?_, ?_⟩, ?_, ?_⟩) _ (vr_ref hz1)
          · rw [ek]
            have : (fun p : PK × PV => keyK p.1) = keyK ∘ (fun p : PK × PV => p.1) := rfl
            rw [this, ← List.map_map]
            congr 1
            exact (List.map_fst_zip (by omega)).symm
          · rw [eu, List.map_snd_zip (by omega)]
            exact rus
          · rw [List.map_fst_zip (by omega)]
            exact hn
          · intro p hp
            exact g0 _ (List.of_mem_zip hp).1
      · exact q.elim
    · exact q.elim
end
end HP

set_option Elab.async false
set_option linter.all false
set_option autoImplicit false
set_option maxRecDepth 100000
set_option maxHeartbeats 4000000
/-! .. instances that are made, own methods. -/
namespace HP
open PySem L2

section
variable {X : Cx} {Z : Zx} {W : XW} {w : Wd} {a : Expr} {es : List Expr} {ia : E} {is : List E} {pos p : Pos} {x : Str} {clsV : Nat → Value} {k : Nat} {f C : Addr} {fd : FuncData} {ps : List Str} {fi n c : Nat} {sp : Sp}
/-- C(..), what is raised taken at this state -/
theorem made_at {pins : List (Addr × Obj)} {σ : L2.St} {H : Hp} {s : Shared} {Q : VK} {E : XK} {us : List Value} {vs : List V} (Mk0 : Mk X.K C f) (F : FnOk X.prog X.w X.K X.mg X.base (L2.CX X.prog X.w) k f fd ps sp) (hr : Room (k + 1) X.A) (hb : Binds X.K fd ps [])
    (hx : PassesAt (L2.CX X.prog X.w) X σ E) (I : Inv X pins σ H s) (r : Vals vs us) (h : ∀ x dx, H x = none → H dx = none → dx ≠ x → sp (.ref x :: vs) (upd (upd H dx (.own x)) x (.ins C dx [])) (fun v H2 => v = .non ∧ Q (.ref x) H2) E) :
    wpAny (model X.prog X.w) X.A (call (.ref C) us) (EP X pins σ Q) X.xe s := by
  let D : Addr := s.heap.objs.size
  have n1 : H (D + 1) = none := I.hok.fresh (Nat.le_succ _)
  have n0 : H D = none := I.hok.fresh (Nat.le_refl _)
  have hs := h (D + 1) D n1 n0 (Nat.ne_of_lt (Nat.lt_succ_self _))
  have J := Inv.made (C := C) I
  have rr : Vals (V.ref (D + 1) :: vs) (Value.ref (D + 1) :: us) := .cons rfl r
  have len : (Value.ref (D + 1) :: us).length = ps.length := by
    have z := rr.length
    rw [F.len _ _ _ _ hs] at z
    exact z.symm
  have bd := hb _ (Value.ref (D + 1) :: us) J.kIn (by rw [List.append_nil]; exact len)
  rw [List.append_nil] at bd
  have go := F.run _ X.stack _ _ ⟨Value.ref (D + 1) :: us, []⟩ _ _ _ E (hr.make C us []) (J.env0.make C us []) bd rr hs
  refine wpAny_call (make_map (f := f) I.kIn Mk0.makes Mk0.init (beq_iff_eq.mp Mk0.fn) (codeAny_mono go fun r s' z => ?_))
  match r, z with
  | .error e, z => exact hx pins _ _ e s' J z
  | .ok (.ret u), z =>
    obtain ⟨v, H', I3, rv, ev, q⟩ := J.after z
    subst ev
    exact ⟨rv, ⟨V.ref (D + 1), H', I3, rfl, q⟩⟩
  | .ok .next, z => exact False.elim z
  | .ok .brk, z => exact False.elim z
  | .ok .cont, z => exact False.elim z
/-- what is made is what __init__ leaves -/
theorem make_reads {σ : L2.St} {Q : VK} {H1 : Hp} {M1 : Mem} {ρ1 : List Addr} {vs : List PV} {us : List V} {fz : Bool} (hC : c < Z.nc) (hat : fz = true → c = 0 → Z.atoms = true) (m1 : MemR (kx X Z) M1 ρ1 H1) (rus : VRs (kx X Z) ρ1 H1 vs us) (hl : vs.length + 1 = n)
    (q : Ps (kx X Z) W σ ρ1 H1 (makR c fz M1 (w.call1 fi (.ref M1.length :: vs) (M1 ++ [.ins c [] []]))) fun v _ ρ' H' => ∀ u, VR (kx X Z) ρ' H' v u → Q u H') :
    ∀ x dx, H1 x = none → H1 dx = none → dx ≠ x → spF (kx X Z) clsV (w.call1 fi) n (.ref x :: us) (upd (upd H1 dx (.own x)) x (.ins (Z.cls c) dx [])) (fun v H2 => v = .non ∧ Q (.ref x) H2) (fun cls d H => wx clsV W cls d σ H) := by
  intro x dx hx hdx hne
  have f1 : Fw ρ1 ρ1 H1 (upd H1 dx (.own x)) := Fw.side hdx
  have m2 : MemR (kx X Z) M1 ρ1 (upd H1 dx (.own x)) := m1.side hdx
  have hx2 : upd H1 dx (.own x) x = none := by rw [upd_ne (Ne.symm hne)]; exact hx
  have f2 : Fw ρ1 (ρ1 ++ [x]) (upd H1 dx (.own x)) (upd (upd H1 dx (.own x)) x (.ins (Z.cls c) dx [])) := Fw.push hx2
  have m3 : MemR (kx X Z) (M1 ++ [.ins c [] []]) (ρ1 ++ [x]) (upd (upd H1 dx (.own x)) x (.ins (Z.cls c) dx [])) := m2.pushC hx2 ⟨hC, dx, [], rfl, rfl, vrs_nil⟩
  have f12 := f1.trans f2
  have ex : (ρ1 ++ [x])[M1.length]? = some x := by rw [← m1.len]; simp
  refine ⟨.ref M1.length :: vs, M1 ++ [.ins c [] []], ρ1 ++ [x], by simpa using hl, m3, vrs_cons (vr_ref ex) ((rus.mono m1.own f1).mono m2.own f2), ?_⟩
  cases hr : w.call1 fi (.ref M1.length :: vs) (M1 ++ [.ins c [] []]) with
  | fail =>
    rw [hr] at q
    exact q
  | exc e M' =>
    rw [hr] at q
    intro ρ' H' f' m'
    obtain ⟨ρ2, g1, g2, _⟩ := MemR.trim (v := .non) m1 (f12.trans f') m'
    exact ⟨e, rfl, rfl, q ρ2 H' g1 g2⟩
  | ok v M' =>
    rw [hr] at q
    intro ρ' H' f' m' u ru
    have fa := f12.trans f'
    have ex' : ρ'[M1.length]? = some x := f'.get ex
    unfold makR at q
    simp only at q
    cases v <;> try exact q.elim
    cases ru.non_
    refine ⟨rfl, ?_⟩
    by_cases hfz : fz = true
    · rw [if_pos hfz] at q
      cases hM : M'[M1.length]? with
      | none => rw [hM] at q; exact q.elim
      | some cl =>
      cases cl with
      | lst _ => rw [hM] at q; exact q.elim
      | dic _ => rw [hM] at q; exact q.elim
      | ins c' ns vs' =>
        rw [hM] at q
        simp only at q
        by_cases hc : c' = c ∧ Trims M1 M' (.tup vs')
        · rw [if_pos hc] at q
          obtain ⟨rfl, ht⟩ := hc
          obtain ⟨ρ2, g1, g2, g3⟩ := MemR.trim (v := .tup vs') m1 fa m'
          have et : trimM M1 M' (.tup vs') = M'.take M1.length := by
            unfold trimM
            rw [if_pos ht]
          rw [et] at g2
          have hMl : M1.length < M'.length := (List.getElem?_eq_some_iff.mp hM).1
          have e2 : ρ2 = ρ1 := by
            obtain ⟨r, rfl⟩ := g1.pre
            have := g2.len
            rw [List.length_append, List.length_take, m1.len] at this
            have : r = [] := List.eq_nil_of_length_eq_zero (by omega)
            rw [this, List.append_nil]
          subst e2
          obtain ⟨hcn, dx', us', h1, h2, h3⟩ := m'.cell _ _ _ hM ex'
          have hlow : lows M1.length vs' = true := by
            have := ht.1
            simpa only [HP.low] using this
          have h4 := VRs.low M1.length vs' us' hlow h3
          have e3 : ρ'.take M1.length = ρ2 := by
            obtain ⟨r, hr2⟩ := fa.pre
            rw [hr2, ← m1.len]
            simp
          rw [e3] at h4
          refine q ρ2 H' g1 g2 _ ?_
          unfold VR
          exact ⟨x, us', rfl, m1.fresh hx, ⟨⟨dx', h1, h2⟩, hat hfz, hcn⟩, h4⟩
        · rw [if_neg hc] at q
          exact q.elim
    · rw [if_neg hfz] at q
      exact q ρ' H' fa m' _ (vr_ref ex')
theorem s_make {fz : Bool} (Mk0 : Mk X.K (Z.cls c) f) (hC : c < Z.nc) (hat : fz = true → c = 0 → Z.atoms = true) (F : FnOk X.prog X.w X.K X.mg X.base (L2.CX X.prog X.w) k f fd ps (spF (kx X Z) clsV (w.call1 fi) n)) (hr : Room (k + 1) X.A) (hg : Gl X x) (hm : X.mg x = some (.ref (Z.cls c))) (hb : Binds X.K fd ps [])
    (tk : Takes X (wx clsV W)) (hdb : (x == ("__debug__" : Str)) = false) (hs : noStar es = true) (hl : is.length + 1 = n) (hel : es.length = is.length) (ha : PA X es (Tn (kx X Z) W (evEs w is))) : PE X (.Call (.Name x p) es [] pos) (T1 (kx X Z) W (evE w (.make c fi fz is))) := by
  have key : ∀ (σ : L2.St) (H : Hp) (Q : VK), T1 (kx X Z) W (evE w (.make c fi fz is)) σ H Q → Tn (kx X Z) W (evEs w is) σ H fun us H1 => ∀ x dx, H1 x = none → H1 dx = none → dx ≠ x → spF (kx X Z) clsV (w.call1 fi) n (.ref x :: us) (upd (upd H1 dx (.own x)) x (.ins (Z.cls c) dx [])) (fun v H2 => v = .non ∧ Q (.ref x) H2) (fun cls d H => wx clsV W cls d σ H) := by
    intro σ H Q h
    obtain ⟨env, M, ρ, e, m, p⟩ := h
    simp only [evE] at p
    have hv := evEs_len (w := w) is env M
    refine ⟨env, M, ρ, e, m, ?_⟩
    cases hr : evEs w is env M with
    | fail => rw [hr] at p; exact p
    | exc c M1 => rw [hr] at p; exact p
    | ok vs M1 =>
      rw [hr] at p
      intro ρ1 H1 f1 m1 us rus
      exact make_reads hC hat m1 rus (by rw [hv vs M1 hr]; exact hl) (Ps.fw f1 p)
  refine ⟨fun pins s σ H Q I h => ?_⟩
  refine wpAny_Call_Name_kw (ld_glob I hg hm ?_ hdb)
  cases es with
  | nil =>
    refine PySem.W.callWith_K0 I.kIn Mk0.kp ?_
    have hz := key σ H Q h
    cases is with
    | nil =>
      obtain ⟨env, M, ρ, e, m, p⟩ := hz
      simp only [evEs] at p
      exact made_at Mk0 F hr hb (passAt tk σ) I .nil (p.here m [] vrs_nil)
    | cons i is =>
      simp at hel
  | cons e0 es =>
    have hs2 : noStar es = true := by unfold noStar at hs; exact (Bool.and_eq_true_iff.mp hs).2
    have hs1 : isStar e0 = false := by unfold noStar at hs; simpa using (Bool.and_eq_true_iff.mp hs).1
    refine PySem.W.callWith_K (h₀ := X.base) I.ok.mod.kin Mk0.kp (thn (ha.run pos pins s σ H _ I (key σ H Q h)) fun us s1 ⟨vs, H1, I1, r, q⟩ => ⟨I1.kIn, ?_⟩) (star_cons hs1) (back_any hs2)
    exact made_at Mk0 F hr hb (passAt tk σ) I1 r q
/-! ### own methods -/
theorem meth_ht {o : Expr} {m : Str} {apos : Pos} {env : PySem.Env} (hb : plainBase o = true) (hs : noStar es = true) (hn : es.length < 30) (hline : (apos.endLine == pos.line) = true) :
    eval (.Call (.Attribute o m apos) es [] pos) env = (do
      let ov ← eval o env
      standAt apos.atName
      let (f, first) ← holding [ov] (getMethod ov m (do return (← importBound o env).getD true))
      callWith pos f first (backTo pos (starEach es env)) (backToKw pos (keywordEach [] env))) := by
  have few : methodCallForm (es.length + ([] : List Keyword).length) (backTo pos (starEach es env)) (backToKw pos (keywordEach [] env)) = true := by
    unfold methodCallForm
    rw [back_all hs, Bool.true_and]
    simpa [keywordEach, backToKw] using hn
  have hpos : methodCallPos true o env apos pos = pure pos := by
    unfold methodCallPos
    rw [hline]
    rfl
  rw [arm_eval_Call, base_plain hb]
  show (do
      let ov ← eval o env
      standAt apos.atName
      methodCall o m apos pos env ov (es.length + ([] : List Keyword).length) (backTo pos (starEach es env)) (backToKw pos (keywordEach [] env))) = _
  unfold methodCall
  rw [few, hpos]
  rfl
/-- a method of the text, by class -/
def MetE (X : Cx) (Z : Zx) (w : Wd) (k : Nat) (clsV : Nat → Value) (m : Str) (c fi n : Nat) : Prop :=
  ∃ f fd ps, Meth X.K (Z.cls c) m f ∧ FnOk X.prog X.w X.K X.mg X.base (L2.CX X.prog X.w) k f fd ps (spF (kx X Z) clsV (w.call fi) n) ∧ Binds X.K fd ps []
theorem s_mcall {o : Expr} {io : E} {m : Str} {apos : Pos} {am : Option Nat} {tab : List (Nat × Nat)} (inj : ∀ i j, Z.anm i = Z.anm j → i = j) (F : ClsF (kx X Z)) (ham : match am with | some i => Z.anm i = m | none => ∀ i, Z.anm i ≠ m)
    (hmt : ∀ c fi, tab.lookup c = some fi → MetE X Z w k clsV m c fi (is.length + 1)) (hr : Room k X.A) (tk : Takes X (wx clsV W)) (hb : plainBase o = true) (hs : noStar es = true) (hn : es.length < 30) (hline : (apos.endLine == pos.line) = true) (hel : es.length = is.length)
    (ho : PE X o (T1 (kx X Z) W (evE w io))) (ha : PA X es (Tn (kx X Z) W (evEs w is))) : PE X (.Call (.Attribute o m apos) es [] pos) (T1 (kx X Z) W (evE w (.mcall io am tab is))) := by
  have key : ∀ (σ : L2.St) (H : Hp) (Q : VK), T1 (kx X Z) W (evE w (.mcall io am tab is)) σ H Q → T1 (kx X Z) W (evE w io) σ H fun x H1 => ∃ p C dx fs f fd ps sp, x = .ref p ∧ H1 p = some (.ins C dx fs) ∧ Cls X.K C ∧ Meth X.K C m f ∧ fs.lookup m = none ∧
      FnOk X.prog X.w X.K X.mg X.base (L2.CX X.prog X.w) k f fd ps sp ∧ Binds X.K fd ps [] ∧ Tn (kx X Z) W (evEs w is) σ H1 fun us H2 => sp (x :: us) H2 Q (fun cls d H => wx clsV W cls d σ H) := by
    intro σ H Q h
    obtain ⟨env, M, ρ, e, mm, p⟩ := h
    simp only [evE] at p
    refine T1.go e mm (p.bind.imp fun v M1 ρ1 H1 f1 m1 q _ e1 _ u ru => ?_)
    cases hmr : metR v am tab M1 with
    | none => rw [hmr] at q; exact q.elim
    | some fi =>
      rw [hmr] at q
      unfold metR at hmr
      split at hmr
      rotate_left
      · cases hmr
      rename_i c ns vs hi
      obtain ⟨p, dx, us0, rfl, h1, h2, rr, hc⟩ := ins_of m1 ru hi
      have ht : tab.lookup c = some fi ∧ ((ns.map Z.anm).zip us0).lookup m = none := by
        cases am with
        | none => exact ⟨hmr, lookup_not ham⟩
        | some j =>
          simp only at hmr
          by_cases hj : j ∈ ns
          · rw [if_pos hj] at hmr
            cases hmr
          · rw [if_neg hj] at hmr
            have ham : Z.anm j = m := ham
            rw [← ham]
            exact ⟨hmr, lookup_none inj hj⟩
      obtain ⟨f, fd, ps, g1, g2, g3⟩ := hmt c fi ht.1
      refine ⟨p, _, dx, _, f, fd, ps, _, rfl, h1, (F.ci c hc).cl, g1, ht.2, g2, g3, ?_⟩
      have hv := evEs_len (w := w) is env M1
      refine ⟨env, M1, ρ1, e1, m1, ?_⟩
      cases hr : evEs w is env M1 with
      | fail => rw [hr] at q; exact q
      | exc c M2 => rw [hr] at q; exact q
      | ok vs M2 =>
        rw [hr] at q
        have q : Ps (kx X Z) W σ ρ1 H1 (w.call fi (v :: vs) M2) fun v _ ρ' H' => ∀ u, VR (kx X Z) ρ' H' v u → Q u H' := q
        intro ρ2 H2 f2 m2 us rus
        refine ⟨v :: vs, M2, ρ2, ?_, m2, vrs_cons (ru.mono m1.own f2) rus, ?_⟩
        · rw [List.length_cons, hv vs M2 hr]
        · exact (Ps.fw f2 q).exc fun c H' z => ⟨c, rfl, rfl, z⟩
  refine ⟨fun pins s σ H Q I h => ?_⟩
  refine PySem.W.methodCall_KW (thn (ho.run pins s σ H _ I (key σ H Q h)) fun u s1 ⟨x, H1, I1, rx, p, C, dx, fs, f, fd, ps, sp, ex, hp, cl, hm, hl, hF, hB, q⟩ => ?_) (meth_ht hb hs hn hline)
  subst ex
  obtain rfl : u = Value.ref p := rx
  refine getmeth_ok I1 hp cl hm hl ?_
  cases es with
  | nil =>
    cases is with
    | cons i is => simp at hel
    | nil =>
      obtain ⟨env, M, ρ, e, mm, pp⟩ := q
      simp only [evEs] at pp
      exact PySem.W.callWith_K0 (first := [.ref p]) I1.kIn hm.kp (run_fnS (E := fun σ => fun cls d H => wx clsV W cls d σ H) hF hr hB (vs := [.ref p]) (passAt tk σ) I1 (.cons (show RelV (.ref p) (.ref p) from rfl) .nil) (pp.here mm [] vrs_nil))
  | cons e0 es =>
    have hs2 : noStar es = true := by unfold noStar at hs; exact (Bool.and_eq_true_iff.mp hs).2
    have hs1 : isStar e0 = false := by unfold noStar at hs; simpa using (Bool.and_eq_true_iff.mp hs).1
    refine PySem.W.callWith_K (first := [.ref p]) (h₀ := X.base) I1.ok.mod.kin hm.kp (thn (ha.run pos pins s1 σ H1 _ I1 q) fun us s2 ⟨vs, H2, I2, r, q2⟩ => ⟨I2.kIn, ?_⟩) (star_cons hs1) (back_any hs2)
    exact run_fnS (E := fun σ => fun cls d H => wx clsV W cls d σ H) hF hr hB (passAt tk σ) I2 (.cons (show RelV (.ref p) (.ref p) from rfl) r) q2
end
end HP

set_option Elab.async false
set_option linter.all false
set_option autoImplicit false
set_option maxRecDepth 100000
set_option maxHeartbeats 4000000
/-! zip of two: lists, tuples, texts. -/
namespace HP
open PySem L2

inductive Zk where
  | lst (a : Addr)
  | tup (a : Addr)
  | txt (x : Str)
def Zk.val : Zk → V
  | .lst a => .ref a
  | .tup a => .ref a
  | .txt x => .str x
def Zk.st : Zk → Addr → Nat → Heap → Prop
  | .lst a, it, i, h => h.IsListIter it a i
  | .tup a, it, i, h => h.IsTupleIter it a i
  | .txt x, it, i, h => ∃ t, h.IsStrIter it (strIterType x) x t i
def Zk.ln (K : PySem.W.Frag) : Zk → Nat → Hp → Prop
  | .lst a, n, H => ∃ xs, SqL K H a xs ∧ xs.length = n
  | .tup a, n, H => ∃ xs, SqT K H a xs ∧ xs.length = n
  | .txt x, n, _ => x.cps.size = n
def Zk.at (K : PySem.W.Frag) : Zk → Nat → Hp → V → Prop
  | .lst a, i, H, x => ∀ xs, SqL K H a xs → xs[i]? = some x
  | .tup a, i, H, x => ∀ xs, SqT K H a xs → xs[i]? = some x
  | .txt z, i, _, x => ∃ c, z.cps[i]? = some c ∧ x = .str ⟨#[c]⟩
def Itg (K : PySem.W.Frag) (A B : Zk) (n m : Nat) : It :=
  ⟨fun i H => A.ln K n H ∧ B.ln K m H ∧ i < n ∧ i < m,
    fun i H v H' => ∃ T x y, v = .ref T ∧ H T = none ∧ H' = upd H T (.tup [x, y]) ∧ A.at K i H x ∧ B.at K i H y,
    fun i H => A.ln K n H ∧ B.ln K m H ∧ (n ≤ i ∨ m ≤ i)⟩
theorem st_live {A : Zk} {it : Addr} {i : Nat} {h : Heap} (s : A.st it i h) : ∃ o, h.get? it = some o ∧ ∀ v, o.data ≠ .cell v := by
  cases A with
  | lst a => obtain ⟨o, e, _, d⟩ := s; exact ⟨o, e, fun v z => by rw [d] at z; cases z⟩
  | tup a => obtain ⟨o, e, _, d⟩ := s; exact ⟨o, e, fun v z => by rw [d] at z; cases z⟩
  | txt x => obtain ⟨t, o, e, _, d⟩ := s; exact ⟨o, e, fun v z => by rw [d] at z; cases z⟩
theorem st_keep {A : Zk} {it : Addr} {i : Nat} {h h' : Heap} (s : A.st it i h) (k : ∀ o, h.get? it = some o → h'.get? it = some o) : A.st it i h' := by
  cases A with
  | lst a => obtain ⟨o, e, d⟩ := s; exact ⟨o, k o e, d⟩
  | tup a => obtain ⟨o, e, d⟩ := s; exact ⟨o, k o e, d⟩
  | txt x => obtain ⟨t, o, e, d⟩ := s; exact ⟨t, o, k o e, d⟩
theorem paired_r : ∀ {xs : List V} {us : List Value} {j : Nat} {u : Value}, Paired RelV xs us → us[j]? = some u → ∃ x, xs[j]? = some x ∧ RelV x u
  | _, _, _, _, .nil, h => by simp at h
  | _, _, 0, _, .cons r _, h => by
    simp at h
    subst h
    exact ⟨_, rfl, r⟩
  | _, _, j + 1, _, .cons _ rr, h => by
    obtain ⟨x, hx, rx⟩ := paired_r rr (by simpa using h)
    exact ⟨x, by simpa using hx, rx⟩
section
variable {X : Cx} {pins : List (Addr × Obj)} {σ : St} {H : Hp} {s : Shared}
theorem zk_begins {A : Zk} {n : Nat} {v : Value} (I : Inv X pins σ H s) (l : A.ln X.K n H) (r : RelV A.val v) :
    ∃ (o : Obj) (G : Heap → Prop), Begins v o G ∧ G s.heap ∧ ∀ (it : Addr) (h : Heap), h.get? it = some o → A.st it 0 h := by
  cases A with
  | lst a =>
    obtain ⟨xs, hq, _⟩ := l
    obtain ⟨its, rv, p, _⟩ := I.list hq
    cases r
    exact ⟨_, _, begins_list a its.toArray, p.isList, fun it h e => ⟨_, e, rfl, rfl⟩⟩
  | tup a =>
    obtain ⟨xs, hq, _⟩ := l
    obtain ⟨its, rv, p, _⟩ := I.tuple hq
    cases r
    exact ⟨_, _, begins_tuple a its.toArray, p, fun it h e => ⟨_, e, rfl, rfl⟩⟩
  | txt x =>
    obtain ⟨t, rfl⟩ := r
    exact ⟨_, _, begins_text x t, trivial, fun it h e => ⟨t, _, e, rfl, rfl⟩⟩
theorem zk_draws {A : Zk} {n i : Nat} {it : Addr} (hc : X.calm = true) (I : Inv X pins σ H s) (l : A.ln X.K n H) (hi : ∀ u : Addr, A.val = .ref u → u ≠ it) (st : A.st it i s.heap) :
    ∃ (fp : List Addr) (P : Nat → Value → Prop) (G : Nat → Heap → Prop), Draws X.prog X.w X.A.in1 it fp n P G ∧ G i s.heap ∧ (∀ b ∈ fp, b = it ∨ A.val = .ref b) ∧ it ∈ fp ∧ (∀ j h, G j h → A.st it j h) ∧
      ∀ j u, P j u → ∃ x, A.at X.K j H x ∧ RelV x u := by
  have hh : X.A.in1.handled = none := I.ok.hd hc
  cases A with
  | lst a =>
    obtain ⟨xs, hq, e⟩ := l
    obtain ⟨its, rv, p, _⟩ := I.list hq
    have hn : its.toArray.size = n := by rw [← e, rv.length]; simp
    subst hn
    refine ⟨_, _, _, Draws.list hh it a (hi a rfl) its.toArray, ⟨st, p.isList⟩, fun b hb => ?_, by simp, fun j h g => g.1, fun j u hu => ?_⟩
    · rcases List.mem_cons.mp hb with e | e
      · exact .inl e
      · exact .inr (by rw [List.mem_singleton.mp e]; rfl)
    · obtain ⟨x, hx, rx⟩ := paired_r rv (by simpa using hu)
      exact ⟨x, fun ys hy => (by rw [I.list_inj hy hq]; exact hx), rx⟩
  | tup a =>
    obtain ⟨xs, hq, e⟩ := l
    obtain ⟨its, rv, p, _⟩ := I.tuple hq
    have hn : its.toArray.size = n := by rw [← e, rv.length]; simp
    subst hn
    refine ⟨_, _, _, Draws.tuple hh it a (hi a rfl) its.toArray, ⟨st, p⟩, fun b hb => ?_, by simp, fun j h g => g.1, fun j u hu => ?_⟩
    · rcases List.mem_cons.mp hb with e | e
      · exact .inl e
      · exact .inr (by rw [List.mem_singleton.mp e]; rfl)
    · obtain ⟨x, hx, rx⟩ := paired_r rv (by simpa using hu)
      exact ⟨x, fun ys hy => (by rw [I.tuple_inj hy hq]; exact hx), rx⟩
  | txt x =>
    obtain ⟨t, st⟩ := st
    have l : x.cps.size = n := l
    subst l
    refine ⟨_, _, _, Draws.text hh it x t, st, fun b hb => .inl (List.mem_singleton.mp hb), by simp, fun j h g => ⟨t, g⟩, fun j u hu => ?_⟩
    obtain ⟨c, u', hc, rfl⟩ := hu
    exact ⟨_, ⟨c, hc, rfl⟩, u', rfl⟩
end
theorem zapart (N : Nat) : N + 2 ≠ N + 4 ∧ N + 3 ≠ N + 4 ∧ N + 2 ≠ N + 3 ∧ N + 2 ≠ N ∧ N + 2 ≠ N + 1 ∧ N ≠ N + 4 ∧ N + 1 ≠ N + 4 := by omega
theorem zle {N c : Nat} (h : c = N + 4 ∨ c = N + 2 ∨ c = N + 3 ∨ c = N ∨ c = N + 1) : c ≤ N + 4 := by omega
theorem zge {N c : Nat} (h : c = N + 4 ∨ c = N + 2 ∨ c = N + 3 ∨ c = N ∨ c = N + 1) : N ≤ c := by omega
theorem zsep {A B : Zk} {N : Nat} {fp1 fp2 : List Addr} (hA : ∀ u : Addr, A.val = .ref u → u < N) (hB : ∀ u : Addr, B.val = .ref u → u < N) (m1 : ∀ b ∈ fp1, b = N ∨ A.val = .ref b) (m2 : ∀ b ∈ fp2, b = N + 1 ∨ B.val = .ref b) (i1 : N ∈ fp1) (i2 : N + 1 ∈ fp2) :
    ZipSep2 (N + 4) (N + 2) (N + 3) N (N + 1) fp1 fp2 := by
  have k1 : ∀ b : Nat, b ∈ fp1 → b ≤ N := fun b hb => by
    rcases m1 b hb with e | e
    · exact Nat.le_of_eq e
    · exact Nat.le_of_lt (hA b e)
  have k2 : ∀ b : Nat, b ∈ fp2 → b = N + 1 ∨ b < N := fun b hb => by
    rcases m2 b hb with e | e
    · exact .inl e
    · exact .inr (hB b e)
  obtain ⟨a1, a2, a3, a4, a5, a6, a7⟩ := zapart N
  refine ⟨a1, a2, a3, a4, i1, fun h => ?_, fun h => ?_, a5, i2, fun h => ?_, fun h => ?_, fun h => ?_, fun h => ?_⟩
  · exact absurd (k1 _ h) (by omega)
  · exact absurd (k1 _ h) (by omega)
  · rcases k2 _ h with e | e <;> omega
  · rcases k2 _ h with e | e <;> omega
  · rcases k2 _ h with e | e <;> omega
  · exact absurd (k1 _ h) (by omega)
theorem turn_zipG {P : Program} {w : World} {K : PySem.W.Frag} {elts : List Expr} {kk : Nat} {tpos : Pos} {A B : Zk} {n m : Nat} {N : Nat} (hA : ∀ u : Addr, A.val = .ref u → u < N) (hB : ∀ u : Addr, B.val = .ref u → u < N) :
    Turn P w K (.Tuple elts kk tpos) (Itg K A B n m) [N + 4, N + 2, N + 3, N, N + 1] (N + 4)
      (fun i h => IsZip h (N + 4) (N + 2) (N + 3) .none ∧ IsTupOf2 h (N + 2) (.ref N) (.ref (N + 1)) ∧ (∃ x y, IsTupOf2 h (N + 3) x y) ∧ A.st N i h ∧ B.st (N + 1) i h ∧ i ≤ n ∧ i ≤ m) where
  mem := by simp
  obj := fun i h st c hc => by
    obtain ⟨hz, hTI, ⟨x, y, hTO⟩, s1, s2, _⟩ := st
    have e' : c = N + 4 ∨ c = N + 2 ∨ c = N + 3 ∨ c = N ∨ c = N + 1 := by simpa using hc
    rcases e' with q | q | q | q | q
    · rw [q]; exact ⟨_, hz, fun v q => nomatch q⟩
    · rw [q]; exact ⟨_, hTI, fun v q => nomatch q⟩
    · rw [q]; exact ⟨_, hTO, fun v q => nomatch q⟩
    · rw [q]; exact st_live s1
    · rw [q]; exact st_live s2
  keep := fun i h h' st k => by
    obtain ⟨hz, hTI, ⟨x, y, hTO⟩, s1, s2, le⟩ := st
    exact ⟨k _ (by simp) _ hz, k _ (by simp) _ hTI, ⟨x, y, k _ (by simp) _ hTO⟩, st_keep s1 (k _ (by simp)), st_keep s2 (k _ (by simp)), le⟩
  item := by
    intro X hP hw hK hc i pins s σ H E I hf st hg
    subst hP hw hK
    obtain ⟨hz, hTI, ⟨x0, y0, hTO⟩, s1, s2, _⟩ := st
    obtain ⟨l1, l2, lt1, lt2⟩ := hg
    obtain ⟨fp1, P1, G1, D1, g1, m1, i1, b1, r1⟩ := zk_draws hc I l1 (fun u e => Nat.ne_of_lt (hA u e)) s1
    obtain ⟨fp2, P2, G2, D2, g2, m2, i2, b2, r2⟩ := zk_draws hc I l2 (fun u e => Nat.ne_of_lt (Nat.lt_succ_of_lt (hB u e))) s2
    have S : ZipSep2 (N + 4) (N + 2) (N + 3) N (N + 1) fp1 fp2 := zsep hA hB m1 m2 i1 i2
    have hzl : N + 4 < s.heap.objs.size := Heap.lt_size hz
    obtain ⟨a1, a2, a3, a4, a5, a6, a7⟩ := zapart N
    refine wpAny_pyNext_zipD2_item S D1 D2 hz hTI hTO g1 g2 lt1 lt2 fun u u2 h' tk p1 p2 z' TO' h1' h2' hT hsz hk => ?_
    obtain ⟨x, hx, rx⟩ := r1 i u p1
    obtain ⟨y, hy, ry⟩ := r2 i u2 p2
    refine ⟨_, rfl, wpAny_letOwnedTupleGo_zip (s := { s with heap := h', toks := tk }) z' fun h'' z'' sb => ?_⟩
    have hT2 : h''.get? s.heap.objs.size = some { cls := .type "tuple", data := .seq #[u, u2] } := (sb.2 _ (Nat.ne_of_gt hzl)).trans hT
    have new : ObjOk X.prog X.w (upd H s.heap.objs.size (.tup [x, y])) h'' s.heap.objs.size (.tup [x, y]) :=
      ⟨by show 2 ≤ sizeLine; decide, [u, u2], .cons rx (.cons ry .nil), ⟨_, hT2, rfl, _, rfl⟩⟩
    have I1 : Inv X pins σ (upd H s.heap.objs.size (.tup [x, y])) { s with heap := h'', toks := tk } :=
      I.turnedNew (ch := [N + 4, N + 2, N + 3, N, N + 1]) (fun c o hb q => (sb.2 c (fun q' => hb (by simp [q']))).trans (hk c o (fun q' => hb (by simp [q'])) (fun q' => hb (by simp [q'])) (fun q' => hb (by simp [q'])) (fun q' => hb (by simp [q'])) q)) hf (Nat.le_refl _) new
    refine ⟨.ref s.heap.objs.size, _, I1, rfl, ⟨_, x, y, rfl, I.hok.fresh (Nat.le_refl _), rfl, hx, hy⟩, ⟨z'', ?_, ⟨u, u2, ?_⟩, ?_, ?_, lt1, lt2⟩, fun c hcm => ?_⟩
    · exact (sb.2 _ a1).trans (hk _ _ a1 a3 a4 a5 hTI)
    · exact (sb.2 _ a2).trans TO'
    · exact st_keep (b1 _ _ h1') fun o q => (sb.2 _ a6).trans q
    · exact st_keep (b2 _ _ h2') fun o q => (sb.2 _ a7).trans q
    · have hlt : c < s.heap.objs.size := Nat.lt_of_le_of_lt (zle (by simpa using hcm)) hzl
      rw [upd_ne (Nat.ne_of_lt hlt)]
      exact (hf c hcm).1
  done := by
    intro X hP hw hK hc i pins s σ H E I hf st hg
    subst hP hw hK
    obtain ⟨hz, hTI, ⟨x0, y0, hTO⟩, s1, s2, le1, le2⟩ := st
    obtain ⟨l1, l2, hend⟩ := hg
    obtain ⟨fp1, P1, G1, D1, g1, m1, i1, b1, r1⟩ := zk_draws hc I l1 (fun u e => Nat.ne_of_lt (hA u e)) s1
    obtain ⟨fp2, P2, G2, D2, g2, m2, i2, b2, r2⟩ := zk_draws hc I l2 (fun u e => Nat.ne_of_lt (Nat.lt_succ_of_lt (hB u e))) s2
    have S : ZipSep2 (N + 4) (N + 2) (N + 3) N (N + 1) fp1 fp2 := zsep hA hB m1 m2 i1 i2
    exact wpAny_pyNext_zipD2_end S D1 D2 hz hTI hTO g1 g2 le1 le2 (by omega) fun h' tk hk => ⟨rfl, I.turnedL (t' := tk) (ch := [N + 4, N + 2, N + 3, N, N + 1]) (fun c o hb q =>
      hk c o (fun q' => hb (by simp [q'])) (fun q' => hb (by simp [q'])) (fun q' => hb (by simp [q'])) (fun q' => hb (by simp [q'])) q) hf⟩
  self := fun A i s Q E st h => wpAny_pyIter_zip st.1 h
def iZipG (K : PySem.W.Frag) (ta : TA) : TI := fun σ H R => ta σ H fun vs H1 => ∃ A B n m, vs = [Zk.val A, Zk.val B] ∧ A.ln K n H1 ∧ B.ln K m H1 ∧ R (Itg K A B n m) H1
theorem zk_lt {X : Cx} {pins : List (Addr × Obj)} {σ : St} {H : Hp} {s : Shared} {A : Zk} {n : Nat} (I : Inv X pins σ H s) (l : A.ln X.K n H) (u : Addr) (e : A.val = .ref u) : u < s.heap.objs.size := by
  cases A with
  | lst a =>
    obtain ⟨xs, hq, _⟩ := l
    obtain ⟨its, rv, p, _⟩ := I.list hq
    cases e
    exact p.lt
  | tup a =>
    obtain ⟨xs, hq, _⟩ := l
    obtain ⟨its, rv, p, _⟩ := I.tuple hq
    obtain ⟨o, ho, _⟩ := id p
    cases e
    exact Heap.lt_size ho
  | txt x => cases e
theorem pi_zipG {X : Cx} {e e2 : Expr} {ta : TA} {p pos tpos : Pos} {elts : List Expr} {kk : Nat} (hg : Gl X "zip") (hm : X.mg "zip" = none) (ha : PA X [e, e2] ta)
    (hs : starEach [e, e2] X.env = (false, eval e X.env) :: starEach [e2] X.env := by rfl) (hpl : (backTo pos (starEach [e2] X.env)).any (·.1) = false := by rfl) :
    PI X (.Tuple elts kk tpos) (.Call (.Name "zip" p) [e, e2] [] pos) (iZipG X.K ta) := by
  refine ⟨fun pins s σ H R I h => ?_⟩
  refine PyProof.Rows.Call_ (ld_blt I hg hm PyProof.Rows.boot_zip (PyProof.Rows.callWith_type1 (thn (ha.run pos pins s σ H _ I h) fun us s1 ⟨vs, H1, I1, r1, q1⟩ => ?_) hs hpl))
  obtain ⟨A, B, n, m, ex, l1, l2, q⟩ := q1
  subst ex
  cases r1 with
  | cons r rr =>
    cases rr with
    | cons r' rr =>
      cases rr
      obtain ⟨o1, G1, B1, g1, z1⟩ := zk_begins I1 l1 r
      obtain ⟨o2, G2, B2, g2, z2⟩ := zk_begins I1 l2 r'
      refine zip_begins2 B1 B2 g1 g2 fun h' hz hTI hTO h1 h2 hsz hk => wpAny_pyIter_zip hz ?_
      have I2 : Inv X pins σ H1 { s1 with heap := h' } := I1.kept (t' := s1.toks) hk
      refine ⟨s1.heap.objs.size + 4, [s1.heap.objs.size + 4, s1.heap.objs.size + 2, s1.heap.objs.size + 3, s1.heap.objs.size, s1.heap.objs.size + 1], _, _, H1, rfl, I2, turn_zipG (zk_lt I1 l1) (zk_lt I1 l2), ⟨hz, hTI, ⟨_, _, hTO⟩, z1 _ _ h1, z2 _ _ h2, Nat.zero_le _, Nat.zero_le _⟩, fun c hcm => ?_, q⟩
      have hle : s1.heap.objs.size ≤ c := zge (by simpa using hcm)
      exact I1.fpOk hle (I1.hok.fresh hle)
/-! .. by the plain values -/
section
variable {K : Kx}
/-- what is told of a value whose items are drawn -/
structure ZkOf (K : Kx) (ρ0 : List Addr) (H0 : Hp) (A : Zk) (xs : List PV) : Prop where
  ln : ∀ ρ H, Fw ρ0 ρ H0 H → A.ln K.K xs.length H
  at_ : ∀ ρ H i x u, Fw ρ0 ρ H0 H → xs[i]? = some x → A.at K.K i H u → VR K ρ H x u
theorem zk_of {ρ0 : List Addr} {H0 : Hp} {v : PV} {u : V} {xs : List PV} (w : Own ρ0 H0) (r : VR K ρ0 H0 v u) (h : itemsV v = some xs) : ∃ A : Zk, u = A.val ∧ ZkOf K ρ0 H0 A xs := by
  cases v <;> simp only [itemsV] at h <;> try (cases h; done)
  case tup vs =>
    cases h
    obtain ⟨a, us, rfl, t, rr⟩ := r.tup_
    refine ⟨.tup a, rfl, fun ρ H f => ⟨us, (t.mono w f).sq, rr.length⟩, fun ρ H i x u f hx hu => ?_⟩
    obtain ⟨z, hz, rz⟩ := (rr.mono w f).get hx
    have := hu us (t.mono w f).sq
    rw [hz] at this
    cases this
    exact rz
  case rol vs =>
    cases h
    obtain ⟨a, us, rfl, t, rr⟩ := r.rol_
    refine ⟨.lst a, rfl, fun ρ H f => ⟨us, (t.mono w f).sq, rr.length⟩, fun ρ H i x u f hx hu => ?_⟩
    obtain ⟨z, hz, rz⟩ := (rr.mono w f).get hx
    have := hu us (t.mono w f).sq
    rw [hz] at this
    cases this
    exact rz
  case str s =>
    have hv := r.vs
    obtain ⟨z, rfl, hz⟩ := r.str_
    cases h
    refine ⟨.txt z, rfl, fun ρ H f => ?_, fun ρ H i x u f hx hu => ?_⟩
    · show z.cps.size = _
      rw [List.length_map, ← hz]
      simp
    · obtain ⟨c, hc, rfl⟩ := hu
      rw [List.getElem?_map, ← hz] at hx
      have hc' : z.cps.toList[i]? = some c := by simpa using hc
      rw [hc'] at hx
      cases hx
      exact vr_str rfl (vstr_mem (hz ▸ hv) hc')
theorem itok_zip {ρ0 : List Addr} {H0 : Hp} {A B : Zk} {xs ys : List PV} (a : ZkOf K ρ0 H0 A xs) (b : ZkOf K ρ0 H0 B ys) : ItOk K (Itg K.K A B xs.length ys.length) (.items (List.zipWith pairV xs ys)) ρ0 H0 := by
  intro ρ H M i f m
  have la := a.ln ρ H f
  have lb := b.ln ρ H f
  cases e : (List.zipWith pairV xs ys)[i]? with
  | none =>
    refine ⟨la, lb, ?_⟩
    have := List.getElem?_eq_none_iff.mp e
    rw [List.length_zipWith] at this
    omega
  | some v =>
    rw [List.getElem?_zipWith] at e
    cases hx : xs[i]? with
    | none => rw [hx] at e; cases e
    | some x =>
    cases hy : ys[i]? with
    | none => rw [hx, hy] at e; cases e
    | some y =>
    rw [hx, hy] at e
    cases e
    refine ⟨⟨la, lb, (List.getElem?_eq_some_iff.mp hx).1, (List.getElem?_eq_some_iff.mp hy).1⟩, fun u H' yl => ?_⟩
    obtain ⟨T, p, q, rfl, hT, rfl, h1, h2⟩ := yl
    have f2 : Fw ρ ρ H (upd H T (.tup [p, q])) := Fw.side hT
    refine ⟨f2, m.side hT, vr_tup (.inl upd_same) (vrs_cons ((a.at_ ρ H i x p f hx h1).mono m.own f2) (vrs_cons ((b.at_ ρ H i y q f hy h2).mono m.own f2) vrs_nil))⟩
end
section
variable {X : Cx} {Z : Zx} {W : XW} {w : Wd} {e e2 : Expr} {is : List E} {p pos tpos : Pos} {elts : List Expr} {kk : Nat}
theorem i_zip (hg : Gl X "zip") (hm : X.mg "zip" = none) (hs : isStar e = false) (hs2 : isStar e2 = false) (ha : PA X [e, e2] (Tn (kx X Z) W (evEs w is))) : PI X (.Tuple elts kk tpos) (.Call (.Name "zip" p) [e, e2] [] pos) (Tw (kx X Z) W (evI w (.zip is))) := by
  refine PI.imp (pi_zipG hg hm ha (star_cons hs) (back_any (by simp [noStar, hs2]))) fun σ H R h => ?_
  obtain ⟨env, M, ρ, e, m, q⟩ := h
  simp only [evI] at q
  refine ⟨env, M, ρ, e, m, q.bind.imp fun vs M1 ρ1 H1 f1 m1 q us rus => ?_⟩
  split at q
  · rename_i a b
    obtain ⟨u1, u2, rfl, r1, r2⟩ := two_inv rus
    split at q
    · rename_i xs hx
      split at q
      · rename_i ys hy
        obtain ⟨A, rfl, za⟩ := zk_of m1.own r1 hx
        obtain ⟨B, rfl, zb⟩ := zk_of m1.own r2 hy
        exact ⟨A, B, _, _, rfl, za.ln ρ1 H1 Fw.refl, zb.ln ρ1 H1 Fw.refl, q.here m1 _ (itok_zip za zb)⟩
      · exact q.elim
    · exact q.elim
  · exact q.elim
end
end HP

set_option Elab.async false
set_option linter.all false
set_option autoImplicit false
set_option maxRecDepth 100000
set_option maxHeartbeats 4000000
/-! .. a built-in's method without arguments, len(set(ints)). -/
namespace HP
open PySem L2
section
variable {X : Cx} {Z : Zx} {W : XW} {w : Wd} {o a : Expr} {io ia : E} {pos : Pos}
theorem s_meth0 {name : Str} {id : String} {k : MT} {om : On} {apos : Pos} (pa : PlainAttrs (mtS k)) (slot : Slot (mtS k) name id) (hty : typeOf (.builtin id) = pure (.type "method_descriptor")) (hm : MtR X id (rGm (kx X Z) om))
    (hb : plainBase o = true) (hline : (apos.endLine == pos.line) = true) (ho : PE X o (T1 (kx X Z) W (evE w io))) : PE X (.Call (.Attribute o name apos) [] [] pos) (T1 (kx X Z) W (evE w (.meth k om io []))) := by
  refine ⟨fun pins s σ H Q I h => ?_⟩
  have h' : T1 (kx X Z) W (evE w io) σ H fun x H1 => tyW X.K X.w (mtS k) x H1 ∧ rGm (kx X Z) om x [] H1 Q := by
    obtain ⟨env, M, ρ, e, m, p⟩ := h
    simp only [evE] at p
    refine T1.go e m (p.bind.imp fun x M1 ρ1 H1 f1 m1 q _ e1 _ u ru => ?_)
    split at q
    · rename_i ht
      simp only [evEs, Res.bind_ok] at q
      exact ⟨tyV_of m1 ru ht, M1, ρ1, x, [], m1, ru, vrs_nil, Pv.of q fun _ _ => opn_noexc⟩
    · exact q.elim
  refine wpAny_Call_method0_late (base_plain hb) hline (thn (ho.run pins s σ H _ I h') fun v s1 ⟨x, H1, I1, r1, ty, q1⟩ => ?_)
  obtain ⟨h1, h2⟩ := tyW_is I1 r1 ty
  exact ⟨mtS k, id, pa, slot, hty, h1, h2, Calls.callWith_builtin rfl (PySem.evalArgs_none (hm pins s1 σ H1 x [] v [] Q I1 r1 .nil q1))⟩
theorem uniq_met (ns : List Int) : PyProof.Rows.firstMet (fun i => ns.getD i 0) ns.length = uniq ns := by
  have e : (List.range ns.length).map (fun i => ns.getD i 0) = ns := by
    refine List.ext_getElem (by simp) fun i h1 h2 => ?_
    simp [List.getD_eq_getElem?_getD, List.getElem?_eq_getElem h2]
  unfold PyProof.Rows.firstMet
  rw [e]
  rfl
theorem intsAre_v : ∀ {ns : List Int} {us : List Value}, Vals (ns.map V.int) us → PyProof.Rows.IntsAre us ns
  | [], _, .nil => .nil
  | n :: ns, _, .cons r t => by
    obtain ⟨k, rfl⟩ := r
    exact .cons n k (intsAre_v t)
open PyProof.Rows in
theorem s_lset {p p2 q : Pos} (hg : Gl X "len") (hm : X.mg "len" = none) (hg2 : Gl X "set") (hm2 : X.mg "set" = none) (ha : PE X a (T1 (kx X Z) W (evE w ia))) (hc : X.calm = true) (hs : isStar a = false) : PE X (.Call (.Name "len" p) [.Call (.Name "set" p2) [a] [] q] [] pos) (T1 (kx X Z) W (evE w (.opn .lset [ia]))) := by
  refine ⟨fun pins s σ H Q I h => ?_⟩
  have h' : T1 (kx X Z) W (evE w ia) σ H fun x H1 => ∃ (l : Addr) (ns : List Int), x = .ref l ∧ SqL X.K H1 l (ns.map V.int) ∧ ns.length ≤ 4000 ∧ Q (.int ((uniq ns).length : Nat)) H1 := by
    obtain ⟨env, M, ρ, e, m, p⟩ := h
    simp only [evE, evEs] at p
    refine T1.go e m (p.bind.bind.imp fun x M1 ρ1 H1 f1 m1 q _ e1 _ u ru => ?_)
    simp only [Res.bind_ok, opn] at q
    replace q := Ps.here q m1
    split at q
    · rename_i xs e0
      cases e0
      obtain ⟨a, us, rfl, t, rr⟩ := ru.rol_
      split at q
      · rename_i is his
        split at q
        · rename_i hl
          have e2 := ints_of rr his
          subst e2
          exact ⟨a, is, rfl, t.sq, hl, q.here m1 _ vr_int⟩
        · exact q.elim
      · exact q.elim
    · rename_i n e0
      cases e0
      obtain ⟨a, rfl, en⟩ := ru.ref_
      split at q
      · rename_i xs hx
        obtain ⟨us, hu, rr⟩ := m1.lst hx en
        split at q
        · rename_i is his
          split at q
          · rename_i hl
            have e2 := ints_of rr his
            subst e2
            exact ⟨a, is, rfl, SqL.of hu, hl, q.here m1 _ vr_int⟩
          · exact q.elim
        · exact q.elim
      · exact q.elim
    · exact q.elim
  refine Call_ (ld_blt I hg hm boot_len ?_)
  refine PyProof.Rows.callWith_builtin1 (PyProof.Rows.args_cons ?_ rfl) rfl rfl
  refine Call_ (ld_blt I hg2 hm2 boot_set ?_)
  refine PyProof.Rows.callWith_type1 (PyProof.Rows.args_cons (thn (ha.run pins s σ H _ I h') fun v s1 ⟨x, H1, I1, r1, q1⟩ => PyProof.Rows.args_nil ?_) (star_cons hs)) (star_cons hs) rfl
  obtain ⟨l, ns, rfl, hq, hl, q1⟩ := q1
  cases r1
  obtain ⟨its, r, pl, hz⟩ := I1.list hq
  have hlen : its.toArray.size = ns.length := by rw [List.size_toArray, ← r.length, List.length_map]
  refine call_set_list (I1.ok.hd hc) pl.isList (by simpa using intsAre_v r) (by rw [hlen]; unfold scanBound; omega) fun h' tk hS hk => ?_
  refine PyProof.Rows.args_nil ?_
  rw [hlen, uniq_met] at hS
  have hle : (uniq ns).length ≤ ns.length := by rw [← uniq_met]; exact firstMet_length_le _ _
  obtain ⟨o, es, ep, t, ho, hex, hd, _, _, _, hf, hn⟩ := hS
  have I2 : Inv X pins σ H1 { s1 with heap := h', toks := tk } := I1.kept fun b o e => hk b o (Heap.lt_size e) e
  exact call_len_set ho hex hd hf (by rw [hn] <;> omega) ⟨.int (uniq ns).length, H1, I2.tok _, ⟨_, by rw [hn]⟩, q1⟩
end
end HP

set_option Elab.async false
set_option linter.all false
set_option autoImplicit false
set_option maxRecDepth 100000
set_option maxHeartbeats 4000000
/-! Dict comprehensions; targets that are attributes. -/
namespace HP
open PySem L2
/-! ### a dict beside the memory -/
theorem TR.outK {K : Kx} {H : Hp} {D : Addr} {xs : List (Key × V)} {o : HO} (hD : H D = some (.dK xs)) {a : Addr} {us : List V} (h : TR K H a us) : TR K (upd H D o) a us := by
  have ne : ∀ {u}, H a = some u → (∀ ys, u ≠ .dK ys) → a ≠ D := fun {u} e z q => by
    subst q
    rw [hD] at e
    cases e
    exact z xs rfl
  rcases h with h | ⟨q, h⟩ | h
  · exact .inl (by rw [upd_ne (ne h fun _ z => nomatch z)]; exact h)
  · exact .inr (.inl ⟨q, by rw [upd_ne (ne h fun _ z => nomatch z)]; exact h⟩)
  · exact .inr (.inr h)
theorem LR.outK {K : Kx} {H : Hp} {D : Addr} {xs : List (Key × V)} {o : HO} (hD : H D = some (.dK xs)) {a : Addr} {us : List V} (h : LR K H a us) : LR K (upd H D o) a us := by
  rcases h with ⟨q, h⟩ | h
  · refine .inl ⟨q, ?_⟩
    rw [upd_ne (fun z => by subst z; rw [hD] at h; cases h)]
    exact h
  · exact .inr h
mutual
theorem VR.outK {K : Kx} {ρ : List Addr} {H : Hp} {D : Addr} {xs : List (Key × V)} {o : HO} (hD : H D = some (.dK xs)) : ∀ (v : PV) (u : V), VR K ρ H v u → VR K ρ (upd H D o) v u
  | .non, u, h => by unfold VR at h ⊢; exact h
  | .bl b, u, h => by unfold VR at h ⊢; exact h
  | .int i, u, h => by unfold VR at h ⊢; exact h
  | .str s, u, h => by unfold VR at h ⊢; exact h
  | .tup vs, u, h => by
    unfold VR at h ⊢
    obtain ⟨a, us, e, t, r⟩ := h
    exact ⟨a, us, e, t.outK hD, VRs.outK hD vs us r⟩
  | .rol vs, u, h => by
    unfold VR at h ⊢
    obtain ⟨a, us, e, t, r⟩ := h
    exact ⟨a, us, e, t.outK hD, VRs.outK hD vs us r⟩
  | .ref n, u, h => by unfold VR at h ⊢; exact h
  | .obj c ns vs, u, h => by
    unfold VR at h ⊢
    obtain ⟨a, us, e, n, q, r⟩ := h
    refine ⟨a, us, e, n, ⟨q.1.at_ fun o z => ?_, q.2⟩, VRs.outK hD vs us r⟩
    obtain ⟨C, dx, fs, hq⟩ := q.1.some
    rw [upd_ne (fun z => by subst z; rw [hD] at hq; cases hq)]
    exact z
  | .rod ks vs, u, h => by
    unfold VR at h ⊢
    obtain ⟨a, us, e, q, r⟩ := h
    exact ⟨a, us, e, q, VRs.outK hD vs us r⟩
  | .ty T, u, h => by unfold VR at h ⊢; exact h
theorem VRs.outK {K : Kx} {ρ : List Addr} {H : Hp} {D : Addr} {xs : List (Key × V)} {o : HO} (hD : H D = some (.dK xs)) : ∀ (vs : List PV) (us : List V), VRs K ρ H vs us → VRs K ρ (upd H D o) vs us
  | [], us, h => by unfold VRs at h ⊢; exact h
  | v :: vs, us, h => by
    unfold VRs at h ⊢
    obtain ⟨u, ur, e, a, b⟩ := h
    exact ⟨u, ur, e, VR.outK hD v u a, VRs.outK hD vs ur b⟩
end
theorem CellR.outK {K : Kx} {ρ : List Addr} {H : Hp} {D : Addr} {xs : List (Key × V)} {o : HO} (hD : H D = some (.dK xs)) {c : Cell} {u : Option HO} (h : CellR K ρ H c u) : CellR K ρ (upd H D o) c u := by
  cases c with
  | lst xs =>
    obtain ⟨us, e, r⟩ := h
    exact ⟨us, e, r.outK hD⟩
  | dic kvs =>
    obtain ⟨us, e, ⟨r1, r2⟩, q⟩ := h
    exact ⟨us, e, ⟨r1, r2.outK hD⟩, q⟩
  | ins c ns vs =>
    obtain ⟨hc, dx, us, e, l, r⟩ := h
    exact ⟨hc, dx, us, e, l, r.outK hD⟩
theorem MemR.outK {K : Kx} {M : Mem} {ρ : List Addr} {H : Hp} {D : Addr} {xs : List (Key × V)} {o : HO} (m : MemR K M ρ H) (hD : H D = some (.dK xs)) (hn : D ∉ ρ) : MemR K M ρ (upd H D o) :=
  ⟨m.len, m.nd, fun n c a e1 e2 => by
    have hne : a ≠ D := fun z => hn (z ▸ List.mem_of_getElem? e2)
    rw [upd_ne hne]
    exact (m.cell n c a e1 e2).outK hD⟩
mutual
theorem VR.growK {K : Kx} {ρ r : List Addr} {H : Hp} (hn : ∀ a ∈ r, ∃ xs, H a = some (.dK xs)) : ∀ (v : PV) (u : V), VR K ρ H v u → VR K (ρ ++ r) H v u
  | .non, u, h => by unfold VR at h ⊢; exact h
  | .bl b, u, h => by unfold VR at h ⊢; exact h
  | .int i, u, h => by unfold VR at h ⊢; exact h
  | .str s, u, h => by unfold VR at h ⊢; exact h
  | .tup vs, u, h => by
    unfold VR at h ⊢
    obtain ⟨a, us, e, t, q⟩ := h
    exact ⟨a, us, e, t, VRs.growK hn vs us q⟩
  | .rol vs, u, h => by
    unfold VR at h ⊢
    obtain ⟨a, us, e, t, q⟩ := h
    exact ⟨a, us, e, t, VRs.growK hn vs us q⟩
  | .ref n, u, h => by
    unfold VR at h ⊢
    obtain ⟨a, e, q⟩ := h
    exact ⟨a, e, by rw [List.getElem?_append_left (List.getElem?_eq_some_iff.mp q).1]; exact q⟩
  | .obj c ns vs, u, h => by
    unfold VR at h ⊢
    obtain ⟨a, us, e, n, q, z⟩ := h
    refine ⟨a, us, e, fun m => ?_, q, VRs.growK hn vs us z⟩
    rcases List.mem_append.mp m with m | m
    · exact n m
    · obtain ⟨xs, hx⟩ := hn a m
      obtain ⟨C, dx, fs, hq⟩ := q.1.some
      rw [hx] at hq; cases hq
  | .rod ks vs, u, h => by
    unfold VR at h ⊢
    obtain ⟨a, us, e, q, z⟩ := h
    exact ⟨a, us, e, q, VRs.growK hn vs us z⟩
  | .ty T, u, h => by unfold VR at h ⊢; exact h
theorem VRs.growK {K : Kx} {ρ r : List Addr} {H : Hp} (hn : ∀ a ∈ r, ∃ xs, H a = some (.dK xs)) : ∀ (vs : List PV) (us : List V), VRs K ρ H vs us → VRs K (ρ ++ r) H vs us
  | [], us, h => by unfold VRs at h ⊢; exact h
  | v :: vs, us, h => by
    unfold VRs at h ⊢
    obtain ⟨u, ur, e, a, b⟩ := h
    exact ⟨u, ur, e, VR.growK hn v u a, VRs.growK hn vs ur b⟩
end
theorem CellR.growK {K : Kx} {ρ r : List Addr} {H : Hp} (hn : ∀ a ∈ r, ∃ xs, H a = some (.dK xs)) {c : Cell} {u : Option HO} (h : CellR K ρ H c u) : CellR K (ρ ++ r) H c u := by
  cases c with
  | lst xs =>
    obtain ⟨us, e, q⟩ := h
    exact ⟨us, e, q.growK hn⟩
  | dic kvs =>
    obtain ⟨us, e, ⟨r1, r2⟩, q⟩ := h
    exact ⟨us, e, ⟨r1, r2.growK hn⟩, q⟩
  | ins c ns vs =>
    obtain ⟨hc, dx, us, e, l, q⟩ := h
    exact ⟨hc, dx, us, e, l, q.growK hn⟩
theorem MemR.adoptK {K : Kx} {M : Mem} {ρ : List Addr} {H : Hp} {D : Addr} {kvs : List (PK × PV)} {us : List (Key × V)} (m : MemR K M ρ H) (hD : H D = some (.dK us)) (hn : D ∉ ρ) (r : KVsR K ρ H kvs us) (ok : KOk kvs) : MemR K (M ++ [.dic kvs]) (ρ ++ [D]) H := by
  have hg : ∀ a ∈ [D], ∃ xs, H a = some (.dK xs) := fun a ha => by rw [List.mem_singleton.mp ha]; exact ⟨us, hD⟩
  refine ⟨by simp [m.len], ?_, fun n c a e1 e2 => ?_⟩
  · rw [List.nodup_append]
    exact ⟨m.nd, by simp, fun a ha b hb => by rw [List.mem_singleton.mp hb]; exact fun z => hn (z ▸ ha)⟩
  · by_cases hl : n < M.length
    · rw [List.getElem?_append_left hl] at e1
      rw [List.getElem?_append_left (by rw [m.len]; exact hl)] at e2
      exact (m.cell n c a e1 e2).growK hg
    · have hl : n < (M ++ [Cell.dic kvs]).length := (List.getElem?_eq_some_iff.mp e1).1
      have e : n = M.length := by
        simp at hl
        omega
      subst e
      rw [List.getElem?_append_right (Nat.le_refl _)] at e1
      rw [List.getElem?_append_right (by rw [m.len]; exact Nat.le_refl _), m.len] at e2
      simp at e1 e2
      subst e1 e2
      exact ⟨us, hD, ⟨r.1, r.2.growK hg⟩, ok⟩

theorem KVsR.mono {K : Kx} {ρ ρ' : List Addr} {H H' : Hp} (w : Own ρ H) (f : Fw ρ ρ' H H') {kvs : List (PK × PV)} {us : List (Key × V)} (r : KVsR K ρ H kvs us) : KVsR K ρ' H' kvs us := ⟨r.1, r.2.mono w f⟩
theorem KVsR.outK {K : Kx} {ρ : List Addr} {H : Hp} {D : Addr} {xs : List (Key × V)} {o : HO} (hD : H D = some (.dK xs)) {kvs : List (PK × PV)} {us : List (Key × V)} (r : KVsR K ρ H kvs us) : KVsR K ρ (upd H D o) kvs us := ⟨r.1, VRs.outK hD _ _ r.2⟩
theorem putP_len {k : PK} {v : PV} : ∀ kvs : List (PK × PV), (putP k v kvs).length ≤ kvs.length + 1
  | [] => by simp [putP]
  | p :: r => by
    unfold putP
    split
    · simp
    · have := putP_len (k := k) (v := v) r
      simp only [List.length_cons]
      omega
section
variable {X : Cx} {Z : Zx} {W : XW} {w : Wd} {pos : Pos}
def dcFin (acc : List (PK × PV)) (vs : List PV) (M : Mem) : Res PV := match dcF acc vs with
  | some kvs => .ok (.ref M.length) (M ++ [.dic kvs])
  | none => .fail
noncomputable def dcElt (w : Wd) (ik iv : E) (env : Env) (M : Mem) : Res PV := (evE w ik env M).only fun x M1 => (evE w iv env M1).only fun y M2 => .ok (.tup [x, y]) M2
theorem dc_reads {own : List (Str × Nat)} {g : Tg} {ii : I} {ts : List T} {ik iv : E} (hns : ∀ n ∈ tgN g, n ∈ own.map (·.2)) (σ : St) (H : Hp) (Q : VK)
    (h : T1 (kx X Z) W (evE w (.dc g ii ts (own.map (·.2)) ik iv)) σ H Q) :
    tDc (Tw (kx X Z) W (evI w ii)) (Tg1 (kx X Z) g) (Tb (kx X Z) W0 (evTs w ts)) (T1 (kx X Z) W0 (evE w ik)) (T1 (kx X Z) W0 (evE w iv)) (own.map (·.2)) σ H Q := by
  obtain ⟨env, M, ρ, e, m, p⟩ := h
  simp only [evE] at p
  have p : Ps (kx X Z) W σ ρ H ((evI w ii env M).bind fun s M1 => (lcS g (fun env M => evTs w ts env M) (dcElt w ik iv) (wipeE env (own.map (·.2))) s M1).bind (dcFin [])) fun v _ ρ' H' => ∀ u, VR (kx X Z) ρ' H' v u → Q u H' := p
  refine ⟨env, M, ρ, e, m, p.bind.imp fun s M1 ρ1 H1 f1 m1 q J okJ D hD => ?_⟩
  have e1 := e.mono m.own f1
  have hDr : D ∉ ρ1 := m1.fresh hD
  have key : ∀ (xs : List PV) (c : Mem → Prop), xs.length ≤ lim → (∀ (ρ : List Addr) (H : Hp) (M : Mem) (i : Nat), Fw ρ1 ρ H1 H → MemR (kx X Z) M ρ H → c M → match xs[i]? with
      | none => J.stop i H
      | some v => J.go i H ∧ ∀ x H', J.yld i H x H' → Fw ρ ρ H H' ∧ MemR (kx X Z) M ρ H' ∧ VR (kx X Z) ρ H' v x) →
      Ps (kx X Z) W σ ρ1 H1 ((lcX g (fun env M => evTs w ts env M) (dcElt w ik iv) (wipeE env (own.map (·.2))) c xs M1).bind (dcFin [])) (fun v _ ρ' H' => ∀ u, VR (kx X Z) ρ' H' v u → Q u H') →
      ∃ Wn : Nat → Nat → Hp → Prop, (∃ m, Wn 0 m (upd H1 D (.dK []))) ∧ ∀ i m H, Wn i m H →
        (J.stop i H ∧ Q (.ref D) H) ∨ (J.go i H ∧ ∃ Nx : Hp → Prop, (∀ H', Nx H' → ∃ m', m' < m ∧ Wn (i + 1) m' H') ∧ ∀ x H', J.yld i H x H' → Tg1 (kx X Z) g x (wipe σ (own.map (·.2))) H' fun σ2 H2 => wipe σ2 (own.map (·.2)) = wipe σ (own.map (·.2)) ∧ Tb (kx X Z) W0 (evTs w ts) σ2 H2 fun b H3 =>
          if b = true then T1 (kx X Z) W0 (evE w ik) σ2 H3 fun y H4 => T1 (kx X Z) W0 (evE w iv) σ2 H4 fun z H5 => ∃ kvs k, y = kV k ∧ H5 D = some (.dK kvs) ∧ kvs.length < sizeLine ∧ Nx (upd H5 D (.dK (putK kvs k z))) else Nx H3) := by
    intro xs c hlen okc p
    refine ⟨fun i n H => ∃ M ρ acc us, Fw ρ1 ρ H1 H ∧ MemR (kx X Z) M ρ H ∧ D ∉ ρ ∧ H D = some (.dK us) ∧ (KVsR (kx X Z) ρ H acc us ∧ KOk acc) ∧ n = xs.length - i ∧ i ≤ xs.length ∧ acc.length ≤ i ∧
      Ps (kx X Z) W σ ρ1 H1 ((lcX g (fun env M => evTs w ts env M) (dcElt w ik iv) (wipeE env (own.map (·.2))) c (xs.drop i) M).bind (dcFin acc)) (fun v _ ρ' H' => ∀ u, VR (kx X Z) ρ' H' v u → Q u H'),
      ⟨xs.length, M1, ρ1, [], [], Fw.out Fw.refl hD, m1.side hD, hDr, upd_same, ⟨⟨rfl, vrs_nil⟩, by simp [KOk]⟩, rfl, Nat.zero_le _, Nat.le_refl _, by simpa using p⟩, ?_⟩
    rintro i n H ⟨M, ρ, acc, us, f, m, hn, hu, ⟨rr, ok⟩, rfl, hile, hal, p⟩
    have eE : EnvR (kx X Z) ρ H env σ := e1.mono m1.own f
    cases hx : xs[i]? with
    | none =>
      have hl : xs.length ≤ i := List.getElem?_eq_none_iff.mp hx
      rw [List.drop_eq_nil_of_le hl] at p
      unfold lcX at p
      split at p
      · rename_i hcM
        have o := okc ρ H M i f m hcM
        rw [hx] at o
        refine .inl ⟨o, ?_⟩
        simp only [Res.bind_ok, dcFin, dcF] at p
        refine p (ρ ++ [D]) H (f.adopt hD) (m.adoptK hu hn rr ok) _ (vr_ref ?_)
        rw [List.getElem?_append_right (by rw [m.len]; exact Nat.le_refl _), m.len]
        simp
      · exact p.elim
    | some v =>
      have hl : i < xs.length := (List.getElem?_eq_some_iff.mp hx).1
      have hd : xs.drop i = v :: xs.drop (i + 1) := by
        rw [List.drop_eq_getElem_cons hl, (List.getElem?_eq_some_iff.mp hx).2]
      rw [hd] at p
      unfold lcX at p
      split at p
      rotate_left
      · exact p.elim
      rename_i hcM
      have o := okc ρ H M i f m hcM
      rw [hx] at o
      split at p
      · exact p.elim
      rename_i env' hb
      refine .inr ⟨o.1, fun H' => ∃ M ρ acc us, Fw ρ1 ρ H1 H' ∧ MemR (kx X Z) M ρ H' ∧ D ∉ ρ ∧ H' D = some (.dK us) ∧ (KVsR (kx X Z) ρ H' acc us ∧ KOk acc) ∧ acc.length ≤ i + 1 ∧
        Ps (kx X Z) W σ ρ1 H1 ((lcX g (fun env M => evTs w ts env M) (dcElt w ik iv) (wipeE env (own.map (·.2))) c (xs.drop (i + 1)) M).bind (dcFin acc)) (fun v _ ρ' H' => ∀ u, VR (kx X Z) ρ' H' v u → Q u H'),
        fun H' ⟨M, ρ, acc, us, z1, z2, z3, z4, z5, z6, z7⟩ => ⟨xs.length - (i + 1), by omega, M, ρ, acc, us, z1, z2, z3, z4, z5, rfl, hl, z6, z7⟩, fun x H' y => ?_⟩
      obtain ⟨f2, m2, rv⟩ := o.2 x H' y
      have eE2 := wipe_env (eE.mono m.own f2) (own.map (·.2))
      refine ⟨wipeE env (own.map (·.2)), M, ρ, v, eE2, m2, rv, env', hb, fun σ2 e3 t3 => ⟨?_, env', M, ρ, e3, m2, ?_⟩⟩
      · have z := t3 (own.map (·.2)) hns
        rw [z]
        exact wipe_wipe σ _
      have keepD : ∀ {ρ' H''}, Fw ρ ρ' H H'' → H'' D = some (.dK us) ∧ D ∉ ρ' := fun {ρ' H''} fw => ⟨fw.keep D _ hu hn, fun z => by
        rcases fw.new D z with q | q
        · exact hn q
        · rw [hu] at q; cases q⟩
      rw [only_bind] at p
      obtain ⟨b, Mb, hr, pb⟩ := p.only
      rw [hr]
      intro ρ2 H2 f3 m3
      have f23 : Fw ρ ρ2 H H2 := f2.trans f3
      cases b with
      | false =>
        simp only [Bool.false_eq_true, if_false] at pb ⊢
        exact ⟨Mb, ρ2, acc, us, f.trans f23, m3, (keepD f23).2, (keepD f23).1, ⟨rr.mono m.own f23, ok⟩, by omega, pb⟩
      | true =>
        simp only [if_true] at pb ⊢
        rw [only_bind] at pb
        obtain ⟨pv', Mv, hv0, pv⟩ := pb.only
        unfold dcElt at hv0
        cases hk : evE w ik env' Mb with
        | fail => rw [hk] at hv0; cases hv0
        | exc c0 M0 => rw [hk] at hv0; cases hv0
        | ok kx0 Mk =>
        rw [hk] at hv0
        simp only [Res.only_ok] at hv0
        cases hv : evE w iv env' Mk with
        | fail => rw [hv] at hv0; cases hv0
        | exc c0 M0 => rw [hv] at hv0; cases hv0
        | ok v' Mv' =>
        rw [hv] at hv0
        simp only [Res.only_ok, Res.ok.injEq] at hv0
        obtain ⟨rfl, rfl⟩ := hv0
        rw [only_bind] at pv
        obtain ⟨vs, M3, hl3, pl⟩ := pv.only
        -- the key is one
        have pl' : Ps (kx X Z) W σ ρ1 H1 (dcFin acc (.tup [kx0, v'] :: vs) M3) (fun v _ ρ' H' => ∀ u, VR (kx X Z) ρ' H' v u → Q u H') := pl
        unfold dcFin dcF at pl'
        simp only at pl'
        cases hkp : keyP kx0 with
        | none => rw [hkp] at pl'; exact pl'.elim
        | some k0 =>
        rw [hkp] at pl'
        simp only at pl'
        by_cases hal2 : acc.length < lim
        rotate_left
        · rw [if_neg hal2] at pl'; exact pl'.elim
        rw [if_pos hal2] at pl'
        refine ⟨env', Mb, ρ2, e3.mono m2.own f3, m3, ?_⟩
        rw [hk]
        intro ρ4 H4 f4 m4 y ry
        have f24 : Fw ρ ρ4 H H4 := f23.trans f4
        refine ⟨env', Mk, ρ4, (e3.mono m2.own f3).mono m3.own f4, m4, ?_⟩
        rw [hv]
        intro ρ5 H5 f5 m5 z rz
        have f25 : Fw ρ ρ5 H H5 := f24.trans f5
        obtain ⟨hD5, hn5⟩ := keepD f25
        have rr5 := rr.mono m.own f25
        obtain ⟨ek, hok⟩ := ry.key hkp
        refine ⟨us, keyK k0, ek, hD5, ?_, Mv', ρ5, putP k0 v' acc, putK us (keyK k0) z, Fw.out (f.trans f25) hD, m5.outK hD5 hn5, hn5, upd_same, ⟨(rr5.put ok.1 rz).outK hD5, ok.put hok⟩, by have := putP_len (k := k0) (v := v') acc; omega, ?_⟩
        · rw [rr.length]
          exact lim_lt hal2
        · rw [hl3]
          exact pl'
  have q : Ps (kx X Z) W σ ρ1 H1 ((lcS g (fun env M => evTs w ts env M) (dcElt w ik iv) (wipeE env (own.map (·.2))) s M1).bind (dcFin [])) fun v _ ρ' H' => ∀ u, VR (kx X Z) ρ' H' v u → Q u H' := q
  cases s with
  | items xs =>
    unfold lcS at q
    simp only at q
    split at q
    · rename_i hlen
      exact key xs (fun _ => True) hlen (fun ρ H M i f m _ => okJ ρ H M i f m) q
    · exact q.elim
  | mem n =>
    unfold lcS at q
    simp only at q
    split at q
    · rename_i xs hM
      split at q
      · rename_i hlen
        exact key xs (fun M => M[n]? = some (.lst xs)) hlen (fun ρ H M i f m hcM => okJ ρ H M i xs f m hcM) q
      · exact q.elim
    · exact q.elim
theorem s_dc {kx0 vx0 tg iter : Expr} {ifs : List Expr} {scope : Scope} {own : List (Str × Nat)} {g : Tg} {ii : I} {ts : List T} {ik iv : E} (hc : X.calm = true) (hN : X.N.Nodup) (hi : PI X tg iter (Tw (kx X Z) W (evI w ii))) (ok : BlkOk X.N X.env.scope scope own) (hns : ∀ n ∈ tgN g, n ∈ own.map (·.2))
    (hg : ∀ (s : Shared) (H : Hp) (C : Addr) (cl : List (Str × Addr)) (fp : List Addr), PG (X.blk s H scope (compEnvC scope cl C X.env) fp) tg (Tg1 (kx X Z) g)) (ht : ∀ (s : Shared) (H : Hp) (C : Addr) (cl : List (Str × Addr)) (fp : List Addr), PTs (X.blk s H scope (compEnvC scope cl C X.env) fp) ifs (Tb (kx X Z) W0 (evTs w ts)))
    (hk : ∀ (s : Shared) (H : Hp) (C : Addr) (cl : List (Str × Addr)) (fp : List Addr), PE (X.blk s H scope (compEnvC scope cl C X.env) fp) kx0 (T1 (kx X Z) W0 (evE w ik))) (he : ∀ (s : Shared) (H : Hp) (C : Addr) (cl : List (Str × Addr)) (fp : List Addr), PE (X.blk s H scope (compEnvC scope cl C X.env) fp) vx0 (T1 (kx X Z) W0 (evE w iv))) (hs : ∀ x, foldedSetIterable iter X.env x = pure x) :
    PE X (.DictComp kx0 vx0 [⟨tg, iter, ifs, 0⟩] scope pos) (T1 (kx X Z) W (evE w (.dc g ii ts (own.map (·.2)) ik iv))) :=
  PE.imp (pe_dc hc hN hi ok hg ht hk he hs) (dc_reads hns)
/-! ### targets that are attributes -/
def gAtt (K : PySem.W.Frag) (to : TE) (f : Str) : TG := fun v σ H Q => to σ H fun x H1 => ∃ a C dx fs, x = .ref a ∧ H1 a = some (.ins C dx fs) ∧ Cls K C ∧ NoAttr K C f ∧ fs.length < 1000 ∧ Q σ (upd H1 a (.ins C dx (putF f v fs)))
theorem pg_att {o : Expr} {f : Str} {to : TE} (ho : PE X o to) : PG X (.Attribute o f pos) (gAtt X.K to f) := by
  refine ⟨fun pins s σ H v u Q I r h => ?_⟩
  have ha : assign (.Attribute o f pos) X.env u = (do
      let ov ← holding [u] (eval o X.env)
      standAt pos.atName
      holding [u, ov] (setAttr ov f u)
      release [u, ov] []) := rfl
  rw [ha]
  refine wpAny_bind (wpAny_holding (thn (ho.run pins s σ H _ I h) fun ov s1 ⟨x, H1, I1, r1, a, C, dx, fs, ex, ea, c, n, l, q⟩ => ?_))
  subst ex
  obtain rfl : ov = Value.ref a := r1
  exact wpAny_bind (wpAny_standAt (wpAny_bind (wpAny_holding (setattr_ok I1 ea c n l r fun s2 I2 => wpAny_release ⟨σ, _, I2, q⟩))))
def TgU (K : Kx) (ts : List TU) : TGs := fun us σ H Q => ∃ env M ρ vs, EnvR K ρ H env σ ∧ MemR K M ρ H ∧ VRs K ρ H vs us ∧ ∃ env' M', bindU ts vs env M = some (env', M') ∧ ∀ ρ' H' σ', Fw ρ ρ' H H' → MemR K M' ρ' H' → EnvR K ρ' H' env' σ' → Q σ' H'
theorem gu_nil : PGs X [] (TgU (kx X Z) []) := by
  refine PGs.imp pgs_nil fun us σ H Q h => ?_
  obtain ⟨env, M, ρ, vs, e, m, r, env', M', hb, q⟩ := h
  cases vs with
  | nil =>
    simp only [bindU] at hb
    cases hb
    exact ⟨r.nil, q ρ H σ Fw.refl m e⟩
  | cons v vs =>
    simp only [bindU] at hb
    cases hb
theorem each_cons {e : Expr} {es : List Expr} (hs : isStar e = false) : (assignEach (e :: es) X.env).map (·.2) = assign e X.env :: (assignEach es X.env).map (·.2) := by
  cases e <;> first | rfl | (cases hs; done)
theorem gu_name {e : Expr} {es : List Expr} {i : Nat} {ts : List TU} (h1 : PG X e (Tg1 (kx X Z) (.name i))) (h2 : PGs X es (TgU (kx X Z) ts)) (hs : isStar e = false) : PGs X (e :: es) (TgU (kx X Z) (.name i :: ts)) := by
  refine PGs.imp (pgs_cons h1 h2 (each_cons hs)) fun us σ H Q h => ?_
  obtain ⟨env, M, ρ, vs, e, m, r, env', M', hb, q⟩ := h
  cases vs with
  | nil =>
    simp only [bindU] at hb
    cases hb
  | cons v vs =>
    simp only [bindU] at hb
    obtain ⟨u, ur, rfl, a, b⟩ := r.inv
    split at hb
    · rename_i hi
      exact ⟨u, ur, rfl, env, M, ρ, v, e, m, a, env.set i (some v), by rw [bindT, if_pos hi], fun σ1 e1 t1 => ⟨env.set i (some v), M, ρ, vs, e1, m, b, env', M', hb, q⟩⟩
    · cases hb
theorem gu_att {o : Expr} {x : Str} {es : List Expr} {j n : Nat} {cs : List Nat} {ts : List TU} (inj : ∀ i j, Z.anm i = Z.anm j → i = j) (F : ClsF (kx X Z)) (at_ : AtF X.K Z n cs) (hx : Z.anm n = x) (ho : PE X o (T1 (kx X Z) W0 (evE w (.var j)))) (h2 : PGs X es (TgU (kx X Z) ts)) :
    PGs X (.Attribute o x pos :: es) (TgU (kx X Z) (.att j n cs :: ts)) := by
  subst hx
  refine PGs.imp (pgs_cons (pg_att ho) h2 (each_cons rfl)) fun us σ H Q h => ?_
  obtain ⟨env, M, ρ, vs, e, m, r, env', M', hb, q⟩ := h
  cases vs with
  | nil =>
    simp only [bindU] at hb
    cases hb
  | cons v vs =>
    simp only [bindU] at hb
    obtain ⟨u, ur, rfl, a, b⟩ := r.inv
    split at hb
    · rename_i o' ho'
      split at hb
      · rename_i M1 hset
        refine ⟨u, ur, rfl, env, M, ρ, e, m, ?_⟩
        simp only [evE, ho']
        intro ρ1 H1 f1 m1 x rx
        obtain ⟨p, C, dx, fs, e1, e2, e3, e4, e5, f3, m3, _⟩ := setAR_ok inj F at_ m1 rx (a.mono m.own f1) hset
        exact ⟨p, C, dx, fs, e1, e2, e3, e4, e5, env, M1, ρ1, vs, (e.mono m.own f1).mono m1.own f3, m3, (b.mono m.own f1).mono m1.own f3, env', M', hb, fun ρ' H' σ' f' m' e' => q ρ' H' σ' ((f1.trans f3).trans f') m' e'⟩
      · cases hb
    · cases hb
theorem bindU_len : ∀ {ts : List TU} {vs : List PV} {env env' : Env} {M M' : Mem}, bindU ts vs env M = some (env', M') → ts.length = vs.length
  | [], vs, env, env', M, M', h => by
    cases vs with
    | nil => rfl
    | cons => simp only [bindU] at h; cases h
  | t :: ts, vs, env, env', M, M', h => by
    cases vs with
    | nil => simp only [bindU] at h; cases h
    | cons v vs =>
      simp only [bindU] at h
      split at h
      · split at h
        · rw [List.length_cons, List.length_cons, bindU_len h]
        · cases h
      · split at h
        · split at h
          · rw [List.length_cons, List.length_cons, bindU_len h]
          · cases h
        · cases h
theorem sole_plain {t e : Expr} {l : Nat} {env : PySem.Env} (h : isComp e = false) : swapsWithSole [t] e l env = pure false := swaps_plain h
theorem ss_unp {es : List Expr} {k : Nat} {pos2 : Pos} {e : Expr} {ie : E} {ts : List TU} (hc : X.calm = true) (he : PE X e (T1 (kx X Z) W (evE w ie))) (h : PGs X es (TgU (kx X Z) ts)) (hl : ts.length = es.length) (hst : noStar es = true) (hs : isComp e = false) (hw : swappedStores [.Tuple es k pos2] e X.env = pure none) :
    PS X (.Assign [.Tuple es k pos2] e pos) (TS1 (kx X Z) W (evS w (.unp ts ie))) := by
  refine PS.imp (ps_asg he (pg_tup hc h (assign_len es) (assign_nostar hst)) (sole_plain hs) hw rfl) fun D σ H h => ?_
  obtain ⟨env, M, ρ, e, m, p⟩ := h
  simp only [evS] at p
  refine T1.go e m ((p.thn e m).imp fun x M1 ρ1 H1 f1 m1 q _ e1 _ u ru => ?_)
  split at q
  · rename_i vs
    split at q
    · rename_i env' M2 hb
      obtain ⟨a, us, rfl, t, rr⟩ := ru.tup_
      refine ⟨a, us, rfl, t.sq, ?_, env, M1, ρ1, vs, e1, m1, rr, env', M2, hb, fun ρ' H' σ' f' m' e' => q ρ' H' σ' f' m' e'⟩
      rw [rr.length, ← bindU_len hb, hl]
    · exact q.elim
  · exact q.elim
end
end HP

set_option Elab.async false
set_option linter.all false
set_option autoImplicit false
set_option maxRecDepth 100000
set_option maxHeartbeats 4000000
/-! An own exception whose __init__ says super().__init__(text), made without arguments. -/
namespace HX
open PySem PySem.W PySem.Calls PyProof.Rows PySem.Spec

section
variable {M : Model} {A : Around} {E : Value → Shared → Prop} {h : Heap} {g : Array GenState} {d : Drawn} {t : Nat} {os : OsState}
variable {nm q : Str} {C N : Addr} {bs bm bmB : List Value} {hdct : Bool} {sn : List Str} {sub : List Value} {ab : Bool} {col : Option Bool} {dd : Option Addr} {k0 k1 k2 k3 k5 : Option Value} {B newId initId : String}
theorem check_bound (F : ExcBaseFacts B newId initId bmB) {e : Addr} {oe : Obj} {rest : List Value} {Q : Unit → Shared → Prop}
    (hC : h.get? C = some (excClassObj nm q C N bs bm hdct sn sub ab col dd k0 k1 k2 k3 k5 newId)) (he : h.get? e = some oe) (hcls : oe.cls = .ref C) (hq : Q () ⟨h, g, d, t, os⟩) :
    wpAny M A (checkBoundCall initId ⟨.ref e :: rest, []⟩) Q E ⟨h, g, d, t, os⟩ := by
  have hshort := F.noStar
  simp only [checkBoundCall, F.initKind, F.initRow]
  repeat (first | (with_reducible refine wpAny_loadPart_at he ?_; rw [hcls]) | with_reducible refine wpAny_loadPart_at hC ?_ | wp_step)
  refine wpAny_onRaise ?_
  rw [show ∀ (a b : String) (n : Nat), Bind.check ⟨.positional, "*", B, .self, [⟨"args", .varPos, false⟩]⟩ a b n (List.map (fun x => x.fst) ({ pos := Value.ref e :: rest } : Args).kw) = pure () from
    fun a b n => check_star_args _ _ _ _ _ _]
  exact wpAny_pure hq
end
section
variable {prog : Program} {w : World} {A : Around} {E : Value → Shared → Prop} {h : Heap} {g : Array GenState} {d : Drawn} {t : Nat} {os : OsState}
variable {nm q : Str} {C N : Addr} {bs bm : List Value} {hdct : Bool} {sn : List Str} {sub : List Value} {ab : Bool} {col : Option Bool} {dd : Option Addr} {k0 k1 k2 k3 k5 : Option Value}
theorem call_mw {u e t0 : Addr} {rest : List Value} {Q : Value → Shared → Prop}
    (hC : h.get? C = some (excClassObj nm q C N bs bm hdct sn sub ab col dd k0 k1 k2 k3 k5 "ValueError.__new__")) (he : h.get? e = some (HandSPX.excO C t0)) (hu : h.get? u = some (kxs_mw "ValueError.__init__" e)) (hrest : rest.length ≤ sizeLine)
    (hq : ∀ h' t1, (∀ b o, b ≠ e → h.get? b = some o → h'.get? b = some o) → h'.get? e = some (HandSPX.excO C t1) → Q .none ⟨h', g, d, t, os⟩) :
    wpAny (model prog w) A (call (.ref u) rest) Q E ⟨h, g, d, t, os⟩ := by
  refine wpAny_call (codeAny_of_tree ?_)
  show wpAny _ A.in1 (callAny (.ref u) ⟨rest, []⟩) _ _ _
  simp only [callAny]
  refine wpAny_bind (wpAny_load hu ?_)
  simp only [kxs_mw, show (Value.type "method-wrapper" == Value.type "method" || Value.type "method-wrapper" == Value.type "builtin_function_or_method" || Value.type "method-wrapper" == Value.type "method-wrapper") = true by decide, if_true]
  refine W.KFB.if_so (by decide) ?_
  refine wpAny_bind (check_bound F.excBase_ValueError hC he rfl ?_)
  refine wpAny_bind (wpAny_pure (wpAny_pure ?_))
  refine ⟨Code.quiet_builtin _ (by decide +kernel), codeAny_builtin F.excBase_ValueError.initEntry ?_⟩
  rw [Around.under_plainId F.excBase_ValueError.init.plain _]
  wp_walk
  refine hq _ h.objs.size (fun b o hb ho => ?_) ?_
  · rw [Heap.get?_update_other _ _ (Ne.symm hb)]
    exact Heap.get?_push_of_some _ ho
  · rw [Heap.get?_update_self _ (Heap.get?_push_of_some _ he) rfl]
    rfl
end
/-- o.name(args), written on one line -/
theorem call_eq {o : Expr} {name : Str} {apos pos : Pos} {args : List Expr} {env : Env} (hf : (backTo pos (starEach args env)).all (fun x => !x.1) = true) (hn : args.length < 30) (hl : (apos.endLine == pos.line) = true) :
    ∃ pl : Sem Bool, eval (.Call (.Attribute o name apos) args [] pos) env = (do
      let ov ← attributeBase o name env (eval o env)
      standAt apos.atName
      let (f, first) ← holding [ov] (getMethod ov name pl)
      callWith pos f first (backTo pos (starEach args env)) []) := by
  have form : methodCallForm (args.length + ([] : List Keyword).length) (backTo pos (starEach args env)) (backToKw pos (keywordEach [] env)) = true := by
    unfold methodCallForm
    rw [hf]
    have e : backToKw pos (keywordEach [] env) = [] := rfl
    rw [e]
    simp
    omega
  refine ⟨do return (← importBound o env).getD true, ?_⟩
  show (do let ov ← attributeBase o name env (eval o env); standAt apos.atName; methodCall o name apos pos env ov (args.length + ([] : List Keyword).length) (backTo pos (starEach args env)) (backToKw pos (keywordEach [] env))) = _
  unfold methodCall calleeOf methodCallPos
  rw [form]
  simp only [hl, Bool.not_true, Bool.false_or, if_true, pure_bind]
  rfl
/-- what is asked of super() in a def of the class at D, its own cell at cc, its code at cda; C: the class of self -/
structure SupF (prog : Program) (K : Frag) (C D cc cda : Addr) : Prop where
  file : ∃ (ccl : Value) (cdd : Option Addr) (vs : Array Value) (ccs : Array (Option Value)) (file : Str) (tf : Tok), K.lookup cda = some ⟨ccl, cdd, .fields vs, ccs⟩ ∧ vs[2]? = some (.str file tf) ∧ ((prog.main.file : Str) == file) = true
  cell : ∃ (cl : Value) (cld : Option Addr) (csl : Array (Option Value)), K.lookup cc = some ⟨cl, cld, .cell (some (.ref D)), csl⟩
  cls : ∃ cd, clsIn K D = some cd
  clsC : ∃ cd, clsIn K C = some cd
  sub : mroIn K C (.ref D) = some true
  nsup : nsIn K mainGlobals "super" = some none
  nopq : nsIn K cStatics "thirdparty.any" = some none
  top : (prog.main.scope.names.lookup ("super" : Str)).isSome = false
/-- the scope of such a def -/
structure SupS (sc : Scope) (sf : Str) : Prop where
  kind : sc.kind = .function
  ks : sc.names.lookup ("super" : Str) = some .globalImplicit
  kc : sc.names.lookup ("__class__" : Str) = some .free
  ka : sc.names.lookup sf = some .local
section
variable {prog : Program} {w : World} {A : Around} {E : Value → Shared → Prop} {s : Shared} {K : Frag} {mg mb : Str → Option Value} {C D f cc cda x : Addr} {q self attr : Str} {sc : Scope} {p0 p1 : Pos} {whole : Sem Value} {fd : FuncData} {ar : Arg} {m : Str → Option Value} {body : List Stmt} {L : Addr} {of ox : Obj}
  {Q : Value → Shared → Prop}
/-- super(), at the code that is asked -/
theorem super_base (F : SupF prog K C D cc cda) (S : SupS sc ar.arg) (X : K.In s.heap) (G : s.heap.Ns mainGlobals mg) (B : s.heap.Ns builtinsNs mb) (Bb : mb "super" = bootBuiltins "super") (hf : s.heap.get? f = some of) (hfd : of.data = .func fd) (hp : (fd.params.posonlyargs ++ fd.params.args).head? = some ar)
    (hn : s.heap.Ns L m) (hv : m ar.arg = some (.ref x)) (hx : s.heap.get? x = some ox) (hxc : ox.cls = .ref C) (hnc : ∀ c, ox.data ≠ .cls c) (hat : (attr == ("__class__" : Str)) = false)
    (h : ∀ h', h'.get? s.heap.objs.size = some (ks_superObj D x C) → (∀ y o, s.heap.get? y = some o → h'.get? y = some o) → Q (.ref s.heap.objs.size) { s with heap := h' }) :
    _root_.PySem.wpAt (model prog w) A (.func body (ksEnv q sc L f (.ref cda) cc)) (attributeBase (.Call (.Name "super" p0) [] [] p1) attr (ksEnv q sc L f (.ref cda) cc) whole) Q E s := by
  obtain ⟨ccl, cdd, vs, ccs, file, tf, hcode, hvs, hfile⟩ := F.file
  obtain ⟨cl, cld, csl, hcell⟩ := F.cell
  obtain ⟨cdD, hD⟩ := F.cls
  have hk := S.kind
  obtain ⟨hh, g, d, t, os⟩ := s
  obtain ⟨oD, hD1, hD2⟩ : ∃ oD, hh.get? D = some oD ∧ oD.data = .cls cdD := by
    unfold clsIn at hD
    split at hD
    · rename_i c d cd' sl ho
      cases hD
      exact ⟨_, X _ _ ho, rfl⟩
    · cases hD
  refine ks_wpAt_super_base (env := ksEnv q sc L f (.ref cda) cc) S.ks S.kc hat rfl hf hfd hp rfl (X _ _ hcode) rfl hvs hfile F.top ?_
  refine ks_loadName_global hk S.ks (loadGlobal_builtin (env := ksEnv q sc L f (.ref cda) cc) G (mg_none_of X G F.nsup) B (Bb.trans PyProof.Rows.Boot.«super») ⟨rfl, ?_⟩)
  refine wpAny_loadName_free hk S.kc rfl ⟨_, X _ _ hcell, rfl⟩ ?_
  refine wpAny_loadName_local hk S.ka hn hv ?_
  refine ks_wpAny_isType_cls hD1 hD2 ⟨rfl, ?_⟩
  exact ks_wpAny_call_super hD1 hD2 hx hxc hnc (looks_mroIn X F.sub) h
end
section
variable {prog : Program} {w : World} {A : Around} {s : Shared} {K : Frag} {mg mb : Str → Option Value} {C D fI cc cda e t0 : Addr} {name qual m : Str} {params : Arguments} {sc : Scope} {dV kV doc pm ct oc : Value} {an od : Option Addr} {osl : Array (Option Value)} {p0 p1 p2 p3 p4 p5 : Pos} {j : Nat} {ar : Arg} {R : Result → Shared → Prop}
variable {nm q : Str} {N : Addr} {bs bm : List Value} {hdct : Bool} {sn : List Str} {sub : List Value} {ab : Bool} {col : Option Bool} {dd : Option Addr} {k0 k1 k2 k3 k5 : Option Value}
abbrev herrBody (m : Str) (j : Nat) (p0 p1 p2 p3 p4 p5 : Pos) : List Stmt := [.Expr (.Call (.Attribute (.Call (.Name "super" p0) [] [] p1) "__init__" p2) [.Constant (.str m) j p3] [] p4) p5]
theorem herr_init (F : SupF prog K C D cc cda) (S : SupS sc ar.arg) (X : K.In s.heap) (G : s.heap.Ns mainGlobals mg) (B : s.heap.Ns builtinsNs mb) (Bb : mb "super" = bootBuiltins "super") (NL : s.heap.NoLimit) (hroom : A.depth < recursionLimit)
    (hf : K.lookup fI = some ⟨oc, od, .func (ksFn name qual params (herrBody m j p0 p1 p2 p3 p4 p5) sc dV kV doc pm an (.ref cda) ct cc), osl⟩) (hcd : codeIn K (.ref cda) qual = true) (hp : (params.posonlyargs ++ params.args).head? = some ar)
    (hbind : BindsTo s (ksFn name qual params (herrBody m j p0 p1 p2 p3 p4 p5) sc dV kV doc pm an (.ref cda) ct cc) ⟨[.ref e], []⟩ [(ar.arg, .ref e)]) (hcell : ∀ x ∈ sc.names, x.2 ≠ .cell) (hco : sc.isCoroutine = false) (hgen : sc.isGenerator = false)
    (hline : (p2.endLine == p4.line) = true) (hC : s.heap.get? C = some (excClassObj nm q C N bs bm hdct sn sub ab col dd k0 k1 k2 k3 k5 "ValueError.__new__")) (he : s.heap.get? e = some (HandSPX.excO C t0)) (hm : ks_superIn K C D "__init__" = some (some (.builtin "ValueError.__init__"))) (hB : subIn K (.ref C) (.type "ValueError") = some true)
    (hq : ∀ h' tk t1, (∀ b o, b ≠ e → s.heap.get? b = some o → h'.get? b = some o) → h'.get? e = some (HandSPX.excO C t1) → R (.ok (.ret .none)) { s with heap := h', toks := tk }) :
    codeAny (model prog w) A (.call (.ref fI) ⟨[.ref e], []⟩) R s := by
  refine ks_codeAny_call_defAt (fd := ksFn name qual params (herrBody m j p0 p1 p2 p3 p4 p5) sc dV kV doc pm an (.ref cda) ct cc) (body := herrBody m j p0 p1 p2 p3 p4 p5) (binds := [(ar.arg, .ref e)]) hroom (X _ _ hf) rfl NL (codeRec_of X hcd) rfl hbind hcell
    (fun y hy => by rw [List.mem_singleton.mp hy]; exact S.ka) (fun h1 hns hk1 => ?_) hco hgen S.kind
  have eC : e ≠ C := fun z => by
    have z1 := hC
    rw [← z, he] at z1
    cases z1
  obtain ⟨hp', g, d, t, os⟩ := s
  have X1 : K.In h1 := X.keeps hk1
  show _root_.PySem.wpAt _ _ _ (execs (herrBody m j p0 p1 p2 p3 p4 p5) (ksEnv qual sc hp'.objs.size fI (.ref cda) cc)) _ _ _
  have hi : interactive (ksEnv qual sc hp'.objs.size fI (.ref cda) cc) = false := by
    unfold interactive
    simp [Env.blockKind, S.kind]
  obtain ⟨pl, heq⟩ := call_eq (o := .Call (.Name "super" p0) [] [] p1) (name := "__init__") (apos := p2) (pos := p4) (args := [.Constant (.str m) j p3]) (env := ksEnv qual sc hp'.objs.size fI (.ref cda) cc) rfl (by simp) hline
  refine ks_wpAt_execs_cons (ks_wpAt_Expr_any (ks_wpAt_MethodCall (super_base (s := ⟨h1, g, d, t + 1, os⟩) F S X1 (G.keeps hk1) (B.keeps hk1) Bb (X1 _ _ hf) rfl hp hns (by simp) (hk1 _ _ he) rfl (fun c z => by cases z) (by decide) fun h2 hso k2 => ?_) heq) hi)
  have X2 : K.In h2 := X1.keeps k2
  obtain ⟨cdC, hcC⟩ := F.clsC
  have hm' := hm
  unfold ks_superIn at hm'
  rw [hcC] at hm'
  have he2 := k2 _ _ (hk1 _ _ he)
  have I2 : InstAt h2 e (HandSPX.excO C t0) C none := ⟨he2, rfl, rfl, trivial⟩
  refine kxs_getMethod kxs_ValueError hso (looks_opaque X2 F.nopq) (l₀ := cdC.mro) (fun A Q E s k q => wpAny_bind ((looks_clsIn X2 hcC) A _ E s k (wpAny_pure q))) rfl X2 hm' (I2.type.andThen (looks_subIn X2 hB)) eC (by decide) ?_
  have hu : (h2.push (kxs_mw "ValueError.__init__" e)).get? h2.objs.size = some (kxs_mw "ValueError.__init__" e) := Heap.get?_push_at rfl rfl
  have k3 : ∀ b o, h2.get? b = some o → (h2.push (kxs_mw "ValueError.__init__" e)).get? b = some o := fun b o z => Heap.get?_push_of_some _ z
  refine kxs_callWith (i := "ValueError.__init__") (x := e) rfl (evalArgs_plain ?_)
  show wpAny _ _ (spliced ((false, eval (.Constant (.str m) j p3) (ksEnv qual sc hp'.objs.size fI (.ref cda) cc)) :: [])) _ _ _
  refine Calls.spliced_cons (wpAny_Constant_str (Calls.spliced_nil ?_))
  refine ⟨hu, ?_⟩
  refine call_mw (k3 _ _ (k2 _ _ (hk1 _ _ hC))) (k3 _ _ he2) hu (by rw [sizeLine_eq]; simp) fun h3 t1 k4 e4 => ?_
  refine wpAt_of_wpAny (wpAny_execs_nil ?_)
  exact hq h3 _ t1 (fun b o hb z => k4 b o hb (k3 _ _ (k2 _ _ (hk1 _ _ z)))) e4
end
/-- an own exception class over ValueError, whose __init__ is such a def -/
structure HerrF (prog : Program) (K : Frag) (C : Addr) : Prop where
  ex : ∃ (D fI cc cda : Addr) (name qual m : Str) (params : Arguments) (sc : Scope) (dV kV doc pm ct oc : Value) (an od : Option Addr) (osl : Array (Option Value)) (p0 p1 p2 p3 p4 p5 : Pos) (j : Nat) (ar : Arg),
    SupF prog K C D cc cda ∧ SupS sc ar.arg ∧ K.lookup fI = some ⟨oc, od, .func (ksFn name qual params (herrBody m j p0 p1 p2 p3 p4 p5) sc dV kV doc pm an (.ref cda) ct cc), osl⟩ ∧ codeIn K (.ref cda) qual = true ∧ (params.posonlyargs ++ params.args).head? = some ar ∧
    (∀ (s : Shared) (e : Addr), BindsTo s (ksFn name qual params (herrBody m j p0 p1 p2 p3 p4 p5) sc dV kV doc pm an (.ref cda) ct cc) ⟨[.ref e], []⟩ [(ar.arg, .ref e)]) ∧ (∀ x ∈ sc.names, x.2 ≠ .cell) ∧ sc.isCoroutine = false ∧ sc.isGenerator = false ∧ (p2.endLine == p4.line) = true ∧
    ks_superIn K C D "__init__" = some (some (.builtin "ValueError.__init__")) ∧ findIn K (.ref C) "__init__" = some (some (.ref fI)) ∧ typeIn K (.ref fI) = some (.type "function")
  cls : excInitIn K C [.type "ValueError", .type "Exception", .type "BaseException", .type "object"] "ValueError.__new__" = true
  subV : subIn K (.ref C) (.type "ValueError") = some true
  exC : subIn K (.ref C) (.type "BaseException") = some true
  tyC : typeIn K (.ref C) = some (.type "type")
  kC : keepIn K (.ref C) = true
end HX
namespace HX
open PySem PySem.W PySem.Calls PyProof.Rows PySem.Spec L2
/-- C() -/
theorem pmk_herr {X : Cx} {C : Addr} {x : Str} {p pos : Pos} (T : HerrF X.prog X.K C) (hr : Room 1 X.A) (hg : Gl X x) (hm : X.mg x = some (.ref C)) (hdb : (x == ("__debug__" : Str)) = false) : PMk X (.Call (.Name x p) [] [] pos) (fun _ H Q => Q (.ref C) none H) := by
  intro pins s σ H Q I h
  obtain ⟨D, fI, cc, cda, name, qual, m, params, sc, dV, kV, doc, pm, ct, oc, an, od, osl, p0, p1, p2, p3, p4, p5, j, ar, F, S, hf, hcd, hp, hb, hcell, hco, hgen, hline, hsu, iC, tI⟩ := T.ex
  obtain ⟨mb, B1, B2⟩ := I.mod.blt
  refine wpAny_Call_Name_kw (ld_glob I hg hm ?_ hdb)
  refine PySem.W.callWith_K0 I.kIn T.kC ?_
  have kIn := I.kIn
  have glob := I.mod.glob.keeps I.bk
  have blt := B1.keeps I.bk
  have nol := I.nolimit
  obtain ⟨nm, N, q, bs, bm, hdct, sn, sub, ab, col, dd, k0, k1, k2, k3, k5, hC, hT⟩ := excInit_of kIn T.cls
  have hdp := hr.dp
  have na := I.hok.fresh (Nat.le_succ s.heap.objs.size)
  obtain ⟨hp', g, dr, tk, os⟩ := s
  have kk : ∀ b o, hp'.get? b = some o → ((hp'.push (PySem.W.kdv_tup [])).push (HandSPX.excO C hp'.objs.size)).get? b = some o := fun b o e => Heap.get?_push_of_some _ (Heap.get?_push_of_some _ e)
  have hget : ((hp'.push (PySem.W.kdv_tup [])).push (HandSPX.excO C hp'.objs.size)).get? (hp'.objs.size + 1) = some (HandSPX.excO C hp'.objs.size) := by heap_get
  have hnone : hp'.get? (hp'.objs.size + 1) = none := Heap.get?_none_of_le (Nat.le_succ _)
  refine wpAny_call (HandSPX.call_own PySem.F.excBase_ValueError hT hC (looks_findIn kIn iC) (fun self => bind_fn kIn self tI) (by rw [sizeLine_eq]; simp)
    (herr_init (s := ⟨(hp'.push (PySem.W.kdv_tup [])).push (HandSPX.excO C hp'.objs.size), g, dr, tk, os⟩) F S (kIn.keeps kk) (glob.keeps kk) (blt.keeps kk) (B2 _ (by decide)) (nol.keeps kk) (by rw [make_depth]; omega) hf hcd hp (hb _ _) hcell hco hgen hline (kk _ _ hC) hget hsu T.subV fun h' tk' t1 k e1 => ?_))
  refine ⟨rfl, ?_⟩
  exact ⟨hp'.objs.size + 1, _, _, ⟨hp', g, dr, tk, os⟩, H, .ref C, none, rfl, I, fun b o e => k b o (Nat.ne_of_lt (Nat.lt_succ_of_lt (Heap.lt_size e))) (kk b o e), hnone, e1, ⟨rfl, rfl⟩, rfl, rfl, na, rfl, I.bare, raises_own T.exC T.tyC, h⟩
end HX

set_option Elab.async false
set_option linter.all false
set_option autoImplicit false
set_option maxRecDepth 100000
set_option maxHeartbeats 4000000
/-! raise, try .. except X, try .. except X as e. -/
namespace HP
open PySem L2

theorem EnvR.wip {K : Kx} {ρ : List Addr} {H : Hp} {env : Env} {σ : St} (h : EnvR K ρ H env σ) (i : Nat) (u : Option V) : EnvR K ρ H (env.set i none) (σ.set i u) := by
  refine ⟨by simp [h.len], fun j v e => ?_⟩
  by_cases hj : i = j
  · subst hj
    by_cases hl : i < env.length
    · rw [List.getElem?_set_self hl] at e
      cases e
    · rw [List.getElem?_eq_none (by simpa using hl)] at e
      cases e
  · rw [List.getElem?_set_ne hj] at e
    obtain ⟨x, a, b⟩ := h.val j v e
    exact ⟨x, by rw [List.getElem?_set_ne hj]; exact a, b⟩
/-- what is done with an exception of the class numbered c -/
def inHs : Hs → Nat → Option (Option (List S))
  | .nil, _ => none
  | .hnd d b r, c => if d = c then some (some b) else inHs r c
  | .pas d r, c => if d = c then some none else inHs r c
theorem evHs_eq {w : Wd} {nm : Option Nat} {c : Nat} {env : Env} {M : Mem} : ∀ hs : Hs, evHs w hs nm c env M = match inHs hs c with
    | none => .fail
    | some none => .exc c env M
    | some (some b) => if inO nm env then (evSs w b (wipO nm env) M).suite nm else .fail
  | .nil => by simp only [evHs, inHs]
  | .hnd d b r => by
    simp only [evHs, inHs]
    split
    · rfl
    · exact evHs_eq r
  | .pas d r => by
    simp only [evHs, inHs]
    split
    · rfl
    · exact evHs_eq r
section
variable {X : Cx} {Z : Zx} {W : XW} {w : Wd} {clsV : Nat → Value} {pos : Pos}
theorem ss_rais {x : Str} {p p2 : Pos} {c : Nat} {C : Addr} (hc : X.calm = true) (tk : Takes X (wx clsV W)) (e : clsV c = .ref C) (he : PMk X (.Call (.Name x p) [] [] p2) (fun _ H Q => Q (.ref C) none H)) :
    PS X (.Raise (some (.Call (.Name x p) [] [] p2)) none pos) (TS1 (kx X Z) W (evS w (.rais c))) := by
  refine PS.imp (ps_raise hc tk he) fun D σ H h => ?_
  obtain ⟨env, M, ρ, e1, m, p⟩ := h
  simp only [evS] at p
  exact ⟨c, e.symm, rfl, p ρ H σ Fw.refl m e1⟩
/-- the outcome of a suite, as the try's -/
theorem PC.suite {K : Kx} {W W' : XW} {ρ : List Addr} {H : Hp} {c : Ctl} {i : Nat} {D : Ends} (h : PC K W ρ H (c.suite (some i)) D) : PC K W' ρ H c { nx := fun σ' H' => D.nx (σ'.set i none) H', rt := D.rt, bk := fun σ' H' => D.bk (σ'.set i none) H', ct := fun σ' H' => D.ct (σ'.set i none) H' } := by
  cases c with
  | nxt env M => exact fun ρ' H' σ' f m e => h ρ' H' _ f m (e.wip i none)
  | ret v M => exact h
  | brk env M => exact fun ρ' H' σ' f m e => h ρ' H' _ f m (e.wip i none)
  | cnt env M => exact fun ρ' H' σ' f m e => h ρ' H' _ f m (e.wip i none)
  | exc d env M => exact h.elim
  | fail => exact h.elim
theorem PC.suite0 {K : Kx} {W W' : XW} {ρ : List Addr} {H : Hp} {c : Ctl} {D : Ends} (h : PC K W ρ H (c.suite none) D) : PC K W' ρ H c D := by
  cases c with
  | nxt env M => exact h
  | ret v M => exact h
  | brk env M => exact h
  | cnt env M => exact h
  | exc d env M => exact h.elim
  | fail => exact h.elim
/-- what is wanted of an exception of a try's body that began at env, M -/
def wBody (K : Kx) (r : Ctl) (ρ : List Addr) (H : Hp) : XW := fun c σ' H' => ∃ env' M' ρ', r = .exc c env' M' ∧ Fw ρ ρ' H H' ∧ MemR K M' ρ' H' ∧ EnvR K ρ' H' env' σ'
theorem PC.body {K : Kx} {W : XW} {ρ : List Addr} {H : Hp} {r : Ctl} {f : Nat → Env → Mem → Ctl} {D : Ends} (h : PC K W ρ H (r.caught f) D) : PC K (wBody K r ρ H) ρ H r D := by
  cases r with
  | nxt env M => exact h
  | ret v M => exact h
  | brk env M => exact h
  | cnt env M => exact h
  | exc d env M => exact fun ρ' H' σ' fw m e => ⟨env, M, ρ', rfl, fw, m, e⟩
  | fail => exact h
section
variable {x n : Str} {c : Value} {i : Nat} {body suite : List Stmt} {b₀ : Stmt} {np pos' : Pos} {ib : List S} {hs : Hs}
theorem ss_try_as (hst : X.stack = X.env :: X.outer) (hf : X.env.frame = some X.env.locals) (hN : X.N.Nodup) (hi : X.N[i]? = some n) (hln : X.env.kindOf n = some .local) (hc : Names X x c) (tk : Takes X (wx clsV W))
    (hex : ∀ d r, inHs hs d = some r → PySem.W.exmOne X.K (clsV d) c = some r.isSome)
    (hb : ∀ (W' : XW) (pn : List (Addr × Obj)) (xe : Value → Shared → Prop), Takes (X.tr pn xe) (wx clsV W') → PassesOwn (model X.prog X.w) X.A X.env xe → PSs (X.tr pn xe) body (TS1 (kx X Z) W' (evSs w ib)))
    (hsu : ∀ (d : Nat) (b : List S) (a : Addr) (oe : Obj) (pn : List (Addr × Obj)), inHs hs d = some (some b) → Zc (clsV d) none oe → (∃ vs, oe.data = .fields vs) → PSs (X.suite a ((a, oe) :: pn)) (b₀ :: suite) (fun D σ H => σ[i]? = some (some (.ref a)) ∧ TS1 (kx X Z) W0 (evSs w b) D σ H)) :
    PS X (.Try body [.ExceptHandler (some (.Name x np)) (some n) (b₀ :: suite) pos'] [] [] pos) (TS1 (kx X Z) W (evS w (.tryy ib (some i) hs))) := by
  refine PS.imp (ps_try_as (tb := fun V D σ H => ∃ W' : XW, (∀ cls d σ H, wx clsV W' cls d σ H → V cls d σ H) ∧ TS1 (kx X Z) W' (evSs w ib) D σ H)
    (ts := fun a cls d D σ H => d = none ∧ ∃ k b, cls = clsV k ∧ inHs hs k = some (some b) ∧ σ[i]? = some (some (.ref a)) ∧ TS1 (kx X Z) W0 (evSs w b) D σ H) (Wout := wx clsV W) hst hf hN hi hln hc tk (fun V pn xe tv po => ?_) (fun a oe cls d pn hz hd => ?_)) fun D σ H h => ?_
  · refine ⟨fun pins s σ H D I h => ?_⟩
    obtain ⟨W', hW, ht⟩ := h
    exact (hb W' pn xe (tv.imp hW) po).run pins s σ H D I ht
  · refine ⟨fun pins s σ H D I h => ?_⟩
    obtain ⟨rfl, k, b, rfl, hk, hq, ht⟩ := h
    exact (hsu k b a oe pn hk hz hd).run pins s σ H D I ⟨hq, ht⟩
  · obtain ⟨env, M, ρ, e, m, p⟩ := h
    simp only [evS] at p
    refine ⟨wBody (kx X Z) (evSs w ib env M) ρ H, fun cls d σ' H' z => ?_, env, M, ρ, e, m, p.body⟩
    obtain ⟨k, rfl, rfl, env', M', ρ', hr, fw, m', e'⟩ := z
    rw [hr] at p
    have p : PC (kx X Z) W ρ H (evHs w hs (some i) k env' M') D := p
    rw [evHs_eq] at p
    cases hk : inHs hs k with
    | none =>
      rw [hk] at p
      exact p.elim
    | some r =>
      rw [hk] at p
      have hx := hex k r hk
      cases r with
      | none =>
        refine ⟨false, hx, (fun z => nomatch z), fun _ => ⟨k, rfl, rfl, ?_⟩⟩
        exact p ρ' H' σ' fw m' e'
      | some b =>
        simp only [inO, decide_eq_true_eq] at p
        split at p
        · rename_i hl
          refine ⟨true, hx, fun _ a na => ⟨rfl, k, b, rfl, hk, ?_, ?_⟩, (fun z => nomatch z)⟩
          · rw [List.getElem?_set_self (by rw [← e'.len]; exact hl)]
          · exact ⟨env'.set i none, M', ρ', e'.wip i _, m', PC.suite (PC.fw fw p)⟩
        · exact p.elim
theorem ss_try_only (hst : X.stack = X.env :: X.outer) (hf : X.env.frame = some X.env.locals) (hc : Names X x c) (tk : Takes X (wx clsV W))
    (hex : ∀ d r, inHs hs d = some r → PySem.W.exmOne X.K (clsV d) c = some r.isSome)
    (hb : ∀ (W' : XW) (pn : List (Addr × Obj)) (xe : Value → Shared → Prop), Takes (X.tr pn xe) (wx clsV W') → PassesOwn (model X.prog X.w) X.A X.env xe → PSs (X.tr pn xe) body (TS1 (kx X Z) W' (evSs w ib)))
    (hsu : ∀ (d : Nat) (b : List S) (a : Addr) (oe : Obj) (pn : List (Addr × Obj)), inHs hs d = some (some b) → Zc (clsV d) none oe → (∃ vs, oe.data = .fields vs) → PSs (X.suite a ((a, oe) :: pn)) (b₀ :: suite) (TS1 (kx X Z) W0 (evSs w b))) :
    PS X (.Try body [.ExceptHandler (some (.Name x np)) none (b₀ :: suite) pos'] [] [] pos) (TS1 (kx X Z) W (evS w (.tryy ib none hs))) := by
  refine PS.imp (ps_try_only (tb := fun V D σ H => ∃ W' : XW, (∀ cls d σ H, wx clsV W' cls d σ H → V cls d σ H) ∧ TS1 (kx X Z) W' (evSs w ib) D σ H)
    (ts := fun a cls d D σ H => d = none ∧ ∃ k b, cls = clsV k ∧ inHs hs k = some (some b) ∧ TS1 (kx X Z) W0 (evSs w b) D σ H) (Wout := wx clsV W) hst hf hc tk (fun V pn xe tv po => ?_) (fun a oe cls d pn hz hd => ?_)) fun D σ H h => ?_
  · refine ⟨fun pins s σ H D I h => ?_⟩
    obtain ⟨W', hW, ht⟩ := h
    exact (hb W' pn xe (tv.imp hW) po).run pins s σ H D I ht
  · refine ⟨fun pins s σ H D I h => ?_⟩
    obtain ⟨rfl, k, b, rfl, hk, ht⟩ := h
    exact (hsu k b a oe pn hk hz hd).run pins s σ H D I ht
  · obtain ⟨env, M, ρ, e, m, p⟩ := h
    simp only [evS] at p
    refine ⟨wBody (kx X Z) (evSs w ib env M) ρ H, fun cls d σ' H' z => ?_, env, M, ρ, e, m, p.body⟩
    obtain ⟨k, rfl, rfl, env', M', ρ', hr, fw, m', e'⟩ := z
    rw [hr] at p
    have p : PC (kx X Z) W ρ H (evHs w hs none k env' M') D := p
    rw [evHs_eq] at p
    cases hk : inHs hs k with
    | none =>
      rw [hk] at p
      exact p.elim
    | some r =>
      rw [hk] at p
      have hx := hex k r hk
      cases r with
      | none =>
        refine ⟨false, hx, (fun z => nomatch z), fun _ => ⟨k, rfl, rfl, ?_⟩⟩
        exact p ρ' H' σ' fw m' e'
      | some b =>
        refine ⟨true, hx, fun _ a na => ⟨rfl, k, b, rfl, hk, ?_⟩, (fun z => nomatch z)⟩
        exact ⟨env', M', ρ', e', m', PC.suite0 (PC.fw fw p)⟩
end
end
end HP

set_option Elab.async false
set_option linter.all false
set_option autoImplicit false
set_option maxRecDepth 100000
set_option maxHeartbeats 4000000
/-! The text read into plain form. -/
namespace HP
open PySem L2

/-- what the names of the module stand for -/
structure Gt where
  fns : List (Str × Nat × Nat)
  cns : List (Str × Nat)
  cls : List (Str × Nat)
  free : List Str
  mets : List (Str × List (Nat × Nat × Nat))
  inits : List (Nat × Nat × Nat × Bool)
  atn : List Str
  natt : List (List Nat)
  mu : List Nat
  /-- exceptions that are made without arguments; what except clauses name: the classes that it catches, and those that it does not -/
  exr : List (Str × Nat) := []
  exh : List (Str × List Nat × List Nat) := []

def okName (x : Str) : Bool := !(x == ("__debug__" : Str)) && !(x == ("__classdict__" : Str)) && !(x == ("__name__" : Str))
def visB (sc : Scope) (x : Str) : Bool := match sc.names.lookup x with
  | some .local => true
  | some .cell => true
  | some .free => true
  | _ => false
def locB (sc : Scope) (x : Str) : Bool := match sc.names.lookup x with
  | some .local => true
  | some .cell => true
  | _ => false
def glB (sc : Scope) (x : Str) : Bool := match sc.names.lookup x with
  | some .globalImplicit => true
  | _ => false
def ixB (N : List Str) (x : Str) : Option Nat := N.findIdx? fun y => decide (y = x)
def varB (N : List Str) (sc : Scope) (x : Str) : Option Nat := if okName x && visB sc x then ixB N x else none
def binB : Operator → Option O2
  | .Add => some .add | .Sub => some .sub | .Mult => some .mul | .FloorDiv => some .fdiv | .Mod => some .mod | .Pow => some .pow
  | _ => none
def cmpB : CmpOp → Option O2
  | .Eq => some .eq | .NotEq => some .ne | .Lt => some .lt | .LtE => some .le | .Gt => some .gt | .GtE => some .ge | .Is => some .is | .IsNot => some .isnot | .In => some .mem | .NotIn => some .notin
def augB : Operator → Option O2
  | .Add => some .add | .Sub => some .sub
  | _ => none
/-- a built-in function or class by its name -/
def bltB (x : Str) : Option On :=
  if x = ("len" : Str) then some .len else if x = ("abs" : Str) then some .abs else if x = ("int" : Str) then some .int else if x = ("list" : Str) then some .list else if x = ("tuple" : Str) then some .tuple else if x = ("isinstance" : Str) then some .isi else if x = ("max" : Str) then some .max else if x = ("min" : Str) then some .min else if x = ("sum" : Str) then some .sum else if x = ("all" : Str) then some .all else if x = ("any" : Str) then some .any else if x = ("dict" : Str) then some .dict else none
def tyB (x : Str) : Option Ty :=
  if x = ("int" : Str) then some .int else if x = ("str" : Str) then some .str else if x = ("bool" : Str) then some .bool else if x = ("tuple" : Str) then some .tuple else if x = ("list" : Str) then some .list else if x = ("dict" : Str) then some .dict else none
/-- a built-in's method by its name -/
def metB (x : Str) : Option (MT × On) :=
  if x = ("append" : Str) then some (.list, .append) else if x = ("remove" : Str) then some (.list, .remove) else if x = ("pop" : Str) then some (.list, .pop) else if x = ("get" : Str) then some (.dict, .dget) else none
/-- an attribute's number, the classes that have no such name -/
def atB (G : Gt) (x : Str) : Option Nat := ixB G.atn x
def nattB (G : Gt) (n : Nat) : List Nat := (G.natt[n]?).getD []
/-- an own method, so many values handed in -/
def mtB (G : Gt) (x : Str) (n : Nat) : Option (List (Nat × Nat)) := match G.mets.lookup x with
  | some l => some (l.filterMap fun e => if e.2.2 == n then some (e.1, e.2.1) else none)
  | none => none
def amB (G : Gt) (x : Str) : Option (Option Nat) := match atB G x with
  | some i => some (some i)
  | none => if vstr x.cps.toList then some none else none
def mkB (G : Gt) (c n : Nat) (is : List E) : Option E := match G.inits.lookup c with
  | some (fi, m, fz) => if m == n then some (.make c fi fz is) else none
  | none => none
/-- a list that is changed later -/
def mutB (G : Gt) (pos : Pos) : Bool := G.mu.contains (pos.line * 1000 + pos.col)
def onB (m : Bool) : On → On
  | .list => if m then .list else .rlist
  | o => o
def lsB (x : Str) (i : Option E) : Option E := if x = ("len" : Str) then i.map (fun a => .opn .lset [a]) else none
def andE : List E → Option E
  | [] => none
  | e :: es => match es with
    | [] => some e
    | _ :: _ => match andE es with
      | some r => some (.and e r)
      | none => none
def orE : List E → Option E
  | [] => none
  | e :: es => match es with
    | [] => some e
    | _ :: _ => match orE es with
      | some r => some (.or e r)
      | none => none
def andT : List T → Option T
  | [] => none
  | e :: es => match es with
    | [] => some e
    | _ :: _ => match andT es with
      | some r => some (.and e r)
      | none => none
def orT : List T → Option T
  | [] => none
  | e :: es => match es with
    | [] => some e
    | _ :: _ => match orT es with
      | some r => some (.or e r)
      | none => none
def constB : Const → Option PV
  | .int i => some (.int i)
  | .bool b => some (.bl b)
  | .none => some .non
  | .str x => if x.cps.toList.all fun c => decide (c < 1114112) then some (.str x.cps.toList) else none
  | _ => none
/-- a test that is its value's truth -/
def valB : Expr → Bool
  | .Name .. => true
  | .Call .. => true
  | .Subscript .. => true
  | .Constant .. => true
  | .BinOp .. => true
  | .Attribute .. => true
  | .List .. => true
  | .Tuple .. => true
  | _ => false

def cmpE (ops : List CmpOp) (bs : List Expr) (ia : E) (is : List E) : Option E :=
  match ops, bs, is with
  | [op], [b], [ib] => match cmpB op with
    | some o => if behindInMarks op b then none else some (.op2 o ia ib)
    | none => none
  | [op, op'], [_, c], [ib, ic] => match cmpB op, cmpB op' with
    | some o, some p => if behindInMarks op' c then none else some (.chain o p ia ib ic)
    | _, _ => none
  | _, _, _ => none
def cmpT (ops : List CmpOp) (bs : List Expr) (ia : E) (is : List E) : Option T :=
  match ops, bs, is with
  | [op], [b], [ib] => match cmpB op with
    | some o => if behindInMarks op b then none else some (.cmp o ia ib)
    | none => none
  | [op, op'], [_, c], [ib, ic] => match cmpB op, cmpB op' with
    | some o, some p => if behindInMarks op' c then none else some (.chain o p ia ib ic)
    | _, _ => none
  | _, _, _ => none
def orV (t : Option T) (v : Bool) (e : Option E) : Option T :=
  match t with
  | some t => some t
  | none => if v then e.map .val else none

mutual
def cG (N : List Str) (sc : Scope) : Expr → Option Tg
  | .Name x _ => if locB sc x then (ixB N x).map .name else none
  | .Tuple es _ _ => if noStar es then (cGs N sc es).map .tup else none
  | _ => none
def cGs (N : List Str) (sc : Scope) : List Expr → Option (List Tg)
  | [] => some []
  | e :: es => match cG N sc e, cGs N sc es with
    | some g, some gs => some (g :: gs)
    | _, _ => none
end
def isSetD : Expr → Bool
  | .Set .. => true
  | _ => false
/-- what is walked, from its parts -/
def mkI (G : Gt) (sc : Scope) (tg e : Expr) (ie : Option E) (as : Option (List E)) : Option I :=
  match e with
  | .Call (.Name x _) es kws _ => if x = ("range" : Str) then
      if glB sc x && G.free.contains x && noStar es && kws.isEmpty then match es with
        | [_] => as.map .range
        | [_, _] => as.map .range
        | _ => none
      else none
    else if x = ("zip" : Str) then
      if glB sc x && G.free.contains x && noStar es && kws.isEmpty then match tg with
        | .Tuple _ _ _ => match es with
          | [_, _] => as.map .zip
          | _ => none
        | _ => none
      else none
    else ie.map .val
  | e => if isSetD e then none else ie.map .val
/-- the slots of a block's own names -/
def ownB (N : List Str) (scope : Scope) : List (Str × Nat) := scope.names.filterMap fun y => match y.2 with
  | .local => (ixB N y.1).map fun i => (y.1, i)
  | .cell => (ixB N y.1).map fun i => (y.1, i)
  | _ => none
mutual
def cE (G : Gt) (N : List Str) (sc : Scope) : Expr → Option E
  | .Constant c _ _ => (constB c).map .lit
  | .Name x _ => match varB N sc x with
    | some i => some (.var i)
    | none => if okName x && glB sc x then match G.cns.lookup x with
        | some g => some (.glob g)
        | none => match G.cls.lookup x with
          | some c => some (.lit (.ty (.own c)))
          | none => if G.free.contains x then (tyB x).map fun T => .lit (.ty T) else none
      else none
  | .BinOp a op b _ => match binB op, cE G N sc a, cE G N sc b with
    | some o, some ia, some ib => some (.op2 o ia ib)
    | _, _, _ => none
  | .UnaryOp op a _ => match op, cE G N sc a with
    | .Not, some ia => some (.nott ia)
    | .USub, some ia => some (.op1 .neg ia)
    | _, _ => none
  | .BoolOp op es _ => match op, cEs G N sc es with
    | .And, some is => andE is
    | .Or, some is => orE is
    | _, none => none
  | .Compare a ops bs _ => match cE G N sc a, cEs G N sc bs with
    | some ia, some is => cmpE ops bs ia is
    | _, _ => none
  | .IfExp t a b _ => match orV (cT G N sc t) (valB t) (cE G N sc t), cE G N sc a, cE G N sc b with
    | some it, some ia, some ib => some (.ife it ia ib)
    | _, _, _ => none
  | .Tuple es _ _ => if noStar es then (cEs G N sc es).map .tup else none
  | .List es pos => if noStar es then (cEs G N sc es).map (fun is => if mutB G pos then .lst is else .rls is) else none
  | .Dict keys es _ => match keysE keys, cEs G N sc es with
    | some ks, some is => if keys.length == es.length && decide ks.Nodup && decide (keys.length ≤ 15) then some (.dct ks is) else none
    | _, _ => none
  | .Subscript a (.Slice lo hi none _) pos => match cE G N sc a, cO G N sc lo, cO G N sc hi with
    | some ia, some (fl, il), some (fh, ih) => some (if mutB G pos then .cut fl fh ia il ih else .rcut fl fh ia il ih)
    | _, _, _ => none
  | .Subscript a b _ => if isSlice b then none else match cE G N sc a, cE G N sc b with
    | some ia, some ib => some (.op2 .idx ia ib)
    | _, _ => none
  | .Attribute a x _ => match atB G x, cE G N sc a with
    | some n, some ia => if plainBase a then some (.fld ia n (nattB G n)) else some .bad
    | _, _ => some .bad
  | .ListComp elt [⟨tg, iter, ifs, isa⟩] scope pos =>
      if isa == 0 && !isSetD iter && blkC N sc scope (ownB N scope) then
        match cG N scope tg, mkI G sc tg iter (cE G N sc iter) (cArgs G N sc iter), cIfs G N (relS scope sc) ifs, cE G N (relS scope sc) elt with
        | some g, some ii, some ts, some ie => if (tgN g).all fun n => ((ownB N scope).map (·.2)).contains n then some (if mutB G pos then .lc g ii ts ((ownB N scope).map (·.2)) ie else .rlc g ii ts ((ownB N scope).map (·.2)) ie) else none
        | _, _, _, _ => none
      else none
  | .DictComp kx vx [⟨tg, iter, ifs, isa⟩] scope _ =>
      if isa == 0 && !isSetD iter && blkC N sc scope (ownB N scope) then
        match cG N scope tg, mkI G sc tg iter (cE G N sc iter) (cArgs G N sc iter), cIfs G N (relS scope sc) ifs, cE G N (relS scope sc) kx, cE G N (relS scope sc) vx with
        | some g, some ii, some ts, some ik, some iv => if (tgN g).all fun n => ((ownB N scope).map (·.2)).contains n then some (.dc g ii ts ((ownB N scope).map (·.2)) ik iv) else none
        | _, _, _, _, _ => none
      else none
  | .Call (.Name x _) [] [] _ => if okName x && glB sc x then match G.fns.lookup x with
      | some (fi, n) => if n == 0 then some (.call fi []) else none
      | none => match G.cls.lookup x with
        | some c => mkB G c 1 []
        | none => none
    else none
  | .Call (.Attribute o nm apos) [] [] pos => match mtB G nm 1 with
    | some tab => match amB G nm, cE G N sc o with
      | some am, some io => if plainBase o && apos.endLine == pos.line then some (.mcall io am tab []) else none
      | _, _ => none
    | none => if nm = ("pop" : Str) then match cE G N sc o with
      | some io => if plainBase o && apos.endLine == pos.line then some (.meth .list .pop io []) else none
      | none => none
      else none
  | .Call f es kws pos => if !kws.isEmpty || es.isEmpty || !noStar es then none else match f with
    | .Name x _ => if okName x && glB sc x then match G.fns.lookup x with
        | some (fi, n) => if es.length == n then (cEs G N sc es).map (.call fi) else none
        | none => match G.cls.lookup x with
          | some c => match cEs G N sc es with
            | some is => mkB G c (es.length + 1) is
            | none => none
          | none => if G.free.contains x then match lsB x (cLs G N sc es) with
            | some i => some i
            | none => match bltB x with
              | some o => (cEs G N sc es).map (.opn (onB (mutB G pos) o))
              | none => none
          else none
      else none
    | .Attribute o nm apos => match mtB G nm (es.length + 1) with
     | some tab => match amB G nm, cE G N sc o, cEs G N sc es with
      | some am, some io, some is => if plainBase o && decide (es.length < 29) && apos.endLine == pos.line then some (.mcall io am tab is) else none
      | _, _, _ => none
     | none => match metB nm with
      | some (k, om) => if plainBase o && decide (es.length < 29) && apos.endLine == pos.line then match cE G N sc o, cEs G N sc es with
        | some io, some is => some (.meth k om io is)
        | _, _ => none
        else none
      | none => none
    | _ => none
  | _ => none
/-- the argument of set(..) as the only argument -/
def cLs (G : Gt) (N : List Str) (sc : Scope) : List Expr → Option E
  | [.Call (.Name y _) [a] [] _] => if y = ("set" : Str) && glB sc y && G.free.contains y && !isStar a then cE G N sc a else none
  | _ => none
def cO (G : Gt) (N : List Str) (sc : Scope) : Option Expr → Option (Bool × E)
  | none => some (false, .bad)
  | some e => match cE G N sc e with
    | some i => some (true, i)
    | none => none
def cIfs (G : Gt) (N : List Str) (sc : Scope) : List Expr → Option (List T)
  | [] => some []
  | [e] => match orV (cT G N sc e) (valB e) (cE G N sc e) with
    | some t => some [t]
    | none => none
  | _ :: _ :: _ => none
def cArgs (G : Gt) (N : List Str) (sc : Scope) : Expr → Option (List E)
  | .Call _ es _ _ => cEs G N sc es
  | _ => none
def cEs (G : Gt) (N : List Str) (sc : Scope) : List Expr → Option (List E)
  | [] => some []
  | e :: es => match cE G N sc e, cEs G N sc es with
    | some i, some is => some (i :: is)
    | _, _ => none
def cT (G : Gt) (N : List Str) (sc : Scope) : Expr → Option T
  | .UnaryOp op a _ => match op, orV (cT G N sc a) (valB a) (cE G N sc a) with
    | .Not, some ia => some (.not ia)
    | _, _ => none
  | .BoolOp op es _ => match op, cTs G N sc es with
    | .And, some is => andT is
    | .Or, some is => orT is
    | _, none => none
  | .Compare a ops bs _ => match cE G N sc a, cEs G N sc bs with
    | some ia, some is => cmpT ops bs ia is
    | _, _ => none
  | _ => none
def cTs (G : Gt) (N : List Str) (sc : Scope) : List Expr → Option (List T)
  | [] => some []
  | e :: es => match orV (cT G N sc e) (valB e) (cE G N sc e), cTs G N sc es with
    | some i, some is => some (i :: is)
    | _, _ => none
end

/-! ### within an except suite -/
def hcmp : CmpOp → Option O2
  | .Lt => some .lt | .LtE => some .le | .Gt => some .gt | .GtE => some .ge | .Is => some .is | .IsNot => some .isnot
  | _ => none
mutual
def hE (G : Gt) (N : List Str) (sc : Scope) : Expr → Option E
  | .Constant c _ _ => (constB c).map .lit
  | .Name x _ => match varB N sc x with
    | some i => some (.var i)
    | none => if okName x && glB sc x then (G.cns.lookup x).map .glob else none
  | .BinOp a op b _ => match binB op, hE G N sc a, hE G N sc b with
    | some o, some ia, some ib => some (.op2 o ia ib)
    | _, _, _ => none
  | .UnaryOp op a _ => match op, hE G N sc a with
    | .Not, some ia => some (.nott ia)
    | _, _ => none
  | .Compare a [op] [b] _ => match hcmp op, hE G N sc a, hE G N sc b with
    | some o, some ia, some ib => if behindInMarks op b then none else some (.op2 o ia ib)
    | _, _, _ => none
  | .Tuple es _ _ => if noStar es then (hEs G N sc es).map .tup else none
  | .BoolOp op es _ => match op, hEs G N sc es with
    | .And, some is => andE is
    | .Or, some is => orE is
    | _, none => none
  | .Call (.Name x _) [a] [] _ => if x = ("len" : Str) && glB sc x && G.free.contains x && !isStar a then (hE G N sc a).map fun i => .opn .len [i] else none
  | _ => none
def hEs (G : Gt) (N : List Str) (sc : Scope) : List Expr → Option (List E)
  | [] => some []
  | e :: es => match hE G N sc e, hEs G N sc es with
    | some i, some is => some (i :: is)
    | _, _ => none
end
def hT (G : Gt) (N : List Str) (sc : Scope) : Expr → Option T
  | .UnaryOp op a _ => match op, hT G N sc a with
    | .Not, some ia => some (.not ia)
    | _, _ => none
  | .Compare a [op] [b] _ => match hcmp op, hE G N sc a, hE G N sc b with
    | some o, some ia, some ib => if behindInMarks op b then none else some (.cmp o ia ib)
    | _, _, _ => none
  | e => if valB e then (hE G N sc e).map .val else none
def isTupE : Expr → Bool
  | .Tuple .. => true
  | _ => false
def lclB (sc : Scope) (x : Str) : Bool := match sc.names.lookup x with
  | some .local => true
  | _ => false
/-- e, the exception of the class numbered c, within isinstance(e, C) -/
def hIs (G : Gt) (sc : Scope) (n : Str) (c : Nat) (es : List Expr) : Option E := match es with
  | [.Name y _, .Name x _] => if decide (y = n) && (okName y && lclB sc y) && (okName x && glB sc x) then match G.exh.lookup x with
      | some (ys, ns) => if ys.contains c then some (.lit (.bl true)) else if ns.contains c then some (.lit (.bl false)) else none
      | none => none
    else none
  | _ => none
mutual
def hC (G : Gt) (N : List Str) (sc : Scope) (n : Str) (c : Nat) : Expr → Option E
  | .Call (.Name x p) es [] pos => if x = ("isinstance" : Str) && glB sc x && G.free.contains x then hIs G sc n c es else hE G N sc (.Call (.Name x p) es [] pos)
  | .Tuple es _ _ => if noStar es then (hCs G N sc n c es).map .tup else none
  | e => hE G N sc e
def hCs (G : Gt) (N : List Str) (sc : Scope) (n : Str) (c : Nat) : List Expr → Option (List E)
  | [] => some []
  | e :: es => match hC G N sc n c e, hCs G N sc n c es with
    | some i, some is => some (i :: is)
    | _, _ => none
end
mutual
def hS (G : Gt) (N : List Str) (sc : Scope) : Stmt → Option S
  | .Pass _ => some .pass
  | .Break _ => some .brk
  | .Continue _ => some .cnt
  | .Return e _ => match e with
    | none => some .retN
    | some e => (hE G N sc e).map .ret
  | .If t a b _ => match hT G N sc t, hSs G N sc a, hSs G N sc b with
    | some it, some ia, some ib => some (.ifs it ia ib)
    | _, _, _ => none
  | .Assign [.Name x _] e _ => if locB sc x && !isTupE e then match ixB N x, hE G N sc e with
      | some i, some ie => some (.asg (.name i) ie)
      | _, _ => none
    else none
  | _ => none
def hSs (G : Gt) (N : List Str) (sc : Scope) : List Stmt → Option (List S)
  | [] => some []
  | s :: ss => match hS G N sc s, hSs G N sc ss with
    | some i, some is => some (i :: is)
    | _, _ => none
end
/-- a suite whose exception has a name -/
def hN (G : Gt) (N : List Str) (sc : Scope) (n : Str) (c : Nat) : Stmt → Option (List S)
  | .Return (some e) _ => (hC G N sc n c e).map fun i => [.ret i]
  | .If t a b _ => match t with
    | .Call f es kws p => match hC G N sc n c (.Call f es kws p), hSs G N sc a, hSs G N sc b with
      | some i, some ia, some ib => some [.ifs (.val i) ia ib]
      | _, _, _ => none
    | _ => none
  | _ => none
/-- what is done with each class -/
def hsP : List Nat → Hs
  | [] => .nil
  | c :: ns => .pas c (hsP ns)
def hsB (f : Nat → Option (List S)) (ns : List Nat) : List Nat → Option Hs
  | [] => some (hsP ns)
  | c :: ys => match f c, hsB f ns ys with
    | some b, some r => some (.hnd c b r)
    | _, _ => none
def cI (G : Gt) (N : List Str) (sc : Scope) (tg e : Expr) : Option I := mkI G sc tg e (cE G N sc e) (cArgs G N sc e)
def isTupOrList : Expr → Bool
  | .Tuple .. => true
  | .List .. => true
  | _ => false
def cU1 (G : Gt) (N : List Str) (sc : Scope) : Expr → Option TU
  | .Name x _ => if locB sc x then (ixB N x).map .name else none
  | .Attribute (.Name y _) x _ => match atB G x, varB N sc y with
    | some n, some j => some (.att j n (nattB G n))
    | _, _ => none
  | _ => none
def cUs (G : Gt) (N : List Str) (sc : Scope) : List Expr → Option (List TU)
  | [] => some []
  | e :: es => match cU1 G N sc e, cUs G N sc es with
    | some u, some us => some (u :: us)
    | _, _ => none
mutual
def cS (G : Gt) (N : List Str) (sc : Scope) : Stmt → Option S
  | .Pass _ => some .pass
  | .Break _ => some .brk
  | .Continue _ => some .cnt
  | .Return e _ => match e with
    | none => some .retN
    | some e => (cE G N sc e).map .ret
  | .Expr e _ => match e with
    | .Constant c _ _ => match c with
      | .str _ => some .pass
      | _ => none
    | e => if isComp e then none else (cE G N sc e).map .expr
  | .If t a b _ => match orV (cT G N sc t) (valB t) (cE G N sc t), cSs G N sc a, cSs G N sc b with
    | some it, some ia, some ib => some (.ifs it ia ib)
    | _, _, _ => none
  | .While t b o _ => match o with
    | [] => match orV (cT G N sc t) (valB t) (cE G N sc t), cSs G N sc b with
      | some it, some ib => some (.whil it ib)
      | _, _ => none
    | _ => none
  | .For tg it b o _ => match o with
    | [] => if isSetD it then none else match cG N sc tg, cI G N sc tg it, cSs G N sc b with
      | some g, some ii, some ib => some (.forr g ii ib)
      | _, _, _ => none
    | _ => none
  | .Assign [.Name y py] (.ListComp elt [⟨tg, iter, ifs, isa⟩] scope pos) _ =>
      if (isa == 0 && !isSetD iter && blkC N sc scope (ownB N scope)) && (lclB sc y && py.line == pos.line && !(scope.names.any fun z => z.1 == y && (z.2 == .local || z.2 == .cell))) then
        match ixB N y, cG N scope tg, mkI G sc tg iter (cE G N sc iter) (cArgs G N sc iter), cIfs G N (relS scope sc) ifs, cE G N (relS scope sc) elt with
        | some i, some g, some ii, some ts, some ie => if (tgN g).all fun n => ((ownB N scope).map (·.2)).contains n then some (.asg (.name i) (if mutB G pos then .lc g ii ts ((ownB N scope).map (·.2)) ie else .rlc g ii ts ((ownB N scope).map (·.2)) ie)) else none
        | _, _, _, _, _ => none
      else none
  | .Assign ts e _ => match ts with
    | [t] => match t with
      | .Subscript a b _ => if isSlice b then none else match cE G N sc a, cE G N sc b, cE G N sc e with
        | some ia, some ib, some ie => some (.setI ia ib ie)
        | _, _, _ => none
      | .Attribute a x _ => match atB G x, cE G N sc a, cE G N sc e with
        | some n, some ia, some ie => some (.setA ia n (nattB G n) ie)
        | _, _, _ => none
      | .Tuple ns _ _ => if isComp e then none else match e with
        | .Tuple es _ _ => match ns, es with
          | [.Name x px, .Name y py], [a, b] => match ixB N x, ixB N y, cE G N sc a, cE G N sc b with
            | some i, some j, some ia, some ib => if i != j && lclB sc x && lclB sc y && !isStar a && !isStar b && px.line == py.line && !([a, b].all (foldedForSure 8)) && !([a, b].all (constantsAlone 8)) then some (.par i j ia ib) else none
            | _, _, _, _ => none
          | [.Name x px, .Name y py, .Name z pz], [a, b, c] => match ixB N x, ixB N y, ixB N z, cE G N sc a, cE G N sc b, cE G N sc c with
            | some i, some j, some l, some ia, some ib, some ic => if i != j && i != l && j != l && lclB sc x && lclB sc y && lclB sc z && !isStar a && !isStar b && !isStar c && px.line == py.line && px.line == pz.line && !([a, b, c].all (foldedForSure 8)) && !([a, b, c].all (constantsAlone 8)) then some (.par3 i j l ia ib ic) else none
            | _, _, _, _, _, _ => none
          | _, _ => none
        | e => match cG N sc t, cE G N sc e with
          | some g, some ie => some (.asg g ie)
          | _, _ => match cUs G N sc ns, cE G N sc e with
            | some us, some ie => some (.unp us ie)
            | _, _ => none
      | t => if isComp e then none else match cG N sc t, cE G N sc e with
        | some g, some ie => some (.asg g ie)
        | _, _ => none
    | _ => none
  | .AugAssign t op e _ => match t with
    | .Name x _ => match augB op, ixB N x, cE G N sc e with
      | some o, some i, some ie => if locB sc x then some (.aug i o ie) else none
      | _, _, _ => none
    | .Subscript a b _ => if isSlice b then none else match augB op, cE G N sc a, cE G N sc b, cE G N sc e with
      | some o, some ia, some ib, some ie => some (.augI ia ib o ie)
      | _, _, _, _ => none
    | .Attribute a x _ => match augB op, atB G x, cE G N sc a, cE G N sc e with
      | some o, some n, some ia, some ie => some (.augA ia n (nattB G n) o ie)
      | _, _, _, _ => none
    | _ => none
  | .Raise (some (.Call (.Name x _) [] [] _)) none _ => if okName x && glB sc x then (G.exr.lookup x).map .rais else none
  | .Try b [.ExceptHandler (some (.Name x _)) none (s :: ss) _] [] [] _ => match G.exh.lookup x, cSs G N sc b with
    | some (ys, ns), some ib => if okName x && glB sc x then (hsB (fun _ => hSs G N sc (s :: ss)) ns ys).map (.tryy ib none) else none
    | _, _ => none
  | .Try b [.ExceptHandler (some (.Name x _)) (some n) [s] _] [] [] _ => match G.exh.lookup x, cSs G N sc b, ixB N n with
    | some (ys, ns), some ib, some i => if okName x && glB sc x && lclB sc n then (hsB (fun c => hN G N sc n c s) ns ys).map (.tryy ib (some i)) else none
    | _, _, _ => none
  | _ => none
def cSs (G : Gt) (N : List Str) (sc : Scope) : List Stmt → Option (List S)
  | [] => some []
  | s :: ss => match cSs G N sc ss with
    | some is => some ((cS G N sc s).getD .bad :: is)
    | none => none
end
end HP

set_option Elab.async false
set_option linter.all false
set_option autoImplicit false
set_option maxRecDepth 100000
set_option maxHeartbeats 8000000
/-! What is read is what the layer's judgements say. -/
namespace HP
open PySem L2

/-- levels that == and a class that is made may need -/
def RS : Nat := 185
/-- levels of the machine for so many of the plain form's -/
def lv (k : Nat) : Nat := k + RS
theorem lv_succ (k : Nat) : lv (k + 1) = lv k + 1 := by unfold lv; omega
theorem lv_pos (k : Nat) : lv k - 1 + 1 = lv k := by unfold lv RS; omega
structure Good (G : Gt) (Z : Zx) (W : XW) (w : Wd) (k : Nat) (clsV : Nat → Value) (X : Cx) : Prop where
  nd : X.N.Nodup
  calm : X.calm = true
  room : Room (lv k) X.A
  eqs : ∀ Y : Cx, Y.prog = X.prog → Y.w = X.w → Y.K = X.K → Y.mg = X.mg → Y.base = X.base → EqF Y Z
  cf : ClsF (kx X Z)
  cl : ∀ x c, G.cls.lookup x = some c → X.mg x = some (.ref (Z.cls c)) ∧ c < Z.nc
  tk : Takes X (wx clsV W)
  free : ∀ x, G.free.contains x = true → X.mg x = none
  fn : ∀ x fi n, G.fns.lookup x = some (fi, n) → ∃ f fd ps, FnOk X.prog X.w X.K X.mg X.base (L2.CX X.prog X.w) (lv k) f fd ps (spF (kx X Z) clsV (w.call fi) n) ∧ X.mg x = some (.ref f) ∧ PySem.W.keepIn X.K (.ref f) = true ∧ Binds X.K fd ps []
  cn : ∀ x g, G.cns.lookup x = some g → ∃ v u uv, w.glob g = some v ∧ X.mg x = some uv ∧ RelV u uv ∧ ∀ ρ H, VR (kx X Z) ρ H v u
  an1 : ∀ i x, G.atn[i]? = some x → Z.anm i = x
  an2 : ∀ x, vstr x.cps.toList = true → x ∉ G.atn → ∀ i, Z.anm i ≠ x
  na : ∀ n, AtF X.K Z n (nattB G n)
  mt : ∀ x l, G.mets.lookup x = some l → ∀ c fi n, (c, fi, n) ∈ l → MetE X Z w (lv k) clsV x c fi n
  ini : ∀ c fi n fz, G.inits.lookup c = some (fi, n, fz) → c < Z.nc ∧ (fz = true → c = 0 → Z.atoms = true) ∧ ∃ f fd ps, Mk X.K (Z.cls c) f ∧ FnOk X.prog X.w X.K X.mg X.base (L2.CX X.prog X.w) (lv k - 1) f fd ps (spF (kx X Z) clsV (w.call1 fi) n) ∧ Binds X.K fd ps []
  exr : ∀ x c, G.exr.lookup x = some c → ∃ C, clsV c = .ref C ∧ X.mg x = some (.ref C) ∧ HX.HerrF X.prog X.K C
  exh : ∀ x ys ns, G.exh.lookup x = some (ys, ns) → ∃ C, X.mg x = some (.ref C) ∧ (∀ d ∈ ys, PySem.W.exmOne X.K (clsV d) (.ref C) = some true ∧ PySem.W.kitOne X.K (clsV d) (.ref C) = some true) ∧
    (∀ d ∈ ns, PySem.W.exmOne X.K (clsV d) (.ref C) = some false ∧ PySem.W.kitOne X.K (clsV d) (.ref C) = some false) ∧ ∀ d ∈ ys, ∃ D, clsV d = .ref D ∧ ExcC X.K D

/-- .. of a def's body -/
structure GoodD (G : Gt) (Z : Zx) (W : XW) (w : Wd) (k : Nat) (clsV : Nat → Value) (X : Cx) : Prop extends Good G Z W w k clsV X where
  kind : X.env.scope.kind = .function
  cell : ∀ x, X.env.scope.names.lookup x = some .cell → X.fn x = true
  own : PassesOwn (model X.prog X.w) X.A X.env X.xe
  stk : X.stack = X.env :: X.outer
  frm : X.env.frame = some X.env.locals
/-- .. in a comprehension's block -/
theorem Good.blk {G : Gt} {Z : Zx} {W : XW} {w : Wd} {k : Nat} {clsV : Nat → Value} {X : Cx} (g : Good G Z W w k clsV X) (s : Shared) (H : Hp) (scope : Scope) (cenv : PySem.Env) (fp : List Addr) : Good G Z W0 w k clsV (X.blk s H scope cenv fp) :=
  { nd := g.nd, calm := g.calm, room := g.room, eqs := g.eqs, cf := g.cf, cl := g.cl, free := g.free, fn := g.fn, cn := g.cn, an1 := g.an1, an2 := g.an2, na := g.na, mt := g.mt, ini := g.ini, exr := g.exr, exh := g.exh
    tk := fun u s' ⟨a, B, sI, pins, σ, H, cls, d, e, I, nb, up, sky, na, os, ag, z⟩ => by
      obtain ⟨c, e1, e2, q⟩ := z
      exact q.elim }
theorem ok_debug {x : Str} (h : okName x = true) : (x == ("__debug__" : Str)) = false := by
  unfold okName at h
  simp only [Bool.and_eq_true, Bool.not_eq_true'] at h
  exact h.1.1
theorem ok_classdict {x : Str} (h : okName x = true) : (x == ("__classdict__" : Str)) = false := by
  unfold okName at h
  simp only [Bool.and_eq_true, Bool.not_eq_true'] at h
  exact h.1.2
theorem ok_name {x : Str} (h : okName x = true) : x ≠ "__name__" := by
  unfold okName at h
  simp only [Bool.and_eq_true, Bool.not_eq_true'] at h
  intro e
  rw [e] at h
  simp at h
theorem visB_ok {sc : Scope} {x : Str} (h : visB sc x = true) : Vis sc x := by
  unfold visB at h
  split at h
  · exact .inl ‹_›
  · exact .inr (.inl ‹_›)
  · exact .inr (.inr ‹_›)
  · cases h
theorem locB_ok {sc : Scope} {x : Str} (h : locB sc x = true) : Loc sc x := by
  unfold locB at h
  split at h
  · exact .inl ‹_›
  · exact .inr ‹_›
  · cases h
theorem lclB_ok {sc : Scope} {x : Str} (h : lclB sc x = true) : sc.names.lookup x = some .local := by
  unfold lclB at h
  split at h
  · assumption
  · cases h
theorem glB_ok {X : Cx} {x : Str} (h : glB X.env.scope x = true) : Gl X x := by
  unfold glB at h
  split at h
  · assumption
  · cases h
theorem ixB_ok {N : List Str} {x : Str} {i : Nat} (h : ixB N x = some i) : N[i]? = some x := by
  unfold ixB at h
  rw [List.findIdx?_eq_some_iff_getElem] at h
  obtain ⟨hl, h1, _⟩ := h
  rw [List.getElem?_eq_getElem hl]
  simpa using h1
theorem and_inv {a b : Bool} (h : (a && b) = true) : a = true ∧ b = true := Bool.and_eq_true_iff.mp h

section
variable {G : Gt} {Z : Zx} {W : XW} {w : Wd} {k : Nat} {clsV : Nat → Value}
theorem or_of {X : Cx} (g : Good G Z W w k clsV X) {op : Operator} {o : O2} (h : binB op = some o) : OpR X (binaryOp op) (rG (kx X Z) o) := by
  cases op <;> simp [binB] at h <;> subst h
  · exact or_add
  · exact or_sub
  · exact or_mul
  · exact or_mod
  · exact or_pow
  · exact or_fdiv
theorem Good.eq {X : Cx} (g : Good G Z W w k clsV X) : EqF X Z := g.eqs X rfl rfl rfl rfl rfl
theorem Good.inj {X : Cx} (g : Good G Z W w k clsV X) : ∀ i j, Z.anm i = Z.anm j → i = j := g.eq.inj
theorem Good.r121 {X : Cx} (g : Good G Z W w k clsV X) : Room 181 X.A := g.room.mono (by unfold lv RS; omega)
theorem Good.rm {X : Cx} (g : Good G Z W w k clsV X) : Room (lv k) X.A := g.room.mono (by omega)
theorem Good.un {X : Cx} (g : Good G Z W w k clsV X) : X.A.units + 1 < cLine := by have := g.room.un; omega
theorem oc_of {X : Cx} (g : Good G Z W w k clsV X) {op : CmpOp} {o : O2} (h : cmpB op = some o) : OpR X (compareOp op) (rG (kx X Z) o) := by
  cases op <;> simp [cmpB] at h <;> subst h
  · exact or_eq g.eq g.r121
  · exact or_ne g.eq g.r121
  · exact or_lt
  · exact or_le
  · exact or_gt
  · exact or_ge
  · exact or_is
  · exact or_isnot
  · exact or_mem g.eq g.r121
  · exact or_notin g.eq g.r121
theorem oi_of {X : Cx} {op : Operator} {o : O2} (h : augB op = some o) : OpR X (inplaceOp op) (rGi (kx X Z) o) := by
  cases op <;> simp [augB] at h <;> subst h
  · exact ior_add
  · exact ior_sub
theorem plainIx {b : Expr} (h : isSlice b = false) : PlainIx b := by
  intro o i
  cases b <;> first | rfl | (cases h; done)
theorem valB_ok {e : Expr} {env : PySem.Env} (h : valB e = true) : ∀ whole, isTrue e env whole = (do let v ← whole; standAt e.pos; holding [v] (truthy v)) := by
  cases e <;> first | (intro _; rfl) | (cases h; done)
theorem constB_ok {X : Cx} {c : Const} {v : PV} {j : Nat} {pos : Pos} (h : constB c = some v) : PE X (.Constant c j pos) (T1 (kx X Z) W (evE w (.lit v))) := by
  cases c <;> simp only [constB] at h <;> first | (cases h; done) | skip
  all_goals first
    | (cases h; first | exact s_int | exact s_bl | exact s_non)
    | (split at h
       · rename_i hv
         cases h
         exact s_str hv
       · cases h)
theorem andE_ok {X : Cx} {pos : Pos} : ∀ {es : List Expr} {is : List E} {i : E}, (∀ (j : Nat) (e : Expr) (i : E), es[j]? = some e → is[j]? = some i → PE X e (T1 (kx X Z) W (evE w i))) → es.length = is.length → andE is = some i → PE X (.BoolOp .And es pos) (T1 (kx X Z) W (evE w i))
  | [], [], i, _, _, h => by cases h
  | [e], [i0], i, hp, _, h => by
    cases h
    exact s_one (hp 0 e i0 rfl rfl)
  | e :: e2 :: es, i0 :: i1 :: is, i, hp, hl, h => by
    unfold andE at h
    simp only at h
    split at h
    · rename_i r hr
      cases h
      refine s_and (hp 0 e i0 rfl rfl) (andE_ok (fun j e i h1 h2 => hp (j + 1) e i h1 h2) (by simpa using hl) hr)
    · cases h
  | [], _ :: _, _, _, hl, _ => by cases hl
  | _ :: _, [], _, _, hl, _ => by cases hl
  | [_], _ :: _ :: _, _, _, hl, _ => by simp at hl
  | _ :: _ :: _, [_], _, _, hl, _ => by simp at hl
theorem orE_ok {X : Cx} {pos : Pos} : ∀ {es : List Expr} {is : List E} {i : E}, (∀ (j : Nat) (e : Expr) (i : E), es[j]? = some e → is[j]? = some i → PE X e (T1 (kx X Z) W (evE w i))) → es.length = is.length → orE is = some i → PE X (.BoolOp .Or es pos) (T1 (kx X Z) W (evE w i))
  | [], [], i, _, _, h => by cases h
  | [e], [i0], i, hp, _, h => by
    cases h
    exact s_one (hp 0 e i0 rfl rfl)
  | e :: e2 :: es, i0 :: i1 :: is, i, hp, hl, h => by
    unfold orE at h
    simp only at h
    split at h
    · rename_i r hr
      cases h
      refine s_or (hp 0 e i0 rfl rfl) (orE_ok (fun j e i h1 h2 => hp (j + 1) e i h1 h2) (by simpa using hl) hr)
    · cases h
  | [], _ :: _, _, _, hl, _ => by cases hl
  | _ :: _, [], _, _, hl, _ => by cases hl
  | [_], _ :: _ :: _, _, _, hl, _ => by simp at hl
  | _ :: _ :: _, [_], _, _, hl, _ => by simp at hl
theorem andT_ok {X : Cx} {pos : Pos} : ∀ {es : List Expr} {is : List T} {i : T}, (∀ (j : Nat) (e : Expr) (i : T), es[j]? = some e → is[j]? = some i → PT X e (Tb (kx X Z) W (evT w i))) → es.length = is.length → andT is = some i → PW X (.BoolOp .And es pos) (Tb (kx X Z) W (evT w i))
  | [], [], i, _, _, h => by cases h
  | [e], [i0], i, hp, _, h => by
    cases h
    exact pw_and1 (hp 0 e i0 rfl rfl)
  | e :: e2 :: es, i0 :: i1 :: is, i, hp, hl, h => by
    unfold andT at h
    simp only at h
    split at h
    · rename_i r hr
      cases h
      refine t_and (hp 0 e i0 rfl rfl) (andT_ok (fun j e i h1 h2 => hp (j + 1) e i h1 h2) (by simpa using hl) hr)
    · cases h
  | [], _ :: _, _, _, hl, _ => by cases hl
  | _ :: _, [], _, _, hl, _ => by cases hl
  | [_], _ :: _ :: _, _, _, hl, _ => by simp at hl
  | _ :: _ :: _, [_], _, _, hl, _ => by simp at hl
theorem orT_ok {X : Cx} {pos : Pos} : ∀ {es : List Expr} {is : List T} {i : T}, (∀ (j : Nat) (e : Expr) (i : T), es[j]? = some e → is[j]? = some i → PT X e (Tb (kx X Z) W (evT w i))) → es.length = is.length → orT is = some i → PW X (.BoolOp .Or es pos) (Tb (kx X Z) W (evT w i))
  | [], [], i, _, _, h => by cases h
  | [e], [i0], i, hp, _, h => by
    cases h
    exact pw_or1 (hp 0 e i0 rfl rfl)
  | e :: e2 :: es, i0 :: i1 :: is, i, hp, hl, h => by
    unfold orT at h
    simp only at h
    split at h
    · rename_i r hr
      cases h
      refine t_or (hp 0 e i0 rfl rfl) (orT_ok (fun j e i h1 h2 => hp (j + 1) e i h1 h2) (by simpa using hl) hr)
    · cases h
  | [], _ :: _, _, _, hl, _ => by cases hl
  | _ :: _, [], _, _, hl, _ => by cases hl
  | [_], _ :: _ :: _, _, _, hl, _ => by simp at hl
  | _ :: _ :: _, [_], _, _, hl, _ => by simp at hl
theorem pw_pt {X : Cx} {e : Expr} {t : TT} (h : PW X e t) : PT X e t := h.pt
theorem orV_ok {X : Cx} {e : Expr} {t : Option T} {i : Option E} {r : T} (h : orV t (valB e) i = some r) (h1 : ∀ t', t = some t' → PT X e (Tb (kx X Z) W (evT w t'))) (h2 : ∀ i', i = some i' → PE X e (T1 (kx X Z) W (evE w i'))) : PT X e (Tb (kx X Z) W (evT w r)) := by
  unfold orV at h
  split at h
  · cases h
    exact h1 _ rfl
  · split at h
    · rename_i hv
      cases hi : i with
      | none => rw [hi] at h; cases h
      | some i' =>
        rw [hi] at h
        cases h
        exact t_val (valB_ok hv) (h2 i' hi)
    · cases h
theorem blt_ok {X : Cx} (g : Good G Z W w k clsV X) {x : Str} {o : On} {a : Expr} {es : List Expr} {is : List E} {p pos : Pos} (m : Bool) (h : bltB x = some o) (hg : Gl X x) (hm : X.mg x = none) (hn : x ≠ "__name__") (hd : (x == ("__debug__" : Str)) = false) (hs : noStar (a :: es) = true)
    (ha : PA X (a :: es) (Tn (kx X Z) W (evEs w is))) : PE X (.Call (.Name x p) (a :: es) [] pos) (T1 (kx X Z) W (evE w (.opn (onB m o) is))) := by
  have hs2 : noStar es = true := by unfold noStar at hs; exact (Bool.and_eq_true_iff.mp hs).2
  have hs1 : isStar a = false := by unfold noStar at hs; simpa using (Bool.and_eq_true_iff.mp hs).1
  unfold bltB at h
  split at h
  · rename_i e; subst e; cases h
    exact s_callB cr_len hg hm (by decide +kernel) ha hn hd (star_cons hs1) (back_any hs2)
  split at h
  · rename_i e; subst e; cases h
    exact s_callB cr_abs hg hm (by decide +kernel) ha hn hd (star_cons hs1) (back_any hs2)
  split at h
  · rename_i e; subst e; cases h
    exact s_callTy cr_int hg hm (by decide +kernel) ha hn hd (star_cons hs1) (back_any hs2)
  split at h
  · rename_i e; subst e; cases h
    cases m with
    | true => exact s_callTy cr_list hg hm (by decide +kernel) ha hn hd (star_cons hs1) (back_any hs2)
    | false => exact s_callTy cr_rlist hg hm (by decide +kernel) ha hn hd (star_cons hs1) (back_any hs2)
  split at h
  · rename_i e; subst e; cases h
    exact s_callTy (cr_tuple g.calm) hg hm (by decide +kernel) ha hn hd (star_cons hs1) (back_any hs2)
  split at h
  · rename_i e; subst e; cases h
    exact s_callB (cr_isi g.cf) hg hm (by decide +kernel) ha hn hd (star_cons hs1) (back_any hs2)
  split at h
  · rename_i e; subst e; cases h
    exact s_callB (cr_max_ g.calm) hg hm (by decide +kernel) ha hn hd (star_cons hs1) (back_any hs2)
  split at h
  · rename_i e; subst e; cases h
    exact s_callB (cr_min_ g.calm) hg hm (by decide +kernel) ha hn hd (star_cons hs1) (back_any hs2)
  split at h
  · rename_i e; subst e; cases h
    exact s_callB (cr_sum_ g.calm) hg hm (by decide +kernel) ha hn hd (star_cons hs1) (back_any hs2)
  split at h
  · rename_i e; subst e; cases h
    exact s_callB (cr_all_ g.calm) hg hm (by decide +kernel) ha hn hd (star_cons hs1) (back_any hs2)
  split at h
  · rename_i e; subst e; cases h
    exact s_callB (cr_any_ g.calm) hg hm (by decide +kernel) ha hn hd (star_cons hs1) (back_any hs2)
  split at h
  · rename_i e; subst e; cases h
    exact s_callTy cr_dict hg hm (by decide +kernel) ha hn hd (star_cons hs1) (back_any hs2)
  · cases h
theorem met_ok {X : Cx} (g : Good G Z W w k clsV X) {x : Str} {kk : MT} {om : On} {o a : Expr} {es : List Expr} {io : E} {is : List E} {apos pos : Pos} (h : metB x = some (kk, om)) (hb : plainBase o = true) (hs : noStar (a :: es) = true) (hn : (a :: es).length < 29) (hline : (apos.endLine == pos.line) = true)
    (ho : PE X o (T1 (kx X Z) W (evE w io))) (ha : PA X (a :: es) (Tn (kx X Z) W (evEs w is))) : PE X (.Call (.Attribute o x apos) (a :: es) [] pos) (T1 (kx X Z) W (evE w (.meth kk om io is))) := by
  unfold metB at h
  split at h
  · rename_i e; subst e; cases h
    exact s_meth (k := .list) PySem.F.plainAttrs_list PySem.F.slot_list_append PySem.F.type_list_append (fun pins s σ H x xs v us Q I r1 r2 h => mr_append pins s σ H x xs v us Q I r1 r2 h) hb hs hn hline ho ha
  split at h
  · rename_i e; subst e; cases h
    exact s_meth (k := .list) PySem.F.plainAttrs_list PySem.F.slot_list_remove PySem.F.type_list_remove (fun pins s σ H x xs v us Q I r1 r2 h => mr_remove g.eq g.r121 pins s σ H x xs v us Q I r1 r2 h) hb hs hn hline ho ha
  split at h
  · rename_i e; subst e; cases h
    exact s_meth (k := .list) PySem.F.plainAttrs_list PySem.F.slot_list_pop PySem.F.type_list_pop (fun pins s σ H x xs v us Q I r1 r2 h => mr_pop pins s σ H x xs v us Q I r1 r2 h) hb hs hn hline ho ha
  split at h
  · rename_i e; subst e; cases h
    exact s_meth (k := .dict) PySem.F.plainAttrs_dict PySem.F.slot_dict_get PySem.F.type_dict_get (mr_dget g.un) hb hs hn hline ho ha
  · cases h
theorem ty_ok {x : Str} {T : Ty} (h : tyB x = some T) : x = tyS T ∧ bootBuiltins x = some (.type (tyS T)) ∧ ∀ c, T ≠ .own c := by
  unfold tyB at h
  split at h
  · rename_i e; subst e; cases h; exact ⟨rfl, by decide +kernel, fun _ z => nomatch z⟩
  split at h
  · rename_i e; subst e; cases h; exact ⟨rfl, by decide +kernel, fun _ z => nomatch z⟩
  split at h
  · rename_i e; subst e; cases h; exact ⟨rfl, by decide +kernel, fun _ z => nomatch z⟩
  split at h
  · rename_i e; subst e; cases h; exact ⟨rfl, by decide +kernel, fun _ z => nomatch z⟩
  split at h
  · rename_i e; subst e; cases h; exact ⟨rfl, by decide +kernel, fun _ z => nomatch z⟩
  split at h
  · rename_i e; subst e; cases h; exact ⟨rfl, by decide +kernel, fun _ z => nomatch z⟩
  · cases h

theorem lookup_mem' {α β : Type} [BEq α] [LawfulBEq α] : ∀ {l : List (α × β)} {a : α} {b : β}, l.lookup a = some b → (a, b) ∈ l
  | [], a, b, h => by cases h
  | (c, d) :: r, a, b, h => by
    rw [List.lookup_cons] at h
    split at h
    · rename_i e
      cases h
      rw [eq_of_beq e]
      exact List.mem_cons_self
    · exact List.mem_cons_of_mem _ (lookup_mem' h)
theorem PA.tail {X : Cx} {e : Expr} {i : E} : ∀ {es : List Expr} {is : List E}, (∀ (j : Nat) (e' : Expr) (i' : E), (e :: es)[j]? = some e' → (i :: is)[j]? = some i' → PE X e' (T1 (kx X Z) W (evE w i'))) → es.length = is.length → noStar es = true → PA X es (Tn (kx X Z) W (evEs w is))
  | [], [], _, _, _ => sn_nil
  | [], _ :: _, _, h, _ => by cases h
  | _ :: _, [], _, h, _ => by cases h
  | e1 :: es, i1 :: is, h, hl, hs => by
    unfold noStar at hs
    obtain ⟨s1, s2⟩ := and_inv hs
    refine sn_cons (h 1 e1 i1 rfl rfl) (PA.tail (e := e1) (i := i1) (fun j e' i' h1 h2 => h (j + 1) e' i' (by simpa using h1) (by simpa using h2)) (by simpa using hl) s2) (star_cons (by simpa using s1))
/-- the parts of a list, one by one -/
def EsOk (X : Cx) (Z : Zx) (W : XW) (w : Wd) (es : List Expr) (is : List E) : Prop := es.length = is.length ∧ (∀ (j : Nat) (e : Expr) (i : E), es[j]? = some e → is[j]? = some i → PE X e (T1 (kx X Z) W (evE w i))) ∧ (noStar es = true → PA X es (Tn (kx X Z) W (evEs w is)))
def TsOk (X : Cx) (Z : Zx) (W : XW) (w : Wd) (es : List Expr) (is : List T) : Prop := es.length = is.length ∧ ∀ (j : Nat) (e : Expr) (i : T), es[j]? = some e → is[j]? = some i → PT X e (Tb (kx X Z) W (evT w i))

theorem cmpE_ok {X : Cx} (g : Good G Z W w k clsV X) {a : Expr} {ops : List CmpOp} {bs : List Expr} {pos : Pos} {ia : E} {is : List E} {i : E} (ha : PE X a (T1 (kx X Z) W (evE w ia))) (hs : EsOk X Z W w bs is) (h : cmpE ops bs ia is = some i) : PE X (.Compare a ops bs pos) (T1 (kx X Z) W (evE w i)) := by
  obtain ⟨h1, h2, _⟩ := hs
  unfold cmpE at h
  split at h
  · rename_i op b ib
    split at h
    · rename_i o ho
      split at h
      · cases h
      · rename_i hm
        cases h
        exact s_cmp (oc_of g ho) (by simpa using hm) ha (h2 0 _ _ rfl rfl)
    · cases h
  · rename_i op op' b c ib ic
    split at h
    · rename_i o p ho hp
      split at h
      · cases h
      · rename_i hm
        cases h
        exact s_chain (oc_of g ho) (oc_of g hp) (by simpa [lastMarks] using hm) ha (h2 0 _ _ rfl rfl) (h2 1 _ _ rfl rfl)
    · cases h
  · cases h
theorem cmpT_ok {X : Cx} (g : Good G Z W w k clsV X) {a : Expr} {ops : List CmpOp} {bs : List Expr} {pos : Pos} {ia : E} {is : List E} {i : T} (ha : PE X a (T1 (kx X Z) W (evE w ia))) (hs : EsOk X Z W w bs is) (h : cmpT ops bs ia is = some i) : PT X (.Compare a ops bs pos) (Tb (kx X Z) W (evT w i)) := by
  obtain ⟨h1, h2, _⟩ := hs
  unfold cmpT at h
  split at h
  · rename_i op b ib
    split at h
    · rename_i o ho
      split at h
      · cases h
      · rename_i hm
        cases h
        exact t_cmp (oc_of g ho) (by simpa using hm) ha (h2 0 _ _ rfl rfl)
    · cases h
  · rename_i op op' b c ib ic
    split at h
    · rename_i o p ho hp
      split at h
      · cases h
      · rename_i hm
        cases h
        exact t_chain (oc_of g ho) (oc_of g hp) (by simpa [lastMarks] using hm) ha (h2 0 _ _ rfl rfl) (h2 1 _ _ rfl rfl)
    · cases h
  · cases h

mutual
theorem cG_ok {X : Cx} {sc : Scope} (hn : X.N.Nodup) (hc : X.calm = true) (hl : ∀ x, locB sc x = true → Loc X.env.scope x ∧ (X.fn x = true ∨ X.env.scope.names.lookup x = some .local)) : ∀ (e : Expr) (t : Tg), cG X.N sc e = some t → PG X e (Tg1 (kx X Z) t)
  | .Name x pos, t, h => by
    simp only [cG] at h
    split at h
    · rename_i hlo
      cases hi : ixB X.N x with
      | none => rw [hi] at h; cases h
      | some i =>
        rw [hi] at h
        cases h
        exact g_name hn (ixB_ok hi) (hl _ hlo).1 (hl _ hlo).2
    · cases h
  | .Tuple es j pos, t, h => by
    simp only [cG] at h
    split at h
    · rename_i hs
      cases hcs : cGs X.N sc es with
      | none => rw [hcs] at h; cases h
      | some ts =>
        rw [hcs] at h
        cases h
        obtain ⟨h1, h2⟩ := cGs_ok hn hc hl es ts hcs
        exact g_tup hc (h2 hs) h1 hs
    · cases h
  | .BoolOp _ _ _, t, h => by simp only [cG] at h; cases h
  | .NamedExpr _ _ _, t, h => by simp only [cG] at h; cases h
  | .BinOp _ _ _ _, t, h => by simp only [cG] at h; cases h
  | .UnaryOp _ _ _, t, h => by simp only [cG] at h; cases h
  | .Lambda _ _ _ _, t, h => by simp only [cG] at h; cases h
  | .IfExp _ _ _ _, t, h => by simp only [cG] at h; cases h
  | .Dict _ _ _, t, h => by simp only [cG] at h; cases h
  | .Set _ _ _, t, h => by simp only [cG] at h; cases h
  | .ListComp _ _ _ _, t, h => by simp only [cG] at h; cases h
  | .SetComp _ _ _ _, t, h => by simp only [cG] at h; cases h
  | .DictComp _ _ _ _ _, t, h => by simp only [cG] at h; cases h
  | .GeneratorExp _ _ _ _, t, h => by simp only [cG] at h; cases h
  | .Await _ _, t, h => by simp only [cG] at h; cases h
  | .Yield _ _, t, h => by simp only [cG] at h; cases h
  | .YieldFrom _ _, t, h => by simp only [cG] at h; cases h
  | .Compare _ _ _ _, t, h => by simp only [cG] at h; cases h
  | .Call _ _ _ _, t, h => by simp only [cG] at h; cases h
  | .FormattedValue _ _ _ _, t, h => by simp only [cG] at h; cases h
  | .JoinedStr _ _, t, h => by simp only [cG] at h; cases h
  | .Constant _ _ _, t, h => by simp only [cG] at h; cases h
  | .Attribute _ _ _, t, h => by simp only [cG] at h; cases h
  | .Subscript _ _ _, t, h => by simp only [cG] at h; cases h
  | .Starred _ _, t, h => by simp only [cG] at h; cases h
  | .List _ _, t, h => by simp only [cG] at h; cases h
  | .Slice _ _ _ _, t, h => by simp only [cG] at h; cases h
termination_by e => sizeOf e
theorem cGs_ok {X : Cx} {sc : Scope} (hn : X.N.Nodup) (hc : X.calm = true) (hl : ∀ x, locB sc x = true → Loc X.env.scope x ∧ (X.fn x = true ∨ X.env.scope.names.lookup x = some .local)) : ∀ (es : List Expr) (ts : List Tg), cGs X.N sc es = some ts → ts.length = es.length ∧ (noStar es = true → PGs X es (Tgn (kx X Z) ts))
  | [], ts, h => by
    simp only [cGs] at h
    cases h
    exact ⟨rfl, fun _ => gs_nil⟩
  | e :: es, ts, h => by
    simp only [cGs] at h
    split at h
    · rename_i t ts' h1 h2
      cases h
      have p1 := cG_ok hn hc hl e t h1
      obtain ⟨q1, q2⟩ := cGs_ok hn hc hl es ts' h2
      refine ⟨by simp [q1], fun hs => ?_⟩
      unfold noStar at hs
      obtain ⟨s1, s2⟩ := and_inv hs
      exact gs_cons p1 (q2 s2) (by simpa using s1)
    · cases h
termination_by es => sizeOf es
end
theorem set_plain {e : Expr} {env : PySem.Env} (h : isSetD e = false) : ∀ x, foldedSetIterable e env x = pure x := by
  intro x
  cases e <;> first | rfl | (cases h; done)
/-- what a comprehension's own names are to the block -/
theorem blk_loc {X : Cx} {s : Shared} {H : Hp} {scope : Scope} {cl : List (Str × Addr)} {C : Addr} {fp : List Addr} {x : Str} (h : locB scope x = true) : Loc (X.blk s H scope (compEnvC scope cl C X.env) fp).env.scope x ∧ ((X.blk s H scope (compEnvC scope cl C X.env) fp).fn x = true ∨ (X.blk s H scope (compEnvC scope cl C X.env) fp).env.scope.names.lookup x = some .local) := by
  rcases locB_ok h with q | q
  · have := lookup_relS_keep (sc := X.env.scope) (k := .local) (by decide) q
    exact ⟨.inl this, .inr this⟩
  · have := lookup_relS_keep (sc := X.env.scope) (k := .cell) (by decide) q
    refine ⟨.inr this, .inl ?_⟩
    show (scope.names.lookup x == some .cell) = true
    rw [q]
    rfl
theorem mkI_ok {X : Cx} (g : Good G Z W w k clsV X) {tg e : Expr} {ie : Option E} {as : Option (List E)} {i : I} (h : mkI G X.env.scope tg e ie as = some i) (h1 : ∀ i', ie = some i' → PE X e (T1 (kx X Z) W (evE w i')))
    (h2 : ∀ is, as = some is → ∀ f es kws pos, e = .Call f es kws pos → EsOk X Z W w es is) : PI X tg e (Tw (kx X Z) W (evI w i)) := by
  unfold mkI at h
  split at h
  · rename_i x p es kws pos
    split at h
    · rename_i hx
      split at h
      · rename_i hq
        obtain ⟨hq, q4⟩ := and_inv hq
        obtain ⟨hq, q3⟩ := and_inv hq
        obtain ⟨q1, q2⟩ := and_inv hq
        obtain rfl : kws = [] := by simpa using q4
        split at h
        · rename_i a
          cases hc : as with
          | none => rw [hc] at h; cases h
          | some is =>
            rw [hc] at h
            cases h
            obtain ⟨z1, _, z2⟩ := h2 is hc _ _ _ _ rfl
            exact i_range1 hx (glB_ok q1) (g.free x (by simpa using q2)) (by unfold noStar at q3; simpa using (and_inv q3).1) (z2 q3) z1.symm
        · rename_i a b
          cases hc : as with
          | none => rw [hc] at h; cases h
          | some is =>
            rw [hc] at h
            cases h
            obtain ⟨z1, _, z2⟩ := h2 is hc _ _ _ _ rfl
            have hs := q3
            unfold noStar at hs
            have hs2 := (and_inv hs).2
            unfold noStar at hs2
            exact i_range2 hx (glB_ok q1) (g.free x (by simpa using q2)) (by simpa using (and_inv hs).1) (by simpa using (and_inv hs2).1) (z2 q3) z1.symm
        · cases h
      · cases h
    split at h
    · rename_i hx
      subst hx
      split at h
      · rename_i hq
        obtain ⟨hq, q4⟩ := and_inv hq
        obtain ⟨hq, q3⟩ := and_inv hq
        obtain ⟨q1, q2⟩ := and_inv hq
        obtain rfl : kws = [] := by simpa using q4
        split at h
        · split at h
          · rename_i a b
            cases hc : as with
            | none => rw [hc] at h; cases h
            | some is =>
              rw [hc] at h
              cases h
              obtain ⟨z1, _, z2⟩ := h2 is hc _ _ _ _ rfl
              have hs := q3
              unfold noStar at hs
              have hs2 := (and_inv hs).2
              unfold noStar at hs2
              exact i_zip (glB_ok q1) (g.free _ (by simpa using q2)) (by simpa using (and_inv hs).1) (by simpa using (and_inv hs2).1) (z2 q3)
          · cases h
        · cases h
      · cases h
    · cases hc : ie with
      | none => rw [hc] at h; cases h
      | some i' =>
        rw [hc] at h
        cases h
        exact i_val (h1 _ hc)
  · split at h
    · cases h
    · cases hc : ie with
      | none => rw [hc] at h; cases h
      | some i' =>
        rw [hc] at h
        cases h
        exact i_val (h1 _ hc)
theorem s_bad {X : Cx} {e : Expr} : PE X e (T1 (kx X Z) W (evE w .bad)) := ⟨fun pins s σ H Q I h => by
  obtain ⟨env, M, ρ, e, m, p⟩ := h
  simp only [evE] at p
  exact p.elim⟩
theorem s_cls {X : Cx} {x : Str} {c : Nat} {pos : Pos} (hg : Gl X x) (hm : X.mg x = some (.ref (Z.cls c))) (hc : c < Z.nc) (hd : (x == ("__debug__" : Str)) = false) : PE X (.Name x pos) (T1 (kx X Z) W (evE w (.lit (.ty (.own c))))) := by
  refine PE.imp (pe_glob (v := V.ref (Z.cls c)) hg hm rfl hd) fun σ H Q h => ?_
  obtain ⟨env, M, ρ, e, m, p⟩ := h
  simp only [evE] at p
  refine p.here m _ ?_
  unfold VR
  exact ⟨rfl, hc⟩
theorem vls_of {X : Cx} : ∀ {es : List Expr} {is : List E}, EsOk X Z W w es is → Vls X Z W w es is
  | [], [], _ => .nil
  | [], _ :: _, h => by cases h.1
  | _ :: _, [], h => by cases h.1
  | e :: es, i :: is, h => .cons (h.2.1 0 e i rfl rfl) (vls_of ⟨by simpa using h.1, fun j e i h1 h2 => h.2.1 (j + 1) e i (by simpa using h1) (by simpa using h2), fun hs => PA.tail h.2.1 (by simpa using h.1) hs⟩)
theorem mk_ok {X : Cx} (g : Good G Z W w k clsV X) {x : Str} {c : Nat} {p pos : Pos} {es : List Expr} {is : List E} {i : E} (hc : G.cls.lookup x = some c) (h : mkB G c (es.length + 1) is = some i) (ho : EsOk X Z W w es is) (hs : noStar es = true) (hg : Gl X x) (hd : (x == ("__debug__" : Str)) = false) : PE X (.Call (.Name x p) es [] pos) (T1 (kx X Z) W (evE w i)) := by
  unfold mkB at h
  split at h
  · rename_i fi m fz hi
    split at h
    · rename_i hm
      cases h
      obtain ⟨g1, g2, f, fd, ps, g3, g4, g5⟩ := g.ini c fi m fz hi
      have hl := ho.1
      have hm := eq_of_beq hm
      exact s_make (k := lv k - 1) g3 g1 g2 g4 (by rw [lv_pos]; exact g.room) hg (g.cl x c hc).1 g5 g.tk hd hs (by omega) hl (ho.2.2 hs)
    · cases h
  · cases h
theorem mc_ok {X : Cx} (g : Good G Z W w k clsV X) {nm : Str} {o : Expr} {io : E} {apos pos : Pos} {es : List Expr} {is : List E} {tab : List (Nat × Nat)} {am : Option Nat} (ht : mtB G nm (es.length + 1) = some tab) (ha : amB G nm = some am) (hb : plainBase o = true) (hs : noStar es = true) (hn : es.length < 30) (hline : (apos.endLine == pos.line) = true)
    (ho : PE X o (T1 (kx X Z) W (evE w io))) (he : EsOk X Z W w es is) : PE X (.Call (.Attribute o nm apos) es [] pos) (T1 (kx X Z) W (evE w (.mcall io am tab is))) := by
  refine s_mcall g.inj g.cf ?_ (fun c fi hl => ?_) g.rm g.tk hb hs hn hline he.1 ho (he.2.2 hs)
  · unfold amB at ha
    split at ha
    · rename_i i hi
      cases ha
      exact g.an1 i nm (ixB_ok hi)
    · rename_i hi
      split at ha
      · rename_i hv
        cases ha
        refine g.an2 nm hv fun z => ?_
        unfold atB ixB at hi
        rw [List.findIdx?_eq_none_iff] at hi
        have := hi nm z
        simp at this
      · cases ha
  · unfold mtB at ht
    split at ht
    · rename_i l hlk
      cases ht
      have := lookup_mem' hl
      rw [List.mem_filterMap] at this
      obtain ⟨⟨c', fi', n'⟩, h1, h2⟩ := this
      split at h2
      · rename_i hn
        cases h2
        have hn := eq_of_beq hn
        simp only at hn
        rw [← he.1, ← hn]
        exact g.mt nm l hlk _ _ _ h1
      · cases h2
    · cases ht
mutual
theorem cE_ok {W : XW} {X : Cx} (g : Good G Z W w k clsV X) : ∀ (e : Expr) (i : E), cE G X.N X.env.scope e = some i → PE X e (T1 (kx X Z) W (evE w i))
  | .Constant c j pos, i, h => by
    simp only [cE] at h
    cases hc : constB c with
    | none => rw [hc] at h; cases h
    | some v =>
      rw [hc] at h
      cases h
      exact constB_ok hc
  | .Name x pos, i, h => by
    simp only [cE] at h
    split at h
    · rename_i j hj
      cases h
      unfold varB at hj
      split at hj
      · rename_i hv
        obtain ⟨h1, h2⟩ := and_inv hv
        exact s_var (ixB_ok hj) (visB_ok h2) (ok_debug h1) (ok_classdict h1)
      · cases hj
    · split at h
      · rename_i hv
        obtain ⟨h1, h2⟩ := and_inv hv
        split at h
        · rename_i gi hc
          cases h
          obtain ⟨v, u, uv, q1, q2, q3, q4⟩ := g.cn x gi hc
          exact s_glob (glB_ok h2) q2 q3 q1 q4 (ok_debug h1)
        · split at h
          · rename_i c hc
            cases h
            obtain ⟨q1, q2⟩ := g.cl x c hc
            exact s_cls (glB_ok h2) q1 q2 (ok_debug h1)
          split at h
          · rename_i hf
            cases hT : tyB x with
            | none => rw [hT] at h; cases h
            | some T =>
              rw [hT] at h
              cases h
              obtain ⟨e1, e2, e3⟩ := ty_ok hT
              exact s_ty e1 e3 (glB_ok h2) (g.free x hf) e2 (ok_name h1) (ok_debug h1)
          · cases h
      · cases h
  | .BinOp a op b pos, i, h => by
    simp only [cE] at h
    split at h
    · rename_i o ia ib ho ha hb
      cases h
      exact s_op2 (or_of g ho) (cE_ok g a ia ha) (cE_ok g b ib hb)
    · cases h
  | .UnaryOp op a pos, i, h => by
    simp only [cE] at h
    split at h
    · rename_i ia ha
      cases h
      exact s_not (cE_ok g a ia ha)
    · rename_i ia ha
      cases h
      exact s_op1 ur_neg (cE_ok g a ia ha)
    · cases h
  | .BoolOp op es pos, i, h => by
    simp only [cE] at h
    split at h
    · rename_i is hs
      obtain ⟨h1, h2, _⟩ := cEs_ok g es is hs
      exact andE_ok h2 h1 h
    · rename_i is hs
      obtain ⟨h1, h2, _⟩ := cEs_ok g es is hs
      exact orE_ok h2 h1 h
    · cases h
  | .Compare a ops bs pos, i, h => by
    simp only [cE] at h
    split at h
    · rename_i ia is ha hs
      exact cmpE_ok g (cE_ok g a ia ha) (cEs_ok g bs is hs) h
    · cases h
  | .IfExp t a b pos, i, h => by
    simp only [cE] at h
    split at h
    · rename_i it ia ib ht ha hb
      cases h
      exact s_ife (orV_ok ht (fun t' h' => cT_ok g t t' h') (fun i' h' => cE_ok g t i' h')) (cE_ok g a ia ha) (cE_ok g b ib hb)
    · cases h
  | .Tuple es kk pos, i, h => by
    simp only [cE] at h
    split at h
    · rename_i hs
      cases hc : cEs G X.N X.env.scope es with
      | none => rw [hc] at h; cases h
      | some is =>
        rw [hc] at h
        cases h
        exact s_tup ((cEs_ok g es is hc).2.2 hs)
    · cases h
  | .List es pos, i, h => by
    simp only [cE] at h
    split at h
    · rename_i hs
      cases hc : cEs G X.N X.env.scope es with
      | none => rw [hc] at h; cases h
      | some is =>
        rw [hc] at h
        cases h
        split
        · exact s_lst ((cEs_ok g es is hc).2.2 hs)
        · exact s_rls ((cEs_ok g es is hc).2.2 hs)
    · cases h
  | .Subscript a (.Slice lo hi none sp) pos, i, h => by
    simp only [cE] at h
    split at h
    · rename_i ia fl il fh ih h1 h2 h3
      cases h
      split
      · exact s_cut (cE_ok g a ia h1) (cO_ok g lo fl il h2) (cO_ok g hi fh ih h3)
      · exact s_rcut (cE_ok g a ia h1) (cO_ok g lo fl il h2) (cO_ok g hi fh ih h3)
    · cases h
  | .Subscript a (.Slice lo hi (some st) sp) pos, i, h => by
    simp only [cE, isSlice, if_true] at h
    cases h
  | .Subscript a (.BoolOp x0 x1 x2) pos, i, h => by
    simp only [cE, isSlice, Bool.false_eq_true, if_false] at h
    split at h
    · rename_i ia ib ha hb
      cases h
      exact s_idx g.un (plainIx rfl) (cE_ok g a ia ha) (cE_ok g _ ib hb)
    · cases h
  | .Subscript a (.NamedExpr x0 x1 x2) pos, i, h => by
    simp only [cE, isSlice, Bool.false_eq_true, if_false] at h
    split at h
    · rename_i ia ib ha hb
      cases h
      exact s_idx g.un (plainIx rfl) (cE_ok g a ia ha) (cE_ok g _ ib hb)
    · cases h
  | .Subscript a (.BinOp x0 x1 x2 x3) pos, i, h => by
    simp only [cE, isSlice, Bool.false_eq_true, if_false] at h
    split at h
    · rename_i ia ib ha hb
      cases h
      exact s_idx g.un (plainIx rfl) (cE_ok g a ia ha) (cE_ok g _ ib hb)
    · cases h
  | .Subscript a (.UnaryOp x0 x1 x2) pos, i, h => by
    simp only [cE, isSlice, Bool.false_eq_true, if_false] at h
    split at h
    · rename_i ia ib ha hb
      cases h
      exact s_idx g.un (plainIx rfl) (cE_ok g a ia ha) (cE_ok g _ ib hb)
    · cases h
  | .Subscript a (.Lambda x0 x1 x2 x3) pos, i, h => by
    simp only [cE, isSlice, Bool.false_eq_true, if_false] at h
    split at h
    · rename_i ia ib ha hb
      cases h
      exact s_idx g.un (plainIx rfl) (cE_ok g a ia ha) (cE_ok g _ ib hb)
    · cases h
  | .Subscript a (.IfExp x0 x1 x2 x3) pos, i, h => by
    simp only [cE, isSlice, Bool.false_eq_true, if_false] at h
    split at h
    · rename_i ia ib ha hb
      cases h
      exact s_idx g.un (plainIx rfl) (cE_ok g a ia ha) (cE_ok g _ ib hb)
    · cases h
  | .Subscript a (.Dict x0 x1 x2) pos, i, h => by
    simp only [cE, isSlice, Bool.false_eq_true, if_false] at h
    split at h
    · rename_i ia ib ha hb
      cases h
      exact s_idx g.un (plainIx rfl) (cE_ok g a ia ha) (cE_ok g _ ib hb)
    · cases h
  | .Subscript a (.Set x0 x1 x2) pos, i, h => by
    simp only [cE, isSlice, Bool.false_eq_true, if_false] at h
    split at h
    · rename_i ia ib ha hb
      cases h
      exact s_idx g.un (plainIx rfl) (cE_ok g a ia ha) (cE_ok g _ ib hb)
    · cases h
  | .Subscript a (.ListComp x0 x1 x2 x3) pos, i, h => by
    simp only [cE, isSlice, Bool.false_eq_true, if_false] at h
    split at h
    · rename_i ia ib ha hb
      cases h
      exact s_idx g.un (plainIx rfl) (cE_ok g a ia ha) (cE_ok g _ ib hb)
    · cases h
  | .Subscript a (.SetComp x0 x1 x2 x3) pos, i, h => by
    simp only [cE, isSlice, Bool.false_eq_true, if_false] at h
    split at h
    · rename_i ia ib ha hb
      cases h
      exact s_idx g.un (plainIx rfl) (cE_ok g a ia ha) (cE_ok g _ ib hb)
    · cases h
  | .Subscript a (.DictComp x0 x1 x2 x3 x4) pos, i, h => by
    simp only [cE, isSlice, Bool.false_eq_true, if_false] at h
    split at h
    · rename_i ia ib ha hb
      cases h
      exact s_idx g.un (plainIx rfl) (cE_ok g a ia ha) (cE_ok g _ ib hb)
    · cases h
  | .Subscript a (.GeneratorExp x0 x1 x2 x3) pos, i, h => by
    simp only [cE, isSlice, Bool.false_eq_true, if_false] at h
    split at h
    · rename_i ia ib ha hb
      cases h
      exact s_idx g.un (plainIx rfl) (cE_ok g a ia ha) (cE_ok g _ ib hb)
    · cases h
  | .Subscript a (.Await x0 x1) pos, i, h => by
    simp only [cE, isSlice, Bool.false_eq_true, if_false] at h
    split at h
    · rename_i ia ib ha hb
      cases h
      exact s_idx g.un (plainIx rfl) (cE_ok g a ia ha) (cE_ok g _ ib hb)
    · cases h
  | .Subscript a (.Yield x0 x1) pos, i, h => by
    simp only [cE, isSlice, Bool.false_eq_true, if_false] at h
    split at h
    · rename_i ia ib ha hb
      cases h
      exact s_idx g.un (plainIx rfl) (cE_ok g a ia ha) (cE_ok g _ ib hb)
    · cases h
  | .Subscript a (.YieldFrom x0 x1) pos, i, h => by
    simp only [cE, isSlice, Bool.false_eq_true, if_false] at h
    split at h
    · rename_i ia ib ha hb
      cases h
      exact s_idx g.un (plainIx rfl) (cE_ok g a ia ha) (cE_ok g _ ib hb)
    · cases h
  | .Subscript a (.Compare x0 x1 x2 x3) pos, i, h => by
    simp only [cE, isSlice, Bool.false_eq_true, if_false] at h
    split at h
    · rename_i ia ib ha hb
      cases h
      exact s_idx g.un (plainIx rfl) (cE_ok g a ia ha) (cE_ok g _ ib hb)
    · cases h
  | .Subscript a (.Call x0 x1 x2 x3) pos, i, h => by
    simp only [cE, isSlice, Bool.false_eq_true, if_false] at h
    split at h
    · rename_i ia ib ha hb
      cases h
      exact s_idx g.un (plainIx rfl) (cE_ok g a ia ha) (cE_ok g _ ib hb)
    · cases h
  | .Subscript a (.FormattedValue x0 x1 x2 x3) pos, i, h => by
    simp only [cE, isSlice, Bool.false_eq_true, if_false] at h
    split at h
    · rename_i ia ib ha hb
      cases h
      exact s_idx g.un (plainIx rfl) (cE_ok g a ia ha) (cE_ok g _ ib hb)
    · cases h
  | .Subscript a (.JoinedStr x0 x1) pos, i, h => by
    simp only [cE, isSlice, Bool.false_eq_true, if_false] at h
    split at h
    · rename_i ia ib ha hb
      cases h
      exact s_idx g.un (plainIx rfl) (cE_ok g a ia ha) (cE_ok g _ ib hb)
    · cases h
  | .Subscript a (.Constant x0 x1 x2) pos, i, h => by
    simp only [cE, isSlice, Bool.false_eq_true, if_false] at h
    split at h
    · rename_i ia ib ha hb
      cases h
      exact s_idx g.un (plainIx rfl) (cE_ok g a ia ha) (cE_ok g _ ib hb)
    · cases h
  | .Subscript a (.Attribute x0 x1 x2) pos, i, h => by
    simp only [cE, isSlice, Bool.false_eq_true, if_false] at h
    split at h
    · rename_i ia ib ha hb
      cases h
      exact s_idx g.un (plainIx rfl) (cE_ok g a ia ha) (cE_ok g _ ib hb)
    · cases h
  | .Subscript a (.Subscript x0 x1 x2) pos, i, h => by
    simp only [cE, isSlice, Bool.false_eq_true, if_false] at h
    split at h
    · rename_i ia ib ha hb
      cases h
      exact s_idx g.un (plainIx rfl) (cE_ok g a ia ha) (cE_ok g _ ib hb)
    · cases h
  | .Subscript a (.Starred x0 x1) pos, i, h => by
    simp only [cE, isSlice, Bool.false_eq_true, if_false] at h
    split at h
    · rename_i ia ib ha hb
      cases h
      exact s_idx g.un (plainIx rfl) (cE_ok g a ia ha) (cE_ok g _ ib hb)
    · cases h
  | .Subscript a (.Name x0 x1) pos, i, h => by
    simp only [cE, isSlice, Bool.false_eq_true, if_false] at h
    split at h
    · rename_i ia ib ha hb
      cases h
      exact s_idx g.un (plainIx rfl) (cE_ok g a ia ha) (cE_ok g _ ib hb)
    · cases h
  | .Subscript a (.List x0 x1) pos, i, h => by
    simp only [cE, isSlice, Bool.false_eq_true, if_false] at h
    split at h
    · rename_i ia ib ha hb
      cases h
      exact s_idx g.un (plainIx rfl) (cE_ok g a ia ha) (cE_ok g _ ib hb)
    · cases h
  | .Subscript a (.Tuple x0 x1 x2) pos, i, h => by
    simp only [cE, isSlice, Bool.false_eq_true, if_false] at h
    split at h
    · rename_i ia ib ha hb
      cases h
      exact s_idx g.un (plainIx rfl) (cE_ok g a ia ha) (cE_ok g _ ib hb)
    · cases h
  | .ListComp elt [] scope pos, i, h => by simp only [cE] at h; cases h
  | .ListComp elt (_ :: _ :: _) scope pos, i, h => by simp only [cE] at h; cases h
  | .ListComp elt [⟨tg, iter, ifs, isa⟩] scope pos, i, h => by
    simp only [cE] at h
    split at h
    · rename_i hq
      obtain ⟨hq, q3⟩ := and_inv hq
      obtain ⟨q1, q2⟩ := and_inv hq
      obtain rfl : isa = 0 := eq_of_beq q1
      split at h
      · rename_i gg ii ts ie h1 h2 h3 h4
        split at h
        · rename_i hn
          cases h
          rw [List.all_eq_true] at hn
          split
          · refine s_lc g.calm g.nd (mkI_ok g h2 (fun i' h' => cE_ok g iter i' h') (fun is h' => cArgs_ok g iter is h')) (blkOk_by q3) (fun n hn' => by simpa using hn n hn') (fun s H C cl fp => ?_) (fun s H C cl fp => ?_) (fun s H C cl fp => ?_) (set_plain (by simpa using q2))
            · exact cG_ok (X := X.blk s H scope (compEnvC scope cl C X.env) fp) g.nd g.calm (fun x hx => blk_loc hx) tg gg h1
            · exact cIfs_ok (X := X.blk s H scope (compEnvC scope cl C X.env) fp) (g.blk s H scope (compEnvC scope cl C X.env) fp) ifs ts h3
            · exact cE_ok (X := X.blk s H scope (compEnvC scope cl C X.env) fp) (g.blk s H scope (compEnvC scope cl C X.env) fp) elt ie h4
          · refine s_rlc g.calm g.nd (mkI_ok g h2 (fun i' h' => cE_ok g iter i' h') (fun is h' => cArgs_ok g iter is h')) (blkOk_by q3) (fun n hn' => by simpa using hn n hn') (fun s H C cl fp => ?_) (fun s H C cl fp => ?_) (fun s H C cl fp => ?_) (set_plain (by simpa using q2))
            · exact cG_ok (X := X.blk s H scope (compEnvC scope cl C X.env) fp) g.nd g.calm (fun x hx => blk_loc hx) tg gg h1
            · exact cIfs_ok (X := X.blk s H scope (compEnvC scope cl C X.env) fp) (g.blk s H scope (compEnvC scope cl C X.env) fp) ifs ts h3
            · exact cE_ok (X := X.blk s H scope (compEnvC scope cl C X.env) fp) (g.blk s H scope (compEnvC scope cl C X.env) fp) elt ie h4
        · cases h
      · cases h
    · cases h
  | .Call (.Name x p) [] [] pos, i, h => by
    simp only [cE] at h
    split at h
    · rename_i hv
      obtain ⟨h1, h2⟩ := and_inv hv
      split at h
      · rename_i fi n hf
        split at h
        · rename_i hn
          cases h
          obtain rfl : n = 0 := eq_of_beq hn
          obtain ⟨fa, fd, ps, F, hm, hk, hb⟩ := g.fn x fi 0 hf
          exact s_call0 F g.rm (glB_ok h2) hm hk hb g.tk (ok_debug h1)
        · cases h
      · split at h
        · rename_i c hc
          exact mk_ok g hc h ⟨rfl, fun j e i h1 _ => by simp at h1, fun _ => sn_nil⟩ rfl (glB_ok h2) (ok_debug h1)
        · cases h
    · cases h
  | .Call (.Attribute o nm apos) [] [] pos, i, h => by
    simp only [cE] at h
    split at h
    · rename_i tab h1
      split at h
      · rename_i am io h2 h3
        split at h
        · rename_i hq
          cases h
          obtain ⟨q1, q2⟩ := and_inv hq
          exact mc_ok g h1 h2 q1 rfl (by decide) q2 (cE_ok g o io h3) ⟨rfl, fun j e i h1 _ => by simp at h1, fun _ => sn_nil⟩
        · cases h
      · cases h
    · split at h
      · rename_i hn
        subst hn
        split at h
        · rename_i io h3
          split at h
          · rename_i hq
            cases h
            obtain ⟨q1, q2⟩ := and_inv hq
            exact s_meth0 (k := .list) PySem.F.plainAttrs_list PySem.F.slot_list_pop PySem.F.type_list_pop (fun pins s σ H x xs v us Q I r1 r2 h => mr_pop pins s σ H x xs v us Q I r1 r2 h) q1 q2 (cE_ok g o io h3)
          · cases h
        · cases h
      · cases h
  | .Call (.Attribute o nm apos) [] (kw0 :: kws0) pos, i, h => by
    simp only [cE] at h
    split at h
    · cases h
    · rename_i hn
      simp at hn
  | .Call (.Name x p) [] (kw0 :: kws0) pos, i, h => by
    simp only [cE] at h
    split at h
    · cases h
    · rename_i hn
      simp at hn
  | .Call (.Name x p) (e0 :: es0) kws pos, i, h => by
    simp only [cE] at h
    generalize hes : e0 :: es0 = es at h
    split at h
    · cases h
    · rename_i hn
      simp only [Bool.or_eq_true, Bool.not_eq_true', not_or, Bool.not_eq_false, Bool.not_eq_true] at hn
      obtain ⟨⟨hk, he⟩, hs⟩ := hn
      obtain rfl : kws = [] := by simpa using hk
      subst hes
      split at h
      · rename_i hv
        obtain ⟨h1, h2⟩ := and_inv hv
        split at h
        · rename_i fi n hf
          split at h
          · rename_i h4
            cases hc : cEs G X.N X.env.scope (e0 :: es0) with
            | none => rw [hc] at h; cases h
            | some is =>
              rw [hc] at h
              cases h
              obtain ⟨q1, q2, q3⟩ := cEs_ok g (e0 :: es0) is hc
              obtain ⟨fa, fd, ps, F, hm, hk, hb⟩ := g.fn x fi n hf
              refine s_call F g.rm (glB_ok h2) hm hk hb g.tk (ok_debug h1) hs ?_ (q3 hs) (evEs_len is)
              rw [← q1]
              simpa using h4
          · cases h
        · split at h
          · rename_i c hc
            split at h
            · rename_i is hcs
              exact mk_ok g hc h (cEs_ok g (e0 :: es0) is hcs) hs (glB_ok h2) (ok_debug h1)
            · cases h
          split at h
          · rename_i hfr
            split at h
            · rename_i i2 hl
              cases h
              unfold lsB at hl
              split at hl
              · rename_i hx
                subst hx
                cases hc : cLs G X.N X.env.scope (e0 :: es0) with
                | none => rw [hc] at hl; cases hl
                | some ia =>
                  rw [hc] at hl
                  cases hl
                  obtain ⟨y, py, a, q, he, hy, g1, g2, g3, ha⟩ := cLs_ok g (e0 :: es0) ia hc
                  cases he
                  subst hy
                  exact s_lset (glB_ok h2) (g.free _ hfr) g1 g2 ha g.calm g3
              · cases hl
            split at h
            · rename_i o ho
              cases hc : cEs G X.N X.env.scope (e0 :: es0) with
              | none => rw [hc] at h; cases h
              | some is =>
                rw [hc] at h
                cases h
                exact blt_ok g (mutB G pos) ho (glB_ok h2) (g.free x hfr) (ok_name h1) (ok_debug h1) hs ((cEs_ok g (e0 :: es0) is hc).2.2 hs)
            · cases h
          · cases h
      · cases h
  | .Call (.Attribute o nm apos) (e0 :: es0) kws pos, i, h => by
    simp only [cE] at h
    generalize hes : e0 :: es0 = es at h
    split at h
    · cases h
    · rename_i hn
      simp only [Bool.or_eq_true, Bool.not_eq_true', not_or, Bool.not_eq_false, Bool.not_eq_true] at hn
      obtain ⟨⟨hk, he⟩, hs⟩ := hn
      obtain rfl : kws = [] := by simpa using hk
      subst hes
      split at h
      · rename_i tab ht
        split at h
        · rename_i am io is hm ho hss
          split at h
          · rename_i hq
            cases h
            obtain ⟨hq, q4⟩ := and_inv hq
            obtain ⟨q1, q3⟩ := and_inv hq
            exact mc_ok g ht hm q1 hs (by have := of_decide_eq_true q3; omega) q4 (cE_ok g o io ho) (cEs_ok g (e0 :: es0) is hss)
          · cases h
        · cases h
      split at h
      · rename_i kk om hm
        split at h
        · rename_i hq
          obtain ⟨hq, q4⟩ := and_inv hq
          obtain ⟨q1, q3⟩ := and_inv hq
          split at h
          · rename_i io is ho hss
            cases h
            exact met_ok g hm q1 hs (by simpa using q3) q4 (cE_ok g o io ho) ((cEs_ok g (e0 :: es0) is hss).2.2 hs)
          · cases h
        · cases h
      · cases h
  | .Call (.BoolOp _ _ _) es kws pos, i, h => by simp only [cE] at h; split at h <;> cases h
  | .Call (.NamedExpr _ _ _) es kws pos, i, h => by simp only [cE] at h; split at h <;> cases h
  | .Call (.BinOp _ _ _ _) es kws pos, i, h => by simp only [cE] at h; split at h <;> cases h
  | .Call (.UnaryOp _ _ _) es kws pos, i, h => by simp only [cE] at h; split at h <;> cases h
  | .Call (.Lambda _ _ _ _) es kws pos, i, h => by simp only [cE] at h; split at h <;> cases h
  | .Call (.IfExp _ _ _ _) es kws pos, i, h => by simp only [cE] at h; split at h <;> cases h
  | .Call (.Dict _ _ _) es kws pos, i, h => by simp only [cE] at h; split at h <;> cases h
  | .Call (.Set _ _ _) es kws pos, i, h => by simp only [cE] at h; split at h <;> cases h
  | .Call (.ListComp _ _ _ _) es kws pos, i, h => by simp only [cE] at h; split at h <;> cases h
  | .Call (.SetComp _ _ _ _) es kws pos, i, h => by simp only [cE] at h; split at h <;> cases h
  | .Call (.DictComp _ _ _ _ _) es kws pos, i, h => by simp only [cE] at h; split at h <;> cases h
  | .Call (.GeneratorExp _ _ _ _) es kws pos, i, h => by simp only [cE] at h; split at h <;> cases h
  | .Call (.Await _ _) es kws pos, i, h => by simp only [cE] at h; split at h <;> cases h
  | .Call (.Yield _ _) es kws pos, i, h => by simp only [cE] at h; split at h <;> cases h
  | .Call (.YieldFrom _ _) es kws pos, i, h => by simp only [cE] at h; split at h <;> cases h
  | .Call (.Compare _ _ _ _) es kws pos, i, h => by simp only [cE] at h; split at h <;> cases h
  | .Call (.Call _ _ _ _) es kws pos, i, h => by simp only [cE] at h; split at h <;> cases h
  | .Call (.FormattedValue _ _ _ _) es kws pos, i, h => by simp only [cE] at h; split at h <;> cases h
  | .Call (.JoinedStr _ _) es kws pos, i, h => by simp only [cE] at h; split at h <;> cases h
  | .Call (.Constant _ _ _) es kws pos, i, h => by simp only [cE] at h; split at h <;> cases h
  | .Call (.Subscript _ _ _) es kws pos, i, h => by simp only [cE] at h; split at h <;> cases h
  | .Call (.Starred _ _) es kws pos, i, h => by simp only [cE] at h; split at h <;> cases h
  | .Call (.List _ _) es kws pos, i, h => by simp only [cE] at h; split at h <;> cases h
  | .Call (.Tuple _ _ _) es kws pos, i, h => by simp only [cE] at h; split at h <;> cases h
  | .Call (.Slice _ _ _ _) es kws pos, i, h => by simp only [cE] at h; split at h <;> cases h
  | .NamedExpr _ _ _, i, h => by simp only [cE] at h; cases h
  | .Lambda _ _ _ _, i, h => by simp only [cE] at h; cases h
  | .Dict keys es pos, i, h => by
    simp only [cE] at h
    split at h
    · rename_i ks is hk hs
      split at h
      · rename_i hq
        cases h
        obtain ⟨hq, q3⟩ := and_inv hq
        obtain ⟨q1, q2⟩ := and_inv hq
        exact s_dct hk (vls_of (cEs_ok g es is hs)) (eq_of_beq q1) (of_decide_eq_true q2) (of_decide_eq_true q3)
      · cases h
    · cases h
  | .Set _ _ _, i, h => by simp only [cE] at h; cases h
  | .SetComp _ _ _ _, i, h => by simp only [cE] at h; cases h
  | .DictComp kx vx [] scope pos, i, h => by simp only [cE] at h; cases h
  | .DictComp kx vx (_ :: _ :: _) scope pos, i, h => by simp only [cE] at h; cases h
  | .DictComp kx vx [⟨tg, iter, ifs, isa⟩] scope pos, i, h => by
    simp only [cE] at h
    split at h
    · rename_i hq
      obtain ⟨hq, q3⟩ := and_inv hq
      obtain ⟨q1, q2⟩ := and_inv hq
      obtain rfl : isa = 0 := eq_of_beq q1
      split at h
      · rename_i gg ii ts ik iv h1 h2 h3 h4 h5
        split at h
        · rename_i hn
          cases h
          rw [List.all_eq_true] at hn
          refine s_dc g.calm g.nd (mkI_ok g h2 (fun i' h' => cE_ok g iter i' h') (fun is h' => cArgs_ok g iter is h')) (blkOk_by q3) (fun n hn' => by simpa using hn n hn') (fun s H C cl fp => ?_) (fun s H C cl fp => ?_) (fun s H C cl fp => ?_) (fun s H C cl fp => ?_) (set_plain (by simpa using q2))
          · exact cG_ok (X := X.blk s H scope (compEnvC scope cl C X.env) fp) g.nd g.calm (fun x hx => blk_loc hx) tg gg h1
          · exact cIfs_ok (X := X.blk s H scope (compEnvC scope cl C X.env) fp) (g.blk s H scope (compEnvC scope cl C X.env) fp) ifs ts h3
          · exact cE_ok (X := X.blk s H scope (compEnvC scope cl C X.env) fp) (g.blk s H scope (compEnvC scope cl C X.env) fp) kx ik h4
          · exact cE_ok (X := X.blk s H scope (compEnvC scope cl C X.env) fp) (g.blk s H scope (compEnvC scope cl C X.env) fp) vx iv h5
        · cases h
      · cases h
    · cases h
  | .GeneratorExp _ _ _ _, i, h => by simp only [cE] at h; cases h
  | .Await _ _, i, h => by simp only [cE] at h; cases h
  | .Yield _ _, i, h => by simp only [cE] at h; cases h
  | .YieldFrom _ _, i, h => by simp only [cE] at h; cases h
  | .FormattedValue _ _ _ _, i, h => by simp only [cE] at h; cases h
  | .JoinedStr _ _, i, h => by simp only [cE] at h; cases h
  | .Attribute a x pos, i, h => by
    simp only [cE] at h
    split at h
    · rename_i n ia hn ha
      split at h
      · rename_i hb
        cases h
        exact s_fld g.inj g.cf (g.na n) (g.an1 n x (ixB_ok hn)) hb (cE_ok g a ia ha)
      · cases h
        exact s_bad
    · cases h
      exact s_bad
  | .Starred _ _, i, h => by simp only [cE] at h; cases h
  | .Slice _ _ _ _, i, h => by simp only [cE] at h; cases h
termination_by e => sizeOf e
theorem cLs_ok {W : XW} {X : Cx} (g : Good G Z W w k clsV X) : ∀ (es : List Expr) (ia : E), cLs G X.N X.env.scope es = some ia → ∃ y py a q, es = [.Call (.Name y py) [a] [] q] ∧ y = "set" ∧ Gl X "set" ∧ X.mg "set" = none ∧ isStar a = false ∧ PE X a (T1 (kx X Z) W (evE w ia))
  | [.Call (.Name y py) [a] [] q], ia, h => by
    simp only [cLs] at h
    split at h
    · rename_i hq
      obtain ⟨hq, q4⟩ := and_inv hq
      obtain ⟨hq, q3⟩ := and_inv hq
      obtain ⟨q1, q2⟩ := and_inv hq
      have e : y = ("set" : Str) := by simpa using q1
      subst e
      exact ⟨_, py, a, q, rfl, rfl, glB_ok q2, g.free _ q3, by simpa using q4, cE_ok g a ia h⟩
    · cases h
termination_by es => sizeOf es
theorem cO_ok {W : XW} {X : Cx} (g : Good G Z W w k clsV X) : ∀ (o : Option Expr) (f : Bool) (i : E), cO G X.N X.env.scope o = some (f, i) → PO X o (To (kx X Z) W f (evE w i))
  | none, f, i, h => by
    simp only [cO] at h
    cases h
    exact so_none
  | some e, f, i, h => by
    simp only [cO] at h
    split at h
    · rename_i i' h'
      cases h
      exact so_some (cE_ok g e _ h')
    · cases h
termination_by o => sizeOf o
theorem cIfs_ok {W : XW} {X : Cx} (g : Good G Z W w k clsV X) : ∀ (es : List Expr) (ts : List T), cIfs G X.N X.env.scope es = some ts → PTs X es (Tb (kx X Z) W (evTs w ts))
  | [], ts, h => by
    simp only [cIfs] at h
    cases h
    exact sts_nil
  | [e], ts, h => by
    simp only [cIfs] at h
    split at h
    · rename_i t h'
      cases h
      exact sts_one (orV_ok h' (fun t' h' => cT_ok g e t' h') (fun i' h' => cE_ok g e i' h'))
    · cases h
  | _ :: _ :: _, ts, h => by
    simp only [cIfs] at h
    cases h
termination_by es => sizeOf es
theorem cArgs_ok {W : XW} {X : Cx} (g : Good G Z W w k clsV X) : ∀ (e : Expr) (is : List E), cArgs G X.N X.env.scope e = some is → ∀ f es kws pos, e = .Call f es kws pos → EsOk X Z W w es is
  | .Call f0 es0 kws0 pos0, is, h => fun f es kws pos he => by
    cases he
    simp only [cArgs] at h
    exact cEs_ok g es0 is h
  | .BoolOp _ _ _, is, h => fun f es kws pos he => nomatch he
  | .NamedExpr _ _ _, is, h => fun f es kws pos he => nomatch he
  | .BinOp _ _ _ _, is, h => fun f es kws pos he => nomatch he
  | .UnaryOp _ _ _, is, h => fun f es kws pos he => nomatch he
  | .Lambda _ _ _ _, is, h => fun f es kws pos he => nomatch he
  | .IfExp _ _ _ _, is, h => fun f es kws pos he => nomatch he
  | .Dict _ _ _, is, h => fun f es kws pos he => nomatch he
  | .Set _ _ _, is, h => fun f es kws pos he => nomatch he
  | .ListComp _ _ _ _, is, h => fun f es kws pos he => nomatch he
  | .SetComp _ _ _ _, is, h => fun f es kws pos he => nomatch he
  | .DictComp _ _ _ _ _, is, h => fun f es kws pos he => nomatch he
  | .GeneratorExp _ _ _ _, is, h => fun f es kws pos he => nomatch he
  | .Await _ _, is, h => fun f es kws pos he => nomatch he
  | .Yield _ _, is, h => fun f es kws pos he => nomatch he
  | .YieldFrom _ _, is, h => fun f es kws pos he => nomatch he
  | .Compare _ _ _ _, is, h => fun f es kws pos he => nomatch he
  | .FormattedValue _ _ _ _, is, h => fun f es kws pos he => nomatch he
  | .JoinedStr _ _, is, h => fun f es kws pos he => nomatch he
  | .Constant _ _ _, is, h => fun f es kws pos he => nomatch he
  | .Attribute _ _ _, is, h => fun f es kws pos he => nomatch he
  | .Subscript _ _ _, is, h => fun f es kws pos he => nomatch he
  | .Starred _ _, is, h => fun f es kws pos he => nomatch he
  | .Name _ _, is, h => fun f es kws pos he => nomatch he
  | .List _ _, is, h => fun f es kws pos he => nomatch he
  | .Tuple _ _ _, is, h => fun f es kws pos he => nomatch he
  | .Slice _ _ _ _, is, h => fun f es kws pos he => nomatch he
termination_by e => sizeOf e
theorem cEs_ok {W : XW} {X : Cx} (g : Good G Z W w k clsV X) : ∀ (es : List Expr) (is : List E), cEs G X.N X.env.scope es = some is → EsOk X Z W w es is
  | [], is, h => by
    simp only [cEs] at h
    cases h
    exact ⟨rfl, fun j e i h1 _ => by simp at h1, fun _ => sn_nil⟩
  | e :: es, is, h => by
    simp only [cEs] at h
    split at h
    · rename_i i is' h1 h2
      cases h
      have p1 := cE_ok g e i h1
      obtain ⟨q1, q2, q3⟩ := cEs_ok g es is' h2
      refine ⟨by simp [q1], fun j e' i' e1 e2 => ?_, fun hs => ?_⟩
      · cases j with
        | zero =>
          simp at e1 e2
          subst e1 e2
          exact p1
        | succ j => exact q2 j e' i' (by simpa using e1) (by simpa using e2)
      · unfold noStar at hs
        obtain ⟨s1, s2⟩ := and_inv hs
        exact sn_cons p1 (q3 s2) (star_cons (by simpa using s1))
    · cases h
termination_by es => sizeOf es
theorem cT_ok {W : XW} {X : Cx} (g : Good G Z W w k clsV X) : ∀ (e : Expr) (i : T), cT G X.N X.env.scope e = some i → PT X e (Tb (kx X Z) W (evT w i))
  | .UnaryOp op a pos, i, h => by
    simp only [cT] at h
    split at h
    · rename_i ia ha
      cases h
      exact t_not (orV_ok ha (fun t' h' => cT_ok g a t' h') (fun i' h' => cE_ok g a i' h'))
    · cases h
  | .BoolOp op es pos, i, h => by
    simp only [cT] at h
    split at h
    · rename_i is hs
      obtain ⟨h1, h2⟩ := cTs_ok g es is hs
      exact (andT_ok h2 h1 h).pt
    · rename_i is hs
      obtain ⟨h1, h2⟩ := cTs_ok g es is hs
      exact (orT_ok h2 h1 h).pt
    · cases h
  | .Compare a ops bs pos, i, h => by
    simp only [cT] at h
    split at h
    · rename_i ia is ha hs
      exact cmpT_ok g (cE_ok g a ia ha) (cEs_ok g bs is hs) h
    · cases h
  | .Constant _ _ _, i, h => by simp only [cT] at h; cases h
  | .Name _ _, i, h => by simp only [cT] at h; cases h
  | .BinOp _ _ _ _, i, h => by simp only [cT] at h; cases h
  | .IfExp _ _ _ _, i, h => by simp only [cT] at h; cases h
  | .Tuple _ _ _, i, h => by simp only [cT] at h; cases h
  | .List _ _, i, h => by simp only [cT] at h; cases h
  | .Subscript _ _ _, i, h => by simp only [cT] at h; cases h
  | .Call _ _ _ _, i, h => by simp only [cT] at h; cases h
  | .NamedExpr _ _ _, i, h => by simp only [cT] at h; cases h
  | .Lambda _ _ _ _, i, h => by simp only [cT] at h; cases h
  | .Dict _ _ _, i, h => by simp only [cT] at h; cases h
  | .Set _ _ _, i, h => by simp only [cT] at h; cases h
  | .ListComp _ _ _ _, i, h => by simp only [cT] at h; cases h
  | .SetComp _ _ _ _, i, h => by simp only [cT] at h; cases h
  | .DictComp _ _ _ _ _, i, h => by simp only [cT] at h; cases h
  | .GeneratorExp _ _ _ _, i, h => by simp only [cT] at h; cases h
  | .Await _ _, i, h => by simp only [cT] at h; cases h
  | .Yield _ _, i, h => by simp only [cT] at h; cases h
  | .YieldFrom _ _, i, h => by simp only [cT] at h; cases h
  | .FormattedValue _ _ _ _, i, h => by simp only [cT] at h; cases h
  | .JoinedStr _ _, i, h => by simp only [cT] at h; cases h
  | .Attribute _ _ _, i, h => by simp only [cT] at h; cases h
  | .Starred _ _, i, h => by simp only [cT] at h; cases h
  | .Slice _ _ _ _, i, h => by simp only [cT] at h; cases h
termination_by e => sizeOf e
theorem cTs_ok {W : XW} {X : Cx} (g : Good G Z W w k clsV X) : ∀ (es : List Expr) (is : List T), cTs G X.N X.env.scope es = some is → TsOk X Z W w es is
  | [], is, h => by
    simp only [cTs] at h
    cases h
    exact ⟨rfl, fun j e i h1 _ => by simp at h1⟩
  | e :: es, is, h => by
    simp only [cTs] at h
    split at h
    · rename_i i is' h1 h2
      cases h
      have p1 : PT X e (Tb (kx X Z) W (evT w i)) := orV_ok h1 (fun t' h' => cT_ok g e t' h') (fun i' h' => cE_ok g e i' h')
      obtain ⟨q1, q2⟩ := cTs_ok g es is' h2
      refine ⟨by simp [q1], fun j e' i' e1 e2 => ?_⟩
      cases j with
      | zero =>
        simp at e1 e2
        subst e1 e2
        exact p1
      | succ j => exact q2 j e' i' (by simpa using e1) (by simpa using e2)
    · cases h
termination_by es => sizeOf es
end
end
end HP

set_option Elab.async false
set_option linter.all false
set_option autoImplicit false
set_option maxRecDepth 100000
set_option maxHeartbeats 4000000
/-! Except suites: what is read is what the layer's judgements say. -/
namespace HP
open PySem L2

/-- what a suite's expressions lean on -/
structure HsF (G : Gt) (Z : Zx) (w : Wd) (X : Cx) : Prop where
  nd : X.N.Nodup
  free : ∀ x, G.free.contains x = true → X.mg x = none
  cn : ∀ x g, G.cns.lookup x = some g → ∃ v u uv, w.glob g = some v ∧ X.mg x = some uv ∧ RelV u uv ∧ ∀ ρ H, VR (kx X Z) ρ H v u
section
variable {G : Gt} {Z : Zx} {W : XW} {w : Wd} {X : Cx}
theorem hc_of {op : CmpOp} {o : O2} (h : hcmp op = some o) : OpR X (compareOp op) (rG (kx X Z) o) := by
  cases op <;> simp [hcmp] at h <;> subst h
  · exact or_lt
  · exact or_le
  · exact or_gt
  · exact or_ge
  · exact or_is
  · exact or_isnot
theorem hb_of {op : Operator} {o : O2} (h : binB op = some o) : OpR X (binaryOp op) (rG (kx X Z) o) := by
  cases op <;> simp [binB] at h <;> subst h
  · exact or_add
  · exact or_sub
  · exact or_mul
  · exact or_mod
  · exact or_pow
  · exact or_fdiv
mutual
theorem hE_ok (F : HsF G Z w X) : ∀ (e : Expr) (i : E), hE G X.N X.env.scope e = some i → PE X e (T1 (kx X Z) W (evE w i))
  | e, i, h => by
    unfold hE at h
    split at h
    · rename_i c j pos
      cases hc : constB c with
      | none => rw [hc] at h; cases h
      | some v =>
        rw [hc] at h
        cases h
        exact constB_ok hc
    · rename_i x pos
      split at h
      · rename_i j hj
        cases h
        unfold varB at hj
        split at hj
        · rename_i hv
          obtain ⟨h1, h2⟩ := and_inv hv
          exact s_var (ixB_ok hj) (visB_ok h2) (ok_debug h1) (ok_classdict h1)
        · cases hj
      · split at h
        · rename_i hv
          obtain ⟨h1, h2⟩ := and_inv hv
          cases hc : G.cns.lookup x with
          | none => rw [hc] at h; cases h
          | some gi =>
            rw [hc] at h
            cases h
            obtain ⟨v, u, uv, q1, q2, q3, q4⟩ := F.cn x gi hc
            exact s_glob (glB_ok h2) q2 q3 q1 q4 (ok_debug h1)
        · cases h
    · rename_i a op b pos
      split at h
      · rename_i o ia ib ho ha hb
        cases h
        exact s_op2 (hb_of ho) (hE_ok F a ia ha) (hE_ok F b ib hb)
      · cases h
    · rename_i op a pos
      split at h
      · rename_i ia ha
        cases h
        exact s_not (hE_ok F a ia ha)
      · cases h
    · rename_i a op b pos
      split at h
      · rename_i o ia ib ho ha hb
        split at h
        · cases h
        · rename_i hm
          cases h
          exact s_cmp (hc_of ho) (by simpa using hm) (hE_ok F a ia ha) (hE_ok F b ib hb)
      · cases h
    · rename_i es k pos
      split at h
      · rename_i hs
        cases hes : hEs G X.N X.env.scope es with
        | none => rw [hes] at h; cases h
        | some is =>
          rw [hes] at h
          cases h
          exact s_tup ((hEs_ok F es is hes).2.2 hs)
      · cases h
    · rename_i op es pos
      split at h
      · rename_i is hes
        obtain ⟨h1, h2, _⟩ := hEs_ok F es is hes
        exact andE_ok h2 h1 h
      · rename_i is hes
        obtain ⟨h1, h2, _⟩ := hEs_ok F es is hes
        exact orE_ok h2 h1 h
      · cases h
    · rename_i x p a pos
      split at h
      · rename_i hq
        simp only [Bool.and_eq_true, decide_eq_true_eq, Bool.not_eq_true'] at hq
        obtain ⟨⟨⟨rfl, q2⟩, q3⟩, q4⟩ := hq
        cases ha : hE G X.N X.env.scope a with
        | none => rw [ha] at h; cases h
        | some ia =>
          rw [ha] at h
          cases h
          exact s_callB cr_len (glB_ok q2) (F.free _ q3) (by decide +kernel) (sn_cons (hE_ok F a ia ha) sn_nil (star_cons q4)) (by decide) (by decide) (star_cons q4) rfl
      · cases h
    · cases h
termination_by e => sizeOf e
theorem hEs_ok (F : HsF G Z w X) : ∀ (es : List Expr) (is : List E), hEs G X.N X.env.scope es = some is → EsOk X Z W w es is
  | [], is, h => by
    simp only [hEs] at h
    cases h
    exact ⟨rfl, fun j e i h1 _ => by simp at h1, fun _ => sn_nil⟩
  | e :: es, is, h => by
    simp only [hEs] at h
    split at h
    · rename_i i is' hi his
      cases h
      obtain ⟨h1, h2, h3⟩ := hEs_ok F es is' his
      refine ⟨by simp [h1], fun j e' i' q1 q2 => ?_, fun hs => ?_⟩
      · cases j with
        | zero =>
          simp at q1 q2
          subst q1 q2
          exact hE_ok F e i hi
        | succ j => exact h2 j e' i' (by simpa using q1) (by simpa using q2)
      · unfold noStar at hs
        obtain ⟨s1, s2⟩ := and_inv hs
        exact sn_cons (hE_ok F e i hi) (h3 s2) (star_cons (by simpa using s1))
    · cases h
termination_by es => sizeOf es
end
theorem hE_comp {e : Expr} {i : E} {N : List Str} {sc : Scope} (h : hE G N sc e = some i) : isComp e = false := by
  cases e <;> first | rfl | (unfold hE at h; cases h; done)
theorem name_swap {x : Str} {p : Pos} {e : Expr} {env : PySem.Env} (h : isTupE e = false) : swappedStores [.Name x p] e env = pure none := by
  cases e <;> first | rfl | (cases h; done)
theorem hT_ok (F : HsF G Z w X) : ∀ (e : Expr) (i : T), hT G X.N X.env.scope e = some i → PT X e (Tb (kx X Z) W (evT w i))
  | e, i, h => by
    unfold hT at h
    split at h
    · rename_i op a pos
      split at h
      · rename_i ia ha
        cases h
        exact t_not (hT_ok F a ia ha)
      · cases h
    · rename_i a op b pos
      split at h
      · rename_i o ia ib ho ha hb
        split at h
        · cases h
        · rename_i hm
          cases h
          exact t_cmp (hc_of ho) (by simpa using hm) (hE_ok F a ia ha) (hE_ok F b ib hb)
      · cases h
    · split at h
      · rename_i hv
        cases hi : hE G X.N X.env.scope e with
        | none => rw [hi] at h; cases h
        | some ie =>
          rw [hi] at h
          cases h
          exact t_val (valB_ok hv) (hE_ok F e ie hi)
      · cases h
termination_by e => sizeOf e
mutual
theorem hS_ok (F : HsF G Z w X) (hl : ∀ x, Loc X.env.scope x → X.fn x = true ∨ X.env.scope.names.lookup x = some .local) : ∀ (s : Stmt) (i : S), hS G X.N X.env.scope s = some i → PS X s (TS1 (kx X Z) W (evS w i))
  | s, i, h => by
    unfold hS at h
    split at h
    · cases h; exact ss_pass
    · cases h; exact ss_brk
    · cases h; exact ss_cnt
    · split at h
      · cases h; exact ss_retN
      · rename_i e
        cases hi : hE G X.N X.env.scope e with
        | none => rw [hi] at h; cases h
        | some ie =>
          rw [hi] at h
          cases h
          exact ss_ret (hE_ok F e ie hi)
    · rename_i t a b pos
      split at h
      · rename_i it ia ib ht ha hb
        cases h
        exact ss_if (hT_ok F t it ht) (hSs_ok F hl a ia ha) (hSs_ok F hl b ib hb)
      · cases h
    · rename_i x p e pos
      split at h
      · rename_i hq
        obtain ⟨q1, q2⟩ := and_inv hq
        split at h
        · rename_i j ie hj hi
          cases h
          refine ss_asg (hE_ok F e ie hi) (g_name F.nd (ixB_ok hj) (locB_ok q1) (hl x (locB_ok q1))) (hE_comp hi) (name_swap (by simpa using q2)) rfl
        · cases h
      · cases h
    · cases h
termination_by s => sizeOf s
theorem hSs_ok (F : HsF G Z w X) (hl : ∀ x, Loc X.env.scope x → X.fn x = true ∨ X.env.scope.names.lookup x = some .local) : ∀ (ss : List Stmt) (is : List S), hSs G X.N X.env.scope ss = some is → PSs X ss (TS1 (kx X Z) W (evSs w is))
  | [], is, h => by
    simp only [hSs] at h
    cases h
    exact ss_nil
  | s :: ss, is, h => by
    simp only [hSs] at h
    split at h
    · rename_i i is' hi his
      cases h
      exact ss_cons (hS_ok F hl s i hi) (hSs_ok F hl ss is' his)
    · cases h
termination_by ss => sizeOf ss
end
end
end HP
namespace HP
open PySem L2
/-! ### the exception that has a name -/
def Tc (j : Nat) (a : Addr) (t : TE) : TE := fun σ H Q => σ[j]? = some (some (V.ref a)) ∧ t σ H Q
def Tcn (j : Nat) (a : Addr) (t : TA) : TA := fun σ H Q => σ[j]? = some (some (V.ref a)) ∧ t σ H Q
/-- what isinstance(e, C) leans on -/
structure XsF (G : Gt) (clsV : Nat → Value) (X : Cx) (c : Nat) : Prop where
  cls : ∃ D, clsV c = .ref D ∧ ExcC X.K D
  exh : ∀ x ys ns, G.exh.lookup x = some (ys, ns) → ∃ C, X.mg x = some (.ref C) ∧ (∀ d ∈ ys, PySem.W.kitOne X.K (clsV d) (.ref C) = some true) ∧ ∀ d ∈ ns, PySem.W.kitOne X.K (clsV d) (.ref C) = some false
section
variable {G : Gt} {Z : Zx} {W : XW} {w : Wd} {X : Cx} {clsV : Nat → Value} {a : Addr} {oe : Obj} {pn : List (Addr × Obj)} {c j : Nat} {n : Str}
theorem hIs_ok (F : HsF G Z w X) (P : XsF G clsV X c) (hz : Zc (clsV c) none oe) (hf : ∃ vs, oe.data = .fields vs) (hj : X.N[j]? = some n) {x : Str} {p pos : Pos} {es : List Expr} {i : E} (hx : x = ("isinstance" : Str)) (hg : glB X.env.scope x = true) (hm : G.free.contains x = true) (h : hIs G X.env.scope n c es = some i) :
    PE (X.suite a ((a, oe) :: pn)) (.Call (.Name x p) es [] pos) (Tc j a (T1 (kx X Z) W (evE w i))) := by
  obtain ⟨D, hD, C⟩ := P.cls
  rw [hD] at hz
  subst hx
  unfold hIs at h
  split at h
  · rename_i y p1 z p2
    split at h
    · rename_i hq
      simp only [Bool.and_eq_true, decide_eq_true_eq] at hq
      obtain ⟨⟨rfl, q2, q3⟩, q4, q5⟩ := hq
      cases hl : G.exh.lookup z with
      | none => rw [hl] at h; cases h
      | some r =>
        obtain ⟨ys, ns⟩ := r
        rw [hl] at h
        simp only at h
        obtain ⟨C', g1, g2, g3⟩ := P.exh z ys ns hl
        have key : ∀ b, PySem.W.kitOne X.K (.ref D) (.ref C') = some b → PE (X.suite a ((a, oe) :: pn)) (.Call (.Name "isinstance" p) [.Name y p1, .Name z p2] [] pos) (Tc j a (T1 (kx X Z) W (evE w (.lit (.bl b))))) := fun b hb => by
          have h2 : PA (X.suite a ((a, oe) :: pn)) [.Name y p1, .Name z p2] (tCons (tVar j) (tCons (tC (.ref C')) tNil)) := pa_cons (pe_var (X := X.suite a ((a, oe) :: pn)) hj (.inl (lclB_ok q3)) (ok_debug q2) (ok_classdict q2)) (pa_cons (pe_glob (X := X.suite a ((a, oe) :: pn)) (v := .ref C') (glB_ok (X := X) q5) g1 rfl (ok_debug q4)) pa_nil)
          refine PE.imp (pe_callB (call_isE (X := X) C hz hf) (glB_ok (X := X) hg) (F.free _ hm) (by decide +kernel) h2 (by decide) (by decide)) fun σ H Q h => ?_
          obtain ⟨hσ, env, M, ρ, e, m, p⟩ := h
          simp only [evE] at p
          exact ⟨.ref a, hσ, .ref C', .ref C', b, rfl, (fun u r => by cases r; rfl), hb, p.here m _ vr_bl⟩
        split at h
        · rename_i hy
          cases h
          exact key true (hD ▸ g2 c (by simpa using hy))
        · split at h
          · rename_i hy
            cases h
            exact key false (hD ▸ g3 c (by simpa using hy))
          · cases h
    · cases h
  · cases h
theorem Tc.lift {Y : Cx} {e : Expr} {t : TE} (h : PE Y e t) : PE Y e (Tc j a t) := PE.imp h fun σ H Q q => q.2
theorem cn_nil {Y : Cx} : PA Y [] (Tcn j a (Tn (kx Y Z) W (evEs w []))) := PA.imp sn_nil fun σ H Q q => q.2
theorem cn_cons {Y : Cx} {e : Expr} {es : List Expr} {ie : E} {is : List E} (ha : PE Y e (Tc j a (T1 (kx Y Z) W (evE w ie)))) (hs : PA Y es (Tcn j a (Tn (kx Y Z) W (evEs w is)))) (he : starEach (e :: es) Y.env = (false, eval e Y.env) :: starEach es Y.env) : PA Y (e :: es) (Tcn j a (Tn (kx Y Z) W (evEs w (ie :: is)))) := by
  refine PA.imp (pa_cons ha hs he) fun σ H Q h => ?_
  obtain ⟨hσ, env, M, ρ, e, m, p⟩ := h
  simp only [evEs] at p
  refine ⟨hσ, T1.go e m (p.bind.imp fun x M1 ρ1 H1 f1 m1 q _ e1 _ u ru => ?_)⟩
  refine ⟨hσ, env, M1, ρ1, e1, m1, q.bind.imp fun xs M2 ρ2 H2 f2 m2 q2 us rus => ?_⟩
  exact q2.here m2 _ (vrs_cons (ru.mono m1.own f2) rus)
theorem c_tup {Y : Cx} {es : List Expr} {is : List E} {k : Nat} {pos : Pos} (hs : PA Y es (Tcn j a (Tn (kx Y Z) W (evEs w is)))) : PE Y (.Tuple es k pos) (Tc j a (T1 (kx Y Z) W (evE w (.tup is)))) := by
  refine PE.imp (pe_tup hs) fun σ H Q h => ?_
  obtain ⟨hσ, env, M, ρ, e, m, p⟩ := h
  simp only [evE] at p
  refine ⟨hσ, env, M, ρ, e, m, p.bind.imp fun xs M1 ρ1 H1 f1 m1 q us rus => ?_⟩
  split at q
  · rename_i hl
    refine ⟨by rw [rus.length]; exact Nat.le_trans hl lim_le, fun z hz => ?_⟩
    exact (Pv.of q fun _ _ z => nomatch z).tup m1 rus hz
  · exact q.elim
mutual
theorem hC_ok (F : HsF G Z w X) (P : XsF G clsV X c) (hz : Zc (clsV c) none oe) (hf : ∃ vs, oe.data = .fields vs) (hj : X.N[j]? = some n) : ∀ (e : Expr) (i : E), hC G X.N X.env.scope n c e = some i → PE (X.suite a ((a, oe) :: pn)) e (Tc j a (T1 (kx X Z) W (evE w i)))
  | e, i, h => by
    have F' : HsF G Z w (X.suite a ((a, oe) :: pn)) := ⟨F.nd, F.free, F.cn⟩
    unfold hC at h
    split at h
    · rename_i x p es pos
      split at h
      · rename_i hq
        simp only [Bool.and_eq_true, decide_eq_true_eq] at hq
        exact hIs_ok F P hz hf hj hq.1.1 hq.1.2 hq.2 h
      · exact Tc.lift (hE_ok F' _ i h)
    · rename_i es k pos
      split at h
      · rename_i hs
        cases hes : hCs G X.N X.env.scope n c es with
        | none => rw [hes] at h; cases h
        | some is =>
          rw [hes] at h
          cases h
          exact c_tup (Y := X.suite a ((a, oe) :: pn)) (hCs_ok F P hz hf hj es is hes hs)
      · cases h
    · exact Tc.lift (hE_ok F' e i h)
termination_by e => sizeOf e
theorem hCs_ok (F : HsF G Z w X) (P : XsF G clsV X c) (hz : Zc (clsV c) none oe) (hf : ∃ vs, oe.data = .fields vs) (hj : X.N[j]? = some n) : ∀ (es : List Expr) (is : List E), hCs G X.N X.env.scope n c es = some is → noStar es = true → PA (X.suite a ((a, oe) :: pn)) es (Tcn j a (Tn (kx X Z) W (evEs w is)))
  | [], is, h, _ => by
    simp only [hCs] at h
    cases h
    exact cn_nil (Y := X.suite a ((a, oe) :: pn))
  | e :: es, is, h, hs => by
    simp only [hCs] at h
    unfold noStar at hs
    obtain ⟨s1, s2⟩ := and_inv hs
    split at h
    · rename_i i is' hi his
      cases h
      exact cn_cons (Y := X.suite a ((a, oe) :: pn)) (hC_ok F P hz hf hj e i hi) (hCs_ok F P hz hf hj es is' his s2) (star_cons (by simpa using s1))
    · cases h
termination_by es => sizeOf es
end
theorem cs_one {Y : Cx} {s : Stmt} {st : S} (h : PS Y s (fun D σ H => σ[j]? = some (some (V.ref a)) ∧ TS1 (kx Y Z) W (evS w st) D σ H)) : PSs Y [s] (fun D σ H => σ[j]? = some (some (V.ref a)) ∧ TS1 (kx Y Z) W (evSs w [st]) D σ H) := by
  refine PSs.imp (pss_cons h pss_nil) fun D σ H h => ?_
  obtain ⟨hσ, env, M, ρ, e, m, p⟩ := h
  simp only [evSs] at p
  refine ⟨hσ, env, M, ρ, e, m, ?_⟩
  cases hc : evS w st env M with
  | nxt env1 M1 =>
    rw [hc] at p
    exact p
  | ret v M1 => rw [hc] at p; exact p
  | brk v M1 => rw [hc] at p; exact p
  | cnt v M1 => rw [hc] at p; exact p
  | exc c v M1 => rw [hc] at p; exact p
  | fail => rw [hc] at p; exact p
theorem c_ret {Y : Cx} {e : Expr} {ie : E} {pos : Pos} (h : PE Y e (Tc j a (T1 (kx Y Z) W (evE w ie)))) : PS Y (.Return (some e) pos) (fun D σ H => σ[j]? = some (some (V.ref a)) ∧ TS1 (kx Y Z) W (evS w (.ret ie)) D σ H) := by
  refine PS.imp (ps_ret h) fun D σ H h => ?_
  obtain ⟨hσ, env, M, ρ, e, m, p⟩ := h
  simp only [evS] at p
  refine ⟨hσ, T1.go e m ((p.thn e m).imp fun x M1 ρ1 H1 f1 m1 q _ e1 _ u ru => ?_)⟩
  exact q ρ1 H1 u Fw.refl m1 ru
theorem c_if {Y : Cx} {b : Expr} {ib : E} {sa sb : List Stmt} {pa pb : List S} {pos : Pos} (hv : valB b = true) (hb : PE Y b (Tc j a (T1 (kx Y Z) W (evE w ib)))) (h1 : PSs Y sa (TS1 (kx Y Z) W (evSs w pa))) (h2 : PSs Y sb (TS1 (kx Y Z) W (evSs w pb))) :
    PS Y (.If b sa sb pos) (fun D σ H => σ[j]? = some (some (V.ref a)) ∧ TS1 (kx Y Z) W (evS w (.ifs (.val ib) pa pb)) D σ H) := by
  have ht : PT Y b (fun σ H Q => σ[j]? = some (some (V.ref a)) ∧ Tb (kx Y Z) W (evT w (.val ib)) σ H Q) := by
    refine PT.imp (pt_truth hb (valB_ok hv)) fun σ H Q h => ?_
    obtain ⟨hσ, env, M, ρ, e, m, p⟩ := h
    simp only [evT] at p
    refine ⟨hσ, T1.go e m (p.bind.imp fun x M1 ρ1 H1 f1 m1 q _ e1 _ u ru => ?_)⟩
    split at q
    · rename_i k hk
      exact ⟨k, tru_of m1 ru hk, q.here m1⟩
    · exact q.elim
  refine PS.imp (ps_if ht h1 h2) fun D σ H h => ?_
  obtain ⟨hσ, env, M, ρ, e, m, p⟩ := h
  simp only [evS] at p
  refine ⟨hσ, env, M, ρ, e, m, (p.thn e m).imp fun k M1 ρ1 H1 f1 m1 q => ?_⟩
  cases k with
  | true => exact ⟨env, M1, ρ1, e.mono m.own f1, m1, q⟩
  | false => exact ⟨env, M1, ρ1, e.mono m.own f1, m1, q⟩
theorem hN_ok (F : HsF G Z w X) (hl : ∀ x, Loc X.env.scope x → X.fn x = true ∨ X.env.scope.names.lookup x = some .local) (P : XsF G clsV X c) (hz : Zc (clsV c) none oe) (hf : ∃ vs, oe.data = .fields vs) (hj : X.N[j]? = some n) {s : Stmt} {b : List S} (h : hN G X.N X.env.scope n c s = some b) :
    PSs (X.suite a ((a, oe) :: pn)) [s] (fun D σ H => σ[j]? = some (some (V.ref a)) ∧ TS1 (kx X Z) W (evSs w b) D σ H) := by
  have F' : HsF G Z w (X.suite a ((a, oe) :: pn)) := ⟨F.nd, F.free, F.cn⟩
  unfold hN at h
  split at h
  · rename_i e pos
    cases hi : hC G X.N X.env.scope n c e with
    | none => rw [hi] at h; cases h
    | some i =>
      rw [hi] at h
      cases h
      exact cs_one (Y := X.suite a ((a, oe) :: pn)) (c_ret (Y := X.suite a ((a, oe) :: pn)) (hC_ok (W := W) F P hz hf hj e i hi))
  · rename_i t ta tb pos
    split at h
    · rename_i f es kws p
      split at h
      · rename_i i ia ib hi ha hb
        cases h
        exact cs_one (Y := X.suite a ((a, oe) :: pn)) (c_if (Y := X.suite a ((a, oe) :: pn)) rfl (hC_ok (W := W) F P hz hf hj _ i hi) (hSs_ok F' hl ta ia ha) (hSs_ok F' hl tb ib hb))
      · cases h
    · cases h
  · cases h
theorem hsP_in : ∀ {ns : List Nat} {d : Nat} {r : Option (List S)}, inHs (hsP ns) d = some r → r = none ∧ d ∈ ns
  | [], d, r, h => by
    simp only [hsP, inHs] at h
    cases h
  | c :: ns, d, r, h => by
    simp only [hsP, inHs] at h
    split at h
    · rename_i e
      cases h
      exact ⟨rfl, by rw [← e]; exact List.mem_cons_self⟩
    · obtain ⟨h1, h2⟩ := hsP_in h
      exact ⟨h1, List.mem_cons_of_mem _ h2⟩
theorem hsB_in {f : Nat → Option (List S)} {ns : List Nat} : ∀ {ys : List Nat} {hs : Hs} {d : Nat} {r : Option (List S)}, hsB f ns ys = some hs → inHs hs d = some r → (∀ b, r = some b → d ∈ ys ∧ f d = some b) ∧ (r = none → d ∈ ns)
  | [], hs, d, r, h, hi => by
    simp only [hsB] at h
    cases h
    obtain ⟨h1, h2⟩ := hsP_in hi
    exact ⟨(fun b z => by rw [h1] at z; cases z), fun _ => h2⟩
  | c :: ys, hs, d, r, h, hi => by
    simp only [hsB] at h
    split at h
    · rename_i b q hb hr
      cases h
      simp only [inHs] at hi
      split at hi
      · rename_i e
        cases hi
        subst e
        exact ⟨(fun b' z => by cases z; exact ⟨List.mem_cons_self, hb⟩), (fun z => nomatch z)⟩
      · obtain ⟨h1, h2⟩ := hsB_in hr hi
        exact ⟨fun b' z => ⟨List.mem_cons_of_mem _ (h1 b' z).1, (h1 b' z).2⟩, h2⟩
    · cases h
end
end HP

set_option Elab.async false
set_option linter.all false
set_option autoImplicit false
set_option maxRecDepth 100000
set_option maxHeartbeats 8000000
/-! .. of statements; of defs. -/
namespace HP
open PySem L2
section
variable {G : Gt} {Z : Zx} {W : XW} {w : Wd} {k : Nat} {clsV : Nat → Value}
theorem ss_bad {X : Cx} {s : Stmt} : PS X s (TS1 (kx X Z) W (evS w .bad)) := ⟨fun pins s σ H D I h => by
  obtain ⟨env, M, ρ, e, m, p⟩ := h
  simp only [evS] at p
  exact p.elim⟩
theorem loc_fn {X : Cx} (g : GoodD G Z W w k clsV X) {x : Str} (h : locB X.env.scope x = true) : X.fn x = true ∨ X.env.scope.names.lookup x = some .local := by
  rcases locB_ok h with q | q
  · exact .inr q
  · exact .inl (g.cell x q)
theorem block_fun {env : PySem.Env} (h : env.scope.kind = .function) : env.blockKind = .function := by
  unfold PySem.Env.blockKind
  rw [h]
  rfl
theorem swap2 {env : PySem.Env} {x y : Str} {px py pt pt2 : Pos} {kt k2 : Nat} {a b : Expr} (hk : env.scope.kind = .function) (hx : env.scope.names.lookup x = some .local) (hy : env.scope.names.lookup y = some .local) (hne : x ≠ y) (hl : (px.line == py.line) = true)
    (ha : isStar a = false) (hb : isStar b = false) (h1 : [a, b].all (foldedForSure 8) = false) (h2 : [a, b].all (constantsAlone 8) = false) : swappedStores [.Tuple [.Name x px, .Name y py] kt pt] (.Tuple [a, b] k2 pt2) env = pure (some [x, y]) := by
  have kx : env.kindOf x = some .local := hx
  have ky : env.kindOf y = some .local := hy
  have hbk := block_fun hk
  have hl' : py.line = px.line := (beq_iff_eq.mp hl).symm
  have e : ([x, y].eraseDups) = [x, y] := by
    rw [List.eraseDups_cons]
    have : List.filter (fun b => !b == x) [y] = [y] := by simp [hne.symm]
    rw [this]
    rfl
  have p1 : (Expr.Name x px).pos = px := rfl
  unfold swappedStores
  dsimp only
  rw [if_neg (by rw [hbk]; simp)]
  rw [if_neg ?hs]
  case hs =>
    intro hh
    rw [List.any_eq_true] at hh
    obtain ⟨e, he, hm⟩ := hh
    split at hm
    · simp only [List.mem_cons, List.not_mem_nil, or_false] at he
      rcases he with rfl | rfl
      · cases ha
      · cases hb
    · cases hm
  simp [List.filterMap_cons, kx, ky, hl', p1, e, h1, h2]
theorem swap3 {env : PySem.Env} {x y z : Str} {px py pz pt pt2 : Pos} {kt k2 : Nat} {a b c : Expr} (hk : env.scope.kind = .function) (hx : env.scope.names.lookup x = some .local) (hy : env.scope.names.lookup y = some .local) (hz : env.scope.names.lookup z = some .local) (hxy : x ≠ y) (hxz : x ≠ z) (hyz : y ≠ z)
    (hl : (px.line == py.line) = true) (hl2 : (px.line == pz.line) = true)
    (ha : isStar a = false) (hb : isStar b = false) (hc : isStar c = false) (h1 : [a, b, c].all (foldedForSure 8) = false) (h2 : [a, b, c].all (constantsAlone 8) = false) : swappedStores [.Tuple [.Name x px, .Name y py, .Name z pz] kt pt] (.Tuple [a, b, c] k2 pt2) env = pure (some [x, y, z]) := by
  have kx : env.kindOf x = some .local := hx
  have ky : env.kindOf y = some .local := hy
  have kz : env.kindOf z = some .local := hz
  have hbk := block_fun hk
  have hl' : py.line = px.line := (beq_iff_eq.mp hl).symm
  have hl2' : pz.line = px.line := (beq_iff_eq.mp hl2).symm
  have e : ([x, y, z].eraseDups) = [x, y, z] := by
    rw [List.eraseDups_cons]
    have : List.filter (fun b => !b == x) [y, z] = [y, z] := by simp [hxy.symm, hxz.symm]
    rw [this, List.eraseDups_cons]
    have : List.filter (fun b => !b == y) [z] = [z] := by simp [hyz.symm]
    rw [this]
    rfl
  have p1 : (Expr.Name x px).pos = px := rfl
  unfold swappedStores
  dsimp only
  rw [if_neg (by rw [hbk]; simp)]
  rw [if_neg ?hs]
  case hs =>
    intro hh
    rw [List.any_eq_true] at hh
    obtain ⟨e, he, hm⟩ := hh
    split at hm
    · simp only [List.mem_cons, List.not_mem_nil, or_false] at he
      rcases he with rfl | rfl | rfl
      · cases ha
      · cases hb
      · cases hc
    · cases hm
  simp [List.filterMap_cons, kx, ky, kz, hl', hl2', p1, e, h1, h2]
theorem augPlain {b : Expr} (h : isSlice b = false) (ov iv new : Value) : augStore b ov iv new = (do holding [new, ov, iv] (setItem ov iv new); release [new, ov, iv] []; pure .next) := by
  cases b <;> first | rfl | (cases h; done)
theorem ne_of_ix {N : List Str} {x y : Str} {i j : Nat} (hx : ixB N x = some i) (hy : ixB N y = some j) (h : (i != j) = true) : x ≠ y := fun e => by
  subst e
  rw [hx] at hy
  cases hy
  simp at h
theorem plain_swap {t e : Expr} {env : PySem.Env} (h : isTupE t = false ∨ isTupE e = false) (ht : ∀ es p, t ≠ .List es p) : swappedStores [t] e env = pure none := by
  rcases h with h | h
  · cases t <;> first | rfl | (cases h; done) | exact absurd rfl (ht _ _)
  · cases e <;> first | (cases h; done) | (cases t <;> rfl)

theorem lcAsg_ok {X : Cx} (g : GoodD G Z W w k clsV X) {y : Str} {py p2 pos : Pos} {elt tg iter : Expr} {ifs : List Expr} {isa : Int} {scope : Scope} {i : S}
    (h : (if (isa == 0 && !isSetD iter && blkC X.N X.env.scope scope (ownB X.N scope)) && (lclB X.env.scope y && py.line == p2.line && !(scope.names.any fun z => z.1 == y && (z.2 == .local || z.2 == .cell))) then
        match ixB X.N y, cG X.N scope tg, mkI G X.env.scope tg iter (cE G X.N X.env.scope iter) (cArgs G X.N X.env.scope iter), cIfs G X.N (relS scope X.env.scope) ifs, cE G X.N (relS scope X.env.scope) elt with
        | some i, some g, some ii, some ts, some ie => if (tgN g).all fun n => ((ownB X.N scope).map (·.2)).contains n then some (S.asg (.name i) (if mutB G p2 then .lc g ii ts ((ownB X.N scope).map (·.2)) ie else .rlc g ii ts ((ownB X.N scope).map (·.2)) ie)) else none
        | _, _, _, _, _ => none
      else none) = some i) : PS X (.Assign [.Name y py] (.ListComp elt [⟨tg, iter, ifs, isa⟩] scope p2) pos) (TS1 (kx X Z) W (evS w i)) := by
  split at h
  · rename_i hq
    obtain ⟨hq, hr⟩ := and_inv hq
    obtain ⟨hq, q3⟩ := and_inv hq
    obtain ⟨q1, q2⟩ := and_inv hq
    obtain ⟨hr, r3⟩ := and_inv hr
    obtain ⟨r1, r2⟩ := and_inv hr
    obtain rfl : isa = 0 := eq_of_beq q1
    split at h
    · rename_i j gg ii ts ie h0 h1 h2 h3 h4
      split at h
      · rename_i hn
        cases h
        rw [List.all_eq_true] at hn
        have gg0 := g.toGood
        split
        · refine ss_setLc g.calm g.nd (ixB_ok h0) (lclB_ok r1) g.kind r2 (by simpa using r3) (mkI_ok gg0 h2 (fun i' h' => cE_ok gg0 iter i' h') (fun is h' => cArgs_ok gg0 iter is h')) (blkOk_by q3) (fun n hn' => by simpa using hn n hn') (fun s H C cl fp => ?_) (fun s H C cl fp => ?_) (fun s H C cl fp => ?_) (set_plain (by simpa using q2))
          · exact cG_ok (X := X.blk s H scope (compEnvC scope cl C X.env) fp) g.nd g.calm (fun x hx => blk_loc hx) tg gg h1
          · exact cIfs_ok (X := X.blk s H scope (compEnvC scope cl C X.env) fp) (gg0.blk s H scope (compEnvC scope cl C X.env) fp) ifs ts h3
          · exact cE_ok (X := X.blk s H scope (compEnvC scope cl C X.env) fp) (gg0.blk s H scope (compEnvC scope cl C X.env) fp) elt ie h4
        · refine ss_setRlc g.calm g.nd (ixB_ok h0) (lclB_ok r1) g.kind r2 (by simpa using r3) (mkI_ok gg0 h2 (fun i' h' => cE_ok gg0 iter i' h') (fun is h' => cArgs_ok gg0 iter is h')) (blkOk_by q3) (fun n hn' => by simpa using hn n hn') (fun s H C cl fp => ?_) (fun s H C cl fp => ?_) (fun s H C cl fp => ?_) (set_plain (by simpa using q2))
          · exact cG_ok (X := X.blk s H scope (compEnvC scope cl C X.env) fp) g.nd g.calm (fun x hx => blk_loc hx) tg gg h1
          · exact cIfs_ok (X := X.blk s H scope (compEnvC scope cl C X.env) fp) (gg0.blk s H scope (compEnvC scope cl C X.env) fp) ifs ts h3
          · exact cE_ok (X := X.blk s H scope (compEnvC scope cl C X.env) fp) (gg0.blk s H scope (compEnvC scope cl C X.env) fp) elt ie h4
      · cases h
    · cases h
  · cases h
theorem GoodD.tr {W' : XW} {X : Cx} (g : GoodD G Z W w k clsV X) (pn : List (Addr × Obj)) (xe : Value → Shared → Prop) (tk : Takes (X.tr pn xe) (wx clsV W')) (po : PassesOwn (model X.prog X.w) X.A X.env xe) : GoodD G Z W' w k clsV (X.tr pn xe) :=
  { nd := g.nd, calm := g.calm, room := g.room, eqs := g.eqs, cf := g.cf, cl := g.cl, free := g.free, fn := g.fn, cn := g.cn, an1 := g.an1, an2 := g.an2, na := g.na, mt := g.mt, ini := g.ini, exr := g.exr, exh := g.exh
    tk := tk, kind := g.kind, cell := g.cell, own := po, stk := g.stk, frm := g.frm }
theorem GoodD.hs {X : Cx} (g : GoodD G Z W w k clsV X) : HsF G Z w X := ⟨g.nd, g.free, g.cn⟩
theorem GoodD.xs {X : Cx} (g : GoodD G Z W w k clsV X) {x : Str} {ys ns : List Nat} (h : G.exh.lookup x = some (ys, ns)) {d : Nat} (hd : d ∈ ys) : XsF G clsV X d := by
  obtain ⟨C, _, _, _, q⟩ := g.exh x ys ns h
  exact ⟨q d hd, fun y ys' ns' h' => by
    obtain ⟨C', z1, z2, z3, _⟩ := g.exh y ys' ns' h'
    exact ⟨C', z1, fun d hd => (z2 d hd).2, fun d hd => (z3 d hd).2⟩⟩
theorem GoodD.hx {X : Cx} (g : GoodD G Z W w k clsV X) {x : Str} {ys ns : List Nat} {f : Nat → Option (List S)} {hs : Hs} (h : G.exh.lookup x = some (ys, ns)) (hh : hsB f ns ys = some hs) : ∃ C, X.mg x = some (.ref C) ∧ ∀ d r, inHs hs d = some r → PySem.W.exmOne X.K (clsV d) (.ref C) = some r.isSome := by
  obtain ⟨C, z1, z2, z3, _⟩ := g.exh x ys ns h
  refine ⟨C, z1, fun d r hi => ?_⟩
  obtain ⟨h1, h2⟩ := hsB_in hh hi
  cases r with
  | none => exact (z3 d (h2 rfl)).1
  | some b => exact (z2 d (h1 b rfl).1).1
theorem cUs_ok {X : Cx} (g : GoodD G Z W w k clsV X) : ∀ {es : List Expr} {us : List TU}, cUs G X.N X.env.scope es = some us → us.length = es.length ∧ noStar es = true ∧ PGs X es (TgU (kx X Z) us)
  | [], us, h => by
    simp only [cUs] at h
    cases h
    exact ⟨rfl, rfl, gu_nil⟩
  | e :: es, us, h => by
    simp only [cUs] at h
    split at h
    · rename_i u us' h1 h2
      cases h
      obtain ⟨q1, q2, q3⟩ := cUs_ok g h2
      unfold cU1 at h1
      split at h1
      · rename_i x p
        split at h1
        · rename_i hx
          cases hi : ixB X.N x with
          | none => rw [hi] at h1; cases h1
          | some i =>
            rw [hi] at h1
            cases h1
            exact ⟨by simp [q1], by simp [noStar, isStar, q2], gu_name (g_name g.nd (ixB_ok hi) (locB_ok hx) (loc_fn g hx)) q3 rfl⟩
        · cases h1
      · rename_i y py x p
        split at h1
        · rename_i n j hn hj
          cases h1
          have hv : PE X (.Name y py) (T1 (kx X Z) W0 (evE w (.var j))) := by
            unfold varB at hj
            split at hj
            · rename_i hv
              obtain ⟨z1, z2⟩ := and_inv hv
              exact s_var (ixB_ok hj) (visB_ok z2) (ok_debug z1) (ok_classdict z1)
            · cases hj
          exact ⟨by simp [q1], by simp [noStar, isStar, q2], gu_att g.inj g.cf (g.na n) (g.an1 n x (ixB_ok hn)) hv q3⟩
        · cases h1
      · cases h1
    · cases h
mutual
theorem cS_ok {W : XW} {X : Cx} (g : GoodD G Z W w k clsV X) : ∀ (s : Stmt) (i : S), cS G X.N X.env.scope s = some i → PS X s (TS1 (kx X Z) W (evS w i))
  | .Pass pos, i, h => by
    simp only [cS] at h
    cases h
    exact ss_pass
  | .Break pos, i, h => by
    simp only [cS] at h
    cases h
    exact ss_brk
  | .Continue pos, i, h => by
    simp only [cS] at h
    cases h
    exact ss_cnt
  | .Return none pos, i, h => by
    simp only [cS] at h
    cases h
    exact ss_retN
  | .Return (some e) pos, i, h => by
    simp only [cS] at h
    cases hc : cE G X.N X.env.scope e with
    | none => rw [hc] at h; cases h
    | some ie =>
      rw [hc] at h
      cases h
      exact ss_ret (cE_ok g.toGood e ie hc)
  | .Expr e pos, i, h => by
    unfold cS at h
    split at h
    · split at h
      · cases h
        refine PS.imp ps_doc fun D σ H h => ?_
        obtain ⟨env, M, ρ, e, m, p⟩ := h
        simp only [evS] at p
        exact p.nx e m
      · cases h
    · split at h
      · cases h
      · rename_i hq
        cases hc : cE G X.N X.env.scope e with
        | none => rw [hc] at h; cases h
        | some ie =>
          rw [hc] at h
          cases h
          exact ss_expr (cE_ok g.toGood e ie hc) (by simpa using hq)
  | .If t a b pos, i, h => by
    simp only [cS] at h
    split at h
    · rename_i it ia ib ht ha hb
      cases h
      exact ss_if (orV_ok ht (fun t' h' => cT_ok g.toGood t t' h') (fun i' h' => cE_ok g.toGood t i' h')) (cSs_ok g a ia ha) (cSs_ok g b ib hb)
    · cases h
  | .While t b o pos, i, h => by
    simp only [cS] at h
    split at h
    · split at h
      · rename_i it ib ht hb
        cases h
        exact ss_while g.own (orV_ok ht (fun t' h' => cT_ok g.toGood t t' h') (fun i' h' => cE_ok g.toGood t i' h')) (cSs_ok g b ib hb)
      · cases h
    · cases h
  | .For tg it b o pos, i, h => by
    simp only [cS] at h
    split at h
    · split at h
      · cases h
      · rename_i hq
        split at h
        · rename_i gg ii ib hg hi hb
          cases h
          exact ss_for g.own g.calm (mkI_ok g.toGood hi (fun i' h' => cE_ok g.toGood it i' h') (fun is h' => cArgs_ok g.toGood it is h')) (cG_ok g.nd g.calm (fun x hx => ⟨locB_ok hx, loc_fn g hx⟩) tg gg hg) (cSs_ok g b ib hb) (set_plain (by simpa using hq))
        · cases h
    · cases h
  | .Assign ts e pos, i, h => by
    unfold cS at h
    split at h <;> rename_i heq <;> (first | (cases heq; done) | (cases h; done) | skip)
    · cases heq
      exact lcAsg_ok g h
    cases heq
    rename ∀ (y : Str) (py : Pos) (elt tg iter : Expr) (ifs : List Expr) (isa : Int) (scope : Scope) (pos : Pos), _ = _ → _ = _ → False => hno
    clear hno
    split at h
    · rename_i t
      split at h
      · rename_i a b p2
        split at h
        · cases h
        · rename_i hsl
          split at h
          · rename_i ia ib ie ha hb he
            cases h
            exact ss_setI g.un (by simpa using hsl) (cE_ok g.toGood a ia ha) (cE_ok g.toGood b ib hb) (cE_ok g.toGood e ie he)
          · cases h
      · rename_i a x p2
        split at h
        · rename_i n ia ie hn ha he
          cases h
          exact ss_setA g.inj g.cf (g.na n) (g.an1 n x (ixB_ok hn)) (cE_ok g.toGood a ia ha) (cE_ok g.toGood e ie he)
        · cases h
      · rename_i ns kt pt
        split at h
        · cases h
        · rename_i hq
          have hcp : isComp e = false := by simpa using hq
          split at h
          · rename_i es k2 pt2
            split at h
            · rename_i x px y py a b
              split at h
              · rename_i i1 j1 ia ib hi hj ha hb
                split at h
                · rename_i hc
                  cases h
                  simp only [Bool.and_eq_true, Bool.not_eq_true'] at hc
                  obtain ⟨⟨⟨⟨⟨⟨⟨c1, c2⟩, c3⟩, c4⟩, c5⟩, c6⟩, c7⟩, c8⟩ := hc
                  exact ss_par g.calm g.nd (ixB_ok hi) (ixB_ok hj) (by simpa using c1) (lclB_ok c2) (lclB_ok c3) c4 c5 (cE_ok g.toGood a ia ha) (cE_ok g.toGood b ib hb) (swap2 g.kind (lclB_ok c2) (lclB_ok c3) (ne_of_ix hi hj c1) c6 c4 c5 c7 c8)
                · cases h
              · cases h
            · rename_i x px y py z pz a b c
              split at h
              · rename_i i1 j1 l1 ia ib ic hi hj hl ha hb hcc
                split at h
                · rename_i hc
                  cases h
                  simp only [Bool.and_eq_true, Bool.not_eq_true'] at hc
                  obtain ⟨⟨⟨⟨⟨⟨⟨⟨⟨⟨⟨⟨c1, c2⟩, c3⟩, c4⟩, c5⟩, c6⟩, c7⟩, c8⟩, c9⟩, c10⟩, c11⟩, c12⟩, c13⟩ := hc
                  exact ss_par3 g.calm g.nd (ixB_ok hi) (ixB_ok hj) (ixB_ok hl) (by simpa using c1) (by simpa using c2) (by simpa using c3) (lclB_ok c4) (lclB_ok c5) (lclB_ok c6) c7 c8 c9 (cE_ok g.toGood a ia ha) (cE_ok g.toGood b ib hb) (cE_ok g.toGood c ic hcc)
                    (swap3 g.kind (lclB_ok c4) (lclB_ok c5) (lclB_ok c6) (ne_of_ix hi hj c1) (ne_of_ix hi hl c2) (ne_of_ix hj hl c3) c10 c11 c7 c8 c9 c12 c13)
                · cases h
              · cases h
            · cases h
          · rename_i e' hne
            split at h
            · rename_i gg ie hg he
              cases h
              refine ss_asg (cE_ok g.toGood e ie he) (cG_ok g.nd g.calm (fun x hx => ⟨locB_ok hx, loc_fn g hx⟩) _ gg hg) hcp (plain_swap (.inr ?_) (fun _ _ z => nomatch z)) rfl
              cases e <;> first | rfl | exact absurd rfl (hne _ _ _)
            · split at h
              · rename_i us ie hu he
                cases h
                obtain ⟨u1, u2, u3⟩ := cUs_ok g hu
                refine ss_unp g.calm (cE_ok g.toGood e ie he) u3 u1 u2 hcp (plain_swap (.inr ?_) (fun _ _ z => nomatch z))
                cases e <;> first | rfl | exact absurd rfl (hne _ _ _)
              · cases h
      · rename_i t' hn1 hn0 hn2
        split at h
        · cases h
        · rename_i hq
          have hcp : isComp e = false := by simpa using hq
          split at h
          · rename_i gg ie hg he
            cases h
            have h3 : isTupE t = false := by cases t <;> first | rfl | exact absurd rfl (hn2 _ _ _)
            have h4 : ∀ es p, t ≠ .List es p := fun es p z => by subst z; simp only [cG] at hg; cases hg
            have h5 : isStar t = false := by cases t <;> first | rfl | (simp only [cG] at hg; cases hg)
            exact ss_asg (cE_ok g.toGood e ie he) (cG_ok g.nd g.calm (fun x hx => ⟨locB_ok hx, loc_fn g hx⟩) t gg hg) hcp (plain_swap (.inl h3) h4) h5
          · cases h
    · cases h
  | .AugAssign t op e pos, i, h => by
    unfold cS at h
    split at h
    · rename_i x p2
      split at h
      · rename_i o j ie ho hj he
        split at h
        · rename_i hl
          cases h
          exact ss_aug (oi_of ho) g.nd (ixB_ok hj) (locB_ok hl) (loc_fn g hl) (cE_ok g.toGood e ie he)
        · cases h
      · cases h
    · rename_i a b p2
      split at h
      · cases h
      · rename_i hsl
        split at h
        · rename_i o ia ib ie ho ha hb he
          cases h
          exact ss_augI g.un (oi_of ho) (cE_ok g.toGood a ia ha) (cE_ok g.toGood b ib hb) (cE_ok g.toGood e ie he) (augPlain (by simpa using hsl))
        · cases h
    · rename_i a x p2
      split at h
      · rename_i o n ia ie ho hn ha he
        cases h
        exact ss_augA g.inj g.cf (g.na n) (g.an1 n x (ixB_ok hn)) (oi_of ho) (cE_ok g.toGood a ia ha) (cE_ok g.toGood e ie he)
      · cases h
    · cases h
  | .FunctionDef _ _ _ _ _ _ _ _ _ _, i, h => by simp only [cS] at h; cases h
  | .AsyncFunctionDef _ _ _ _ _ _ _ _ _ _, i, h => by simp only [cS] at h; cases h
  | .ClassDef _ _ _ _ _ _ _ _ _ _ _, i, h => by simp only [cS] at h; cases h
  | .Delete _ _, i, h => by simp only [cS] at h; cases h
  | .TypeAlias _ _ _ _ _ _ _, i, h => by simp only [cS] at h; cases h
  | .AnnAssign _ _ _ _ _, i, h => by simp only [cS] at h; cases h
  | .AsyncFor _ _ _ _ _, i, h => by simp only [cS] at h; cases h
  | .With _ _ _, i, h => by simp only [cS] at h; cases h
  | .AsyncWith _ _ _, i, h => by simp only [cS] at h; cases h
  | .Match _ _ _, i, h => by simp only [cS] at h; cases h
  | .Raise e c pos, i, h => by
    unfold cS at h
    split at h <;> rename_i heq <;> (first | (cases heq; done) | (cases h; done) | skip)
    cases heq
    split at h
    · rename_i x p p2 hq
      obtain ⟨q1, q2⟩ := and_inv hq
      cases hr : G.exr.lookup x with
      | none => rw [hr] at h; cases h
      | some c =>
        rw [hr] at h
        cases h
        obtain ⟨C, e1, e2, e3⟩ := g.exr x c hr
        exact ss_rais g.calm g.tk e1 (HX.pmk_herr e3 (g.rm.mono (by unfold lv RS; omega)) (glB_ok q2) e2 (ok_debug q1))
    · cases h
  | .Try b hs o f pos, i, h => by
    unfold cS at h
    split at h <;> rename_i heq <;> (first | (cases heq; done) | (cases h; done) | skip)
    · cases heq
      split at h
      · rename_i ys ns ib hl hb
        split at h
        · rename_i hq
          obtain ⟨q1, q2⟩ := and_inv hq
          cases hh : hsB (fun _ => hSs G X.N X.env.scope _) ns ys with
          | none => rw [hh] at h; cases h
          | some hs =>
            rw [hh] at h
            cases h
            obtain ⟨C, z1, z2⟩ := g.hx hl hh
            refine ss_try_only g.stk g.frm ⟨glB_ok q2, ok_debug q1, .inl z1⟩ g.tk z2 (fun W' pn xe tk po => cSs_ok (g.tr pn xe tk po) b ib hb) (fun d c a oe pn hi hz hf => ?_)
            have q := (hsB_in hh hi).1 c rfl
            exact hSs_ok (X := X.suite a ((a, oe) :: pn)) ⟨g.nd, g.free, g.cn⟩ (fun x hx => hx.elim .inr fun z => .inl (g.cell x z)) _ c q.2
        · cases h
      · cases h
    · cases heq
      split at h
      · rename_i ys ns ib i0 hl hb hi0
        split at h
        · rename_i hq
          obtain ⟨hq, q3⟩ := and_inv hq
          obtain ⟨q1, q2⟩ := and_inv hq
          cases hh : hsB (fun c => hN G X.N X.env.scope _ c _) ns ys with
          | none => rw [hh] at h; cases h
          | some hs =>
            rw [hh] at h
            cases h
            obtain ⟨C, z1, z2⟩ := g.hx hl hh
            refine ss_try_as g.stk g.frm g.nd (ixB_ok hi0) (lclB_ok q3) ⟨glB_ok q2, ok_debug q1, .inl z1⟩ g.tk z2 (fun W' pn xe tk po => cSs_ok (g.tr pn xe tk po) b ib hb) (fun d c a oe pn hi hz hf => ?_)
            have q := (hsB_in hh hi).1 c rfl
            exact hN_ok g.hs (fun x hx => hx.elim .inr fun z => .inl (g.cell x z)) (g.xs hl q.1) hz hf (ixB_ok hi0) q.2
        · cases h
      · cases h
  | .TryStar _ _ _ _ _, i, h => by simp only [cS] at h; cases h
  | .Assert _ _ _, i, h => by simp only [cS] at h; cases h
  | .Import _ _, i, h => by simp only [cS] at h; cases h
  | .ImportFrom _ _ _ _, i, h => by simp only [cS] at h; cases h
  | .Global _ _, i, h => by simp only [cS] at h; cases h
  | .Nonlocal _ _, i, h => by simp only [cS] at h; cases h
termination_by s => sizeOf s
theorem cSs_ok {W : XW} {X : Cx} (g : GoodD G Z W w k clsV X) : ∀ (ss : List Stmt) (is : List S), cSs G X.N X.env.scope ss = some is → PSs X ss (TS1 (kx X Z) W (evSs w is))
  | [], is, h => by
    simp only [cSs] at h
    cases h
    exact ss_nil
  | s :: ss, is, h => by
    simp only [cSs] at h
    split at h
    · rename_i is' h2
      cases h
      refine ss_cons ?_ (cSs_ok g ss is' h2)
      cases hc : cS G X.N X.env.scope s with
      | none => exact ss_bad
      | some i => exact cS_ok g s i hc
    · cases h
termination_by ss => sizeOf ss
end
end
end HP

set_option Elab.async false
set_option linter.all false
set_option autoImplicit false
set_option maxRecDepth 100000
set_option maxHeartbeats 8000000
/-! The defs of a text, all at once; the law's end. -/
namespace HP
open PySem L2

/-- a def as it is read: where it stands, its names (parameters first), its plain form -/
structure Df where
  x : Str
  d : He.DefD
  N : List Str
  ps : List Str
  fn : Fn
  mu : List Nat := []
def fscB (N P : List Str) (sc : Scope) : Bool :=
  (match sc.kind with | .function => true | _ => false) && !sc.isCoroutine && !sc.isGenerator && decide N.Nodup && decide (N.take P.length = P) &&
    (P.all fun x => locB sc x) && (sc.names.all fun y => !(match y.2 with | .free => true | _ => false))
theorem fscB_ok {N P : List Str} {sc : Scope} (h : fscB N P sc = true) : FnScope N P sc := by
  unfold fscB at h
  simp only [Bool.and_eq_true, Bool.not_eq_true', decide_eq_true_eq, List.all_eq_true] at h
  obtain ⟨⟨⟨⟨⟨⟨h1, h2⟩, h3⟩, h4⟩, h5⟩, h6⟩, h7⟩ := h
  refine ⟨?_, h2, h3, h4, h5, fun x hx => locB_ok (h6 x hx), fun y hy e => ?_⟩
  · split at h1
    · assumption
    · cases h1
  · have := h7 y hy
    rw [e] at this
    cases this
structure DfOk (G : Gt) (D : Df) : Prop where
  sc : fscB D.N D.ps D.d.scope = true
  rd : cSs { G with mu := D.mu } D.N D.d.scope D.d.body = some D.fn.body
  pn : D.fn.params = D.ps.length
  nn : D.fn.names = D.N.length
  bd : ∀ (kV doc pm : Value) (an : Option Addr) (cdv ct : Value) (us : List Value), us.length = D.ps.length → bindArgs (PySem.W.fnOf D.d.name D.d.qual D.d.params D.d.body D.d.scope .none kV doc pm an cdv ct) ⟨us, []⟩ = pure (D.ps.zip us)
  nd : D.d.dfl = []
  nk : D.d.kwd = []

theorem EnvR.start {K : Kx} {ρ : List Addr} {H : Hp} {as : List PV} {vs : List V} {N : List Str} (r : VRs K ρ H as vs) (hl : as.length ≤ N.length) : EnvR K ρ H (as.map some ++ List.replicate (N.length - as.length) none) (start N vs) := by
  have hv := r.length
  refine ⟨by simp [L2.start, hv], fun i v e => ?_⟩
  by_cases hi : i < as.length
  · rw [List.getElem?_append_left (by simpa using hi), List.getElem?_map] at e
    cases h : as[i]? with
    | none => rw [h] at e; cases e
    | some a =>
      rw [h] at e
      simp at e
      subst e
      obtain ⟨u, hu, ru⟩ := r.get h
      refine ⟨u, ?_, ru⟩
      unfold L2.start
      rw [List.getElem?_append_left (by simp [hv, hi]), List.getElem?_map, hu]
      rfl
  · rw [List.getElem?_append_right (by simpa using hi)] at e
    rw [List.getElem?_replicate] at e
    split at e <;> cases e
theorem PC.of_out {K : Kx} {W : XW} {ρ : List Addr} {H : Hp} {c : Ctl} {M0 : Mem} {k : PV → Mem → List Addr → Hp → Prop} {Q : VK} (m0 : MemR K M0 ρ H) (h : Ps K W [] ρ H (c.out.trim M0) k) (hk : ∀ v M ρ' H', k v M ρ' H' → ∀ u, VR K ρ' H' v u → Q u H') (hW : ∀ c σ H', W c [] H' → W c σ H') : PC K W ρ H c { nx := fun _ H' => Q .non H', rt := Q } := by
  cases c with
  | nxt env M =>
    intro ρ' H' σ' f m e
    obtain ⟨ρ2, f2, m2, v2⟩ := m0.trim (v := .non) f m
    exact hk _ _ _ _ (h ρ2 H' f2 m2) _ vr_non
  | ret v M =>
    intro ρ' H' u f m r
    obtain ⟨ρ2, f2, m2, v2⟩ := m0.trim (v := v) f m
    exact hk _ _ _ _ (h ρ2 H' f2 m2) _ (v2 u r)
  | brk env M => exact h.elim
  | cnt env M => exact h.elim
  | exc c env M =>
    intro ρ' H' σ' f m e
    obtain ⟨ρ2, f2, m2, v2⟩ := m0.trim (v := .non) f m
    exact hW c σ' H' (h ρ2 H' f2 m2)
  | fail => exact h.elim

section
variable {P : Program} {w : World} {K : PySem.W.Frag} {mg : Str → Option Value} {base : Heap} {Z : Zx} {G : Gt} {fs : List Fn} {glob : Nat → Option PV} {fuel : Nat} {clsV : Nat → Value}
/-- what is known of the text, whatever the depth -/
structure TxF (P : Program) (w : World) (K : PySem.W.Frag) (mg : Str → Option Value) (base : Heap) (Z : Zx) (G : Gt) (glob : Nat → Option PV) (clsV : Nat → Value) : Prop where
  free : ∀ x, G.free.contains x = true → mg x = none
  cn : ∀ x g, G.cns.lookup x = some g → ∃ v u uv, glob g = some v ∧ mg x = some uv ∧ RelV u uv ∧ ∀ ρ H, VR ⟨K, w, Z⟩ ρ H v u
  cf : ClsF ⟨K, w, Z⟩
  cl : ∀ x c, G.cls.lookup x = some c → mg x = some (.ref (Z.cls c)) ∧ c < Z.nc
  eqs : ∀ Y : Cx, Y.prog = P → Y.w = w → Y.K = K → Y.mg = mg → Y.base = base → EqF Y Z
  an1 : ∀ i x, G.atn[i]? = some x → Z.anm i = x
  an2 : ∀ x, vstr x.cps.toList = true → x ∉ G.atn → ∀ i, Z.anm i ≠ x
  na : ∀ n, AtF K Z n (nattB G n)
  exr : ∀ x c, G.exr.lookup x = some c → ∃ C, clsV c = .ref C ∧ mg x = some (.ref C) ∧ HX.HerrF P K C
  exh : ∀ x ys ns, G.exh.lookup x = some (ys, ns) → ∃ C, mg x = some (.ref C) ∧ (∀ d ∈ ys, PySem.W.exmOne K (clsV d) (.ref C) = some true ∧ PySem.W.kitOne K (clsV d) (.ref C) = some true) ∧
    (∀ d ∈ ns, PySem.W.exmOne K (clsV d) (.ref C) = some false ∧ PySem.W.kitOne K (clsV d) (.ref C) = some false) ∧ ∀ d ∈ ys, ∃ D, clsV d = .ref D ∧ ExcC K D
/-- a def of the text at its place -/
def At (K : PySem.W.Frag) (DS : List Df) (fs : List Fn) (fi n : Nat) (p : Addr → Prop) : Prop := ∃ D ∈ DS, fs[fi]? = some D.fn ∧ n = D.ps.length ∧ ∃ f fd, FunD K D.d.name D.d.qual D.d.params D.d.body D.d.scope [] [] f fd ∧ p f
/-- where the defs, methods, __init__s stand -/
structure Pl (K : PySem.W.Frag) (mg : Str → Option Value) (Z : Zx) (G : Gt) (DS : List Df) (fs : List Fn) : Prop where
  sF : ∀ x fi n, G.fns.lookup x = some (fi, n) → At K DS fs fi n fun f => mg x = some (.ref f)
  sM : ∀ x l, G.mets.lookup x = some l → ∀ c fi n, (c, fi, n) ∈ l → At K DS fs fi n fun f => Meth K (Z.cls c) x f
  sI : ∀ c fi n fz, G.inits.lookup c = some (fi, n, fz) → c < Z.nc ∧ (fz = true → c = 0 → Z.atoms = true) ∧ At K DS fs fi n fun f => Mk K (Z.cls c) f
/-- every def, at every level -/
theorem one_ok {DS : List Df} (T : TxF P w K mg base Z G glob clsV) (S : Pl K mg Z G DS fs) (hD : ∀ D ∈ DS, DfOk G D) : ∀ (k : Nat) (D : Df) (fi : Nat) (f : Addr) (fd : FuncData), D ∈ DS → fs[fi]? = some D.fn → FunD K D.d.name D.d.qual D.d.params D.d.body D.d.scope [] [] f fd →
    FnOk P w K mg base (L2.CX P w) (lv k) f fd D.ps (spF ⟨K, w, Z⟩ clsV (run fs glob fuel k fi) D.ps.length)
  | 0, D, fi, f, fd, _, _, _ => by
    refine ⟨fun vs H Q E h => ?_, fun A outer s H args us vs Q E _ _ _ _ h => ?_⟩
    · obtain ⟨as, M, ρ, _, _, _, p⟩ := h
      exact p.elim
    · obtain ⟨as, M, ρ, _, _, _, p⟩ := h
      exact p.elim
  | k + 1, D, fi, f, fd, hm, hf, F => by
    have o := hD D hm
    have S' := fscB_ok o.sc
    have ih := one_ok T S hD k
    have ih1 : ∀ (D : Df) (fi : Nat) (f : Addr) (fd : FuncData), D ∈ DS → fs[fi]? = some D.fn → FunD K D.d.name D.d.qual D.d.params D.d.body D.d.scope [] [] f fd →
        FnOk P w K mg base (L2.CX P w) (lv k - 1) f fd D.ps (spF ⟨K, w, Z⟩ clsV (run fs glob fuel (k - 1) fi) D.ps.length) := by
      match k with
      | 0 =>
        intro D fi f fd _ _ _
        refine ⟨fun vs H Q E h => ?_, fun A outer s H args us vs Q E _ _ _ _ h => ?_⟩
        · obtain ⟨as, M, ρ, _, _, _, p⟩ := h
          exact p.elim
        · obtain ⟨as, M, ρ, _, _, _, p⟩ := h
          exact p.elim
      | j + 1 => exact one_ok T S hD j
    rw [lv_succ]
    refine F.ok S' (fun vs H Q E h => ?_) (fun cdv A outer s H vs Q E hr h => ?_)
    · obtain ⟨as, M, ρ, hl, _, r, _⟩ := h
      rw [r.length, hl]
    · obtain ⟨as, M, ρ, hl, m, r, p⟩ := h
      refine ⟨_, cSs_ok (G := { G with mu := D.mu }) (Z := Z) (W := fun c _ H' => E (clsV c) none H') (w := ⟨run fs glob fuel k, glob, fuel, run fs glob fuel (k - 1)⟩) (k := k) (clsV := clsV) ?_ _ _ o.rd, ?_⟩
      · exact { nd := S'.nd, calm := rfl, room := hr, kind := S'.kind, cell := fun _ _ => rfl
                tk := Takes.imp (takes_of rfl rfl rfl rfl) fun cls d σ H ⟨c, e1, e2, z⟩ => by
                  subst e1 e2
                  exact z
                own := passes_of rfl
                eqs := fun Y e1 e2 e3 e4 e5 => T.eqs Y e1 e2 e3 e4 e5
                free := T.free, cn := T.cn, cf := T.cf, cl := T.cl, an1 := T.an1, an2 := T.an2, na := T.na, exr := T.exr, exh := T.exh, stk := rfl, frm := rfl
                fn := fun x fi n h => by
                  obtain ⟨D', hm', h1, rfl, f', fd', F', h2⟩ := S.sF x fi n h
                  exact ⟨f', fd', D'.ps, ih D' fi f' fd' hm' h1 F', h2, F'.kp, F'.bindsN (hD D' hm').bd⟩
                mt := fun x l h c fi n hl => by
                  obtain ⟨D', hm', h1, rfl, f', fd', F', h2⟩ := S.sM x l h c fi n hl
                  exact ⟨f', fd', D'.ps, h2, ih D' fi f' fd' hm' h1 F', F'.bindsN (hD D' hm').bd⟩
                ini := fun c fi n fz h => by
                  obtain ⟨g1, g2, D', hm', h1, rfl, f', fd', F', h2⟩ := S.sI c fi n fz h
                  exact ⟨g1, g2, f', fd', D'.ps, h2, ih1 D' fi f' fd' hm' h1 F', F'.bindsN (hD D' hm').bd⟩ }
      · have hle : as.length ≤ D.N.length := by
          have := congrArg List.length S'.pre
          rw [List.length_take] at this
          omega
        refine ⟨as.map some ++ List.replicate (D.N.length - as.length) none, M, ρ, EnvR.start r hle, m, ?_⟩
        rw [run_succ] at p
        unfold runB at p
        rw [hf] at p
        simp only at p
        rw [if_pos ⟨by rw [hl, o.pn], by rw [o.pn, o.nn, ← hl]; exact hle⟩, o.nn] at p
        exact PC.of_out m p (fun v M ρ' H' z => z) (fun c σ H' z => z)
termination_by k => k
end
theorem vrs_ints {K : Kx} {ρ : List Addr} {H : Hp} : ∀ ns : List Int, VRs K ρ H (ns.map PV.int) (ns.map V.int)
  | [] => vrs_nil
  | n :: ns => vrs_cons vr_int (vrs_ints ns)
/-- the law's promise, from what its plain form comes to -/
def spLaw (K : PySem.W.Frag) : Sp := fun vs H Q _ => ∃ (a : Addr) (ns : List Int), vs = [.ref a] ∧ ns.length ≤ 63 ∧ Only H ∧ SqL K H a (ns.map V.int) ∧ ∀ H', Q (.bl true) H'
theorem law_imp {P : Program} {w : World} {K : PySem.W.Frag} {mg : Str → Option Value} {base : Heap} {Z : Zx} {clsV : Nat → Value} {k : Nat} {f : Addr} {fd : FuncData} {ps : List Str} {r : List PV → Mem → Res PV}
    (F : FnOk P w K mg base (L2.CX P w) k f fd ps (spF ⟨K, w, Z⟩ clsV r 1)) (h : ∀ ns : List Int, ns.length ≤ 63 → ∃ M, r [scriptV ns] [] = .ok (.bl true) M) : FnOk P w K mg base (L2.CX P w) k f fd ps (spLaw K) := by
  refine F.imp fun vs H Q E hs => ?_
  obtain ⟨a, ns, rfl, hl, ho, hq, q⟩ := hs
  obtain ⟨M, hr⟩ := h ns hl
  have hL : LR ⟨K, w, Z⟩ H a (ns.map V.int) := by
    rcases hq with (z | ⟨o, z⟩) | z
    · rcases ho a with y | ⟨o, xs, y⟩
      · rw [y] at z; cases z
      · rw [y] at z; cases z
    · exact .inl ⟨o, z⟩
    · exact .inr fun H' => .inr z
  refine ⟨[scriptV ns], [], [], rfl, ⟨rfl, List.nodup_nil, fun n c a e => by simp at e⟩, vrs_cons (vr_rol hL (vrs_ints ns)) vrs_nil, ?_⟩
  rw [hr]
  exact fun ρ' H' f m u ru => by
    cases ru.bl_
    exact q H'
end HP

set_option Elab.async false
set_option linter.all false
set_option autoImplicit false
set_option maxRecDepth 100000
set_option maxHeartbeats 4000000
/-! Defs that say super(): what the head must tell of them. -/
namespace HP
open PySem L2

/-- a def with the cell of its class, as it stands: the cells' addresses left out -/
def fnC (K : PySem.W.Frag) (p : Str × Option Str) : He.FnW := match K.lookup (He.fAd K p) with
  | some ⟨_, _, .func fd, _⟩ => some (fd.name, fd.qualname, fd.params, fd.body, fd.scope, fd.globals, fd.closure.map fun q => (q.1, 0), fd.builtins)
  | _ => none
def valC (d : He.DefD) : He.FnW := some (d.name, d.qual, d.params, .stmts d.body, d.scope, mainGlobals, [("__class__", 0)], builtinsNs)
/-- super() in the def d for an instance of C -/
def supB (K : PySem.W.Frag) (file : Str) (C D : Addr) (cc : Addr) (cd : Value) : Bool :=
  (match cd with
  | .ref cda => (match K.lookup cda with
    | some ⟨_, _, .fields vs, _⟩ => (match (vs[2]? : Option Value) with
      | some (Value.str f _) => decide (f = file)
      | _ => false)
    | _ => false)
  | _ => false) &&
  (match K.lookup cc with
  | some ⟨_, _, .cell (some (.ref D')), _⟩ => decide (D' = D)
  | _ => false) && (PySem.W.clsIn K D).isSome && (PySem.W.clsIn K C).isSome && decide (PySem.W.mroIn K C (.ref D) = some true) && He.eqO (PySem.W.nsIn K mainGlobals "super") (some none) && He.eqO (PySem.W.nsIn K cStatics "thirdparty.any") (some none)
theorem supB_ok {P : Program} {K : PySem.W.Frag} {file : Str} {C D cc : Addr} {cd : Value} (hf : ((P.main.file : Str) == file) = true) (ht : (P.main.scope.names.lookup ("super" : Str)).isSome = false) (h : supB K file C D cc cd = true) : ∃ cda, cd = .ref cda ∧ HX.SupF P K C D cc cda := by
  unfold supB at h
  obtain ⟨g6, h7⟩ := and_inv h
  obtain ⟨g5, h6⟩ := and_inv g6
  obtain ⟨g4, h5⟩ := and_inv g5
  obtain ⟨g3, h4⟩ := and_inv g4
  obtain ⟨g2, h3⟩ := and_inv g3
  obtain ⟨h1, h2⟩ := and_inv g2
  clear h g6 g5 g4 g3 g2
  obtain ⟨c3, h3⟩ := Option.isSome_iff_exists.mp h3
  obtain ⟨c4, h4⟩ := Option.isSome_iff_exists.mp h4
  cases cd with
  | ref cda =>
    simp only at h1
    split at h1
    · rename_i o1 o2 vs o3 hk
      split at h1
      · rename_i f t hv
        have e := of_decide_eq_true h1
        subst e
        split at h2
        · rename_i p1 p2 D' p3 hc
          have e := of_decide_eq_true h2
          subst e
          exact ⟨cda, rfl, ⟨_, _, vs, _, _, _, hk, hv, hf⟩, ⟨_, _, _, hc⟩, ⟨_, h3⟩, ⟨_, h4⟩, of_decide_eq_true h5, He.eqO_ok h6, He.eqO_ok h7, ht⟩
        · cases h2
      · cases h1
    · cases h1
  | _ => cases h1
/-- the text of such an __init__ -/
def herrTxB (b : List Stmt) : Bool := match b with
  | [.Expr (.Call (.Attribute (.Call (.Name s _) [] [] _) n p2) [.Constant (.str _) _ _] [] p4) _] => decide (s = "super") && decide (n = "__init__") && (p2.endLine == p4.line)
  | _ => false
theorem herrTxB_ok {b : List Stmt} (h : herrTxB b = true) : ∃ m j p0 p1 p2 p3 p4 p5, b = HX.herrBody m j p0 p1 p2 p3 p4 p5 ∧ (p2.endLine == p4.line) = true := by
  unfold herrTxB at h
  split at h
  · simp only [Bool.and_eq_true, decide_eq_true_eq] at h
    obtain ⟨⟨rfl, rfl⟩, h3⟩ := h
    exact ⟨_, _, _, _, _, _, _, _, rfl, h3⟩
  · cases h
/-- a def with the cell of its class, as it stands in the text -/
def supScB (sc : Scope) (sf : Str) : Bool := (match sc.kind with | .function => true | _ => false) && !sc.isCoroutine && !sc.isGenerator && (sc.names.all fun y => !(match y.2 with | .cell => true | _ => false)) && glB sc "super" && (match sc.names.lookup ("__class__" : Str) with | some .free => true | _ => false) && lclB sc sf
structure HerrTx (d : He.DefD) : Prop where
  tx : herrTxB d.body = true
  ex : ∃ ar : Arg, (d.params.posonlyargs ++ d.params.args).head? = some ar ∧ supScB d.scope ar.arg = true ∧ ∀ (kV doc pm : Value) (an : Option Addr) (cdv ct : Value) (cc : Addr) (v : Value), bindArgs (PySem.W.ksFn d.name d.qual d.params d.body d.scope .none kV doc pm an cdv ct cc) ⟨[v], []⟩ = pure [(ar.arg, v)]
theorem supScB_ok {sc : Scope} {sf : Str} (h : supScB sc sf = true) : HX.SupS sc sf ∧ (∀ x ∈ sc.names, x.2 ≠ .cell) ∧ sc.isCoroutine = false ∧ sc.isGenerator = false := by
  unfold supScB at h
  simp only [Bool.and_eq_true, Bool.not_eq_true', List.all_eq_true] at h
  obtain ⟨⟨⟨⟨⟨⟨h1, h2⟩, h3⟩, h4⟩, h5⟩, h6⟩, h7⟩ := h
  refine ⟨⟨?_, ?_, ?_, lclB_ok h7⟩, fun x hx e => ?_, h2, h3⟩
  · split at h1
    · assumption
    · cases h1
  · unfold glB at h5
    split at h5
    · assumption
    · cases h5
  · split at h6
    · assumption
    · cases h6
  · have := h4 x hx
    rw [e] at this
    cases this
def veB : List Value := [.type "ValueError", .type "Exception", .type "BaseException", .type "object"]
/-- an own exception that is made without arguments; d its __init__'s text -/
def herrB (K : PySem.W.Frag) (file : Str) (C : Addr) (d : He.DefD) : Bool :=
  (match K.lookup (He.fAd K d.at_) with
  | some ⟨_, _, .func fd, _⟩ => (match fd.closure, fd.defaults with
    | [(_, cc)], .none => supB K file C (He.ga K d.at_.1) cc fd.code && PySem.W.codeIn K fd.code d.qual
    | _, _ => false)
  | _ => false) &&
  PySem.W.excInitIn K C veB "ValueError.__new__" && decide (PySem.W.subIn K (.ref C) (.type "ValueError") = some true) && decide (PySem.W.subIn K (.ref C) (.type "BaseException") = some true) && decide (PySem.W.typeIn K (.ref C) = some (.type "type")) && PySem.W.keepIn K (.ref C) &&
  He.eqO (PySem.W.ks_superIn K C (He.ga K d.at_.1) "__init__") (some (some (.builtin "ValueError.__init__"))) && He.eqO (PySem.W.findIn K (.ref C) "__init__") (some (some (.ref (He.fAd K d.at_)))) && decide (PySem.W.typeIn K (.ref (He.fAd K d.at_)) = some (.type "function"))
theorem herrB_ok {P : Program} {K : PySem.W.Frag} {file : Str} {C : Addr} {d : He.DefD} (hf : ((P.main.file : Str) == file) = true) (ht : (P.main.scope.names.lookup ("super" : Str)).isSome = false) (T : HerrTx d) (e : fnC K d.at_ = valC d) (h : herrB K file C d = true) : HX.HerrF P K C := by
  unfold herrB at h
  obtain ⟨h, h9⟩ := and_inv h
  obtain ⟨h, h8⟩ := and_inv h
  obtain ⟨h, h7⟩ := and_inv h
  obtain ⟨h, h6⟩ := and_inv h
  obtain ⟨h, h5⟩ := and_inv h
  obtain ⟨h, h4⟩ := and_inv h
  obtain ⟨h, h3⟩ := and_inv h
  obtain ⟨h1, h2⟩ := and_inv h
  obtain ⟨ar, t1, t2, t3⟩ := T.ex
  obtain ⟨s1, s2, s3, s4⟩ := supScB_ok t2
  obtain ⟨m, j, p0, p1, p2, p3, p4, p5, hb, hl⟩ := herrTxB_ok T.tx
  unfold fnC at e
  cases q : K.lookup (He.fAd K d.at_) with
  | none =>
    rw [q] at h1
    cases h1
  | some o =>
    obtain ⟨oc, od, dt, osl⟩ := o
    rw [q] at h1 e
    cases dt with
    | func fd =>
      obtain ⟨n1, n2, n3, n4, n5, n6, n7, n8, n9, n10, n11, n12, n13, n14, n15⟩ := fd
      have e2 : (some (n1, n2, n3, n4, n5, n6, n7.map fun q => (q.1, 0), n15) : He.FnW) = valC d := e
      unfold valC at e2
      simp only [Option.some.injEq, Prod.mk.injEq] at e2
      obtain ⟨z1, z2, z3, z4, z5, z6, z7, z8⟩ := e2
      subst z1 z2 z3 z4 z5 z6 z8
      simp only at h1
      split at h1
      · rename_i y cc
        obtain ⟨u1, u2⟩ := and_inv h1
        obtain ⟨cda, rfl, SF⟩ := supB_ok hf ht u1
        have ey : y = ("__class__" : Str) := by
          simp at z7
          exact z7
        subst ey
        refine ⟨⟨_, _, cc, cda, d.name, d.qual, m, d.params, d.scope, .none, n9, n10, n11, n14, oc, n12, od, osl, p0, p1, p2, p3, p4, p5, j, ar, SF, s1, ?_, u2, t1, fun s e => ?_, s2, s3, s4, hl, He.eqO_ok h7, He.eqO_ok h8, of_decide_eq_true h9⟩, h2, of_decide_eq_true h3, of_decide_eq_true h4, of_decide_eq_true h5, h6⟩
        · rw [← hb]
          exact q
        · rw [← hb]
          exact .of_eq (t3 _ _ _ _ _ _ _ _)
      · cases h1
    | _ => cases h1
/-- what isinstance asks of an exception's class -/
def excCB (K : PySem.W.Frag) (D : Addr) : Bool :=
  He.eqO (PySem.W.findIn K (.ref D) "__getattribute__") (some (some (.builtin "BaseException.__getattribute__"))) && He.eqO (PySem.W.findIn K (.ref D) "__getattr__") (some none) && decide (PySem.W.subIn K (.ref D) (.type "BaseException") = some true) && PySem.W.hasDictIn K D &&
  He.eqO (PySem.W.findIn K (.ref D) "__class__") (some (some (.builtin "object.__class__"))) && He.eqO (PySem.W.specialIn K (.builtin "object.__class__") "__get__") (some (some (.builtin "getset_descriptor.__get__"))) && decide (PySem.W.takesIn K (.builtin "object.__class__") = some true) && decide (PySem.W.mroIn K D (.type "object") = some true)
theorem excCB_ok {K : PySem.W.Frag} {D : Addr} (h : excCB K D = true) : ExcC K D := by
  unfold excCB at h
  obtain ⟨h, h8⟩ := and_inv h
  obtain ⟨h, h7⟩ := and_inv h
  obtain ⟨h, h6⟩ := and_inv h
  obtain ⟨h, h5⟩ := and_inv h
  obtain ⟨h, h4⟩ := and_inv h
  obtain ⟨h, h3⟩ := and_inv h
  obtain ⟨h1, h2⟩ := and_inv h
  exact ⟨He.eqO_ok h1, He.eqO_ok h2, of_decide_eq_true h3, h4, He.eqO_ok h5, He.eqO_ok h6, of_decide_eq_true h7, of_decide_eq_true h8⟩
end HP

set_option Elab.async false
set_option linter.all false
set_option autoImplicit false
set_option maxRecDepth 100000
set_option maxHeartbeats 8000000
/-! What the top leaves, read by one look; the law's end. -/
namespace HP
open PySem L2

/-! ### the module's constants -/
mutual
/-- a plain value, as the written part has it -/
def pvB (K : PySem.W.Frag) : PV → Value → Bool
  | .non, u => (match u with | .none => true | _ => false)
  | .bl b, u => (match u with | .bool c => b == c | _ => false)
  | .int i, u => (match u with | .int j _ => decide (i = j) | _ => false)
  | .str s, u => (match u with | .str y _ => decide (y.cps.toList = s) && vstr s | _ => false)
  | .tup vs, u => (match u with
    | .ref a => (match K.lookup a with
      | some ⟨.type c, _, .seq its _, _⟩ => decide (c = "tuple") && decide (its.size ≤ sizeLine) && pvsB K vs its.toList
      | _ => false)
    | _ => false)
  | .rol _, _ => false
  | .ref _, _ => false
  | .obj _ _ _, _ => false
  | .rod _ _, _ => false
  | .ty _, _ => false
def pvsB (K : PySem.W.Frag) : List PV → List Value → Bool
  | [], us => us.isEmpty
  | v :: vs, us => (match us with
    | [] => false
    | u :: ur => pvB K v u && pvsB K vs ur)
end
mutual
theorem pvB_ok {K : PySem.W.Frag} {w : World} {Z : Zx} : ∀ (v : PV) (uv : Value), pvB K v uv = true → ∃ u, RelV u uv ∧ ∀ ρ H, VR ⟨K, w, Z⟩ ρ H v u
  | .non, uv, h => by
    simp only [pvB] at h
    split at h
    · exact ⟨.non, rfl, fun _ _ => vr_non⟩
    · cases h
  | .bl b, uv, h => by
    simp only [pvB] at h
    split at h
    · have e := eq_of_beq h
      subst e
      exact ⟨.bl b, rfl, fun _ _ => vr_bl⟩
    · cases h
  | .int i, uv, h => by
    simp only [pvB] at h
    split at h
    · have e := of_decide_eq_true h
      subst e
      exact ⟨.int i, ⟨_, rfl⟩, fun _ _ => vr_int⟩
    · cases h
  | .str s, uv, h => by
    simp only [pvB] at h
    split at h
    · rename_i y _
      obtain ⟨h, hv⟩ := and_inv h
      have e := of_decide_eq_true h
      exact ⟨.str y, ⟨_, rfl⟩, fun _ _ => vr_str e hv⟩
    · cases h
  | .tup vs, uv, h => by
    simp only [pvB] at h
    split at h
    · rename_i a
      split at h
      · rename_i c od its n sl hk
        simp only [Bool.and_eq_true, decide_eq_true_eq] at h
        obtain ⟨⟨h1, h2⟩, h3⟩ := h
        subst h1
        obtain ⟨us, r, q⟩ := pvsB_ok (w := w) (Z := Z) vs its.toList h3
        refine ⟨.ref a, rfl, fun ρ H => vr_tup (.inr (.inr fun H' => .inr ⟨_, its, n, hk, rfl, rfl, h2, r⟩)) (q ρ H)⟩
      · cases h
    · cases h
  | .rol _, uv, h => by simp only [pvB] at h; cases h
  | .ref _, uv, h => by simp only [pvB] at h; cases h
  | .obj _ _ _, uv, h => by simp only [pvB] at h; cases h
  | .rod _ _, uv, h => by simp only [pvB] at h; cases h
  | .ty _, uv, h => by simp only [pvB] at h; cases h
theorem pvsB_ok {K : PySem.W.Frag} {w : World} {Z : Zx} : ∀ (vs : List PV) (uvs : List Value), pvsB K vs uvs = true → ∃ us, Vals us uvs ∧ ∀ ρ H, VRs ⟨K, w, Z⟩ ρ H vs us
  | [], uvs, h => by
    simp only [pvsB] at h
    have e := List.isEmpty_iff.mp h
    subst e
    exact ⟨[], .nil, fun _ _ => vrs_nil⟩
  | v :: vs, uvs, h => by
    simp only [pvsB] at h
    split at h
    · cases h
    · rename_i u ur
      obtain ⟨h1, h2⟩ := and_inv h
      obtain ⟨w1, r, q⟩ := pvB_ok (w := w) (Z := Z) v u h1
      obtain ⟨ws, rs, qs⟩ := pvsB_ok (w := w) (Z := Z) vs ur h2
      exact ⟨w1 :: ws, .cons r rs, fun ρ H => vrs_cons (q ρ H) (qs ρ H)⟩
end
/-! a dict of the module -/
def strOf : PV → Str
  | .str s => ⟨s.toArray⟩
  | _ => Str.empty
def keyB (k : PV) (e : DictEntry) : Bool := match k with
  | .str s => (match e.key with
    | .str x _ => decide (x.cps.toList = s)
    | _ => false)
  | _ => false
def keysB : List PV → List DictEntry → Bool
  | [], es => es.isEmpty
  | k :: ks, es => (match es with
    | [] => false
    | e :: es => keyB k e && keysB ks es)
theorem keyB_ok {k : PV} {e : DictEntry} (h : keyB k e = true) : ∃ x t, k = .str x.cps.toList ∧ e.key = .str x t := by
  unfold keyB at h
  split at h
  · split at h
    · rename_i x t hk
      have := of_decide_eq_true h
      subst this
      exact ⟨x, t, rfl, hk⟩
    · cases h
  · cases h
theorem isStr_str {x z : Str} {t : Tok} : (Value.str x t).isStr z = decide (x = z) := by
  show (x == z) = _
  rw [Bool.eq_iff_iff]
  simp
theorem find_keys {z : Str} : ∀ {ks : List PV} {es : List DictEntry}, keysB ks es = true → (es.any (·.refKey) = false) ∧ (match keyIx z.cps.toList ks with
    | none => es.find? (·.key.isStr z) = none
    | some j => ∃ e, es[j]? = some e ∧ es.find? (·.key.isStr z) = some e)
  | [], es, h => by
    unfold keysB at h
    have e := List.isEmpty_iff.mp h
    subst e
    exact ⟨rfl, rfl⟩
  | k :: ks, es, h => by
    unfold keysB at h
    cases es with
    | nil => cases h
    | cons e es =>
      obtain ⟨h1, h2⟩ := and_inv h
      obtain ⟨x, t, rfl, hk⟩ := keyB_ok h1
      obtain ⟨i1, i2⟩ := find_keys (z := z) h2
      have hr : e.refKey = false := by
        unfold DictEntry.refKey
        rw [hk]
      refine ⟨by rw [List.any_cons, hr, i1]; rfl, ?_⟩
      unfold keyIx
      rw [List.find?_cons, hk, isStr_str]
      by_cases hx : x = z
      · subst hx
        simp
      · have hne : ¬ x.cps.toList = z.cps.toList := fun q => hx (str_eq q)
        simp only [hne, if_false, decide_eq_false hx]
        cases hi : keyIx z.cps.toList ks with
        | none =>
          rw [hi] at i2
          simpa using i2
        | some j =>
          rw [hi] at i2
          obtain ⟨e', q1, q2⟩ := i2
          exact ⟨e', by simpa using q1, q2⟩
def rodB (K : PySem.W.Frag) (x : Str) (ks vs : List PV) : Bool := match PySem.W.nsIn K mainGlobals x with
  | some (some (.ref a)) => decide (a = He.ga K x) && (match K.lookup a with
    | some ⟨_, _, .dict es _, _⟩ => keysB ks es.toList && pvsB K vs (es.toList.map (·.val))
    | _ => false)
  | _ => false
def conB (K : PySem.W.Frag) (c : Str × PV) : Bool := match c.2 with
  | .rod ks vs => rodB K c.1 ks vs
  | v => match PySem.W.nsIn K mainGlobals c.1 with
    | some (some u) => pvB K v u
    | _ => false
/-- the tables among the constants -/
def tabsOf (CS : List (Str × PV)) : List He.Tab := CS.filterMap fun c => match c.2 with
  | .rod ks _ => some ((fun K => He.ga K c.1), ks.map strOf)
  | _ => none
theorem Vals.val {us : List V} {uvs : List Value} (h : Vals us uvs) {j : Nat} {uv : Value} (e : uvs[j]? = some uv) : ∃ u, us[j]? = some u ∧ RelV u uv := by
  have hl := h.length
  have hj := (List.getElem?_eq_some_iff.mp e).1
  have h1 : us[j]? = some us[j] := List.getElem?_eq_getElem (by omega)
  obtain ⟨w, q1, q2⟩ := h.get h1
  rw [e] at q1
  cases q1
  exact ⟨_, h1, q2⟩
theorem conB_ok {K : PySem.W.Frag} {w : World} {Z : Zx} {h : Heap} {mg : Str → Option Value} (X : K.In h) (G : h.Ns mainGlobals mg) {c : Str × PV} (b : conB K c = true) (ht : ∀ ks vs, c.2 = .rod ks vs → ∃ es n, KDict K w (He.ga K c.1) es n) : ∃ u uv, mg c.1 = some uv ∧ RelV u uv ∧ ∀ ρ H, VR ⟨K, w, Z⟩ ρ H c.2 u := by
  unfold conB at b
  split at b
  · rename_i ks vs hv
    obtain ⟨es2, n, D⟩ := ht ks vs hv
    rw [hv]
    unfold rodB at b
    split at b
    · rename_i a e
      obtain ⟨b1, b2⟩ := and_inv b
      have ea := of_decide_eq_true b1
      split at b2
      · rename_i oc od es en sl hk
        obtain ⟨b3, b4⟩ := and_inv b2
        obtain ⟨us, q1, q2⟩ := pvsB_ok (w := w) (Z := Z) vs _ b4
        rw [← ea] at D
        have heq := D.at_
        rw [hk] at heq
        cases heq
        refine ⟨.ref a, .ref a, PySem.W.mg_of X G e, rfl, fun ρ H => ?_⟩
        unfold VR
        refine ⟨a, us, rfl, ⟨_, _, D, fun z => ?_⟩, q2 ρ H⟩
        obtain ⟨i1, i2⟩ := find_keys (z := z) b3
        cases hi : keyIx z.cps.toList ks with
        | none =>
          rw [hi] at i2
          simp only
          unfold PySem.W.nsIn
          rw [hk]
          simp only [i2, i1]
          rfl
        | some j =>
          rw [hi] at i2
          obtain ⟨e', z1, z2⟩ := i2
          obtain ⟨u, q3, q4⟩ := Vals.val q1 (j := j) (uv := e'.val) (by rw [List.getElem?_map, z1]; rfl)
          refine ⟨u, e'.val, q3, ?_, q4⟩
          unfold PySem.W.nsIn
          rw [hk]
          simp only [z2]
      · cases b2
    · cases b
  · split at b
    · rename_i u e
      obtain ⟨w', r, q⟩ := pvB_ok (w := w) (Z := Z) c.2 u b
      exact ⟨w', u, PySem.W.mg_of X G e, r, q⟩
    · cases b
/-! ### the classes -/
/-- a text: defs, constants, classes, what is left free, attributes, the classes that lack each, methods, __init__s, the own == of class 0 -/
structure Tx where
  DS : List Df
  CS : List (Str × PV)
  CL : List Str
  FR : List Str
  AT : List Str := []
  NA : List (List Nat) := []
  MT : List (Str × List (Nat × Nat × Nat)) := []
  IN : List (Nat × Nat × Nat × Bool) := []
  ED : List He.DefD := []
  /-- own exceptions; those that are made without arguments; except clauses; their __init__'s text; the program's file -/
  EX : List Str := []
  ER : List Nat := []
  EH : List (Str × List Nat × List Nat) := []
  SI : List He.DefD := []
  FI : Str := Str.empty
def anmOf (AT : List Str) (i : Nat) : Str := (AT[i]?).getD ⟨#[1114112 + i]⟩
def zOf (K : PySem.W.Frag) (t : Tx) : Zx := ⟨t.CL.length, fun c => He.ga K (t.CL.getD c Str.empty), anmOf t.AT, !t.ED.isEmpty⟩
theorem anm_at {AT : List Str} {i : Nat} {x : Str} (h : AT[i]? = some x) : anmOf AT i = x := by unfold anmOf; rw [h]; rfl
theorem anm_out {AT : List Str} {i : Nat} (h : AT[i]? = none) : anmOf AT i = ⟨#[1114112 + i]⟩ := by unfold anmOf; rw [h]; rfl
theorem anm_inj {AT : List Str} (hn : AT.Nodup) (hv : ∀ x ∈ AT, vstr x.cps.toList = true) : ∀ i j, anmOf AT i = anmOf AT j → i = j := by
  have out : ∀ {k : Nat} {x : Str}, x ∈ AT → x = ⟨#[1114112 + k]⟩ → False := fun {k x} hx e => by
    have := hv x hx
    rw [e] at this
    simp [vstr] at this
    omega
  intro i j h
  cases hi : AT[i]? with
  | none =>
    rw [anm_out hi] at h
    cases hj : AT[j]? with
    | none =>
      rw [anm_out hj] at h
      injection h with h
      have := congrArg Array.toList h
      simp at this
      exact this
    | some y =>
      rw [anm_at hj] at h
      exact (out (List.mem_of_getElem? hj) h.symm).elim
  | some x =>
    rw [anm_at hi] at h
    cases hj : AT[j]? with
    | none =>
      rw [anm_out hj] at h
      exact (out (List.mem_of_getElem? hi) h).elim
    | some y =>
      rw [anm_at hj] at h
      subst h
      exact nodupIx hn hi hj
theorem anm_not {AT : List Str} {x : Str} (hv : vstr x.cps.toList = true) (hx : x ∉ AT) (i : Nat) : anmOf AT i ≠ x := by
  intro h
  cases hi : AT[i]? with
  | none =>
    rw [anm_out hi] at h
    rw [← h] at hv
    simp [vstr] at hv
    omega
  | some y =>
    rw [anm_at hi] at h
    exact hx (h ▸ List.mem_of_getElem? hi)
def tyL : List String := ["NoneType", "bool", "int", "str", "tuple", "list", "dict"]
/-- what is asked of one class -/
def cls1 (K : PySem.W.Frag) (C : Addr) : Bool :=
  (PySem.W.plainGet K C Str.empty && PySem.W.hasDictIn K C && PySem.W.plainOver K C && He.eqO (PySem.W.findIn K (.ref C) "__setattr__") (some (some (.builtin "object.__setattr__")))) &&
  (He.eqO (PySem.W.findIn K (.ref C) "__class__") (some (some (.builtin "object.__class__"))) && decide (PySem.W.mroIn K C (.type "object") = some true)) &&
  (tyL.all fun T => decide (PySem.W.kitOne K (.type T) (.ref C) = some false) && (decide (T = "NoneType") || decide (PySem.W.kitOne K (.ref C) (.type T) = some false)))
def clsB (K : PySem.W.Frag) (CL : List Str) : Bool :=
  (CL.isEmpty || (He.eqO (PySem.W.specialIn K (.builtin "object.__class__") "__get__") (some (some (.builtin "getset_descriptor.__get__"))) && decide (PySem.W.takesIn K (.builtin "object.__class__") = some true))) &&
  (CL.all fun x => cls1 K (He.ga K x)) && (CL.zipIdx.all fun p => CL.zipIdx.all fun q => decide (PySem.W.kitOne K (.ref (He.ga K q.1)) (.ref (He.ga K p.1)) = some (p.2 == q.2)))
theorem clsB_ok {K : PySem.W.Frag} {w : World} {t : Tx} (h : clsB K t.CL = true) : ClsF ⟨K, w, zOf K t⟩ := by
  unfold clsB at h
  obtain ⟨h, h3⟩ := and_inv h
  obtain ⟨h1, h2⟩ := and_inv h
  rw [List.all_eq_true] at h2 h3
  have at_ : ∀ c, c < t.CL.length → ∃ x, t.CL[c]? = some x ∧ (zOf K t).cls c = He.ga K x := fun c hc => by
    refine ⟨t.CL[c], List.getElem?_eq_getElem hc, ?_⟩
    show He.ga K (t.CL.getD c Str.empty) = _
    rw [List.getD_eq_getElem?_getD, List.getElem?_eq_getElem hc]
    rfl
  have one : ∀ c, c < t.CL.length → cls1 K ((zOf K t).cls c) = true := fun c hc => by
    obtain ⟨x, hx, e⟩ := at_ c hc
    rw [e]
    exact h2 x (List.mem_of_getElem? hx)
  have ne : ∀ c, c < t.CL.length → t.CL.isEmpty = false := fun c hc => by
    cases q : t.CL with
    | nil => rw [q] at hc; simp at hc
    | cons a b => rfl
  refine ⟨fun c hc => ?_, fun c T hc hT => ?_, fun c d hc hd => ?_, fun c T hc hT => ?_⟩
  · have o := one c hc
    rw [ne c hc, Bool.false_or] at h1
    obtain ⟨a1, a2⟩ := and_inv h1
    obtain ⟨o, _⟩ := and_inv o
    obtain ⟨o1, o2⟩ := and_inv o
    obtain ⟨o1, b4⟩ := and_inv o1
    obtain ⟨o1, b3⟩ := and_inv o1
    obtain ⟨b1, b2⟩ := and_inv o1
    obtain ⟨c1, c2⟩ := and_inv o2
    exact ⟨⟨b1, b2, b3, He.eqO_ok b4⟩, He.eqO_ok c1, He.eqO_ok a1, of_decide_eq_true a2, of_decide_eq_true c2⟩
  · have o := (and_inv (one c hc)).2
    rw [List.all_eq_true] at o
    exact of_decide_eq_true (and_inv (o T hT)).1
  · obtain ⟨x, hx, e⟩ := at_ c hc
    obtain ⟨y, hy, e'⟩ := at_ d hd
    have m1 : (x, c) ∈ t.CL.zipIdx := List.mem_zipIdx_iff_getElem?.mpr hx
    have m2 : (y, d) ∈ t.CL.zipIdx := List.mem_zipIdx_iff_getElem?.mpr hy
    have := List.all_eq_true.mp (h3 _ m1) _ m2
    have := of_decide_eq_true this
    show PySem.W.kitOne K (.ref ((zOf K t).cls d)) (.ref ((zOf K t).cls c)) = some (c == d)
    rw [e, e']
    exact this
  · have o := (and_inv (one c hc)).2
    rw [List.all_eq_true] at o
    have hm : T ∈ tyL ∧ T ≠ "NoneType" := by
      simp only [List.mem_cons, List.not_mem_nil, or_false] at hT
      rcases hT with rfl | rfl | rfl | rfl | rfl | rfl <;> exact ⟨by decide, by decide⟩
    have := (and_inv (o T hm.1)).2
    rw [Bool.or_eq_true] at this
    rcases this with z | z
    · exact absurd (of_decide_eq_true z) hm.2
    · exact of_decide_eq_true z
/-- which classes lack an attribute's name -/
def naB (K : PySem.W.Frag) (t : Tx) : Bool := t.NA.zipIdx.all fun p => p.1.all fun c => He.eqO (PySem.W.findIn K (.ref ((zOf K t).cls c)) ((zOf K t).anm p.2)) (some none)
def mtF (K : PySem.W.Frag) (C : Addr) (m : Str) : Bool := He.eqO (PySem.W.findIn K (.ref C) m) (some (some (.ref (He.ma K C m)))) && (PySem.W.isFn K (.ref (He.ma K C m)) && PySem.W.keepIn K (.ref (He.ma K C m)))
def mtsB (K : PySem.W.Frag) (t : Tx) : Bool := t.MT.all fun p => p.2.all fun e => mtF K ((zOf K t).cls e.1) p.1
def inB (K : PySem.W.Frag) (t : Tx) : Bool := t.IN.all fun p => PySem.W.makesIn K ((zOf K t).cls p.1) && mtF K ((zOf K t).cls p.1) "__init__" && PySem.W.keepIn K (.ref ((zOf K t).cls p.1))
/-- what is asked of an own == -/
def eqsB (K : PySem.W.Frag) (C f : Addr) (k0 k1 : Str) : Bool :=
  (He.eqO (PySem.W.findIn K (.ref C) "__eq__") (some (some (.ref f))) && PySem.W.isFn K (.ref f) && He.eqO (PySem.W.findIn K (.ref C) "__ne__") (some (some (.builtin "object.__ne__"))) && decide (PySem.W.subIn K (.ref C) (.type "object") = some true)) &&
  ((["NoneType", "bool", "int", "str", "tuple", "list"].all fun T : String => decide (PySem.W.subIn K (.ref C) (.type T) = some false) && decide (PySem.W.subIn K (.type T) (.ref C) = some false)) &&
  (He.eqO (PySem.W.findIn K (.ref C) k0) (some none) && He.eqO (PySem.W.findIn K (.ref C) k1) (some none)))
def edB (K : PySem.W.Frag) (t : Tx) : Bool := match t.ED with
  | [] => true
  | d :: _ => decide (0 < t.CL.length) && eqsB K ((zOf K t).cls 0) (He.fAd K d.at_) ((zOf K t).anm 0) ((zOf K t).anm 1)
/-- an exception's class -/
def exV (K : PySem.W.Frag) (t : Tx) (c : Nat) : Value := .ref (He.ga K (t.EX.getD c Str.empty))
def exrB (K : PySem.W.Frag) (t : Tx) : Bool := t.ER.all fun c => decide (c < t.EX.length) && (match t.SI with
  | d :: _ => herrB K t.FI (He.ga K (t.EX.getD c Str.empty)) d
  | [] => false)
def exhB (K : PySem.W.Frag) (t : Tx) : Bool := t.EH.all fun h => decide (h.1 ∈ t.EX) &&
  (h.2.1.all fun c => decide (PySem.W.exmOne K (exV K t c) (.ref (He.ga K h.1)) = some true) && decide (PySem.W.kitOne K (exV K t c) (.ref (He.ga K h.1)) = some true) && excCB K (He.ga K (t.EX.getD c Str.empty))) &&
  (h.2.2.all fun c => decide (PySem.W.exmOne K (exV K t c) (.ref (He.ga K h.1)) = some false) && decide (PySem.W.kitOne K (exV K t c) (.ref (He.ga K h.1)) = some false))
/-- the text of such an own == -/
def eqTx (C k0 k1 : Str) (b : List Stmt) : Bool := match b with
  | [.Return (some (.BoolOp .And [.Call (.Name i _) [.Name o _, .Name c _] [] _, .Compare (.Attribute (.Name s1 _) a1 _) [.Eq] [.Attribute (.Name o1 _) b1 _] _, .Compare (.Attribute (.Name s2 _) a2 _) [.Eq] [.Attribute (.Name o2 _) b2 _] _] _)) _] =>
    decide (i = "isinstance") && decide (o = "other") && decide (c = C) && decide (s1 = "self") && decide (a1 = k0) && decide (o1 = "other") && decide (b1 = k0) && decide (s2 = "self") && decide (a2 = k1) && decide (o2 = "other") && decide (b2 = k1)
  | _ => false
theorem eqTx_ok {C k0 k1 : Str} {b : List Stmt} (h : eqTx C k0 k1 b = true) : EqShape C k0 k1 b := by
  unfold eqTx at h
  split at h
  · simp only [Bool.and_eq_true, decide_eq_true_eq] at h
    obtain ⟨⟨⟨⟨⟨⟨⟨⟨⟨⟨rfl, rfl⟩, rfl⟩, rfl⟩, rfl⟩, rfl⟩, rfl⟩, rfl⟩, rfl⟩, rfl⟩, rfl⟩ := h
    exact ⟨_, _, _, _, _, _, _, _, _, _, _, _, _, _, _, _, (), rfl, rfl⟩
  · cases h
/-- .. as it stands in the text -/
structure EdOk (t : Tx) (d : He.DefD) : Prop where
  nd : d.dfl = []
  nk : d.kwd = []
  tx : eqTx (t.CL.getD 0 Str.empty) (anmOf t.AT 0) (anmOf t.AT 1) d.body = true
  sc : fscB ["self", "other"] ["self", "other"] d.scope = true
  s1 : d.scope.names.lookup ("isinstance" : Str) = some .globalImplicit
  s2 : d.scope.names.lookup (t.CL.getD 0 Str.empty) = some .globalImplicit
  db : (t.CL.getD 0 Str.empty == ("__debug__" : Str)) = false
  fr : ("isinstance" : Str) ∈ t.FR
  bd : ∀ (kV doc pm : Value) (an : Option Addr) (cdv ct : Value) (us : List Value), us.length = 2 → bindArgs (PySem.W.fnOf d.name d.qual d.params d.body d.scope .none kV doc pm an cdv ct) ⟨us, []⟩ = pure ((["self", "other"] : List Str).zip us)
def txB (K : PySem.W.Frag) (t : Tx) : Bool := (t.CS.all fun c => conB K c) && (clsB K t.CL && naB K t && mtsB K t && inB K t && edB K t && (exrB K t && exhB K t))

/-! ### the text's table -/
def localsOf (ps : List Str) (sc : Scope) : List Str := sc.names.filterMap fun y => match y.2 with
  | .local => if ps.contains y.1 then none else some y.1
  | .cell => if ps.contains y.1 then none else some y.1
  | _ => none
/-- a def of the top; a method -/
def mkDf (x : Str) (st : Stmt) (fn : Fn) (more : List Str) (mu : List Nat := []) : Df :=
  let ps := (defArgs st).args.map (·.arg)
  { x := x, d := { at_ := (x, none), name := x, qual := x, params := defArgs st, body := defBody st, scope := defScope st }, N := ps ++ localsOf ps (defScope st) ++ more, ps := ps, fn := fn, mu := mu }
/-- .. that has another name, too -/
def mkDa (al x : Str) (st : Stmt) (fn : Fn) (more : List Str) (mu : List Nat := []) : Df :=
  let ps := (defArgs st).args.map (·.arg)
  { x := al, d := { at_ := (al, none), name := x, qual := x, params := defArgs st, body := defBody st, scope := defScope st }, N := ps ++ localsOf ps (defScope st) ++ more, ps := ps, fn := fn, mu := mu }
def mkMf (C x : Str) (st : Stmt) (fn : Fn) (more : List Str) (mu : List Nat := []) : Df :=
  let ps := (defArgs st).args.map (·.arg)
  { x := x, d := { at_ := (C, some x), name := x, qual := ⟨C.cps ++ #[46] ++ x.cps⟩, params := defArgs st, body := defBody st, scope := defScope st }, N := ps ++ localsOf ps (defScope st) ++ more, ps := ps, fn := fn, mu := mu }
/-- a method's text -/
def mth (s : Stmt) (j : Nat) : Stmt := match s with
  | .ClassDef _ _ _ b _ _ _ _ _ _ _ => b.getD j (.Pass ⟨0, 0, 0, 0⟩)
  | s => s
def isTop (D : Df) : Bool := match D.d.at_.2 with | none => true | some _ => false
def mkG (t : Tx) : Gt :=
  { fns := t.DS.zipIdx.filterMap fun p => if isTop p.1 then some (p.1.x, p.2, p.1.ps.length) else none, cns := t.CS.zipIdx.map fun p => (p.1.1, p.2), cls := t.CL.zipIdx.map fun p => (p.1, p.2), free := t.FR
    mets := t.MT, inits := t.IN, atn := t.AT, natt := t.NA, mu := []
    exr := t.ER.filterMap (fun c => (t.EX[c]?).map fun x => (x, c)), exh := t.EH }
/-- methods stand where they are said to -/
def plB (t : Tx) : Bool := (t.MT.all fun p => p.2.all fun e => decide (e.1 < t.CL.length) && (match t.DS[e.2.1]? with
    | some D => decide (D.d.at_ = (t.CL.getD e.1 Str.empty, some p.1)) && decide (e.2.2 = D.ps.length)
    | none => false)) &&
  (t.IN.all fun p => decide (p.1 < t.CL.length) && (!p.2.2.2 || decide (p.1 ≠ 0) || !t.ED.isEmpty) && (match t.DS[p.2.1]? with
    | some D => decide (D.d.at_ = (t.CL.getD p.1 Str.empty, some ("__init__" : Str))) && decide (p.2.2.1 = D.ps.length)
    | none => false)) &&
  decide t.AT.Nodup && (t.AT.all fun x => vstr x.cps.toList) && (t.DS.all fun D => !isTop D || decide (D.d.at_ = (D.x, none)))
def globOf (CS : List (Str × PV)) (i : Nat) : Option PV := CS[i]?.map (·.2)
theorem globOf_glv {CS : List (Str × PV)} {vs : List PV} (h : CS.map (·.2) = vs) : glv vs = globOf CS := by
  subst h
  funext i
  unfold glv globOf
  rw [List.getElem?_map]
theorem lookup_mem {α β : Type} [BEq α] [LawfulBEq α] : ∀ {l : List (α × β)} {a : α} {b : β}, l.lookup a = some b → (a, b) ∈ l := lookup_mem'
theorem mkG_fns {t : Tx} {x : Str} {fi n : Nat} (h : (mkG t).fns.lookup x = some (fi, n)) : ∃ D ∈ t.DS, D.x = x ∧ isTop D = true ∧ (t.DS.map (·.fn))[fi]? = some D.fn ∧ n = D.ps.length := by
  have hm := lookup_mem h
  obtain ⟨⟨D, i⟩, hD, e⟩ := List.mem_filterMap.mp hm
  simp only at e
  split at e
  · rename_i ht
    simp only [Option.some.injEq, Prod.mk.injEq] at e
    obtain ⟨e1, e2, e3⟩ := e
    subst e2
    have hi := List.mem_zipIdx_iff_getElem?.mp hD
    refine ⟨D, List.mem_of_getElem? hi, e1, ht, ?_, e3.symm⟩
    rw [List.getElem?_map, hi]
    rfl
  · cases e
theorem mkG_cns {t : Tx} {x : Str} {g : Nat} (h : (mkG t).cns.lookup x = some g) : ∃ v, (x, v) ∈ t.CS ∧ globOf t.CS g = some v := by
  have hm := lookup_mem h
  obtain ⟨⟨c, i⟩, hD, e⟩ := List.mem_map.mp hm
  simp only [Prod.mk.injEq] at e
  obtain ⟨e1, e2⟩ := e
  subst e1 e2
  have hi := List.mem_zipIdx_iff_getElem?.mp hD
  refine ⟨c.2, List.mem_of_getElem? hi, ?_⟩
  unfold globOf
  rw [hi]
  rfl
theorem mkG_cls {t : Tx} {x : Str} {c : Nat} (h : (mkG t).cls.lookup x = some c) : x ∈ t.CL ∧ t.CL[c]? = some x := by
  have hm := lookup_mem h
  obtain ⟨⟨y, i⟩, hD, e⟩ := List.mem_map.mp hm
  simp only [Prod.mk.injEq] at e
  obtain ⟨e1, e2⟩ := e
  subst e1 e2
  have hi := List.mem_zipIdx_iff_getElem?.mp hD
  exact ⟨List.mem_of_getElem? hi, hi⟩

/-! ### the look -/
/-- the facts, the defs that are looked at -/
def faOf (t : Tx) : List He.Fa := t.FR.map He.Fa.free ++ (t.CL.map He.Fa.glo ++ ((t.DS.filter isTop).map (fun D => He.Fa.glo D.x) ++ t.EX.map He.Fa.glo))
def dsOf (t : Tx) : List He.DefD := t.DS.map (·.d) ++ t.ED
/-- what is read: the objects that the module's names reach, and the names of what stands beside the text -/
def asP (g : Addr → Option Obj) (n : Nat) : List Addr := cStatics :: He.asD g n
def siOf (K : PySem.W.Frag) (t : Tx) : List He.FnW := t.SI.map fun d => fnC K d.at_
def hookP (n : Nat) (t : Tx) : PySem.W.Hook where
  α := He.AlT × Bool × List He.FnW
  obs := fun s => (He.obsT (faOf t) (dsOf t) (tabsOf t.CS) (He.frG s.heap.get? (asP s.heap.get? n)), txB (He.frG s.heap.get? (asP s.heap.get? n)) t, siOf (He.frG s.heap.get? (asP s.heap.get? n)) t)
  val := fun w => (He.valT (dsOf t) (tabsOf t.CS) w, true, t.SI.map valC)
  says := fun w h => ∃ K : PySem.W.Frag, K.In h ∧ He.SaysT (faOf t) (dsOf t) (tabsOf t.CS) w K ∧ txB K t = true ∧ siOf K t = t.SI.map valC
  of := fun _ _ e => ⟨_, He.frG_in, congrArg Prod.fst e, congrArg (fun z => z.2.1) e, congrArg (fun z => z.2.2) e⟩
  keeps := fun _ _ _ ⟨K, hK, c⟩ k => ⟨K, PySem.W.Frag.In.keeps hK k, c⟩
def obP (n : Nat) (t : Tx) (s : PySem.W.SharedT) : He.AlT × Bool × List He.FnW :=
  (He.obsT (faOf t) (dsOf t) (tabsOf t.CS) (He.frG (HandSHeadRun.getT s) (asP (HandSHeadRun.getT s) n)), txB (He.frG (HandSHeadRun.getT s) (asP (HandSHeadRun.getT s) n)) t, siOf (He.frG (HandSHeadRun.getT s) (asP (HandSHeadRun.getT s) n)) t)
theorem obP_eq {n : Nat} {t : Tx} (s : PySem.W.SharedT) : obP n t s = (hookP n t).obs s.abs := by
  have e : HandSHeadRun.getT s = s.abs.heap.get? := funext (HandSHeadRun.getT_eq s)
  show (He.obsT (faOf t) (dsOf t) (tabsOf t.CS) (He.frG (HandSHeadRun.getT s) (asP (HandSHeadRun.getT s) n)), _) = (He.obsT (faOf t) (dsOf t) (tabsOf t.CS) (He.frG s.abs.heap.get? (asP s.abs.heap.get? n)), _)
  rw [e]
/-- what the text says of super() -/
structure ExOk (P : Program) (t : Tx) : Prop where
  si : ∀ d ∈ t.SI, HerrTx d ∧ ((P.main.file : Str) == t.FI) = true ∧ (P.main.scope.names.lookup ("super" : Str)).isSome = false

/-- no exception leaves a def whose promise does not speak of them -/
theorem FnOk.cx0 {P : Program} {w : World} {K : PySem.W.Frag} {mg : Str → Option Value} {base : Heap} {k : Nat} {f : Addr} {fd : FuncData} {ps : List Str} {sp : Sp} (F : FnOk P w K mg base (L2.CX P w) k f fd ps sp) (h : ∀ vs H Q E E', sp vs H Q E → sp vs H Q E') : FnOk P w K mg base CX0 k f fd ps sp := by
  refine ⟨F.len, fun A outer s H args us vs Q E hr e0 hb r hs => ?_⟩
  refine codeAny_mono (F.run A outer s H args us vs Q E0 hr e0 hb r (h _ _ _ _ _ hs)) fun r s' q => ?_
  cases r with
  | error e =>
    obtain ⟨_, _, _, _, _, _, _, _, _, _, _, _, z⟩ := (show L2.CX P w outer H s E0 e s' from q)
    exact z.elim
  | ok fl =>
    cases fl with
    | ret u => exact q
    | next => exact False.elim q
    | brk => exact False.elim q
    | cont => exact False.elim q

theorem mtF_ok {K : PySem.W.Frag} {C : Addr} {m : Str} (h : mtF K C m = true) : Meth K C m (He.ma K C m) := by
  obtain ⟨h1, h2⟩ := and_inv h
  obtain ⟨h2, h3⟩ := and_inv h2
  exact ⟨He.eqO_ok h1, h2, h3⟩
theorem cls_at {K : PySem.W.Frag} {t : Tx} {c : Nat} : (zOf K t).cls c = He.ga K (t.CL.getD c Str.empty) := rfl
/-- the law's end: the facts of the head, the readings, what the plain form comes to -/
theorem law_end {P : Program} {w : World} {K : PySem.W.Frag} {h : Heap} {mg : Str → Option Value} {fa : Addr} {t : Tx} {k fuel li : Nat} {L : Df}
    (hDS : ∀ D ∈ t.DS, DfOk (mkG t) D) (hED : ∀ d ∈ t.ED, EdOk t d) (hEx : ExOk P t) (hpl : plB t = true) (hL : t.DS[li]? = some L) (hps : L.ps = [("script" : Str)]) (hat : L.d.at_ = (L.x, none))
    (plain : ∀ ns : List Int, ns.length ≤ 63 → ∃ M, run (t.DS.map (·.fn)) (globOf t.CS) fuel (k + 1) li [scriptV ns] [] = .ok (.bl true) M)
    (X : K.In h) (G : h.Ns mainGlobals mg) (hfa : mg L.x = some (.ref fa)) (c : He.SaysT (faOf t) (dsOf t) (tabsOf t.CS) w K) (cc : txB K t = true ∧ siOf K t = t.SI.map valC) :
    ∃ fd : FuncData, (∀ (s : Shared) (v : Value), BindsTo s fd ⟨[v], []⟩ [("script", v)]) ∧ ∀ base : Heap, K.In base → base.Ns mainGlobals mg → FnOk P w K mg base CX0 (lv (k + 1)) fa fd ["script"] (spLaw K) := by
  have c1 := (He.ba (show (((faOf t).all fun f => f.ok K) && (dsOf t).all fun d => d.ok K) = true from congrArg (fun z : He.AlD => z.1) c.d)).1
  obtain ⟨cc, c_si⟩ := cc
  unfold txB at cc
  obtain ⟨cc, ce⟩ := and_inv cc
  obtain ⟨ce, c_ex⟩ := and_inv ce
  obtain ⟨c_exr, c_exh⟩ := and_inv c_ex
  obtain ⟨ce, c_ed⟩ := and_inv ce
  obtain ⟨ce, c_in⟩ := and_inv ce
  obtain ⟨ce, c_mt⟩ := and_inv ce
  obtain ⟨ccl, c_na⟩ := and_inv ce
  unfold plB at hpl
  obtain ⟨hpl, p_at⟩ := and_inv hpl
  obtain ⟨hpl, p_v⟩ := and_inv hpl
  obtain ⟨hpl, p_nd⟩ := and_inv hpl
  obtain ⟨p_mt, p_in⟩ := and_inv hpl
  have nd := of_decide_eq_true p_nd
  rw [List.all_eq_true] at p_v p_mt p_in p_at
  have hinj := anm_inj nd p_v
  have free : ∀ x, x ∈ t.FR → mg x = none := fun x hm =>
    He.free_ok X G (List.all_eq_true.mp c1 _ (List.mem_append_left _ (List.mem_map_of_mem hm)))
  have gloC : ∀ x ∈ t.CL, mg x = some (.ref (He.ga K x)) := fun x hm =>
    He.glo_ok X G (List.all_eq_true.mp c1 _ (List.mem_append_right _ (List.mem_append_left _ (List.mem_map_of_mem hm))))
  have glo : ∀ D ∈ t.DS, isTop D = true → mg D.x = some (.ref (He.ga K D.x)) := fun D hm ht =>
    He.glo_ok X G (List.all_eq_true.mp c1 _ (List.mem_append_right _ (List.mem_append_right _ (List.mem_append_left _ (List.mem_map_of_mem (f := fun D : Df => He.Fa.glo D.x) (List.mem_filter.mpr ⟨hm, ht⟩))))))
  have gloE : ∀ x ∈ t.EX, mg x = some (.ref (He.ga K x)) := fun x hm =>
    He.glo_ok X G (List.all_eq_true.mp c1 _ (List.mem_append_right _ (List.mem_append_right _ (List.mem_append_right _ (List.mem_map_of_mem hm)))))
  have hF : ∀ D ∈ t.DS, ∃ fd, FunD K D.d.name D.d.qual D.d.params D.d.body D.d.scope [] [] (He.fAd K D.d.at_) fd := fun D hm => by
    obtain ⟨i, hi⟩ := List.mem_iff_getElem?.mp hm
    obtain ⟨fd, F⟩ := c.d.def_ i (d := D.d) (by
      unfold dsOf
      rw [List.getElem?_append_left (by rw [List.length_map]; exact (List.getElem?_eq_some_iff.mp hi).1), List.getElem?_map, hi]; rfl)
    have o := hDS D hm
    unfold He.DefD.dvs He.DefD.kws at F
    rw [o.nd, o.nk] at F
    exact ⟨fd, F⟩
  have cn : ∀ x g, (mkG t).cns.lookup x = some g → ∃ v u uv, globOf t.CS g = some v ∧ mg x = some uv ∧ RelV u uv ∧ ∀ ρ H, VR ⟨K, w, zOf K t⟩ ρ H v u := fun x g hx => by
    obtain ⟨v, hm, hv⟩ := mkG_cns hx
    obtain ⟨u, uv, q1, q2, q3⟩ := conB_ok (w := w) (Z := zOf K t) X G (List.all_eq_true.mp cc _ hm) fun ks vs e => by
      have hT : ((fun K => He.ga K x), ks.map strOf) ∈ tabsOf t.CS := by
        unfold tabsOf
        rw [List.mem_filterMap]
        exact ⟨(x, v), hm, by simp only at e; rw [e]⟩
      obtain ⟨i, hi⟩ := List.mem_iff_getElem?.mp hT
      exact c.tab i hi
    exact ⟨v, u, uv, hv, q1, q2, q3⟩
  have cf : ClsF ⟨K, w, zOf K t⟩ := clsB_ok ccl
  have cl : ∀ x c, (mkG t).cls.lookup x = some c → mg x = some (.ref ((zOf K t).cls c)) ∧ c < (zOf K t).nc := fun x c hx => by
    obtain ⟨h1, h2⟩ := mkG_cls hx
    refine ⟨?_, (List.getElem?_eq_some_iff.mp h2).1⟩
    rw [cls_at, List.getD_eq_getElem?_getD, h2]
    exact gloC x h1
  have atm : (zOf K t).atoms = true → ∃ f fd, AtomF K (zOf K t) mg f fd := fun ha => by
    cases hE : t.ED with
    | nil =>
      have : (zOf K t).atoms = false := by show (!t.ED.isEmpty) = false; rw [hE]; rfl
      rw [this] at ha
      cases ha
    | cons d r =>
      have hm : d ∈ t.ED := by rw [hE]; exact List.mem_cons_self
      have o := hED d hm
      unfold edB at c_ed
      rw [hE] at c_ed
      simp only at c_ed
      obtain ⟨e0, e1⟩ := and_inv c_ed
      have h0 := of_decide_eq_true e0
      obtain ⟨e1, e2⟩ := and_inv e1
      obtain ⟨e1, q4⟩ := and_inv e1
      obtain ⟨e1, q3⟩ := and_inv e1
      obtain ⟨q1, q2⟩ := and_inv e1
      obtain ⟨e2, e3⟩ := and_inv e2
      obtain ⟨q5, q6⟩ := and_inv e3
      rw [List.all_eq_true] at e2
      obtain ⟨fd, F⟩ := c.d.def_ t.DS.length (d := d) (by
        unfold dsOf
        rw [List.getElem?_append_right (by simp), hE]
        simp)
      unfold He.DefD.dvs He.DefD.kws at F
      rw [o.nd, o.nk] at F
      have e0 : t.CL[0]? = some (t.CL.getD 0 Str.empty) := by
        rw [List.getD_eq_getElem?_getD, List.getElem?_eq_getElem h0]; rfl
      have hoo := cf.oo 0 0 h0 h0
      refine ⟨He.fAd K d.at_, fd, ⟨He.eqO_ok q1, q2, He.eqO_ok q3, of_decide_eq_true q4, fun T hT => ?_⟩, cf.ci 0 h0, He.eqO_ok q5, He.eqO_ok q6, by simpa using hoo, fun T hT => cf.bo 0 T h0 (by simpa [bltT] using hT), ?_, F.bindsN o.bd⟩
      · have := e2 T hT
        obtain ⟨z1, z2⟩ := and_inv this
        exact ⟨of_decide_eq_true z1, of_decide_eq_true z2⟩
      · exact ⟨_, _, _, _, _, t.CL.getD 0 Str.empty, (), F, eqTx_ok o.tx, fscB_ok o.sc, o.s1, o.s2, free _ o.fr, gloC _ (List.mem_of_getElem? e0), o.db, rfl⟩
  have txf : ∀ base : Heap, TxF P w K mg base (zOf K t) (mkG t) (globOf t.CS) (exV K t) := fun base =>
    { free := fun x hx => free x (by simpa [mkG] using hx), cn := cn, cf := cf, cl := cl
      eqs := fun Y e1 e2 e3 e4 e5 => by
        by_cases ha : (zOf K t).atoms = true
        · obtain ⟨f, fd, A⟩ := atm ha
          obtain ⟨r1, r2⟩ := (eq_all (P := P) (w := w) (K := K) (mg := mg) (base := base) (fun _ => A) 90).1 Y e1 e2 e3 e4 e5
          exact ⟨r1, r2, hinj⟩
        · obtain ⟨r1, r2⟩ := (eq_all (P := P) (w := w) (K := K) (mg := mg) (base := base) (Z := zOf K t) (f := 0) (fd := default) (fun z => absurd z ha) 90).1 Y e1 e2 e3 e4 e5
          exact ⟨r1, r2, hinj⟩
      an1 := fun i x hx => anm_at hx
      an2 := fun x hv hx i => anm_not hv hx i
      na := fun n c hc => by
        unfold nattB at hc
        cases hn : t.NA[n]? with
        | none =>
          have hn' : (mkG t).natt[n]? = none := hn
          rw [hn'] at hc
          cases hc
        | some cs =>
          have hn' : (mkG t).natt[n]? = some cs := hn
          rw [hn'] at hc
          unfold naB at c_na
          have := List.all_eq_true.mp (List.all_eq_true.mp c_na (cs, n) (List.mem_zipIdx_iff_getElem?.mpr hn)) c hc
          exact He.eqO_ok this
      exr := fun x c hx => by
        have hm := lookup_mem hx
        obtain ⟨c', hc', e⟩ := List.mem_filterMap.mp hm
        cases hE : t.EX[c']? with
        | none => rw [hE] at e; cases e
        | some y =>
          rw [hE] at e
          simp only [Option.map_some, Option.some.injEq, Prod.mk.injEq] at e
          obtain ⟨rfl, rfl⟩ := e
          have hg : t.EX.getD c' Str.empty = y := by rw [List.getD_eq_getElem?_getD, hE]; rfl
          have q := List.all_eq_true.mp c_exr c' hc'
          obtain ⟨_, q⟩ := and_inv q
          refine ⟨He.ga K y, by unfold exV; rw [hg], gloE y (List.mem_of_getElem? hE), ?_⟩
          cases hS : t.SI with
          | nil => rw [hS] at q; cases q
          | cons d r =>
            rw [hS] at q
            simp only [hg] at q
            obtain ⟨s1, s2, s3⟩ := hEx.si d (by rw [hS]; exact List.mem_cons_self)
            refine herrB_ok s2 s3 s1 ?_ q
            unfold siOf at c_si
            rw [hS] at c_si
            simp only [List.map_cons, List.cons.injEq] at c_si
            exact c_si.1
      exh := fun x ys ns hx => by
        have hm := lookup_mem hx
        have q := List.all_eq_true.mp c_exh _ hm
        obtain ⟨q, q3⟩ := and_inv q
        obtain ⟨q1, q2⟩ := and_inv q
        rw [List.all_eq_true] at q2 q3
        refine ⟨He.ga K x, gloE x (of_decide_eq_true q1), fun d hd => ?_, fun d hd => ?_, fun d hd => ⟨He.ga K (t.EX.getD d Str.empty), rfl, ?_⟩⟩
        · obtain ⟨z, _⟩ := and_inv (q2 d hd)
          obtain ⟨z1, z2⟩ := and_inv z
          exact ⟨of_decide_eq_true z1, of_decide_eq_true z2⟩
        · obtain ⟨z1, z2⟩ := and_inv (q3 d hd)
          exact ⟨of_decide_eq_true z1, of_decide_eq_true z2⟩
        · exact excCB_ok (and_inv (q2 d hd)).2 }
  have pl : Pl K mg (zOf K t) (mkG t) t.DS (t.DS.map (·.fn)) :=
    { sF := fun x fi n hx => by
        obtain ⟨D, hm, hDx, ht, h1, h2⟩ := mkG_fns hx
        obtain ⟨fd, F⟩ := hF D hm
        refine ⟨D, hm, h1, h2, _, fd, F, ?_⟩
        have := p_at D hm
        rw [ht] at this
        have := of_decide_eq_true (by simpa using this : decide (D.d.at_ = (D.x, none)) = true)
        rw [this, ← hDx]
        exact glo D hm ht
      sM := fun x l hx c fi n hl => by
        have hm := lookup_mem hx
        have q := List.all_eq_true.mp (p_mt _ hm) _ hl
        obtain ⟨q1, q2⟩ := and_inv q
        cases hD : t.DS[fi]? with
        | none => simp only [hD] at q2; cases q2
        | some D =>
          simp only [hD] at q2
          obtain ⟨q2, q3⟩ := and_inv q2
          have hmD := List.mem_of_getElem? hD
          obtain ⟨fd, F⟩ := hF D hmD
          refine ⟨D, hmD, by rw [List.getElem?_map, hD]; rfl, of_decide_eq_true q3, _, fd, F, ?_⟩
          rw [of_decide_eq_true q2]
          exact mtF_ok (List.all_eq_true.mp (List.all_eq_true.mp c_mt _ hm) _ hl)
      sI := fun c fi n fz hx => by
        have hm := lookup_mem hx
        have q := p_in _ hm
        obtain ⟨q, q2⟩ := and_inv q
        obtain ⟨q1, q0⟩ := and_inv q
        have hc : c < t.CL.length := of_decide_eq_true q1
        refine ⟨hc, fun hfz hc0 => ?_, ?_⟩
        · subst hfz hc0
          simpa [zOf] using q0
        · cases hD : t.DS[fi]? with
          | none => simp only [hD] at q2; cases q2
          | some D =>
            simp only [hD] at q2
            obtain ⟨q2, q3⟩ := and_inv q2
            have hmD := List.mem_of_getElem? hD
            obtain ⟨fd, F⟩ := hF D hmD
            have z := List.all_eq_true.mp c_in _ hm
            obtain ⟨z, z3⟩ := and_inv z
            obtain ⟨z1, z2⟩ := and_inv z
            have zm := mtF_ok z2
            refine ⟨D, hmD, by rw [List.getElem?_map, hD]; rfl, of_decide_eq_true q3, _, fd, F, ?_⟩
            rw [of_decide_eq_true q2]
            exact ⟨z1, zm.at_, zm.fn, z3⟩ }
  have hmL := List.mem_of_getElem? hL
  obtain ⟨fd, F⟩ := hF L hmL
  have tL : isTop L = true := by unfold isTop; rw [hat]
  have hmg := glo L hmL tL
  have hf : He.fAd K L.d.at_ = fa := by
    rw [hat]
    rw [hfa] at hmg
    cases hmg
    rfl
  rw [hf] at F
  refine ⟨fd, fun s v => ?_, fun base KX hB => ?_⟩
  · have b := F.bindsA (hDS L hmL).bd s [v] (by rw [hps]; rfl)
    rw [hps] at b
    exact b
  · have F' := one_ok (base := base) (fuel := fuel) (clsV := exV K t) (txf base) pl hDS (k + 1) L li fa fd hmL (by rw [List.getElem?_map, hL]; rfl) F
    rw [hps] at F'
    exact FnOk.cx0 (law_imp F' plain) fun vs H Q E E' h => h
end HP

set_option Elab.async false
set_option linter.all false
set_option autoImplicit false
set_option maxRecDepth 100000
set_option maxHeartbeats 4000000
/-! Rows for plain proofs: what each operation comes to on values that are known. -/
noncomputable section
namespace HP
section
variable {M : Mem} {i j : Int} {x y s : List Nat} {xs ys : List PV} {b c : Bool} {v w : PV} {n m : Nat}
@[simp] theorem op2_add_i : op2 .add (.int i) (.int j) M = .ok (.int (i + j)) M := (rfl)
@[simp] theorem op2_add_s : op2 .add (.str x) (.str y) M = if x.length + y.length ≤ lim then .ok (.str (x ++ y)) M else .fail := (rfl)
@[simp] theorem op2_add_t : op2 .add (.tup xs) (.tup ys) M = if xs.length + ys.length ≤ lim then .ok (.tup (xs ++ ys)) M else .fail := (rfl)
@[simp] theorem op2_sub_i : op2 .sub (.int i) (.int j) M = .ok (.int (i - j)) M := (rfl)
@[simp] theorem op2_mul_i : op2 .mul (.int i) (.int j) M = if small i || small j then .ok (.int (i * j)) M else .fail := (rfl)
@[simp] theorem op2_fdiv_i : op2 .fdiv (.int i) (.int j) M = if 0 < j ∧ j < 2 ^ 64 then .ok (.int (i / j)) M else .fail := (rfl)
@[simp] theorem op2_mod_i : op2 .mod (.int i) (.int j) M = if 0 < j then .ok (.int (i % j)) M else .fail := (rfl)
@[simp] theorem op2_pow_i : op2 .pow (.int i) (.int j) M = if 0 ≤ j ∧ j ≤ 1000000 ∧ i.natAbs < 2 ^ 64 then .ok (.int (i ^ j.toNat)) M else .fail := (rfl)
@[simp] theorem op2_lt_i : op2 .lt (.int i) (.int j) M = .ok (.bl (decide (i < j))) M := (rfl)
@[simp] theorem op2_le_i : op2 .le (.int i) (.int j) M = .ok (.bl (decide (i ≤ j))) M := (rfl)
@[simp] theorem op2_gt_i : op2 .gt (.int i) (.int j) M = .ok (.bl (decide (j < i))) M := (rfl)
@[simp] theorem op2_ge_i : op2 .ge (.int i) (.int j) M = .ok (.bl (decide (j ≤ i))) M := (rfl)
@[simp] theorem op2_lt_s : op2 .lt (.str x) (.str y) M = .ok (.bl (ltL x y)) M := (rfl)
@[simp] theorem op2_le_s : op2 .le (.str x) (.str y) M = .ok (.bl (!ltL y x)) M := (rfl)
@[simp] theorem op2_gt_s : op2 .gt (.str x) (.str y) M = .ok (.bl (ltL y x)) M := (rfl)
@[simp] theorem op2_ge_s : op2 .ge (.str x) (.str y) M = .ok (.bl (!ltL x y)) M := (rfl)
def eqRes (r : Option Bool) (M : Mem) : Res PV := match r with | some r => .ok (.bl r) M | none => .fail
def neRes (r : Option Bool) (M : Mem) : Res PV := match r with | some r => .ok (.bl (!r)) M | none => .fail
@[simp] theorem eqRes_some : eqRes (some b) M = .ok (.bl b) M := (rfl)
@[simp] theorem neRes_some : neRes (some b) M = .ok (.bl (!b)) M := (rfl)
@[simp] theorem op2_eq : op2 .eq v w M = eqRes (eqPV M v w) M := (rfl)
@[simp] theorem op2_ne : op2 .ne v w M = neRes (eqPV M v w) M := (rfl)
@[simp] theorem eqPV_ii : eqPV M (.int i) (.int j) = some (decide (i = j)) := (rfl)
@[simp] theorem eqPV_bb : eqPV M (.bl b) (.bl c) = some (b == c) := (rfl)
@[simp] theorem eqPV_ss : eqPV M (.str x) (.str y) = some (decide (x = y)) := by
  show some (x == y) = _
  rw [Option.some.injEq, Bool.eq_iff_iff]
  simp
@[simp] theorem eqPV_nn : eqPV M .non .non = some true := (rfl)
@[simp] theorem eqPV_ni : eqPV M .non (.int i) = some false := (rfl)
@[simp] theorem eqPV_in : eqPV M (.int i) .non = some false := (rfl)
@[simp] theorem eqPV_nb : eqPV M .non (.bl b) = some false := (rfl)
@[simp] theorem eqPV_bn : eqPV M (.bl b) .non = some false := (rfl)
@[simp] theorem eqPV_ns : eqPV M .non (.str s) = some false := (rfl)
@[simp] theorem eqPV_sn : eqPV M (.str s) .non = some false := (rfl)
@[simp] theorem eqPV_is : eqPV M (.int i) (.str s) = some false := (rfl)
@[simp] theorem eqPV_si : eqPV M (.str s) (.int i) = some false := (rfl)
@[simp] theorem eqPV_bs : eqPV M (.bl b) (.str s) = some false := (rfl)
@[simp] theorem eqPV_sb : eqPV M (.str s) (.bl b) = some false := (rfl)
@[simp] theorem eqPV_bi : eqPV M (.bl b) (.int i) = some (decide ((if b then 1 else 0 : Int) = i)) := (rfl)
@[simp] theorem eqPV_ib : eqPV M (.int i) (.bl b) = some (decide (i = (if b then 1 else 0 : Int))) := (rfl)
/-- == where one side is a scalar, by the data -/
theorem eqPV_data (h : eqS v w = none) {d e : PD} (h1 : toD M 90 v = some d) (h2 : toD M 90 w = some e) : eqPV M v w = some (eqD d e) := by
  unfold eqPV
  rw [h, h1, h2]
def isN : PV → Bool | .non => true | _ => false
@[simp] theorem op2_mul_t : op2 .mul (.tup xs) (.int j) M = if xs ≠ [] ∧ 2 ≤ j ∧ j ≤ 1000 ∧ xs.length ≤ 1000 then .ok (.tup (List.replicate j.toNat xs).flatten) M else .fail := (rfl)
def isBl (b : Bool) : PV → Bool | .bl c => decide (c = b) | _ => false
@[simp] theorem isBl_bl : isBl b (.bl c) = decide (c = b) := (rfl)
@[simp] theorem op2_isB : op2 .is v (.bl b) M = .ok (.bl (isBl b v)) M := by cases v <;> rfl
@[simp] theorem op2_isnotB : op2 .isnot v (.bl b) M = .ok (.bl (!isBl b v)) M := by cases v <;> rfl
def memRes (r : Option Bool) (M : Mem) : Res PV := match r with | some r => .ok (.bl r) M | none => .fail
def ninRes (r : Option Bool) (M : Mem) : Res PV := match r with | some r => .ok (.bl (!r)) M | none => .fail
@[simp] theorem memRes_ : memRes (some b) M = .ok (.bl b) M := (rfl)
@[simp] theorem ninRes_ : ninRes (some b) M = .ok (.bl (!b)) M := (rfl)
@[simp] theorem op2_mem : op2 .mem v w M = memRes (inPV M v w) M := (rfl)
@[simp] theorem op2_notin : op2 .notin v w M = ninRes (inPV M v w) M := (rfl)
@[simp] theorem inPV_rod {ks vs : List PV} : inPV M (.str s) (.rod ks vs) = some (keyIx s ks).isSome := (rfl)
def ixK (r : Option Nat) (vs : List PV) (M : Mem) : Res PV := match r with | some j => (match vs[j]? with | some v => .ok v M | none => .fail) | none => .fail
def gtK (r : Option Nat) (vs : List PV) (M : Mem) : Res PV := match r with | some j => (match vs[j]? with | some v => .ok v M | none => .fail) | none => .ok .non M
@[simp] theorem op2_idx_k {ks vs : List PV} : op2 .idx (.rod ks vs) (.str s) M = ixK (keyIx s ks) vs M := (rfl)
@[simp] theorem opn_dget {ks vs : List PV} : opn .dget [.rod ks vs, .str s] M = gtK (keyIx s ks) vs M := (rfl)
@[simp] theorem tyM_rod {ks vs : List PV} : tyM .dict (.rod ks vs) M = true := (rfl)
@[simp] theorem op2_is : op2 .is v .non M = .ok (.bl (isN v)) M := by cases v <;> rfl
@[simp] theorem op2_isnot : op2 .isnot v .non M = .ok (.bl (!isN v)) M := by cases v <;> rfl
@[simp] theorem isN_non : isN .non = true := (rfl)
@[simp] theorem isN_bl : isN (.bl b) = false := (rfl)
@[simp] theorem isN_int : isN (.int i) = false := (rfl)
@[simp] theorem isN_str : isN (.str x) = false := (rfl)
@[simp] theorem isN_tup : isN (.tup xs) = false := (rfl)
@[simp] theorem isN_rol : isN (.rol xs) = false := (rfl)
@[simp] theorem isN_ref : isN (.ref n) = false := (rfl)
@[simp] theorem isN_rod {ks vs : List PV} : isN (.rod ks vs) = false := (rfl)
/-- what an optional value comes to -/
def opRes (r : Option PV) (M : Mem) : Res PV := match r with | some v => .ok v M | none => .fail
@[simp] theorem opRes_some : opRes (some v) M = .ok v M := (rfl)
@[simp] theorem op2_idx_t : op2 .idx (.tup xs) (.int i) M = opRes (getI xs i) M := (rfl)
@[simp] theorem op2_idx_r : op2 .idx (.rol xs) (.int i) M = opRes (getI xs i) M := (rfl)
theorem op2_idx_l (h : M[n]? = some (.lst xs)) : op2 .idx (.ref n) (.int i) M = opRes (getI xs i) M := by
  unfold op2
  simp only [h]
  rfl
theorem getI_nat (xs : List PV) (k : Nat) : getI xs (k : Int) = xs[k]? := by
  unfold getI ixP
  rw [if_pos (Int.natCast_nonneg k)]
  by_cases h : k < xs.length
  · rw [if_pos (by omega)]
    simp
  · rw [if_neg (by omega)]
    exact (List.getElem?_eq_none (by omega)).symm
theorem getI_int {xs : List PV} {i : Int} (h : 0 ≤ i) : getI xs i = xs[i.toNat]? := by
  have := getI_nat xs i.toNat
  rwa [Int.toNat_of_nonneg h] at this
@[simp] theorem getI_0 : getI (v :: xs) 0 = some v := getI_nat (v :: xs) 0
@[simp] theorem getI_0n : getI [] 0 = none := getI_nat [] 0
@[simp] theorem getI_1 : getI xs 1 = xs[1]? := getI_nat xs 1
@[simp] theorem getI_2 : getI xs 2 = xs[2]? := getI_nat xs 2
@[simp] theorem getI_3 : getI xs 3 = xs[3]? := getI_nat xs 3
@[simp] theorem getI_4 : getI xs 4 = xs[4]? := getI_nat xs 4
@[simp] theorem getI_5 : getI xs 5 = xs[5]? := getI_nat xs 5
@[simp] theorem getI_6 : getI xs 6 = xs[6]? := getI_nat xs 6
@[simp] theorem getI_7 : getI xs 7 = xs[7]? := getI_nat xs 7
@[simp] theorem op1_neg : op1 .neg (.int i) M = .ok (.int (-i)) M := (rfl)
@[simp] theorem kd_non : kd .non M = some .non := (rfl)
@[simp] theorem kd_bl : kd (.bl b) M = some .bl := (rfl)
@[simp] theorem kd_int : kd (.int i) M = some .int := (rfl)
@[simp] theorem kd_str : kd (.str s) M = some .str := (rfl)
@[simp] theorem kd_tup : kd (.tup xs) M = some .tup := (rfl)
@[simp] theorem kd_rod {ks vs : List PV} : kd (.rod ks vs) M = some .dic := (rfl)
@[simp] theorem kd_rol : kd (.rol xs) M = some .lst := (rfl)
theorem kd_lst (h : M[n]? = some (.lst xs)) : kd (.ref n) M = some .lst := by
  unfold kd
  simp only [h]
def isiRes (r : Option Kd) (T : Ty) (M : Mem) : Res PV := match r with | some k => (match isK k T with | some b => .ok (.bl b) M | none => .fail) | none => .fail
@[simp] theorem opn_isi {T : Ty} : opn .isi [v, .ty T] M = isiRes (kd v M) T M := by
  show (match isi v M T with | some b => _ | none => _) = _
  unfold isi isiRes
  cases kd v M <;> rfl
@[simp] theorem isiRes_int {k : Kd} : isiRes (some k) .int M = .ok (.bl (k = Kd.int || k = Kd.bl)) M := by cases k <;> rfl
@[simp] theorem isiRes_bool {k : Kd} : isiRes (some k) .bool M = .ok (.bl (k = Kd.bl)) M := by cases k <;> rfl
@[simp] theorem isiRes_str {k : Kd} : isiRes (some k) .str M = .ok (.bl (k = Kd.str)) M := by cases k <;> rfl
@[simp] theorem isiRes_tuple {k : Kd} : isiRes (some k) .tuple M = .ok (.bl (k = Kd.tup)) M := by cases k <;> rfl
@[simp] theorem isiRes_list {k : Kd} : isiRes (some k) .list M = .ok (.bl (k = Kd.lst)) M := by cases k <;> rfl
def isOwn : Kd → Bool | .own _ => true | _ => false
theorem isiRes_own {k : Kd} {c : Nat} (h : isOwn k = false) : isiRes (some k) (.own c) M = .ok (.bl false) M := by cases k <;> first | rfl | cases h
@[simp] theorem isiRes_own_non {c : Nat} : isiRes (some .non) (.own c) M = .ok (.bl false) M := (rfl)
@[simp] theorem isiRes_own_bl {c : Nat} : isiRes (some .bl) (.own c) M = .ok (.bl false) M := (rfl)
@[simp] theorem isiRes_own_int {c : Nat} : isiRes (some .int) (.own c) M = .ok (.bl false) M := (rfl)
@[simp] theorem isiRes_own_str {c : Nat} : isiRes (some .str) (.own c) M = .ok (.bl false) M := (rfl)
@[simp] theorem isiRes_own_tup {c : Nat} : isiRes (some .tup) (.own c) M = .ok (.bl false) M := (rfl)
@[simp] theorem isiRes_own_lst {c : Nat} : isiRes (some .lst) (.own c) M = .ok (.bl false) M := (rfl)
@[simp] theorem opn_len_t : opn .len [.tup xs] M = .ok (.int xs.length) M := (rfl)
@[simp] theorem opn_len_r : opn .len [.rol xs] M = .ok (.int xs.length) M := (rfl)
@[simp] theorem opn_len_s : opn .len [.str s] M = if s.length ≤ lim then .ok (.int s.length) M else .fail := (rfl)
theorem opn_len_l (h : M[n]? = some (.lst xs)) : opn .len [.ref n] M = .ok (.int xs.length) M := by
  unfold opn
  simp only [h]
@[simp] theorem opn_abs : opn .abs [.int i] M = .ok (.int (if i < 0 then -i else i)) M := (rfl)
@[simp] theorem opn_int_i : opn .int [.int i] M = .ok (.int i) M := (rfl)
@[simp] theorem opn_int_b : opn .int [.bl b] M = .ok (.int (if b then 1 else 0)) M := (rfl)
@[simp] theorem opn_list_t : opn .list [.tup xs] M = .ok (.ref M.length) (M ++ [.lst xs]) := (rfl)
@[simp] theorem opn_list_r : opn .list [.rol xs] M = .ok (.ref M.length) (M ++ [.lst xs]) := (rfl)
theorem op2_add_l {ys : List PV} (h : M[n]? = some (.lst xs)) (h2 : M[m]? = some (.lst ys)) (hl : xs.length + ys.length ≤ lim) : op2 .add (.ref n) (.ref m) M = .ok (.ref M.length) (M ++ [.lst (xs ++ ys)]) := by
  unfold op2
  simp only [h, h2]
  rw [if_pos hl]
theorem opn_list_l (h : M[n]? = some (.lst xs)) : opn .list [.ref n] M = .ok (.ref M.length) (M ++ [.lst xs]) := by
  show (match M[n]? with | some (Cell.lst xs) => Res.ok (PV.ref M.length) (M ++ [Cell.lst xs]) | _ => _) = _
  rw [h]
@[simp] theorem opn_tuple_t : opn .tuple [.tup xs] M = .ok (.tup xs) M := (rfl)
@[simp] theorem opn_tuple_r : opn .tuple [.rol xs] M = .ok (.tup xs) M := (rfl)
theorem opn_tuple_l (h : M[n]? = some (.lst xs)) : opn .tuple [.ref n] M = .ok (.tup xs) M := by
  unfold opn
  simp only [h]
theorem opn_tuple_d {kvs : List (PK × PV)} (h : M[n]? = some (.dic kvs)) : opn .tuple [.ref n] M = .ok (.tup (kvs.map fun p => pkV p.1)) M := by
  unfold opn
  simp only [h]
theorem opn_append_l (h : M[n]? = some (.lst xs)) : opn .append [.ref n, v] M = if xs.length < lim then .ok .non (M.set n (.lst (xs ++ [v]))) else .fail := by
  show (match M[n]? with | some (Cell.lst xs) => _ | _ => _) = _
  rw [h]
theorem tyM_list (h : M[n]? = some (.lst xs)) : tyM .list (.ref n) M = true := by
  show (match M[n]? with | some (Cell.lst xs) => true | _ => _) = _
  rw [h]
@[simp] theorem tru_non : tru .non M = some false := (rfl)
@[simp] theorem tru_bl : tru (.bl b) M = some b := (rfl)
@[simp] theorem tru_int : tru (.int i) M = some (decide (i ≠ 0)) := by
  show some (i != 0) = _
  rw [Option.some.injEq, Bool.eq_iff_iff]
  simp
@[simp] theorem tru_str : tru (.str s) M = if s.length ≤ lim then some (!s.isEmpty) else none := (rfl)
@[simp] theorem tru_tup : tru (.tup xs) M = some (!xs.isEmpty) := (rfl)
@[simp] theorem tru_rol : tru (.rol xs) M = some (!xs.isEmpty) := (rfl)
@[simp] theorem iop_add_i : iop .add (.int i) (.int j) M = .ok (.int (i + j)) M := (rfl)
@[simp] theorem iop_sub_i : iop .sub (.int i) (.int j) M = .ok (.int (i - j)) M := (rfl)
@[simp] theorem iop_add_s : iop .add (.str x) (.str y) M = if x.length + y.length ≤ lim then .ok (.str (x ++ y)) M else .fail := (rfl)
theorem setL_l (h : M[n]? = some (.lst xs)) {k : Nat} (hk : k < xs.length) : setL (.ref n) (.int k) v M = some (M.set n (.lst (xs.set k v))) := by
  unfold setL ixP
  simp only [h]
  rw [if_pos (Int.natCast_nonneg k), if_pos (by omega)]
  simp
@[simp] theorem bind_ite {α β : Type} {p : Prop} [Decidable p] {a b : Res α} {f : α → Mem → Res β} : Res.bind (if p then a else b) f = if p then a.bind f else b.bind f := by split <;> rfl
@[simp] theorem thn_ite {α : Type} {p : Prop} [Decidable p] {a b : Res α} {env : Env} {f : α → Mem → Ctl} : Res.thn (if p then a else b) env f = if p then a.thn env f else b.thn env f := by split <;> rfl
@[simp] theorem seq_ite {p : Prop} [Decidable p] {a b : Ctl} {f : Env → Mem → Ctl} : Ctl.seq (if p then a else b) f = if p then a.seq f else b.seq f := by split <;> rfl
@[simp] theorem trim_ite {p : Prop} [Decidable p] {a b : Res PV} : Res.trim M (if p then a else b) = if p then a.trim M else b.trim M := by split <;> rfl
@[simp] theorem out_ite {p : Prop} [Decidable p] {a b : Ctl} : Ctl.out (if p then a else b) = if p then a.out else b.out := by split <;> rfl
@[simp] theorem turn_ite {p : Prop} [Decidable p] {a b : Ctl} {f g : Env → Mem → Ctl} : Ctl.turn (if p then a else b) f g = if p then a.turn f g else b.turn f g := by split <;> rfl
end
section
variable {env : Env} {M : Mem} {v : PV} {c : Nat} {f g : Env → Mem → Ctl}
@[simp] theorem seq_nxt : Ctl.seq (.nxt env M) f = f env M := (rfl)
@[simp] theorem seq_ret : Ctl.seq (.ret v M) f = .ret v M := (rfl)
@[simp] theorem seq_brk : Ctl.seq (.brk env M) f = .brk env M := (rfl)
@[simp] theorem seq_cnt : Ctl.seq (.cnt env M) f = .cnt env M := (rfl)
@[simp] theorem seq_exc : Ctl.seq (.exc c env M) f = .exc c env M := (rfl)
@[simp] theorem seq_fail : Ctl.seq .fail f = .fail := (rfl)
@[simp] theorem turn_nxt : Ctl.turn (.nxt env M) f g = f env M := (rfl)
@[simp] theorem turn_ret : Ctl.turn (.ret v M) f g = .ret v M := (rfl)
@[simp] theorem turn_brk : Ctl.turn (.brk env M) f g = g env M := (rfl)
@[simp] theorem turn_cnt : Ctl.turn (.cnt env M) f g = f env M := (rfl)
@[simp] theorem turn_exc : Ctl.turn (.exc c env M) f g = .exc c env M := (rfl)
@[simp] theorem turn_fail : Ctl.turn .fail f g = .fail := (rfl)
@[simp] theorem out_nxt : Ctl.out (.nxt env M) = .ok .non M := (rfl)
@[simp] theorem out_ret : Ctl.out (.ret v M) = .ok v M := (rfl)
@[simp] theorem out_exc : Ctl.out (.exc c env M) = .exc c M := (rfl)
@[simp] theorem out_fail : Ctl.out .fail = .fail := (rfl)
end
section
variable {M : Mem} {k : Nat}
@[simp] theorem toD_non : toD M (k + 1) .non = some .non := (rfl)
@[simp] theorem toD_bl {b : Bool} : toD M (k + 1) (.bl b) = some (.bl b) := (rfl)
@[simp] theorem toD_int {i : Int} : toD M (k + 1) (.int i) = some (.int i) := (rfl)
@[simp] theorem toD_str {s : List Nat} : toD M (k + 1) (.str s) = some (.str s) := (rfl)
def tupO (r : Option (List PD)) : Option PD := match r with | some ds => some (.tup ds) | none => none
def lstO (r : Option (List PD)) : Option PD := match r with | some ds => some (.lst ds) | none => none
@[simp] theorem tupO_some {ds : List PD} : tupO (some ds) = some (.tup ds) := (rfl)
@[simp] theorem lstO_some {ds : List PD} : lstO (some ds) = some (.lst ds) := (rfl)
@[simp] theorem toD_tup {vs : List PV} : toD M (k + 1) (.tup vs) = tupO (allD (toD M k) vs) := (rfl)
@[simp] theorem toD_rol {vs : List PV} : toD M (k + 1) (.rol vs) = lstO (allD (toD M k) vs) := (rfl)
theorem toD_lst {n : Nat} {xs : List PV} (h : M[n]? = some (.lst xs)) : toD M (k + 1) (.ref n) = lstO (allD (toD M k) xs) := by
  unfold toD
  simp only [h]
  rfl
@[simp] theorem allD_nil {f : PV → Option PD} : allD f [] = some [] := (rfl)
theorem allD_cons {f : PV → Option PD} {x : PV} {xs : List PV} {d : PD} {ds : List PD} (h1 : f x = some d) (h2 : allD f xs = some ds) : allD f (x :: xs) = some (d :: ds) := by
  unfold allD
  rw [h1, h2]
end
/-- an item at a place that there is -/
theorem getI_mem {xs : List PV} {i : Int} (h0 : 0 ≤ i) (h1 : i < xs.length) : ∃ x, x ∈ xs ∧ getI xs i = some x := by
  rw [getI_int h0, List.getElem?_eq_getElem (by omega)]
  exact ⟨_, List.getElem_mem _, rfl⟩
theorem rangeL_get {lo : Int} {n j : Nat} {x : PV} (h : (rangeL lo n)[j]? = some x) : j < n ∧ x = .int (lo + j) := by
  unfold rangeL at h
  rw [List.getElem?_map] at h
  by_cases hj : j < n
  · rw [List.getElem?_eq_getElem (by simpa using hj)] at h
    simp at h
    exact ⟨hj, h.symm⟩
  · rw [List.getElem?_eq_none (by simpa using hj)] at h
    cases h
@[simp] theorem rangeL_len {lo : Int} {n : Nat} : (rangeL lo n).length = n := by simp [rangeL]
/-- a loop over items that runs to its end -/
theorem loopX_inv {g : Tg} {body : Env → Mem → Ctl} {P : Nat → Env → Mem → Prop} : ∀ (xs : List PV) (i : Nat) (env : Env) (M : Mem), P i env M →
    (∀ j x env M, xs[j]? = some x → P (i + j) env M → ∃ e1 env' M', bindT g x env = some e1 ∧ (body e1 M = .nxt env' M' ∨ body e1 M = .cnt env' M') ∧ P (i + j + 1) env' M') →
    ∃ env' M', loopX g body xs env M = .nxt env' M' ∧ P (i + xs.length) env' M'
  | [], i, env, M, h, _ => ⟨env, M, rfl, h⟩
  | x :: xs, i, env, M, h, hs => by
    obtain ⟨e1, env', M', h1, h2, h3⟩ := hs 0 x env M rfl h
    obtain ⟨env2, M2, q1, q2⟩ := loopX_inv (P := P) xs (i + 1) env' M' h3 fun j y e m hy hp => by
      have := hs (j + 1) y e m hy (by rw [show i + (j + 1) = i + 1 + j by omega]; exact hp)
      rwa [show i + (j + 1) + 1 = i + 1 + j + 1 by omega] at this
    refine ⟨env2, M2, ?_, by rw [List.length_cons, show i + (xs.length + 1) = i + 1 + xs.length by omega]; exact q2⟩
    unfold loopX
    rw [h1]
    simp only
    rcases h2 with h2 | h2 <;> rw [h2] <;> exact q1
theorem evSs_cons {w : Wd} {s : S} {ss : List S} {env : Env} {M : Mem} : evSs w (s :: ss) env M = (evS w s env M).seq fun env' M' => evSs w ss env' M' := by rw [evSs]
/-- for g in range(n) that runs to its end -/
theorem for_range {w : Wd} {g : Tg} {b : List S} {e : E} {n : Int} {env : Env} {M M1 : Mem} (P : Nat → Env → Mem → Prop) (he : evE w e env M = .ok (.int n) M1) (hn : -(2 ^ 62) ≤ n ∧ n < 2 ^ 62) (h0 : P 0 env M1)
    (hs : ∀ (j : Nat) env M, (j : Int) < n → P j env M → ∃ e1 env' M', bindT g (.int j) env = some e1 ∧ (evSs w b e1 M = .nxt env' M' ∨ evSs w b e1 M = .cnt env' M') ∧ P (j + 1) env' M') :
    ∃ env' M', evS w (.forr g (.range [e]) b) env M = .nxt env' M' ∧ P n.toNat env' M' := by
  obtain ⟨env', M', h1, h2⟩ := loopX_inv (g := g) (body := fun env M => evSs w b env M) (P := P) (rangeL 0 n.toNat) 0 env M1 h0 (by
    intro j x env M hx hp
    obtain ⟨hj, rfl⟩ := rangeL_get hx
    rw [Nat.zero_add] at hp ⊢
    rw [Int.zero_add]
    exact hs j env M (by omega) hp)
  refine ⟨env', M', ?_, by simpa using h2⟩
  simp only [evS, evI, evEs, he, Res.bind_ok, if_pos hn, Res.thn_ok]
  exact h1
@[simp] theorem glv_0 {v : PV} {vs : List PV} : glv (v :: vs) 0 = some v := (rfl)
@[simp] theorem glv_s {v : PV} {vs : List PV} {n : Nat} : glv (v :: vs) (n + 1) = glv vs n := (rfl)
/-! the head first: what comes after stands as a name with its arguments -/
section
variable (w : Wd) (env : Env)
def kOp1 (o : O1) (x : PV) (M : Mem) : Res PV := op1 o x M
def kOp2b (o : O2) (x y : PV) (M : Mem) : Res PV := op2 o x y M
def kOp2 (o : O2) (b : E) (x : PV) (M : Mem) : Res PV := (evE w b env M).bind (kOp2b o x)
def notRes (r : Option Bool) (M : Mem) : Res PV := match r with | some b => .ok (.bl (!b)) M | none => .fail
def kNot (v : PV) (M : Mem) : Res PV := notRes (tru v M) M
def andRes (r : Option Bool) (b : E) (x : PV) (M : Mem) : Res PV := match r with | some c => if c then evE w b env M else .ok x M | none => .fail
def orRes (r : Option Bool) (b : E) (x : PV) (M : Mem) : Res PV := match r with | some c => if c then .ok x M else evE w b env M | none => .fail
def kAnd (b : E) (x : PV) (M : Mem) : Res PV := andRes w env (tru x M) b x M
def kOr (b : E) (x : PV) (M : Mem) : Res PV := orRes w env (tru x M) b x M
def chRes (p : O2) (y : PV) (c : E) (r : PV) (M : Mem) : Res PV := match r with | .bl k => if k then (evE w c env M).bind (kOp2b p y) else .ok (.bl false) M | _ => .fail
def kCh1 (o p : O2) (c : E) (x y : PV) (M : Mem) : Res PV := (op2 o x y M).bind (chRes w env p y c)
def kCh (o p : O2) (b c : E) (x : PV) (M : Mem) : Res PV := (evE w b env M).bind (kCh1 w env o p c x)
def kIfe (a b : E) (c : Bool) (M : Mem) : Res PV := if c then evE w a env M else evE w b env M
def kTup (vs : List PV) (M : Mem) : Res PV := if vs.length ≤ lim then .ok (.tup vs) M else .fail
def kLst (vs : List PV) (M : Mem) : Res PV := if vs.length ≤ lim then .ok (.ref M.length) (M ++ [.lst vs]) else .fail
def kMeth1 (o : On) (v : PV) (vs : List PV) (M : Mem) : Res PV := opn o (v :: vs) M
def kMeth (k : MT) (o : On) (es : List E) (v : PV) (M : Mem) : Res PV := if tyM k v M then (evEs w es env M).bind (kMeth1 o v) else .fail
def kEs1 (v : PV) (vs : List PV) (M : Mem) : Res (List PV) := .ok (v :: vs) M
def kEs (es : List E) (v : PV) (M : Mem) : Res (List PV) := (evEs w es env M).bind (kEs1 v)
def kT (v : PV) (M : Mem) : Res Bool := match tru v M with | some b => .ok b M | none => .fail
def kBl (r : PV) (M : Mem) : Res Bool := match r with | .bl k => .ok k M | _ => .fail
def kCmp1 (o : O2) (x y : PV) (M : Mem) : Res Bool := (op2 o x y M).bind kBl
def kCmp (o : O2) (b : E) (x : PV) (M : Mem) : Res Bool := (evE w b env M).bind (kCmp1 o x)
def kTCh2 (p : O2) (y : PV) (c : E) (r : PV) (M : Mem) : Res Bool := match r with | .bl k => if k then (evE w c env M).bind (kCmp1 p y) else .ok false M | _ => .fail
def kTCh1 (o p : O2) (c : E) (x y : PV) (M : Mem) : Res Bool := (op2 o x y M).bind (kTCh2 w env p y c)
def kTCh (o p : O2) (b c : E) (x : PV) (M : Mem) : Res Bool := (evE w b env M).bind (kTCh1 w env o p c x)
def kTAnd (b : T) (c : Bool) (M : Mem) : Res Bool := if c then evT w b env M else .ok false M
def kTOr (b : T) (c : Bool) (M : Mem) : Res Bool := if c then .ok true M else evT w b env M
def kTNot (c : Bool) (M : Mem) : Res Bool := .ok (!c) M
def nxtO (r : Option Env) (M : Mem) : Ctl := match r with | some env' => .nxt env' M | none => .fail
def kAsg (g : Tg) (v : PV) (M : Mem) : Ctl := nxtO (bindT g v env) M
def kPar1 (i j : Nat) (x y : PV) (M : Mem) : Ctl := .nxt ((env.set i (some x)).set j (some y)) M
def kPar (i j : Nat) (b : E) (x : PV) (M : Mem) : Ctl := (evE w b env M).thn env (kPar1 env i j x)
def kP32 (i j l : Nat) (x y z : PV) (M : Mem) : Ctl := .nxt (((env.set i (some x)).set j (some y)).set l (some z)) M
def kP31 (i j l : Nat) (c : E) (x y : PV) (M : Mem) : Ctl := (evE w c env M).thn env (kP32 env i j l x y)
def kP3 (i j l : Nat) (b c : E) (x : PV) (M : Mem) : Ctl := (evE w b env M).thn env (kP31 w env i j l c x)
def stO (r : Option Mem) : Ctl := match r with | some M => .nxt env M | none => .fail
def kSet2 (x v j : PV) (M : Mem) : Ctl := stO env (setL v j x M)
def kSet1 (i : E) (x v : PV) (M : Mem) : Ctl := (evE w i env M).thn env (kSet2 env x v)
def kSet (a i : E) (x : PV) (M : Mem) : Ctl := (evE w a env M).thn env (kSet1 w env i x)
def kAug1 (i : Nat) (z : PV) (M : Mem) : Ctl := .nxt (env.set i (some z)) M
def kAug (i : Nat) (o : O2) (x y : PV) (M : Mem) : Ctl := (iop o x y M).thn env (kAug1 env i)
def augO (r : Option (Option PV)) (i : Nat) (o : O2) (e : E) (M : Mem) : Ctl := match r with | some (some x) => (evE w e env M).thn env (kAug env i o x) | _ => .fail
def kAgI4 (n : Nat) (j z : PV) (M : Mem) : Ctl := stO env (setL (.ref n) j z M)
def kAgI3 (o : O2) (n : Nat) (j x y : PV) (M : Mem) : Ctl := (iop o x y M).thn env (kAgI4 env n j)
def kAgI2 (o : O2) (e : E) (n : Nat) (j x : PV) (M : Mem) : Ctl := (evE w e env M).thn env (kAgI3 env o n j x)
def kAgI1 (o : O2) (e : E) (v j : PV) (M : Mem) : Ctl := match v with | .ref n => (op2 .idx (.ref n) j M).thn env (kAgI2 w env o e n j) | _ => .fail
def kAgI (i : E) (o : O2) (e : E) (v : PV) (M : Mem) : Ctl := (evE w i env M).thn env (kAgI1 w env o e v)
def kExp (v : PV) (M : Mem) : Ctl := .nxt env M
def kRet (v : PV) (M : Mem) : Ctl := .ret v M
def kIf (a b : List S) (c : Bool) (M : Mem) : Ctl := if c then evSs w a env M else evSs w b env M
def kFor (g : Tg) (b : List S) (s : Src) (M : Mem) : Ctl := match s with
  | .mem n => loopM g (fun env M => evSs w b env M) n w.fuel 0 env M
  | .items xs => loopX g (fun env M => evSs w b env M) xs env M
def kItV (v : PV) (M : Mem) : Res Src := match v with
    | .tup xs => .ok (.items xs) M
    | .rol xs => .ok (.items xs) M
    | .str s => .ok (.items (s.map fun c => .str [c])) M
    | .ref n => match M[n]? with
      | some (.lst _) => .ok (.mem n) M
      | _ => .fail
    | _ => .fail
end
section
variable {w : Wd} {env : Env} {M : Mem}
def varRes (r : Option (Option PV)) (M : Mem) : Res PV := match r with | some (some v) => .ok v M | _ => .fail
@[simp] theorem varRes_some {v : PV} : varRes (some (some v)) M = .ok v M := (rfl)
@[simp] theorem evE_var {i : Nat} : evE w (.var i) env M = varRes env[i]? M := by rw [evE]; rfl
@[simp] theorem evE_lit {v : PV} : evE w (.lit v) env M = .ok v M := by rw [evE]
@[simp] theorem evE_glob {g : Nat} : evE w (.glob g) env M = opRes (w.glob g) M := by rw [evE]; rfl
@[simp] theorem evE_op1 {o : O1} {a : E} : evE w (.op1 o a) env M = (evE w a env M).bind (kOp1 o) := by rw [evE]; rfl
@[simp] theorem evE_op2 {o : O2} {a b : E} : evE w (.op2 o a b) env M = (evE w a env M).bind (kOp2 w env o b) := by rw [evE]; rfl
@[simp] theorem evE_nott {a : E} : evE w (.nott a) env M = (evE w a env M).bind kNot := by rw [evE]; rfl
@[simp] theorem evE_and {a b : E} : evE w (.and a b) env M = (evE w a env M).bind (kAnd w env b) := by rw [evE]; rfl
@[simp] theorem evE_or {a b : E} : evE w (.or a b) env M = (evE w a env M).bind (kOr w env b) := by rw [evE]; rfl
@[simp] theorem evE_chain {o p : O2} {a b c : E} : evE w (.chain o p a b c) env M = (evE w a env M).bind (kCh w env o p b c) := by rw [evE]; rfl
@[simp] theorem evE_ife {t : T} {a b : E} : evE w (.ife t a b) env M = (evT w t env M).bind (kIfe w env a b) := by rw [evE]; rfl
@[simp] theorem evE_tup {es : List E} : evE w (.tup es) env M = (evEs w es env M).bind kTup := by rw [evE]; rfl
@[simp] theorem evE_lst {es : List E} : evE w (.lst es) env M = (evEs w es env M).bind kLst := by rw [evE]; rfl
@[simp] theorem evE_call {f : Nat} {es : List E} : evE w (.call f es) env M = (evEs w es env M).bind (w.call f) := by rw [evE]
@[simp] theorem evE_opn {o : On} {es : List E} : evE w (.opn o es) env M = (evEs w es env M).bind (opn o) := by rw [evE]
@[simp] theorem evE_meth {k : MT} {o : On} {a : E} {es : List E} : evE w (.meth k o a es) env M = (evE w a env M).bind (kMeth w env k o es) := by rw [evE]; rfl
@[simp] theorem evEs_nil : evEs w [] env M = .ok [] M := by rw [evEs]
@[simp] theorem evEs_cons {e : E} {es : List E} : evEs w (e :: es) env M = (evE w e env M).bind (kEs w env es) := by rw [evEs]; rfl
@[simp] theorem evT_val {e : E} : evT w (.val e) env M = (evE w e env M).bind kT := by rw [evT]; rfl
@[simp] theorem evT_cmp {o : O2} {a b : E} : evT w (.cmp o a b) env M = (evE w a env M).bind (kCmp w env o b) := by rw [evT]; rfl
@[simp] theorem evT_chain {o p : O2} {a b c : E} : evT w (.chain o p a b c) env M = (evE w a env M).bind (kTCh w env o p b c) := by rw [evT]; rfl
@[simp] theorem evT_and {a b : T} : evT w (.and a b) env M = (evT w a env M).bind (kTAnd w env b) := by rw [evT]; rfl
@[simp] theorem evT_or {a b : T} : evT w (.or a b) env M = (evT w a env M).bind (kTOr w env b) := by rw [evT]; rfl
@[simp] theorem evT_not {a : T} : evT w (.not a) env M = (evT w a env M).bind kTNot := by rw [evT]; rfl
@[simp] theorem kOp1_ {o : O1} {x : PV} : kOp1 o x M = op1 o x M := (rfl)
@[simp] theorem kOp2b_ {o : O2} {x y : PV} : kOp2b o x y M = op2 o x y M := (rfl)
@[simp] theorem kOp2_ {o : O2} {b : E} {x : PV} : kOp2 w env o b x M = (evE w b env M).bind (kOp2b o x) := (rfl)
@[simp] theorem notRes_ {b : Bool} : notRes (some b) M = .ok (.bl (!b)) M := (rfl)
@[simp] theorem kNot_ {v : PV} : kNot v M = notRes (tru v M) M := (rfl)
@[simp] theorem andRes_ {b : E} {x : PV} {c : Bool} : andRes w env (some c) b x M = if c then evE w b env M else .ok x M := (rfl)
@[simp] theorem orRes_ {b : E} {x : PV} {c : Bool} : orRes w env (some c) b x M = if c then .ok x M else evE w b env M := (rfl)
@[simp] theorem kAnd_ {b : E} {x : PV} : kAnd w env b x M = andRes w env (tru x M) b x M := (rfl)
@[simp] theorem kOr_ {b : E} {x : PV} : kOr w env b x M = orRes w env (tru x M) b x M := (rfl)
@[simp] theorem chRes_ {p : O2} {y : PV} {c : E} {k : Bool} : chRes w env p y c (.bl k) M = if k then (evE w c env M).bind (kOp2b p y) else .ok (.bl false) M := (rfl)
@[simp] theorem kCh1_ {o p : O2} {c : E} {x y : PV} : kCh1 w env o p c x y M = (op2 o x y M).bind (chRes w env p y c) := (rfl)
@[simp] theorem kCh_ {o p : O2} {b c : E} {x : PV} : kCh w env o p b c x M = (evE w b env M).bind (kCh1 w env o p c x) := (rfl)
@[simp] theorem kIfe_ {a b : E} {c : Bool} : kIfe w env a b c M = if c then evE w a env M else evE w b env M := (rfl)
@[simp] theorem kTup_ {vs : List PV} : kTup vs M = if vs.length ≤ lim then .ok (.tup vs) M else .fail := (rfl)
@[simp] theorem kLst_ {vs : List PV} : kLst vs M = if vs.length ≤ lim then .ok (.ref M.length) (M ++ [.lst vs]) else .fail := (rfl)
@[simp] theorem kMeth1_ {o : On} {v : PV} {vs : List PV} : kMeth1 o v vs M = opn o (v :: vs) M := (rfl)
@[simp] theorem kMeth_ {k : MT} {o : On} {es : List E} {v : PV} : kMeth w env k o es v M = if tyM k v M then (evEs w es env M).bind (kMeth1 o v) else .fail := (rfl)
@[simp] theorem kEs1_ {v : PV} {vs : List PV} : kEs1 v vs M = .ok (v :: vs) M := (rfl)
@[simp] theorem kEs_ {es : List E} {v : PV} : kEs w env es v M = (evEs w es env M).bind (kEs1 v) := (rfl)
def okO (r : Option Bool) (M : Mem) : Res Bool := match r with | some b => .ok b M | none => .fail
@[simp] theorem okO_ {b : Bool} : okO (some b) M = .ok b M := (rfl)
@[simp] theorem kT_ {v : PV} : kT v M = okO (tru v M) M := (rfl)
@[simp] theorem kBl_ {k : Bool} : kBl (.bl k) M = .ok k M := (rfl)
@[simp] theorem kCmp1_ {o : O2} {x y : PV} : kCmp1 o x y M = (op2 o x y M).bind kBl := (rfl)
@[simp] theorem kCmp_ {o : O2} {b : E} {x : PV} : kCmp w env o b x M = (evE w b env M).bind (kCmp1 o x) := (rfl)
@[simp] theorem kTCh2_ {p : O2} {y : PV} {c : E} {k : Bool} : kTCh2 w env p y c (.bl k) M = if k then (evE w c env M).bind (kCmp1 p y) else .ok false M := (rfl)
@[simp] theorem kTCh1_ {o p : O2} {c : E} {x y : PV} : kTCh1 w env o p c x y M = (op2 o x y M).bind (kTCh2 w env p y c) := (rfl)
@[simp] theorem kTCh_ {o p : O2} {b c : E} {x : PV} : kTCh w env o p b c x M = (evE w b env M).bind (kTCh1 w env o p c x) := (rfl)
@[simp] theorem kTAnd_ {b : T} {c : Bool} : kTAnd w env b c M = if c then evT w b env M else .ok false M := (rfl)
@[simp] theorem kTOr_ {b : T} {c : Bool} : kTOr w env b c M = if c then .ok true M else evT w b env M := (rfl)
@[simp] theorem kTNot_ {c : Bool} : kTNot c M = .ok (!c) M := (rfl)
@[simp] theorem nxtO_ {e : Env} : nxtO (some e) M = .nxt e M := (rfl)
@[simp] theorem kAsg_ {g : Tg} {v : PV} : kAsg env g v M = nxtO (bindT g v env) M := (rfl)
@[simp] theorem kPar1_ {i j : Nat} {x y : PV} : kPar1 env i j x y M = .nxt ((env.set i (some x)).set j (some y)) M := (rfl)
@[simp] theorem kPar_ {i j : Nat} {b : E} {x : PV} : kPar w env i j b x M = (evE w b env M).thn env (kPar1 env i j x) := (rfl)
@[simp] theorem kP32_ {i j l : Nat} {x y z : PV} : kP32 env i j l x y z M = .nxt (((env.set i (some x)).set j (some y)).set l (some z)) M := (rfl)
@[simp] theorem kP31_ {i j l : Nat} {c : E} {x y : PV} : kP31 w env i j l c x y M = (evE w c env M).thn env (kP32 env i j l x y) := (rfl)
@[simp] theorem kP3_ {i j l : Nat} {b c : E} {x : PV} : kP3 w env i j l b c x M = (evE w b env M).thn env (kP31 w env i j l c x) := (rfl)
@[simp] theorem stO_ {M : Mem} : stO env (some M) = .nxt env M := (rfl)
@[simp] theorem kSet2_ {x v j : PV} : kSet2 env x v j M = stO env (setL v j x M) := (rfl)
@[simp] theorem kSet1_ {i : E} {x v : PV} : kSet1 w env i x v M = (evE w i env M).thn env (kSet2 env x v) := (rfl)
@[simp] theorem kSet_ {a i : E} {x : PV} : kSet w env a i x M = (evE w a env M).thn env (kSet1 w env i x) := (rfl)
@[simp] theorem kAug1_ {i : Nat} {z : PV} : kAug1 env i z M = .nxt (env.set i (some z)) M := (rfl)
@[simp] theorem kAug_ {i : Nat} {o : O2} {x y : PV} : kAug env i o x y M = (iop o x y M).thn env (kAug1 env i) := (rfl)
@[simp] theorem augO_ {i : Nat} {o : O2} {e : E} {x : PV} : augO w env (some (some x)) i o e M = (evE w e env M).thn env (kAug env i o x) := (rfl)
@[simp] theorem kAgI4_ {n : Nat} {j z : PV} : kAgI4 env n j z M = stO env (setL (.ref n) j z M) := (rfl)
@[simp] theorem kAgI3_ {o : O2} {n : Nat} {j x y : PV} : kAgI3 env o n j x y M = (iop o x y M).thn env (kAgI4 env n j) := (rfl)
@[simp] theorem kAgI2_ {o : O2} {e : E} {n : Nat} {j x : PV} : kAgI2 w env o e n j x M = (evE w e env M).thn env (kAgI3 env o n j x) := (rfl)
@[simp] theorem kAgI1_ {o : O2} {e : E} {n : Nat} {j : PV} : kAgI1 w env o e (.ref n) j M = (op2 .idx (.ref n) j M).thn env (kAgI2 w env o e n j) := (rfl)
@[simp] theorem kAgI_ {i : E} {o : O2} {e : E} {v : PV} : kAgI w env i o e v M = (evE w i env M).thn env (kAgI1 w env o e v) := (rfl)
@[simp] theorem kExp_ {v : PV} : kExp env v M = .nxt env M := (rfl)
@[simp] theorem kRet_ {v : PV} : kRet v M = .ret v M := (rfl)
@[simp] theorem kIf_ {a b : List S} {c : Bool} : kIf w env a b c M = if c then evSs w a env M else evSs w b env M := (rfl)
@[simp] theorem evSs_nil : evSs w [] env M = .nxt env M := by rw [evSs]
@[simp] theorem evSs_c {s : S} {ss : List S} : evSs w (s :: ss) env M = (evS w s env M).seq (evSs w ss) := by rw [evSs]
@[simp] theorem evS_asg {g : Tg} {e : E} : evS w (.asg g e) env M = (evE w e env M).thn env (kAsg env g) := by rw [evS]; rfl
@[simp] theorem evS_par {i j : Nat} {a b : E} : evS w (.par i j a b) env M = (evE w a env M).thn env (kPar w env i j b) := by rw [evS]; rfl
@[simp] theorem evS_par3 {i j l : Nat} {a b c : E} : evS w (.par3 i j l a b c) env M = (evE w a env M).thn env (kP3 w env i j l b c) := by rw [evS]; rfl
@[simp] theorem evS_setI {a i e : E} : evS w (.setI a i e) env M = (evE w e env M).thn env (kSet w env a i) := by rw [evS]; rfl
@[simp] theorem evS_aug {i : Nat} {o : O2} {e : E} : evS w (.aug i o e) env M = augO w env env[i]? i o e M := by
  rw [evS]
  rfl
@[simp] theorem evS_augI {a i : E} {o : O2} {e : E} : evS w (.augI a i o e) env M = (evE w a env M).thn env (kAgI w env i o e) := by rw [evS]; rfl
@[simp] theorem evS_expr {e : E} : evS w (.expr e) env M = (evE w e env M).thn env (kExp env) := by rw [evS]; rfl
@[simp] theorem evS_ret {e : E} : evS w (.ret e) env M = (evE w e env M).thn env kRet := by rw [evS]; rfl
@[simp] theorem evS_retN : evS w .retN env M = .ret .non M := by rw [evS]
@[simp] theorem evS_ifs {t : T} {a b : List S} : evS w (.ifs t a b) env M = (evT w t env M).thn env (kIf w env a b) := by rw [evS]; rfl
/-! comprehensions, slices -/
def cutO (r : Option (Option Int)) (v : PV) (pl : Option Int) (M : Mem) : Res PV := match r with | some ph => cutR v pl ph M | none => .fail
def kCut2 (fh : Bool) (v : PV) (pl : Option Int) (h : PV) (M : Mem) : Res PV := cutO (partV fh h) v pl M
def cutL (w : Wd) (env : Env) (r : Option (Option Int)) (fh : Bool) (hi : E) (v : PV) (M : Mem) : Res PV := match r with | some pl => (if fh then evE w hi env M else .ok .non M).bind (kCut2 fh v pl) | none => .fail
def kCut1 (w : Wd) (env : Env) (fl fh : Bool) (hi : E) (v l : PV) (M : Mem) : Res PV := cutL w env (partV fl l) fh hi v M
def kCut (w : Wd) (env : Env) (fl fh : Bool) (lo hi : E) (v : PV) (M : Mem) : Res PV := (if fl then evE w lo env M else .ok .non M).bind (kCut1 w env fl fh hi v)
@[simp] theorem evE_cut {fl fh : Bool} {a lo hi : E} : evE w (.cut fl fh a lo hi) env M = (evE w a env M).bind (kCut w env fl fh lo hi) := by rw [evE]; rfl
@[simp] theorem kCut_ {fl fh : Bool} {lo hi : E} {v : PV} : kCut w env fl fh lo hi v M = (if fl then evE w lo env M else .ok .non M).bind (kCut1 w env fl fh hi v) := (rfl)
@[simp] theorem kCut1_ {fl fh : Bool} {hi : E} {v l : PV} : kCut1 w env fl fh hi v l M = cutL w env (partV fl l) fh hi v M := (rfl)
@[simp] theorem cutL_ {pl : Option Int} {fh : Bool} {hi : E} {v : PV} : cutL w env (some pl) fh hi v M = (if fh then evE w hi env M else .ok .non M).bind (kCut2 fh v pl) := (rfl)
@[simp] theorem kCut2_ {fh : Bool} {v h : PV} {pl : Option Int} : kCut2 fh v pl h M = cutO (partV fh h) v pl M := (rfl)
@[simp] theorem cutO_ {v : PV} {pl ph : Option Int} : cutO (some ph) v pl M = cutR v pl ph M := (rfl)
@[simp] theorem partV_t {i : Int} : partV true (.int i) = some (some i) := (rfl)
@[simp] theorem partV_f {v : PV} : partV false v = some none := (rfl)
@[simp] theorem cutR_t {xs : List PV} {lo hi : Option Int} : cutR (.tup xs) lo hi M = .ok (.tup (cut xs lo hi)) M := (rfl)
theorem cutR_l {n : Nat} {xs : List PV} {lo hi : Option Int} (h : M[n]? = some (.lst xs)) : cutR (.ref n) lo hi M = .ok (.ref M.length) (M ++ [.lst (cut xs lo hi)]) := by
  unfold cutR
  simp only [h]
theorem evE_lc {g : Tg} {it : I} {ts : List T} {vs : List Nat} {elt : E} : evE w (.lc g it ts vs elt) env M = (evI w it env M).bind fun s M1 => (lcS g (fun env M => evTs w ts env M) (fun env M => evE w elt env M) (wipeE env vs) s M1).bind fun vs M2 => .ok (.ref M2.length) (M2 ++ [.lst vs]) := by rw [evE]
@[simp] theorem evTs_nil : evTs w [] env M = .ok true M := by rw [evTs]
@[simp] theorem evTs_1 {t : T} : evTs w [t] env M = evT w t env M := by
  simp only [evTs]
  cases h : evT w t env M with
  | ok b M1 => cases b <;> rfl
  | exc c M1 => rfl
  | fail => rfl
theorem evS_for {g : Tg} {it : I} {b : List S} : evS w (.forr g it b) env M = (evI w it env M).thn env (kFor w env g b) := by rw [evS]; rfl
theorem kFor_mem {g : Tg} {b : List S} {n : Nat} : kFor w env g b (.mem n) M = loopM g (fun env M => evSs w b env M) n w.fuel 0 env M := (rfl)
theorem kFor_items {g : Tg} {b : List S} {xs : List PV} : kFor w env g b (.items xs) M = loopX g (fun env M => evSs w b env M) xs env M := (rfl)
@[simp] theorem evS_pass : evS w .pass env M = .nxt env M := by rw [evS]
@[simp] theorem evS_brk : evS w .brk env M = .brk env M := by rw [evS]
@[simp] theorem evS_cnt : evS w .cnt env M = .cnt env M := by rw [evS]
@[simp] theorem bindT_name {i : Nat} {v : PV} : bindT (.name i) v env = if i < env.length then some (env.set i (some v)) else none := by rw [bindT]
@[simp] theorem bindT_tup {ts : List Tg} {vs : List PV} : bindT (.tup ts) (.tup vs) env = bindTs ts vs env := by rw [bindT]
@[simp] theorem bindTs_nil : bindTs [] [] env = some env := by rw [bindTs]
def bindO (r : Option Env) (ts : List Tg) (vs : List PV) : Option Env := match r with | some env => bindTs ts vs env | none => none
@[simp] theorem bindO_ {e : Env} {ts : List Tg} {vs : List PV} : bindO (some e) ts vs = bindTs ts vs e := (rfl)
@[simp] theorem bindTs_cons {t : Tg} {ts : List Tg} {v : PV} {vs : List PV} : bindTs (t :: ts) (v :: vs) env = bindO (bindT t v env) ts vs := by rw [bindTs]; rfl
end
theorem cut_to {α : Type} {xs : List α} {p : Int} (h : 0 ≤ p) : cut xs none (some p) = xs.take p.toNat := by
  unfold cut cutIx
  simp only [List.drop_zero, Nat.sub_zero, if_neg (show ¬ p < 0 by omega)]
  rw [List.take_eq_take_iff]
  omega
theorem cut_from {α : Type} {xs : List α} {p : Int} (h : 0 ≤ p) : cut xs (some p) none = xs.drop p.toNat := by
  unfold cut cutIx
  simp only [if_neg (show ¬ p < 0 by omega)]
  by_cases hl : p.toNat ≤ xs.length
  · rw [Nat.min_eq_left hl, List.take_of_length_le (by simp)]
  · rw [Nat.min_eq_right (by omega), List.drop_eq_nil_of_le (by omega), List.drop_eq_nil_of_le (by omega)]
    simp
theorem cut_last {α : Type} {xs : List α} : cut xs none (some (-1)) = xs.take (xs.length - 1) := by
  unfold cut cutIx
  simp only [List.drop_zero, Nat.sub_zero, if_pos (show (-1 : Int) < 0 by decide)]
  congr 1
  omega
/-! what is new is left out behind a call -/
theorem trimM_eq {M M' : Mem} {v : PV} (h : M'.length = M.length) : trimM M M' v = M' := by
  unfold trimM
  split
  · rw [← h, List.take_length]
  · rfl
@[simp] theorem trimM_self {M : Mem} {v : PV} : trimM M M v = M := trimM_eq rfl
theorem trimM_app {M A G : Mem} {v : PV} (hl : A.length = M.length) (hv : low M.length v = true) (h : ∀ (i : Nat) (c : Cell), A[i]? = some c → M[i]? = some c ∨ lowC M.length c = true) : trimM M (A ++ G) v = A := by
  unfold trimM
  rw [if_pos]
  · rw [← hl]; simp
  · refine ⟨hv, fun i c hi e => h i c ?_⟩
    rw [List.getElem?_append_left (by omega)] at e
    exact e
theorem trimM_hi {M M' : Mem} {v : PV} (h : low M.length v = false) : trimM M M' v = M' := by
  unfold trimM
  rw [if_neg]
  intro t
  rw [t.1] at h
  cases h
theorem trimM_push {M G : Mem} {v : PV} (hv : low M.length v = true) : trimM M (M ++ G) v = M := trimM_app rfl hv fun i c e => .inl e
/-- a call's start -/
theorem run_fn {fs : List Fn} {glob : Nat → Option PV} {fuel k f : Nat} {d : Fn} {vs : List PV} {M : Mem} (h : fs[f]? = some d) (h1 : vs.length = d.params) (h2 : d.params ≤ d.names) :
    run fs glob fuel (k + 1) f vs M = (evSs ⟨run fs glob fuel k, glob, fuel, run fs glob fuel (k - 1)⟩ d.body (vs.map some ++ List.replicate (d.names - vs.length) none) M).out.trim M := by
  rw [run_succ]
  unfold runB
  rw [h]
  simp only
  rw [if_pos ⟨h1, h2⟩]
/-! ### lists that never change, dicts, instances -/
section
variable {M : Mem} {i j : Int} {x y s : List Nat} {xs ys : List PV} {b c : Bool} {v u : PV} {n m : Nat} {kvs : List (PK × PV)}
@[simp] theorem op2_add_r : op2 .add (.rol xs) (.rol ys) M = if xs.length + ys.length ≤ lim then .ok (.rol (xs ++ ys)) M else .fail := (rfl)
theorem op2_add_rl (h : M[m]? = some (.lst ys)) : op2 .add (.rol xs) (.ref m) M = if xs.length + ys.length ≤ lim then .ok (.rol (xs ++ ys)) M else .fail := by
  unfold op2
  simp only [h]
theorem op2_add_lr (h : M[n]? = some (.lst xs)) : op2 .add (.ref n) (.rol ys) M = if xs.length + ys.length ≤ lim then .ok (.rol (xs ++ ys)) M else .fail := by
  unfold op2
  simp only [h]
@[simp] theorem op2_mul_r : op2 .mul (.rol xs) (.int j) M = if -(2 ^ 63) ≤ j ∧ j < 2 ^ 63 ∧ xs.length * j.toNat ≤ lim then .ok (.rol (List.replicate j.toNat xs).flatten) M else .fail := (rfl)
@[simp] theorem opn_rlist_t : opn .rlist [.tup xs] M = .ok (.rol xs) M := (rfl)
@[simp] theorem opn_rlist_r : opn .rlist [.rol xs] M = .ok (.rol xs) M := (rfl)
theorem opn_rlist_l (h : M[n]? = some (.lst xs)) : opn .rlist [.ref n] M = .ok (.rol xs) M := by
  unfold opn
  simp only [h]
def maxO (r : Option (List Int)) (M : Mem) : Res PV := match r with | some (i :: is) => .ok (.int (is.foldl max i)) M | _ => .fail
def minO (r : Option (List Int)) (M : Mem) : Res PV := match r with | some (i :: is) => .ok (.int (is.foldl min i)) M | _ => .fail
def sumO (r : Option (List Int)) (M : Mem) : Res PV := match r with | some is => .ok (.int is.sum) M | _ => .fail
def allO (r : Option (List Bool)) (M : Mem) : Res PV := match r with | some bs => .ok (.bl (bs.all id)) M | _ => .fail
def anyO (r : Option (List Bool)) (M : Mem) : Res PV := match r with | some bs => .ok (.bl (bs.any id)) M | _ => .fail
@[simp] theorem maxO_ {is : List Int} : maxO (some (i :: is)) M = .ok (.int (is.foldl max i)) M := (rfl)
@[simp] theorem minO_ {is : List Int} : minO (some (i :: is)) M = .ok (.int (is.foldl min i)) M := (rfl)
@[simp] theorem sumO_ {is : List Int} : sumO (some is) M = .ok (.int is.sum) M := (rfl)
@[simp] theorem allO_ {bs : List Bool} : allO (some bs) M = .ok (.bl (bs.all id)) M := (rfl)
@[simp] theorem anyO_ {bs : List Bool} : anyO (some bs) M = .ok (.bl (bs.any id)) M := (rfl)
@[simp] theorem opn_max_r : opn .max [.rol xs] M = maxO (intsV xs) M := (rfl)
@[simp] theorem opn_min_r : opn .min [.rol xs] M = minO (intsV xs) M := (rfl)
@[simp] theorem opn_sum_r : opn .sum [.rol xs] M = sumO (intsV xs) M := (rfl)
@[simp] theorem opn_all_r : opn .all [.rol xs] M = allO (blsV xs) M := (rfl)
@[simp] theorem opn_any_r : opn .any [.rol xs] M = anyO (blsV xs) M := (rfl)
theorem op2_idx_d (h : M[n]? = some (.dic kvs)) : op2 .idx (.ref n) (.str s) M = opRes (valP (.s s) kvs) M := by
  unfold op2
  simp only [h]
  rfl
theorem op2_idx_di (h : M[n]? = some (.dic kvs)) : op2 .idx (.ref n) (.int i) M = opRes (valP (.i i) kvs) M := by
  unfold op2
  simp only [h]
  rfl
theorem setL_d (h : M[n]? = some (.dic kvs)) : setL (.ref n) (.str s) v M = if kvs.length < lim then some (M.set n (.dic (putP (.s s) v kvs))) else none := by
  unfold setL
  simp only [h]
theorem setL_di (h : M[n]? = some (.dic kvs)) : setL (.ref n) (.int i) v M = if kvs.length < lim then some (M.set n (.dic (putP (.i i) v kvs))) else none := by
  unfold setL
  simp only [h]
theorem opn_pop0 (h : M[n]? = some (.lst (v :: xs))) : opn .pop [.ref n, .int 0] M = .ok v (M.set n (.lst xs)) := by
  unfold opn
  simp only [h, ixP, List.length_cons]
  rw [if_pos (by omega), if_pos (by omega)]
  rfl
@[simp] theorem kd_obj {k : Nat} {ns : List Nat} : kd (.obj k ns xs) M = some (.own k) := (rfl)
theorem kd_ins {k : Nat} {ns : List Nat} (h : M[n]? = some (.ins k ns xs)) : kd (.ref n) M = some (.own k) := by
  unfold kd
  simp only [h]
theorem kd_dic (h : M[n]? = some (.dic kvs)) : kd (.ref n) M = some .dic := by
  unfold kd
  simp only [h]
@[simp] theorem isiRes_own_own {k l : Nat} : isiRes (some (.own k)) (.own l) M = .ok (.bl (l == k)) M := (rfl)
@[simp] theorem isiRes_own_dic {l : Nat} : isiRes (some .dic) (.own l) M = .ok (.bl false) M := (rfl)
@[simp] theorem isN_obj {k : Nat} {ns : List Nat} : isN (.obj k ns xs) = false := (rfl)
@[simp] theorem isBl_non : isBl b .non = false := (rfl)
@[simp] theorem insOf_obj {k : Nat} {ns : List Nat} : insOf (.obj k ns xs) M = some (k, ns, xs) := (rfl)
theorem insOf_ref {k : Nat} {ns : List Nat} (h : M[n]? = some (.ins k ns xs)) : insOf (.ref n) M = some (k, ns, xs) := by
  unfold insOf
  simp only [h]
end
section
variable (w : Wd) (env : Env)
def kRls (vs : List PV) (M : Mem) : Res PV := if vs.length ≤ lim then .ok (.rol vs) M else .fail
def dctO (ks : List PK) (vs : List PV) (n : Nat) (M1 : Mem) (c : Option Cell) : Res PV := match c with
  | some (.dic []) => if vs.length = ks.length ∧ ks.length ≤ 1000 then .ok (.ref n) (M1.set n (.dic (ks.zip vs))) else .fail
  | _ => .fail
def kDct (ks : List PK) (n : Nat) (vs : List PV) (M1 : Mem) : Res PV := dctO ks vs n M1 M1[n]?
def kFld (n : Nat) (cs : List Nat) (v : PV) (M : Mem) : Res PV := fldR v n cs M
def kMake (c f : Nat) (fz : Bool) (vs : List PV) (M1 : Mem) : Res PV := makR c fz M1 (w.call1 f (.ref M1.length :: vs) (M1 ++ [.ins c [] []]))
def kMc1 (f : Nat) (v : PV) (vs : List PV) (M : Mem) : Res PV := w.call f (v :: vs) M
def mcO (r : Option Nat) (es : List E) (v : PV) (M1 : Mem) : Res PV := match r with
  | some f => (evEs w es env M1).bind (kMc1 w f v)
  | none => .fail
def kMc (am : Option Nat) (tab : List (Nat × Nat)) (es : List E) (v : PV) (M1 : Mem) : Res PV := mcO w env (metR v am tab M1) es v M1
def rcutO (r : Option (Option Int)) (v : PV) (pl : Option Int) (M : Mem) : Res PV := match r with | some ph => rcutR v pl ph M | none => .fail
def kRcut2 (fh : Bool) (v : PV) (pl : Option Int) (h : PV) (M : Mem) : Res PV := rcutO (partV fh h) v pl M
def rcutL (r : Option (Option Int)) (fh : Bool) (hi : E) (v : PV) (M : Mem) : Res PV := match r with | some pl => (if fh then evE w hi env M else .ok .non M).bind (kRcut2 fh v pl) | none => .fail
def kRcut1 (fl fh : Bool) (hi : E) (v l : PV) (M : Mem) : Res PV := rcutL w env (partV fl l) fh hi v M
def kRcut (fl fh : Bool) (lo hi : E) (v : PV) (M : Mem) : Res PV := (if fl then evE w lo env M else .ok .non M).bind (kRcut1 w env fl fh hi v)
def kSetA1 (n : Nat) (cs : List Nat) (x v : PV) (M : Mem) : Ctl := stO env (setAR v n cs x M)
def kSetA (a : E) (n : Nat) (cs : List Nat) (x : PV) (M : Mem) : Ctl := (evE w a env M).thn env (kSetA1 env n cs x)
end
section
variable {w : Wd} {env : Env} {M : Mem}
@[simp] theorem evE_rls {es : List E} : evE w (.rls es) env M = (evEs w es env M).bind kRls := by rw [evE]; rfl
@[simp] theorem kRls_ {vs : List PV} : kRls vs M = if vs.length ≤ lim then .ok (.rol vs) M else .fail := (rfl)
@[simp] theorem evE_dct {ks : List PK} {es : List E} : evE w (.dct ks es) env M = (evEs w es env (M ++ [.dic []])).bind (kDct ks M.length) := by rw [evE]; rfl
@[simp] theorem kDct_ {ks : List PK} {n : Nat} {vs : List PV} : kDct ks n vs M = dctO ks vs n M M[n]? := (rfl)
@[simp] theorem dctO_ {ks : List PK} {n : Nat} {vs : List PV} : dctO ks vs n M (some (.dic [])) = if vs.length = ks.length ∧ ks.length ≤ 1000 then .ok (.ref n) (M.set n (.dic (ks.zip vs))) else .fail := (rfl)
@[simp] theorem evE_fld {a : E} {n : Nat} {cs : List Nat} : evE w (.fld a n cs) env M = (evE w a env M).bind (kFld n cs) := by rw [evE]; rfl
@[simp] theorem kFld_ {n : Nat} {cs : List Nat} {v : PV} : kFld n cs v M = fldR v n cs M := (rfl)
def fldO (r : Option (Nat × List Nat × List PV)) (n : Nat) (cs : List Nat) (M : Mem) : Res PV := match r with
  | some (c, ns, vs) => if c ∈ cs then opRes (getA n ns vs) M else .fail
  | none => .fail
theorem fldR_ {n : Nat} {cs : List Nat} {v : PV} : fldR v n cs M = fldO (insOf v M) n cs M := (rfl)
@[simp] theorem fldR_obj {n k : Nat} {ns cs : List Nat} {vs : List PV} : fldR (.obj k ns vs) n cs M = if k ∈ cs then opRes (getA n ns vs) M else .fail := (rfl)
theorem fldR_ref {n m k : Nat} {ns cs : List Nat} {vs : List PV} (h : M[m]? = some (.ins k ns vs)) : fldR (.ref m) n cs M = if k ∈ cs then opRes (getA n ns vs) M else .fail := by
  rw [fldR_, insOf_ref h]
  rfl
@[simp] theorem getA_nil {n : Nat} {vs : List PV} : getA n [] vs = none := (rfl)
@[simp] theorem getA_cons {n m : Nat} {ns : List Nat} {v : PV} {vs : List PV} : getA n (m :: ns) (v :: vs) = if m = n then some v else getA n ns vs := (rfl)
@[simp] theorem evE_make {c f : Nat} {fz : Bool} {es : List E} : evE w (.make c f fz es) env M = (evEs w es env M).bind (kMake w c f fz) := by rw [evE]; rfl
@[simp] theorem kMake_ {c f : Nat} {fz : Bool} {vs : List PV} : kMake w c f fz vs M = makR c fz M (w.call1 f (.ref M.length :: vs) (M ++ [.ins c [] []])) := (rfl)
@[simp] theorem evE_mcall {a : E} {am : Option Nat} {tab : List (Nat × Nat)} {es : List E} : evE w (.mcall a am tab es) env M = (evE w a env M).bind (kMc w env am tab es) := by rw [evE]; rfl
@[simp] theorem kMc_ {am : Option Nat} {tab : List (Nat × Nat)} {es : List E} {v : PV} : kMc w env am tab es v M = mcO w env (metR v am tab M) es v M := (rfl)
@[simp] theorem mcO_ {f : Nat} {es : List E} {v : PV} : mcO w env (some f) es v M = (evEs w es env M).bind (kMc1 w f v) := (rfl)
@[simp] theorem kMc1_ {f : Nat} {vs : List PV} {v : PV} : kMc1 w f v vs M = w.call f (v :: vs) M := (rfl)
theorem metR_n {v : PV} {tab : List (Nat × Nat)} {c : Nat} {ns : List Nat} {vs : List PV} (h : insOf v M = some (c, ns, vs)) : metR v none tab M = tab.lookup c := by
  unfold metR
  rw [h]
@[simp] theorem evE_rcut {fl fh : Bool} {a lo hi : E} : evE w (.rcut fl fh a lo hi) env M = (evE w a env M).bind (kRcut w env fl fh lo hi) := by rw [evE]; rfl
@[simp] theorem kRcut_ {fl fh : Bool} {lo hi : E} {v : PV} : kRcut w env fl fh lo hi v M = (if fl then evE w lo env M else .ok .non M).bind (kRcut1 w env fl fh hi v) := (rfl)
@[simp] theorem kRcut1_ {fl fh : Bool} {hi : E} {v l : PV} : kRcut1 w env fl fh hi v l M = rcutL w env (partV fl l) fh hi v M := (rfl)
@[simp] theorem rcutL_ {pl : Option Int} {fh : Bool} {hi : E} {v : PV} : rcutL w env (some pl) fh hi v M = (if fh then evE w hi env M else .ok .non M).bind (kRcut2 fh v pl) := (rfl)
@[simp] theorem kRcut2_ {fh : Bool} {v h : PV} {pl : Option Int} : kRcut2 fh v pl h M = rcutO (partV fh h) v pl M := (rfl)
@[simp] theorem rcutO_ {v : PV} {pl ph : Option Int} : rcutO (some ph) v pl M = rcutR v pl ph M := (rfl)
@[simp] theorem rcutR_t {xs : List PV} {lo hi : Option Int} : rcutR (.tup xs) lo hi M = .ok (.tup (cut xs lo hi)) M := (rfl)
@[simp] theorem rcutR_r {xs : List PV} {lo hi : Option Int} : rcutR (.rol xs) lo hi M = .ok (.rol (cut xs lo hi)) M := (rfl)
theorem rcutR_l {n : Nat} {xs : List PV} {lo hi : Option Int} (h : M[n]? = some (.lst xs)) : rcutR (.ref n) lo hi M = .ok (.rol (cut xs lo hi)) M := by
  unfold rcutR
  simp only [h]
theorem evE_rlc {g : Tg} {it : I} {ts : List T} {vs : List Nat} {elt : E} : evE w (.rlc g it ts vs elt) env M = (evI w it env M).bind fun s M1 => (lcS g (fun env M => evTs w ts env M) (fun env M => evE w elt env M) (wipeE env vs) s M1).bind fun vs M2 => .ok (.rol vs) M2 := by rw [evE]
@[simp] theorem evS_setA {a : E} {n : Nat} {cs : List Nat} {e : E} : evS w (.setA a n cs e) env M = (evE w e env M).thn env (kSetA w env a n cs) := by rw [evS]; rfl
@[simp] theorem kSetA_ {a : E} {n : Nat} {cs : List Nat} {x : PV} : kSetA w env a n cs x M = (evE w a env M).thn env (kSetA1 env n cs x) := (rfl)
@[simp] theorem kSetA1_ {n : Nat} {cs : List Nat} {x v : PV} : kSetA1 env n cs x v M = stO env (setAR v n cs x M) := (rfl)
theorem setAR_ref {n m k : Nat} {ns cs : List Nat} {x : PV} {vs : List PV} (h : M[m]? = some (.ins k ns vs)) : setAR (.ref m) n cs x M = if k ∈ cs ∧ ns.length < 1000 then some (M.set m (.ins k (putAn n ns) (putAv n x ns vs))) else none := by
  unfold setAR
  simp only [h]
end
section
variable {M : Mem} {k : Nat}
def atmO (r q : Option PD) : Option PD := match r with | some x => (match q with | some y => some (.atm x y) | none => none) | none => none
@[simp] theorem atmO_ {x y : PD} : atmO (some x) (some y) = some (.atm x y) := (rfl)
@[simp] theorem toD_atm {ns : List Nat} {a b : PV} {vs : List PV} : toD M (k + 1) (.obj 0 (0 :: 1 :: ns) (a :: b :: vs)) = atmO (toD M k a) (toD M k b) := by
  rfl
end
end HP
end

set_option Elab.async false
set_option linter.all false
set_option autoImplicit false
set_option maxRecDepth 100000
set_option maxHeartbeats 4000000
/-! Rows for comprehensions and loops whose turns leave the memory as it is. -/
noncomputable section
namespace HP
section
variable {w : Wd} {g : Tg} {ts : Env → Mem → Res Bool} {elt : Env → Mem → Res PV} {env : Env} {c : Mem → Prop} {M : Mem}
theorem lcX_pure {p : PV → Bool} {f : PV → PV} (hc : c M) : ∀ (xs : List PV), (∀ x ∈ xs, ∃ env', bindT g x env = some env' ∧ ts env' M = .ok (p x) M ∧ (p x = true → elt env' M = .ok (f x) M)) → lcX g ts elt env c xs M = .ok ((xs.filter p).map f) M
  | [], _ => by unfold lcX; rw [if_pos hc]; rfl
  | x :: xs, h => by
    obtain ⟨env', h1, h2, h3⟩ := h x List.mem_cons_self
    have ih := lcX_pure hc xs fun y hy => h y (List.mem_cons_of_mem _ hy)
    unfold lcX
    rw [if_pos hc, h1]
    simp only [h2, Res.only_ok]
    cases hp : p x with
    | true => simp [h3 hp, ih, hp]
    | false => simp [ih, hp]
end
section
variable {w : Wd} {g : Tg} {it : I} {ts : List T} {vs : List Nat} {elt : E} {env : Env} {M M1 : Mem}
/-- over items -/
theorem lc_items {xs : List PV} {p : PV → Bool} {f : PV → PV} (hI : evI w it env M = .ok (.items xs) M1) (hl : xs.length ≤ lim)
    (h : ∀ x ∈ xs, ∃ env', bindT g x (wipeE env vs) = some env' ∧ evTs w ts env' M1 = .ok (p x) M1 ∧ (p x = true → evE w elt env' M1 = .ok (f x) M1)) :
    evE w (.lc g it ts vs elt) env M = .ok (.ref M1.length) (M1 ++ [.lst ((xs.filter p).map f)]) := by
  rw [evE_lc, hI]
  simp only [Res.bind_ok, lcS]
  rw [if_pos hl, lcX_pure trivial xs h]
  rfl
/-- .. without a test -/
theorem lc_items0 {xs : List PV} {f : PV → PV} (hI : evI w it env M = .ok (.items xs) M1) (hl : xs.length ≤ lim)
    (h : ∀ x ∈ xs, ∃ env', bindT g x (wipeE env vs) = some env' ∧ evE w elt env' M1 = .ok (f x) M1) :
    evE w (.lc g it [] vs elt) env M = .ok (.ref M1.length) (M1 ++ [.lst (xs.map f)]) := by
  have := lc_items (p := fun _ => true) (f := f) hI hl (ts := []) (elt := elt) (vs := vs) (g := g) fun x hx => by
    obtain ⟨e, h1, h2⟩ := h x hx
    exact ⟨e, h1, by simp, fun _ => h2⟩
  rw [List.filter_eq_self.mpr (fun _ _ => rfl)] at this
  exact this
/-- over a list of the memory -/
theorem lc_mem {n : Nat} {xs : List PV} {p : PV → Bool} {f : PV → PV} (hI : evI w it env M = .ok (.mem n) M1) (hM : M1[n]? = some (.lst xs)) (hl : xs.length ≤ lim)
    (h : ∀ x ∈ xs, ∃ env', bindT g x (wipeE env vs) = some env' ∧ evTs w ts env' M1 = .ok (p x) M1 ∧ (p x = true → evE w elt env' M1 = .ok (f x) M1)) :
    evE w (.lc g it ts vs elt) env M = .ok (.ref M1.length) (M1 ++ [.lst ((xs.filter p).map f)]) := by
  rw [evE_lc, hI]
  simp only [Res.bind_ok, lcS, hM]
  rw [if_pos hl, lcX_pure hM xs h]
  rfl
end
theorem evI_rangeI {w : Wd} {env : Env} {M M1 : Mem} {e : E} {i : Int} (h : evE w e env M = .ok (.int i) M1) (h2 : -(2 ^ 62) ≤ i ∧ i < 2 ^ 62) : evI w (.range [e]) env M = .ok (.items (rangeL 0 i.toNat)) M1 := by
  simp only [evI, evEs, h, Res.bind_ok, if_pos h2]
theorem evI_rangeN {w : Wd} {env : Env} {M M1 : Mem} {e : E} {n : Nat} (h : evE w e env M = .ok (.int n) M1) (hn : n ≤ 1000) : evI w (.range [e]) env M = .ok (.items (rangeL 0 n)) M1 := by
  have := evI_rangeI h (by omega)
  rwa [Int.toNat_natCast] at this
theorem blsV_map {α : Type} (q : α → Bool) : ∀ xs : List α, blsV (xs.map fun x => PV.bl (q x)) = some (xs.map q)
  | [] => rfl
  | x :: xs => by
    rw [List.map_cons]
    unfold blsV
    rw [blsV_map q xs]
    rfl
section
variable {w : Wd} {g : Tg} {it : I} {ts : List T} {vs : List Nat} {elt : E} {env : Env} {M M1 : Mem}
/-- .. to a list that never changes -/
theorem rlc_items {xs : List PV} {p : PV → Bool} {f : PV → PV} (hI : evI w it env M = .ok (.items xs) M1) (hl : xs.length ≤ lim)
    (h : ∀ x ∈ xs, ∃ env', bindT g x (wipeE env vs) = some env' ∧ evTs w ts env' M1 = .ok (p x) M1 ∧ (p x = true → evE w elt env' M1 = .ok (f x) M1)) :
    evE w (.rlc g it ts vs elt) env M = .ok (.rol ((xs.filter p).map f)) M1 := by
  rw [evE_rlc, hI]
  simp only [Res.bind_ok, lcS]
  rw [if_pos hl, lcX_pure trivial xs h]
  rfl
theorem rlc_items0 {xs : List PV} {f : PV → PV} (hI : evI w it env M = .ok (.items xs) M1) (hl : xs.length ≤ lim)
    (h : ∀ x ∈ xs, ∃ env', bindT g x (wipeE env vs) = some env' ∧ evE w elt env' M1 = .ok (f x) M1) :
    evE w (.rlc g it [] vs elt) env M = .ok (.rol (xs.map f)) M1 := by
  have := rlc_items (p := fun _ => true) (f := f) hI hl (ts := []) (elt := elt) (vs := vs) (g := g) fun x hx => by
    obtain ⟨e, h1, h2⟩ := h x hx
    exact ⟨e, h1, by simp, fun _ => h2⟩
  rw [List.filter_eq_self.mpr (fun _ _ => rfl)] at this
  exact this
theorem rlc_mem {n : Nat} {xs : List PV} {p : PV → Bool} {f : PV → PV} (hI : evI w it env M = .ok (.mem n) M1) (hM : M1[n]? = some (.lst xs)) (hl : xs.length ≤ lim)
    (h : ∀ x ∈ xs, ∃ env', bindT g x (wipeE env vs) = some env' ∧ evTs w ts env' M1 = .ok (p x) M1 ∧ (p x = true → evE w elt env' M1 = .ok (f x) M1)) :
    evE w (.rlc g it ts vs elt) env M = .ok (.rol ((xs.filter p).map f)) M1 := by
  rw [evE_rlc, hI]
  simp only [Res.bind_ok, lcS, hM]
  rw [if_pos hl, lcX_pure hM xs h]
  rfl
theorem rlc_mem0 {n : Nat} {xs : List PV} {f : PV → PV} (hI : evI w it env M = .ok (.mem n) M1) (hM : M1[n]? = some (.lst xs)) (hl : xs.length ≤ lim)
    (h : ∀ x ∈ xs, ∃ env', bindT g x (wipeE env vs) = some env' ∧ evE w elt env' M1 = .ok (f x) M1) :
    evE w (.rlc g it [] vs elt) env M = .ok (.rol (xs.map f)) M1 := by
  have := rlc_mem (p := fun _ => true) (f := f) hI hM hl (ts := []) (elt := elt) (vs := vs) (g := g) fun x hx => by
    obtain ⟨e, h1, h2⟩ := h x hx
    exact ⟨e, h1, by simp, fun _ => h2⟩
  rw [List.filter_eq_self.mpr (fun _ _ => rfl)] at this
  exact this
end
theorem allO_map {α : Type} {M : Mem} {xs : List α} {q : α → Bool} : opn .all [.rol (xs.map fun x => PV.bl (q x))] M = .ok (.bl (xs.all q)) M := by
  rw [opn_all_r, blsV_map]
  simp [List.all_map, Function.comp_def]
theorem anyO_map {α : Type} {M : Mem} {xs : List α} {q : α → Bool} : opn .any [.rol (xs.map fun x => PV.bl (q x))] M = .ok (.bl (xs.any q)) M := by
  rw [opn_any_r, blsV_map]
  simp [List.any_map, Function.comp_def]
theorem get_new {M : Mem} {c : Cell} : (M ++ [c])[M.length]? = some c := by simp
theorem opn_all_new {α : Type} {M : Mem} {xs : List α} {q : α → Bool} : opn .all [.ref M.length] (M ++ [.lst (xs.map fun x => PV.bl (q x))]) = .ok (.bl (xs.all q)) (M ++ [.lst (xs.map fun x => PV.bl (q x))]) := by
  unfold opn
  simp only [get_new, blsV_map]
  simp [List.all_map, Function.comp_def]
theorem opn_any_new {α : Type} {M : Mem} {xs : List α} {q : α → Bool} : opn .any [.ref M.length] (M ++ [.lst (xs.map fun x => PV.bl (q x))]) = .ok (.bl (xs.any q)) (M ++ [.lst (xs.map fun x => PV.bl (q x))]) := by
  unfold opn
  simp only [get_new, blsV_map]
  simp [List.any_map, Function.comp_def]
theorem opn_len_new {M : Mem} {xs : List PV} : opn .len [.ref M.length] (M ++ [.lst xs]) = .ok (.int xs.length) (M ++ [.lst xs]) := opn_len_l get_new
theorem opn_tuple_new {M : Mem} {xs : List PV} : opn .tuple [.ref M.length] (M ++ [.lst xs]) = .ok (.tup xs) (M ++ [.lst xs]) := opn_tuple_l get_new
/-- a walk over a list that stays as it is; P is kept of the names -/
theorem loopM_pure {g : Tg} {body : Env → Mem → Ctl} {n : Nat} {xs : List PV} {M : Mem} (P : Env → Prop) (hM : M[n]? = some (.lst xs)) (hb : ∀ env x e1, P env → x ∈ xs → bindT g x env = some e1 → match body e1 M with | .nxt e2 M' => M' = M ∧ P e2 | .cnt e2 M' => M' = M ∧ P e2 | _ => True) :
    ∀ (k i : Nat) (env : Env), P env → xs.length - i < k → loopM g body n k i env M = loopX g body (xs.drop i) env M
  | 0, i, env, _, h => by omega
  | k + 1, i, env, hp, h => by
    unfold loopM
    simp only [hM]
    cases hx : xs[i]? with
    | none =>
      have := List.getElem?_eq_none_iff.mp hx
      rw [List.drop_eq_nil_of_le this]
      rfl
    | some x =>
      have hl := (List.getElem?_eq_some_iff.mp hx).1
      have hd : xs.drop i = x :: xs.drop (i + 1) := by
        rw [List.drop_eq_getElem_cons hl, (List.getElem?_eq_some_iff.mp hx).2]
      rw [hd]
      simp only [loopX]
      cases hbd : bindT g x env with
      | none => rfl
      | some e1 =>
        simp only
        have q := hb env x e1 hp (List.mem_of_getElem? hx) hbd
        have ih := fun e he => loopM_pure (g := g) P hM hb k (i + 1) e he (by omega)
        cases hc : body e1 M with
        | nxt e2 M2 =>
          rw [hc] at q
          simp only at q
          obtain ⟨q1, q2⟩ := q
          subst q1
          simp [ih e2 q2]
        | cnt e2 M2 =>
          rw [hc] at q
          simp only at q
          obtain ⟨q1, q2⟩ := q
          subst q1
          simp [ih e2 q2]
        | ret v M2 => rfl
        | brk e2 M2 => rfl
        | exc a b c => rfl
        | fail => rfl
/-- a comprehension whose turns change the memory: Q is kept of it, R holds of each value -/
theorem lcX_inv {g : Tg} {ts : Env → Mem → Res Bool} {elt : Env → Mem → Res PV} {env : Env} {c : Mem → Prop} {Q : Mem → Prop} {R : Nat → PV → Prop} (hc : ∀ M, Q M → c M) : ∀ (xs : List PV) (i : Nat) (M : Mem), Q M →
    (∀ j x M, xs[j]? = some x → Q M → ∃ env' v M', bindT g x env = some env' ∧ ts env' M = .ok true M ∧ elt env' M = .ok v M' ∧ Q M' ∧ R (i + j) v) →
    ∃ vs M', lcX g ts elt env c xs M = .ok vs M' ∧ Q M' ∧ vs.length = xs.length ∧ ∀ (j : Nat) (v : PV), vs[j]? = some v → R (i + j) v
  | [], i, M, hq, _ => ⟨[], M, by unfold lcX; rw [if_pos (hc M hq)], hq, rfl, fun j v e => by simp at e⟩
  | x :: xs, i, M, hq, hs => by
    obtain ⟨env', v, M', h1, h2, h3, h4, h5⟩ := hs 0 x M rfl hq
    obtain ⟨vs, M2, q1, q2, q3, q4⟩ := lcX_inv hc xs (i + 1) M' h4 fun j y m hy hm => by
      have := hs (j + 1) y m hy hm
      rwa [show i + (j + 1) = i + 1 + j by omega] at this
    refine ⟨v :: vs, M2, ?_, q2, by simp [q3], fun j w e => ?_⟩
    · unfold lcX
      rw [if_pos (hc M hq), h1]
      simp [h2, h3, q1]
    · cases j with
      | zero => simp at e; subst e; exact h5
      | succ j =>
        have := q4 j w (by simpa using e)
        rwa [show i + 1 + j = i + (j + 1) by omega] at this
end HP
end

set_option Elab.async false
set_option linter.all false
set_option maxRecDepth 100000
set_option maxHeartbeats 4000000
/-! more plain rows -/
noncomputable section
namespace HP
@[simp] theorem limN_1 : (1 : Nat) ≤ lim := by decide
@[simp] theorem limN_2 : (2 : Nat) ≤ lim := by decide
@[simp] theorem limN_3 : (3 : Nat) ≤ lim := by decide
@[simp] theorem limN_4 : (4 : Nat) ≤ lim := by decide
@[simp] theorem limN_5 : (5 : Nat) ≤ lim := by decide
@[simp] theorem limN_6 : (6 : Nat) ≤ lim := by decide
@[simp] theorem limN_7 : (7 : Nat) ≤ lim := by decide
@[simp] theorem limN_8 : (8 : Nat) ≤ lim := by decide
@[simp] theorem limN_9 : (9 : Nat) ≤ lim := by decide
@[simp] theorem limN_10 : (10 : Nat) ≤ lim := by decide
@[simp] theorem limN_11 : (11 : Nat) ≤ lim := by decide
@[simp] theorem limN_12 : (12 : Nat) ≤ lim := by decide
@[simp] theorem limN_13 : (13 : Nat) ≤ lim := by decide
@[simp] theorem limN_14 : (14 : Nat) ≤ lim := by decide
@[simp] theorem limN_15 : (15 : Nat) ≤ lim := by decide
@[simp] theorem limN_16 : (16 : Nat) ≤ lim := by decide
@[simp] theorem limN_17 : (17 : Nat) ≤ lim := by decide
@[simp] theorem limN_18 : (18 : Nat) ≤ lim := by decide
@[simp] theorem limN_19 : (19 : Nat) ≤ lim := by decide
@[simp] theorem limN_20 : (20 : Nat) ≤ lim := by decide
@[simp] theorem limN_21 : (21 : Nat) ≤ lim := by decide
@[simp] theorem limN_22 : (22 : Nat) ≤ lim := by decide
@[simp] theorem limN_23 : (23 : Nat) ≤ lim := by decide
@[simp] theorem limN_24 : (24 : Nat) ≤ lim := by decide
@[simp] theorem limN_25 : (25 : Nat) ≤ lim := by decide
@[simp] theorem limN_26 : (26 : Nat) ≤ lim := by decide
@[simp] theorem limN_27 : (27 : Nat) ≤ lim := by decide
@[simp] theorem limN_28 : (28 : Nat) ≤ lim := by decide
@[simp] theorem limN_29 : (29 : Nat) ≤ lim := by decide
@[simp] theorem limN_30 : (30 : Nat) ≤ lim := by decide
mutual
theorem eqD_self : ∀ d : PD, eqD d d = true
  | .non => by simp [eqD]
  | .bl b => by simp [eqD]
  | .int i => by simp [eqD]
  | .str s => by simp [eqD]
  | .tup ds => by simp [eqD, eqDs_self ds]
  | .lst ds => by simp [eqD, eqDs_self ds]
  | .atm x y => by simp [eqD, eqD_self x, eqD_self y]
theorem eqDs_self : ∀ ds : List PD, eqDs ds ds = true
  | [] => by simp [eqDs]
  | d :: ds => by simp [eqDs, eqD_self d, eqDs_self ds]
end
theorem eqPV_self {M : Mem} {v : PV} {d : PD} (h : toD M 90 v = some d) : eqPV M v v = some true := by
  unfold eqPV
  cases e : eqS v v with
  | some r =>
    cases v <;> simp [eqS] at e <;> simp [e]
  | none => simp [h, eqD_self]
theorem get_set' {M : Mem} {n : Nat} {c d : Cell} (h : M[n]? = some c) : (M.set n d)[n]? = some d := by
  have hl := (List.getElem?_eq_some_iff.mp h).1
  simp [hl]
theorem trs' {M : Mem} {n : Nat} {c : Cell} {v : PV} : trimM M (M.set n c) v = M.set n c := trimM_eq (by simp)
section
variable {w : Wd} {g : Tg} {it : I} {vs : List Nat} {elt : E} {env : Env} {M M1 : Mem} {xs : List PV} {Q : Mem → Prop} {R : Nat → PV → Prop}
/-- comprehensions whose turns change the memory -/
theorem lc_inv (hI : evI w it env M = .ok (.items xs) M1) (hl : xs.length ≤ lim) (hQ : Q M1)
    (hs : ∀ j x M, xs[j]? = some x → Q M → ∃ env' v M', bindT g x (wipeE env vs) = some env' ∧ evE w elt env' M = .ok v M' ∧ Q M' ∧ R j v) :
    ∃ us M', evE w (.lc g it [] vs elt) env M = .ok (.ref M'.length) (M' ++ [.lst us]) ∧ Q M' ∧ us.length = xs.length ∧ ∀ (j : Nat) (v : PV), us[j]? = some v → R j v := by
  obtain ⟨us, M', h1, h2, h3, h4⟩ := lcX_inv (g := g) (ts := fun env M => evTs w [] env M) (elt := fun env M => evE w elt env M) (env := wipeE env vs) (c := fun _ => True) (Q := Q) (R := R) (fun _ _ => trivial) xs 0 M1 hQ
    (fun j x M hx hq => by
      obtain ⟨e, v, M', a, b, c, d⟩ := hs j x M hx hq
      exact ⟨e, v, M', a, by simp, b, c, by simpa using d⟩)
  refine ⟨us, M', ?_, h2, h3, fun j v e => by simpa using h4 j v e⟩
  rw [evE_lc, hI]
  simp only [Res.bind_ok, lcS]
  rw [if_pos hl, h1]
  rfl
theorem rlc_inv (hI : evI w it env M = .ok (.items xs) M1) (hl : xs.length ≤ lim) (hQ : Q M1)
    (hs : ∀ j x M, xs[j]? = some x → Q M → ∃ env' v M', bindT g x (wipeE env vs) = some env' ∧ evE w elt env' M = .ok v M' ∧ Q M' ∧ R j v) :
    ∃ us M', evE w (.rlc g it [] vs elt) env M = .ok (.rol us) M' ∧ Q M' ∧ us.length = xs.length ∧ ∀ (j : Nat) (v : PV), us[j]? = some v → R j v := by
  obtain ⟨us, M', h1, h2, h3, h4⟩ := lcX_inv (g := g) (ts := fun env M => evTs w [] env M) (elt := fun env M => evE w elt env M) (env := wipeE env vs) (c := fun _ => True) (Q := Q) (R := R) (fun _ _ => trivial) xs 0 M1 hQ
    (fun j x M hx hq => by
      obtain ⟨e, v, M', a, b, c, d⟩ := hs j x M hx hq
      exact ⟨e, v, M', a, by simp, b, c, by simpa using d⟩)
  refine ⟨us, M', ?_, h2, h3, fun j v e => by simpa using h4 j v e⟩
  rw [evE_rlc, hI]
  simp only [Res.bind_ok, lcS]
  rw [if_pos hl, h1]
  rfl
end
end HP
end
noncomputable section
namespace HP
section
variable (w : Wd) (env : Env)
def kAugA2 (v : PV) (n : Nat) (cs : List Nat) (M1 : Mem) (z : PV) (M3 : Mem) : Ctl := if (insOf v M1).map (·.1) = (insOf v M3).map (·.1) then stO env (setAR v n cs z M3) else .fail
def kAugA1b (v : PV) (n : Nat) (cs : List Nat) (o : O2) (M1 : Mem) (x y : PV) (M2 : Mem) : Ctl := (iop o x y M2).thn env (kAugA2 env v n cs M1)
def kAugA1 (v : PV) (n : Nat) (cs : List Nat) (o : O2) (e : E) (M1 : Mem) (x : PV) (_ : Mem) : Ctl := (evE w e env M1).thn env (kAugA1b env v n cs o M1 x)
def kAugA (n : Nat) (cs : List Nat) (o : O2) (e : E) (v : PV) (M1 : Mem) : Ctl := (fldR v n cs M1).thn env (kAugA1 w env v n cs o e M1)
end
section
variable {w : Wd} {env : Env} {M M1 : Mem} {n : Nat} {cs : List Nat} {o : O2} {e : E} {v x y z : PV}
@[simp] theorem evS_augA {a : E} : evS w (.augA a n cs o e) env M = (evE w a env M).thn env (kAugA w env n cs o e) := by rw [evS]; rfl
@[simp] theorem kAugA_ : kAugA w env n cs o e v M1 = (fldR v n cs M1).thn env (kAugA1 w env v n cs o e M1) := (rfl)
@[simp] theorem kAugA1_ : kAugA1 w env v n cs o e M1 x M = (evE w e env M1).thn env (kAugA1b env v n cs o M1 x) := (rfl)
@[simp] theorem kAugA1b_ : kAugA1b env v n cs o M1 x y M = (iop o x y M).thn env (kAugA2 env v n cs M1) := (rfl)
@[simp] theorem kAugA2_ : kAugA2 env v n cs M1 z M = if (insOf v M1).map (·.1) = (insOf v M).map (·.1) then stO env (setAR v n cs z M) else .fail := (rfl)
@[simp] theorem stO_some : stO env (some M) = .nxt env M := (rfl)
end
end HP
end
noncomputable section
namespace HP
section
variable {w : Wd} {env : Env} {M M0 : Mem} {v : PV} {c d : Nat} {b : List S} {nm : Option Nat} {hs r : Hs} {f : Nat → Env → Mem → Ctl} {fz : Bool}
/-! raise and try -/
@[simp] theorem evS_rais : evS w (.rais c) env M = .exc c env M := by rw [evS]
def kCat (w : Wd) (hs : Hs) (nm : Option Nat) (c : Nat) (env : Env) (M : Mem) : Ctl := evHs w hs nm c env M
@[simp] theorem kCat_ : kCat w hs nm c env M = evHs w hs nm c env M := (rfl)
@[simp] theorem evS_tryy : evS w (.tryy b nm hs) env M = (evSs w b env M).caught (kCat w hs nm) := by rw [evS]; rfl
@[simp] theorem caught_nxt : Ctl.caught (.nxt env M) f = .nxt env M := (rfl)
@[simp] theorem caught_ret : Ctl.caught (.ret v M) f = .ret v M := (rfl)
@[simp] theorem caught_brk : Ctl.caught (.brk env M) f = .brk env M := (rfl)
@[simp] theorem caught_cnt : Ctl.caught (.cnt env M) f = .cnt env M := (rfl)
@[simp] theorem caught_exc : Ctl.caught (.exc c env M) f = f c env M := (rfl)
@[simp] theorem caught_fail : Ctl.caught .fail f = .fail := (rfl)
@[simp] theorem evHs_hnd : evHs w (.hnd d b r) nm c env M = if d = c then (if inO nm env then (evSs w b (wipO nm env) M).suite nm else .fail) else evHs w r nm c env M := by rw [evHs]
@[simp] theorem evHs_pas : evHs w (.pas d r) nm c env M = if d = c then .exc c env M else evHs w r nm c env M := by rw [evHs]
@[simp] theorem suite_nxt : Ctl.suite nm (.nxt env M) = .nxt (wipO nm env) M := (rfl)
@[simp] theorem suite_ret : Ctl.suite nm (.ret v M) = .ret v M := (rfl)
@[simp] theorem suite_brk : Ctl.suite nm (.brk env M) = .brk (wipO nm env) M := (rfl)
@[simp] theorem suite_cnt : Ctl.suite nm (.cnt env M) = .cnt (wipO nm env) M := (rfl)
@[simp] theorem wipO_none : wipO none env = env := (rfl)
@[simp] theorem wipO_some {i : Nat} : wipO (some i) env = env.set i none := (rfl)
@[simp] theorem inO_none : inO none env = true := (rfl)
@[simp] theorem inO_some {i : Nat} : inO (some i) env = decide (i < env.length) := (rfl)
@[simp] theorem makR_exc : makR d fz M0 (.exc c M) = .exc c (trimM M0 M .non) := (rfl)
end
end HP
end
noncomputable section
namespace HP
section
variable {w : Wd} {env : Env} {M : Mem} {v o : PV} {vs : List PV} {ts : List TU} {e : E} {i j n : Nat} {cs : List Nat}
/-! targets of one level; dict comprehensions; d.get, dict(d) of the memory's dicts -/
def bdO (r : Option (Env × Mem)) : Ctl := match r with | some p => .nxt p.1 p.2 | none => .fail
def kUnp (env : Env) (ts : List TU) (v : PV) (M : Mem) : Ctl := match v with | .tup vs => bdO (bindU ts vs env M) | _ => .fail
@[simp] theorem bdO_ {p : Env × Mem} : bdO (some p) = .nxt p.1 p.2 := (rfl)
@[simp] theorem kUnp_ : kUnp env ts (.tup vs) M = bdO (bindU ts vs env M) := (rfl)
@[simp] theorem evS_unp : evS w (.unp ts e) env M = (evE w e env M).thn env (kUnp env ts) := by
  rw [evS]
  congr 1
  funext v M
  cases v <;> simp only [kUnp]
  unfold bdO
  split <;> rename_i h <;> rw [h]
@[simp] theorem bindU_nil : bindU [] [] env M = some (env, M) := (rfl)
@[simp] theorem bindU_name : bindU (.name i :: ts) (v :: vs) env M = if i < env.length then bindU ts vs (env.set i (some v)) M else none := (rfl)
def bdM (r : Option Mem) (ts : List TU) (vs : List PV) (env : Env) : Option (Env × Mem) := match r with | some M => bindU ts vs env M | none => none
@[simp] theorem bdM_ : bdM (some M) ts vs env = bindU ts vs env M := (rfl)
theorem bindU_att (h : env[j]? = some (some o)) : bindU (.att j n cs :: ts) (v :: vs) env M = bdM (setAR o n cs v M) ts vs env := by
  rw [bindU, h]
  rfl
theorem dget_d {k : PK} {a : PV} {kvs : List (PK × PV)} (h : M[n]? = some (.dic kvs)) (hk : keyP a = some k) : opn .dget [.ref n, a] M = .ok ((valP k kvs).getD .non) M := by
  unfold opn
  simp only [h, hk]
theorem dget_d2 {k : PK} {a d : PV} {kvs : List (PK × PV)} (h : M[n]? = some (.dic kvs)) (hk : keyP a = some k) : opn .dget [.ref n, a, d] M = .ok ((valP k kvs).getD d) M := by
  unfold opn
  simp only [h, hk]
theorem dict_d {kvs : List (PK × PV)} (h : M[n]? = some (.dic kvs)) : opn .dict [.ref n] M = .ok (.ref M.length) (M ++ [.dic kvs]) := by
  unfold opn
  simp only [h]
theorem tyM_dic {kvs : List (PK × PV)} (h : M[n]? = some (.dic kvs)) : tyM .dict (.ref n) M = true := by
  show (match M[n]? with | some (Cell.dic _) => true | _ => _) = _
  rw [h]
section
variable {g : Tg} {it : I} {tt : List T} {ns : List Nat} {ik iv : E} {xs : List PV} {p : PV → Bool} {fk fv : PV → PV} {M1 : Mem} {kvs : List (PK × PV)}
theorem dc_items (hI : evI w it env M = .ok (.items xs) M1) (hl : xs.length ≤ lim)
    (h : ∀ x ∈ xs, ∃ env', bindT g x (wipeE env ns) = some env' ∧ evTs w tt env' M1 = .ok (p x) M1 ∧ (p x = true → evE w ik env' M1 = .ok (fk x) M1 ∧ evE w iv env' M1 = .ok (fv x) M1))
    (hf : dcF [] ((xs.filter p).map fun x => .tup [fk x, fv x]) = some kvs) :
    evE w (.dc g it tt ns ik iv) env M = .ok (.ref M1.length) (M1 ++ [.dic kvs]) := by
  rw [evE, hI]
  simp only [Res.bind_ok, lcS]
  rw [if_pos hl, lcX_pure (f := fun x => .tup [fk x, fv x]) (p := p) trivial xs fun x hx => ?_]
  · simp only [Res.bind_ok, hf]
  · obtain ⟨e', h1, h2, h3⟩ := h x hx
    exact ⟨e', h1, h2, fun hp => by simp [(h3 hp).1, (h3 hp).2]⟩
end
end
end HP
end

set_option Elab.async false
set_option linter.all false
set_option maxRecDepth 100000
set_option maxHeartbeats 4000000
noncomputable section
namespace HTR
open HP
/-! the tape of k22, k24, k27 .. : a list at 0 that holds the script's ints (a list that never changes), a place, a rest, a seed -/
def nextR : Fn := ⟨2, 4, [.asg (.name 2) (.op2 .idx (.var 0) (.lit (.int (2)))),
    .ifs (.cmp .gt (.var 2) (.lit (.int (0)))) [.setI (.var 0) (.lit (.int (2))) (.op2 .fdiv (.var 2) (.var 1)), .ret (.op2 .mod (.opn .int [(.var 2)]) (.var 1))] [],
    .asg (.name 3) (.lit (.int (0))),
    .ifs (.cmp .lt (.op2 .idx (.var 0) (.lit (.int (1)))) (.opn .len [(.op2 .idx (.var 0) (.lit (.int (0))))])) [.asg (.name 3) (.opn .abs [(.op2 .idx (.op2 .idx (.var 0) (.lit (.int (0)))) (.op2 .idx (.var 0) (.lit (.int (1)))))]), .augI (.var 0) (.lit (.int (1))) .add (.lit (.int (1)))] [],
    .ifs (.cmp .ge (.var 3) (.op2 .pow (.lit (.int (10))) (.lit (.int (18))))) [.setI (.var 0) (.lit (.int (2))) (.op2 .fdiv (.var 3) (.var 1)), .ret (.op2 .mod (.opn .int [(.var 3)]) (.var 1))] [],
    .setI (.var 0) (.lit (.int (3))) (.op2 .mod (.opn .int [(.op2 .add (.op2 .add (.op2 .mul (.op2 .idx (.var 0) (.lit (.int (3)))) (.lit (.int (48271)))) (.op2 .mul (.var 3) (.lit (.int (69621))))) (.lit (.int (11))))]) (.lit (.int (2147483647)))),
    .ret (.op2 .mod (.opn .int [(.op2 .fdiv (.op2 .mod (.op2 .mul (.op2 .idx (.var 0) (.lit (.int (3)))) (.lit (.int (16807)))) (.lit (.int (2147483647)))) (.lit (.int (7))))]) (.var 1))]⟩
def tpC (ns : List Int) (i r s : Int) : Cell := .lst [.rol (ns.map PV.int), .int i, .int r, .int s]
def IsTp (c : Cell) : Prop := ∃ (ns : List Int) (i r s : Int), c = tpC ns i r s ∧ 0 ≤ i ∧ 0 ≤ r
theorem tp_mk {ns : List Int} {i r s : Int} (h : 0 ≤ i) (k : 0 ≤ r) : IsTp (tpC ns i r s) := ⟨ns, i, r, s, rfl, h, k⟩
theorem lows_ints {n : Nat} : ∀ ns : List Int, lows n (ns.map PV.int) = true
  | [] => by simp [lows]
  | i :: ns => by simp [lows, low, lows_ints ns]
theorem IsTp.low {c : Cell} (h : IsTp c) (n : Nat) : lowC n c = true := by
  obtain ⟨ns, i, r, s, rfl, _, _⟩ := h
  simp [tpC, lowC, lows, HP.low, lows_ints]
theorem trim_tp {tp tp' : Cell} {R G : Mem} {v : PV} (T : IsTp tp') (hv : low (R.length + 1) v = true) : trimM (tp :: R) (tp' :: (R ++ G)) v = tp' :: R := by
  rw [← List.cons_append]
  refine trimM_app (by simp) (by simpa using hv) fun i c e => ?_
  cases i with
  | zero => right; cases e; exact T.low _
  | succ i => left; simpa using e
theorem trim_tp0 {tp tp' : Cell} {R : Mem} {v : PV} : trimM (tp :: R) (tp' :: R) v = tp' :: R := trimM_eq (by simp)
theorem small_lit' {i : Int} (h : -(2 ^ 64) < i) (k : i < 2 ^ 64) : small i = true := by unfold small; simp only [h, k, decide_true, Bool.and_self]
theorem tp_idx {R : Mem} {ns : List Int} {i r s : Int} (k : Nat) {v : PV} (h : [PV.rol (ns.map PV.int), .int i, .int r, .int s][k]? = some v) : op2 .idx (.ref 0) (.int k) (tpC ns i r s :: R) = .ok v (tpC ns i r s :: R) := by
  rw [op2_idx_l (n := 0) (xs := [PV.rol (ns.map PV.int), .int i, .int r, .int s]) rfl, getI_nat, h]
  rfl
theorem tp_set {R : Mem} {ns : List Int} {i r s : Int} (k : Nat) (hk : k < 4) (v : PV) : setL (.ref 0) (.int k) v (tpC ns i r s :: R) = some ((.lst ([PV.rol (ns.map PV.int), .int i, .int r, .int s].set k v)) :: R) := by
  rw [setL_l (xs := [PV.rol (ns.map PV.int), .int i, .int r, .int s]) rfl (by simpa using hk)]
  rfl
theorem next_R {fs : List Fn} {glob : Nat → Option PV} {fuel k f : Nat} {tp : Cell} {R : Mem} {many : Int} (hf : fs[f]? = some nextR) (T : IsTp tp) (h0 : 0 < many) (h1 : many < 2 ^ 62) :
    ∃ v tp', run fs glob fuel (k + 1) f [.ref 0, .int many] (tp :: R) = .ok (.int v) (tp' :: R) ∧ 0 ≤ v ∧ v < many ∧ IsTp tp' := by
  obtain ⟨ns, i, r, s, rfl, hi, hr⟩ := T
  have hm : ∀ x : Int, 0 ≤ x % many ∧ x % many < many := fun x => ⟨Int.emod_nonneg _ (by omega), Int.emod_lt_of_pos _ h0⟩
  have hd : ∀ x : Int, 0 ≤ x → 0 ≤ x / many := fun x hx => Int.ediv_nonneg hx (by omega)
  have pw : (10 : Int) ^ (18 : Int).toNat = 1000000000000000000 := by decide
  have l1 := small_lit' (i := 48271) (by decide) (by decide)
  have l2 := small_lit' (i := 69621) (by decide) (by decide)
  have l3 := small_lit' (i := 16807) (by decide) (by decide)
  have x0 : ∀ i r s, op2 .idx (.ref 0) (.int 0) (tpC ns i r s :: R) = .ok (.rol (ns.map PV.int)) (tpC ns i r s :: R) := fun i r s => tp_idx 0 rfl
  have x1 : ∀ i r s, op2 .idx (.ref 0) (.int 1) (tpC ns i r s :: R) = .ok (.int i) (tpC ns i r s :: R) := fun i r s => tp_idx 1 rfl
  have x2 : ∀ i r s, op2 .idx (.ref 0) (.int 2) (tpC ns i r s :: R) = .ok (.int r) (tpC ns i r s :: R) := fun i r s => tp_idx 2 rfl
  have x3 : ∀ i r s, op2 .idx (.ref 0) (.int 3) (tpC ns i r s :: R) = .ok (.int s) (tpC ns i r s :: R) := fun i r s => tp_idx 3 rfl
  have s1 : ∀ i r s j, setL (.ref 0) (.int 1) (.int j) (tpC ns i r s :: R) = some (tpC ns j r s :: R) := fun i r s j => tp_set 1 (by decide) _
  have s2 : ∀ i r s j, setL (.ref 0) (.int 2) (.int j) (tpC ns i r s :: R) = some (tpC ns i j s :: R) := fun i r s j => tp_set 2 (by decide) _
  have s3 : ∀ i r s j, setL (.ref 0) (.int 3) (.int j) (tpC ns i r s :: R) = some (tpC ns i r j :: R) := fun i r s j => tp_set 3 (by decide) _
  have lb : many < 18446744073709551616 := by omega
  rw [run_fn hf rfl (by decide)]
  by_cases c1 : 0 < r
  · simp [nextR, x2, c1, h0, lb, s2, trim_tp0]
    exact ⟨_, _, ⟨rfl, rfl⟩, (hm r).1, (hm r).2, tp_mk hi (hd r hr)⟩
  · by_cases c2 : i < ns.length
    · have gi : getI (ns.map PV.int) i = some (.int (ns[i.toNat]'(by omega))) := by
        rw [getI_int hi, List.getElem?_map, List.getElem?_eq_getElem (by omega)]
        rfl
      generalize (ns[i.toNat]'(by omega)) = n at gi
      by_cases c3 : 1000000000000000000 ≤ (if n < 0 then -n else n)
      · simp [nextR, x0, x1, x2, c1, h0, lb, s1, s2, c2, gi, c3, pw, trim_tp0]
        refine ⟨_, _, ⟨rfl, rfl⟩, (hm _).1, (hm _).2, tp_mk (by omega) (hd _ (by omega))⟩
      · simp [nextR, x0, x1, x2, x3, c1, h0, lb, s1, s3, c2, gi, c3, pw, l1, l2, l3, trim_tp0]
        refine ⟨_, _, ⟨rfl, rfl⟩, (hm _).1, (hm _).2, tp_mk (by omega) hr⟩
    · simp [nextR, x0, x1, x2, x3, c1, h0, lb, s1, s3, c2, pw, l1, l2, l3, trim_tp0]
      refine ⟨_, _, ⟨rfl, rfl⟩, (hm _).1, (hm _).2, tp_mk hi hr⟩
end HTR

set_option Elab.async false
set_option linter.all false
set_option autoImplicit false
set_option maxRecDepth 100000
set_option maxHeartbeats 4000000
/-! The tape of the laws that keep it in a dict: a list of ints and two ints. -/
noncomputable section
namespace HP
def kCells : List Nat := [99, 101, 108, 108, 115]
def kRest : List Nat := [114, 101, 115, 116]
def kMixed : List Nat := [109, 105, 120, 101, 100]
def beginFn : Fn := ⟨1, 1, [.ret (.dct [(.s [99, 101, 108, 108, 115]), (.s [114, 101, 115, 116]), (.s [109, 105, 120, 101, 100])] [(.opn .list [(.var 0)]), (.lit (.int (0))), (.lit (.int (1)))])]⟩
def drawFn : Fn := ⟨2, 5, [.ifs (.and (.cmp .eq (.op2 .idx (.var 0) (.lit (.str [114, 101, 115, 116]))) (.lit (.int (0)))) (.cmp .gt (.opn .len [(.op2 .idx (.var 0) (.lit (.str [99, 101, 108, 108, 115])))]) (.lit (.int (0))))) [.asg (.name 2) (.op2 .idx (.var 0) (.lit (.str [99, 101, 108, 108, 115]))), .asg (.name 3) (.opn .abs [(.meth .list .pop (.var 2) [(.lit (.int (0)))])]), .ifs (.cmp .ge (.var 3) (.op2 .pow (.lit (.int (10))) (.lit (.int (18))))) [.setI (.var 0) (.lit (.str [114, 101, 115, 116])) (.var 3)] [], .setI (.var 0) (.lit (.str [109, 105, 120, 101, 100])) (.op2 .mod (.opn .int [(.op2 .add (.op2 .add (.op2 .mul (.op2 .idx (.var 0) (.lit (.str [109, 105, 120, 101, 100]))) (.lit (.int (48271)))) (.var 3)) (.lit (.int (13))))]) (.lit (.int (2147483647))))] [],
    .ifs (.cmp .gt (.op2 .idx (.var 0) (.lit (.str [114, 101, 115, 116]))) (.lit (.int (0)))) [.asg (.name 4) (.op2 .mod (.opn .int [(.op2 .idx (.var 0) (.lit (.str [114, 101, 115, 116])))]) (.var 1)), .setI (.var 0) (.lit (.str [114, 101, 115, 116])) (.op2 .fdiv (.op2 .idx (.var 0) (.lit (.str [114, 101, 115, 116]))) (.var 1)), .ret (.var 4)] [],
    .setI (.var 0) (.lit (.str [109, 105, 120, 101, 100])) (.op2 .mod (.opn .int [(.op2 .add (.op2 .mul (.op2 .idx (.var 0) (.lit (.str [109, 105, 120, 101, 100]))) (.lit (.int (69621)))) (.lit (.int (7))))]) (.lit (.int (2147483629)))),
    .ret (.op2 .mod (.opn .int [(.op2 .fdiv (.op2 .idx (.var 0) (.lit (.str [109, 105, 120, 101, 100]))) (.lit (.int (11))))]) (.var 1))]⟩
structure Tp where
  cells : List Int
  rest : Nat
  mixed : Int
/-- the tape's two cells -/
def dicT (r m : Int) : Cell := .dic [(.s [99, 101, 108, 108, 115], .ref 1), (.s [114, 101, 115, 116], .int r), (.s [109, 105, 120, 101, 100], .int m)]
def tpC (t : Tp) : Mem := [dicT t.rest t.mixed, .lst (t.cells.map PV.int)]
section
variable {r m : Int} {C : Mem} {c : Cell} {v : PV} {xs : List PV}
@[simp] theorem tx_cells : op2 .idx (.ref 0) (.str [99, 101, 108, 108, 115]) (dicT r m :: C) = .ok (.ref 1) (dicT r m :: C) := rfl
@[simp] theorem tx_rest : op2 .idx (.ref 0) (.str [114, 101, 115, 116]) (dicT r m :: C) = .ok (.int r) (dicT r m :: C) := rfl
@[simp] theorem tx_mixed : op2 .idx (.ref 0) (.str [109, 105, 120, 101, 100]) (dicT r m :: C) = .ok (.int m) (dicT r m :: C) := rfl
@[simp] theorem ts_rest {i : Int} : setL (.ref 0) (.str [114, 101, 115, 116]) (.int i) (dicT r m :: C) = some (dicT i m :: C) := by
  rw [setL_d (show (dicT r m :: C)[0]? = some (.dic _) from rfl)]
  exact if_pos (show 3 < lim by decide)
@[simp] theorem ts_mixed {i : Int} : setL (.ref 0) (.str [109, 105, 120, 101, 100]) (.int i) (dicT r m :: C) = some (dicT r i :: C) := by
  rw [setL_d (show (dicT r m :: C)[0]? = some (.dic _) from rfl)]
  exact if_pos (show 3 < lim by decide)
@[simp] theorem tl_len : opn .len [.ref 1] (c :: .lst xs :: C) = .ok (.int xs.length) (c :: .lst xs :: C) := opn_len_l rfl
@[simp] theorem tl_ty : tyM .list (.ref 1) (c :: .lst xs :: C) = true := tyM_list (xs := xs) rfl
@[simp] theorem tl_pop : opn .pop [.ref 1, .int 0] (c :: .lst (v :: xs) :: C) = .ok v (c :: .lst xs :: C) := opn_pop0 (xs := xs) rfl
end
theorem draw_ok {fs : List Fn} {glob : Nat → Option PV} {fuel k f : Nat} (hf : fs[f]? = some drawFn) (t : Tp) (C : Mem) {many : Int} (h0 : 0 < many) (h1 : many < 2 ^ 62) :
    ∃ v t', run fs glob fuel (k + 1) f [.ref 0, .int many] (tpC t ++ C) = .ok (.int v) (tpC t' ++ C) ∧ 0 ≤ v ∧ v < many := by
  obtain ⟨ns, r, s⟩ := t
  have hm : ∀ x : Int, 0 ≤ x % many ∧ x % many < many := fun x => ⟨Int.emod_nonneg _ (by omega), Int.emod_lt_of_pos _ h0⟩
  have pw : (10 : Int) ^ (18 : Int).toNat = 1000000000000000000 := by decide
  have l1 : small 48271 = true := by decide
  have l2 : small 69621 = true := by decide
  have lb : many < 18446744073709551616 := by omega
  have hd : ∀ x : Nat, ∃ y : Nat, (x : Int) / many = y := fun x => ⟨((x : Int) / many).toNat, (Int.toNat_of_nonneg (Int.ediv_nonneg (by omega) (by omega))).symm⟩
  rw [run_fn hf rfl (by decide)]
  have trs : ∀ (a b : Cell) (v : PV), trimM (dicT r s :: .lst (ns.map PV.int) :: C) (a :: b :: C) v = a :: b :: C := fun a b v => trimM_eq rfl
  show ∃ v t', Res.trim (dicT r s :: .lst (ns.map PV.int) :: C) _ = _ ∧ _
  have hM : tpC ⟨ns, r, s⟩ ++ C = dicT r s :: .lst (ns.map PV.int) :: C := rfl
  rw [hM]
  by_cases hr : r = 0
  · subst hr
    cases ns with
    | nil =>
      have trs : ∀ (a b : Cell) (v : PV), trimM (dicT 0 s :: .lst [] :: C) (a :: b :: C) v = a :: b :: C := fun a b v => trimM_eq rfl
      refine ⟨(s * 69621 + 7) % 2147483629 / 11 % many, ⟨[], 0, (s * 69621 + 7) % 2147483629⟩, ?_, hm _⟩
      simp [drawFn, l1, l2, lb, h0, trs, tpC]
    | cons n ns =>
      have pos : (0 : Int) < ns.length + 1 := by omega
      have trs : ∀ (a b : Cell) (v : PV), trimM (dicT 0 s :: .lst (.int n :: ns.map PV.int) :: C) (a :: b :: C) v = a :: b :: C := fun a b v => trimM_eq rfl
      by_cases c3 : 1000000000000000000 ≤ (if n < 0 then -n else n)
      · obtain ⟨y, hy⟩ : ∃ y : Nat, (if n < 0 then -n else n) = (y : Int) := ⟨(if n < 0 then -n else n).toNat, by omega⟩
        obtain ⟨z, hz⟩ := hd y
        have yp : (0 : Int) < y := by omega
        rw [hy] at c3
        have y0 : ¬ y = 0 := by omega
        refine ⟨(y : Int) % many, ⟨ns, z, (s * 48271 + y + 13) % 2147483647⟩, ?_, hm _⟩
        simp [drawFn, l1, l2, lb, h0, pos, pw, hy, c3, yp, y0, hz, trs, tpC]
      · refine ⟨(((s * 48271 + (if n < 0 then -n else n) + 13) % 2147483647) * 69621 + 7) % 2147483629 / 11 % many, ⟨ns, 0, (((s * 48271 + (if n < 0 then -n else n) + 13) % 2147483647) * 69621 + 7) % 2147483629⟩, ?_, hm _⟩
        simp [drawFn, l1, l2, lb, h0, pos, pw, c3, trs, tpC]
  · have hr0 : ¬ ((r : Int) = 0) := by omega
    have hr1 : (0 : Int) < r := by omega
    obtain ⟨y, hy⟩ := hd r
    have hrn : ¬ (0 < r ∧ False) := by simp
    refine ⟨(r : Int) % many, ⟨ns, y, s⟩, ?_, hm _⟩
    simp [drawFn, hr, hr0, hr1, h0, lb, hy, trs, tpC]
theorem begin_ok {fs : List Fn} {glob : Nat → Option PV} {fuel k f : Nat} (hf : fs[f]? = some beginFn) (ns : List Int) : run fs glob fuel (k + 1) f [scriptV ns] [] = .ok (.ref 0) (tpC ⟨ns, 0, 1⟩) := by
  rw [run_fn hf rfl (by decide)]
  have ht : ∀ M' : Mem, trimM [] M' (.ref 0) = M' := fun M' => trimM_hi (by simp [low])
  simp [beginFn, scriptV, ht, tpC, dicT]
def pickFn (d : Nat) : Fn := ⟨2, 2, [.ret (.op2 .idx (.var 1) (.call d [(.var 0), (.opn .len [(.var 1)])]))]⟩
section
variable {fs : List Fn} {glob : Nat → Option PV} {fuel k f d : Nat}
theorem pick_r (hf : fs[f]? = some (pickFn d)) (hd : fs[d]? = some drawFn) (t : Tp) (C : Mem) {xs : List PV} (h0 : xs ≠ []) (h1 : xs.length ≤ lim) :
    ∃ v t', v ∈ xs ∧ run fs glob fuel (k + 2) f [.ref 0, .rol xs] (tpC t ++ C) = .ok v (tpC t' ++ C) := by
  have hl : 0 < xs.length := List.length_pos_iff.mpr h0
  have hlim : lim = 1000000 := rfl
  obtain ⟨i, t', e, hi0, hi1⟩ := draw_ok (glob := glob) (fuel := fuel) (k := k) hd t C (many := xs.length) (by omega) (by omega)
  obtain ⟨v, hv, e2⟩ := getI_mem (xs := xs) hi0 hi1
  refine ⟨v, t', hv, ?_⟩
  have ht : trimM (tpC t ++ C) (tpC t' ++ C) v = tpC t' ++ C := trimM_eq rfl
  rw [run_fn (k := k + 1) hf rfl (show 2 ≤ 2 from Nat.le_refl 2)]
  simp [pickFn, e, e2, ht]
theorem pick_l (hf : fs[f]? = some (pickFn d)) (hd : fs[d]? = some drawFn) (t : Tp) (C : Mem) {n : Nat} {xs : List PV} (hn : C[n]? = some (.lst xs)) (h0 : xs ≠ []) (h1 : xs.length ≤ lim) :
    ∃ v t', v ∈ xs ∧ run fs glob fuel (k + 2) f [.ref 0, .ref (n + 2)] (tpC t ++ C) = .ok v (tpC t' ++ C) := by
  have hl : 0 < xs.length := List.length_pos_iff.mpr h0
  have hlim : lim = 1000000 := rfl
  obtain ⟨i, t', e, hi0, hi1⟩ := draw_ok (glob := glob) (fuel := fuel) (k := k) hd t C (many := xs.length) (by omega) (by omega)
  obtain ⟨v, hv, e2⟩ := getI_mem (xs := xs) hi0 hi1
  refine ⟨v, t', hv, ?_⟩
  have ht : trimM (tpC t ++ C) (tpC t' ++ C) v = tpC t' ++ C := trimM_eq rfl
  have hM : ∀ t : Tp, (tpC t ++ C)[n + 2]? = some (.lst xs) := fun t => hn
  rw [run_fn (k := k + 1) hf rfl (show 2 ≤ 2 from Nat.le_refl 2)]
  simp [pickFn, e, e2, ht, opn_len_l (hM t), op2_idx_l (hM t')]
end
end HP
end

set_option Elab.async false
set_option linter.all false
set_option autoImplicit false
set_option maxRecDepth 100000
set_option maxHeartbeats 4000000
/-! Words: numbers, texts, tuples, atoms: what the texts about them come to, in plain functions. -/
noncomputable section
namespace HP
def isNum : PV → Bool
  | .int i => decide (-2147483648 ≤ i) && decide (i ≤ 2147483647)
  | _ => false
def chOk (c : Nat) : Bool := !ltL [c] [32] && !ltL [126] [c]
def isTxt : PV → Bool
  | .str s => decide (s.length ≤ 24) && s.all chOk
  | _ => false
mutual
/-- a word that is nested at most so deep -/
def fitsD : PV → Nat → Bool
  | .non, _ => true
  | .int i, _ => isNum (.int i)
  | .str s, _ => isTxt (.str s)
  | .obj c _ _, _ => c == 0
  | .tup vs, r => match r with
    | 0 => false
    | r + 1 => fitsDs vs r
  | _, _ => false
def fitsDs : List PV → Nat → Bool
  | [], _ => true
  | v :: vs, r => fitsD v r && fitsDs vs r
end
theorem fitsDs_all {r : Nat} : ∀ vs : List PV, fitsDs vs r = vs.all fun v => fitsD v r
  | [] => rfl
  | v :: vs => by
    rw [List.all_cons, ← fitsDs_all vs]
    rfl
mutual
/-- no part is a place in the memory, texts and tuples are not too long -/
def okV : PV → Bool
  | .str s => decide (s.length ≤ lim)
  | .tup vs => decide (vs.length ≤ lim) && okVs vs
  | .ref _ => false
  | .ty _ => false
  | _ => true
def okVs : List PV → Bool
  | [] => true
  | v :: vs => okV v && okVs vs
end
theorem okVs_mem : ∀ {vs : List PV}, okVs vs = true → ∀ v ∈ vs, okV v = true
  | [], _, v, hv => by cases hv
  | x :: vs, h, v, hv => by
    unfold okVs at h
    rw [Bool.and_eq_true] at h
    rcases List.mem_cons.mp hv with rfl | hv
    · exact h.1
    · exact okVs_mem h.2 v hv
/-! ### data without the memory -/
mutual
def dO : PV → PD
  | .non => .non
  | .bl b => .bl b
  | .int i => .int i
  | .str s => .str s
  | .tup vs => .tup (dOs vs)
  | .rol vs => .lst (dOs vs)
  | .obj _ _ vs => match vs with
    | [] => .non
    | a :: vs => match vs with
      | [] => .non
      | b :: _ => .atm (dO a) (dO b)
  | _ => .non
def dOs : List PV → List PD
  | [] => []
  | v :: vs => dO v :: dOs vs
end
mutual
/-- plain data -/
def pd : PV → Bool
  | .non => true
  | .bl _ => true
  | .int _ => true
  | .str _ => true
  | .tup vs => pds vs
  | .rol vs => pds vs
  | .obj c ns vs => (c == 0) && (match ns with
    | 0 :: 1 :: _ => true
    | _ => false) && decide (2 ≤ vs.length) && pds vs
  | _ => false
def pds : List PV → Bool
  | [] => true
  | v :: vs => pd v && pds vs
end
mutual
/-- how deep it is nested, atoms' terms too -/
def dp : PV → Nat
  | .tup vs => dps vs + 1
  | .rol vs => dps vs + 1
  | .obj _ _ vs => dps vs + 1
  | _ => 0
def dps : List PV → Nat
  | [] => 0
  | v :: vs => max (dp v) (dps vs)
end
theorem pds_mem : ∀ {vs : List PV}, pds vs = true → ∀ v ∈ vs, pd v = true
  | [], _, v, hv => by cases hv
  | x :: vs, h, v, hv => by
    unfold pds at h
    rw [Bool.and_eq_true] at h
    rcases List.mem_cons.mp hv with rfl | hv
    · exact h.1
    · exact pds_mem h.2 v hv
theorem dps_mem : ∀ {vs : List PV} {v : PV}, v ∈ vs → dp v ≤ dps vs
  | [], v, hv => by cases hv
  | x :: vs, v, hv => by
    unfold dps
    rcases List.mem_cons.mp hv with rfl | hv
    · omega
    · have := dps_mem hv
      omega
theorem dOs_map : ∀ vs : List PV, dOs vs = vs.map dO
  | [] => rfl
  | v :: vs => by
    rw [List.map_cons, ← dOs_map vs]
    rfl
mutual
theorem toD_pd {M : Mem} : ∀ (v : PV) (k : Nat), pd v = true → dp v < k → toD M k v = some (dO v)
  | v, 0, _, h => by omega
  | .non, k + 1, _, _ => rfl
  | .bl _, k + 1, _, _ => rfl
  | .int _, k + 1, _, _ => rfl
  | .str _, k + 1, _, _ => rfl
  | .tup vs, k + 1, h, hd => by
    unfold pd at h
    unfold dp at hd
    rw [toD_tup, allD_pds vs k h (by omega)]
    rfl
  | .rol vs, k + 1, h, hd => by
    unfold pd at h
    unfold dp at hd
    rw [toD_rol, allD_pds vs k h (by omega)]
    rfl
  | .obj c ns vs, k + 1, h, hd => by
    unfold pd at h
    unfold dp at hd
    simp only [Bool.and_eq_true, decide_eq_true_eq] at h
    obtain ⟨⟨⟨h1, h2⟩, h3⟩, h4⟩ := h
    have h1 := eq_of_beq h1
    subst h1
    split at h2
    · cases vs with
      | nil => simp at h3
      | cons a vs =>
        cases vs with
        | nil => simp at h3
        | cons b vs =>
          have q := allD_pds (M := M) (a :: b :: vs) k h4 (by omega)
          unfold allD at q
          cases ha : toD M k a with
          | none => rw [ha] at q; cases q
          | some x =>
            rw [ha] at q
            unfold allD at q
            cases hb : toD M k b with
            | none => simp [hb] at q
            | some y =>
              simp only [hb] at q
              rw [toD_atm, ha, hb]
              cases hr : allD (toD M k) vs with
              | none => rw [hr] at q; cases q
              | some ds =>
                rw [hr] at q
                simp only [dOs, Option.some.injEq, List.cons.injEq] at q
                simp only [dO, atmO_]
                rw [q.1, q.2.1]
    · cases h2
  | .ref _, k + 1, h, _ => by unfold pd at h; cases h
  | .rod _ _, k + 1, h, _ => by unfold pd at h; cases h
  | .ty _, k + 1, h, _ => by unfold pd at h; cases h
theorem allD_pds {M : Mem} : ∀ (vs : List PV) (k : Nat), pds vs = true → dps vs < k → allD (toD M k) vs = some (dOs vs)
  | [], k, _, _ => rfl
  | v :: vs, k, h, hd => by
    unfold pds at h
    unfold dps at hd
    rw [Bool.and_eq_true] at h
    rw [allD_cons (toD_pd v k h.1 (by omega)) (allD_pds vs k h.2 (by omega))]
    rfl
end
mutual
theorem low_pd {n : Nat} : ∀ (v : PV), pd v = true → low n v = true
  | .non, _ => by simp only [low]
  | .bl _, _ => by simp only [low]
  | .int _, _ => by simp only [low]
  | .str _, _ => by simp only [low]
  | .tup vs, h => by
    simp only [pd] at h
    simp only [low]
    exact lows_pds vs h
  | .rol vs, h => by
    simp only [pd] at h
    simp only [low]
    exact lows_pds vs h
  | .obj c ns vs, h => by
    simp only [pd, Bool.and_eq_true] at h
    simp only [low]
    exact lows_pds vs h.2
  | .ref _, h => by simp only [pd] at h; cases h
  | .rod _ _, h => by simp only [pd] at h; cases h
  | .ty _, h => by simp only [pd] at h; cases h
theorem lows_pds {n : Nat} : ∀ (vs : List PV), pds vs = true → lows n vs = true
  | [], _ => by simp only [lows]
  | v :: vs, h => by
    simp only [pds, Bool.and_eq_true] at h
    simp only [lows, low_pd v h.1, lows_pds vs h.2, Bool.and_self]
end
/-- == of plain data -/
def eqV (a b : PV) : Bool := eqD (dO a) (dO b)
theorem eqPV_pd {M : Mem} {a b : PV} (ha : pd a = true) (hb : pd b = true) (da : dp a < 90) (db : dp b < 90) : eqPV M a b = some (eqV a b) := by
  unfold eqPV
  cases h : eqS a b with
  | none => simp only [toD_pd a 90 ha da, toD_pd b 90 hb db]; rfl
  | some r =>
    simp only
    unfold eqV
    cases a <;> first | (cases h; done) | (cases b <;> first | (cases h; done) | (cases h; simp [dO, eqD]))
theorem any_dO (a : PV) : ∀ xs : List PV, ((dOs xs).any fun z => eqD z (dO a)) = xs.any fun z => eqV z a
  | [] => rfl
  | x :: xs => by
    show ((dO x :: dOs xs).any fun z => eqD z (dO a)) = _
    rw [List.any_cons, List.any_cons, any_dO a xs]
    rfl
theorem inPV_lst {M : Mem} {a : PV} {n : Nat} {xs : List PV} (h : M[n]? = some (.lst xs)) (ha : pd a = true) (da : dp a < 90) (hx : pds xs = true) (dx : dps xs < 90) : inPV M a (.ref n) = some (xs.any fun z => eqV z a) := by
  unfold inPV
  simp only [h, toD_pd a 90 ha da, allD_pds xs 90 hx dx]
  rw [any_dO]
theorem inPV_rol {M : Mem} {a : PV} {xs : List PV} (ha : pd a = true) (da : dp a < 90) (hx : pds xs = true) (dx : dps xs < 90) : inPV M a (.rol xs) = some (xs.any fun z => eqV z a) := by
  unfold inPV
  simp only [toD_pd a 90 ha da, allD_pds xs 90 hx dx]
  rw [any_dO]
/-! ### == is an equivalence -/
mutual
/-- truths as numbers -/
def nrm : PD → PD
  | .bl b => .int (if b then 1 else 0)
  | .tup vs => .tup (nrms vs)
  | .lst vs => .lst (nrms vs)
  | .atm a b => .atm (nrm a) (nrm b)
  | d => d
def nrms : List PD → List PD
  | [] => []
  | v :: vs => nrm v :: nrms vs
end
mutual
theorem eqD_nrm : ∀ a b : PD, eqD a b = true ↔ nrm a = nrm b
  | .non, b => by cases b <;> simp [eqD, nrm]
  | .bl x, b => by cases b <;> simp [eqD, nrm] <;> cases x <;> first | omega | (rename_i c; cases c <;> simp) | simp [eq_comm]
  | .int i, b => by cases b <;> simp [eqD, nrm]
  | .str s, b => by cases b <;> simp [eqD, nrm]
  | .tup xs, b => by
    cases b <;> simp only [eqD, nrm, Bool.false_eq_true, reduceCtorEq]
    rw [eqDs_nrms xs _, PD.tup.injEq]
  | .lst xs, b => by
    cases b <;> simp only [eqD, nrm, Bool.false_eq_true, reduceCtorEq]
    rw [eqDs_nrms xs _, PD.lst.injEq]
  | .atm x y, b => by
    cases b <;> simp only [eqD, nrm, Bool.false_eq_true, reduceCtorEq]
    rw [Bool.and_eq_true, eqD_nrm x, eqD_nrm y, PD.atm.injEq]
theorem eqDs_nrms : ∀ a b : List PD, eqDs a b = true ↔ nrms a = nrms b
  | [], b => by cases b <;> simp [eqDs, nrms]
  | x :: xs, b => by
    cases b with
    | nil => simp [eqDs, nrms]
    | cons y ys =>
      simp only [eqDs, nrms, List.cons.injEq]
      rw [Bool.and_eq_true, eqD_nrm x, eqDs_nrms xs]
end
theorem eqV_iff {a b : PV} : eqV a b = true ↔ nrm (dO a) = nrm (dO b) := eqD_nrm _ _
theorem eqV_refl (a : PV) : eqV a a = true := eqV_iff.mpr rfl
theorem eqV_symm {a b : PV} (h : eqV a b = true) : eqV b a = true := eqV_iff.mpr (eqV_iff.mp h).symm
theorem eqV_trans {a b c : PV} (h : eqV a b = true) (k : eqV b c = true) : eqV a c = true := eqV_iff.mpr ((eqV_iff.mp h).trans (eqV_iff.mp k))
theorem eqV_congr {a b c : PV} (h : eqV a b = true) : eqV a c = eqV b c := by
  rw [Bool.eq_iff_iff]
  exact ⟨fun k => eqV_trans (eqV_symm h) k, fun k => eqV_trans h k⟩
/-! ### the atoms in a word -/
def isAt : PV → Bool
  | .obj c _ _ => c == 0
  | _ => false
mutual
def gath : PV → List PV → List PV
  | .obj c ns vs, xs => if c == 0 then (if xs.any fun z => eqV z (.obj c ns vs) then xs else xs ++ [.obj c ns vs]) else xs
  | .tup vs, xs => gaths vs xs
  | _, xs => xs
def gaths : List PV → List PV → List PV
  | [], xs => xs
  | v :: vs, xs => gaths vs (gath v xs)
end
/-- .. with kind, term and rank -/
def isAt3 : PV → Bool
  | .obj c ns vs => (c == 0) && (match ns with
    | [0, 1, 2] => (match vs with
      | [_, _, .int _] => true
      | _ => false)
    | _ => false)
  | _ => false
def atO (v : PV) : Bool := pd v && decide (dp v < 82) && isAt3 v
theorem isAt3_form {v : PV} (h : isAt3 v = true) : ∃ a b r, v = .obj 0 [0, 1, 2] [a, b, .int r] := by
  unfold isAt3 at h
  split at h
  · rw [Bool.and_eq_true] at h
    obtain ⟨h1, h2⟩ := h
    have := eq_of_beq h1
    subst this
    split at h2
    · split at h2
      · exact ⟨_, _, _, rfl⟩
      · cases h2
    · cases h2
  · cases h
theorem atO_pd {v : PV} (h : atO v = true) : pd v = true ∧ dp v < 82 ∧ isAt3 v = true := by
  unfold atO at h
  simp only [Bool.and_eq_true, decide_eq_true_eq] at h
  exact ⟨h.1.1, h.1.2, h.2⟩
mutual
/-- atoms in tuples are plain data -/
def atP : PV → Bool
  | .obj c ns vs => atO (.obj c ns vs)
  | .tup vs => atPs vs
  | _ => true
def atPs : List PV → Bool
  | [] => true
  | v :: vs => atP v && atPs vs
end
mutual
/-- how many atoms; how deep the tuples -/
def cnt : PV → Nat
  | .obj _ _ _ => 1
  | .tup vs => cnts vs
  | _ => 0
def cnts : List PV → Nat
  | [] => 0
  | v :: vs => cnt v + cnts vs
end
mutual
def nest : PV → Nat
  | .tup vs => nests vs + 1
  | _ => 0
def nests : List PV → Nat
  | [] => 0
  | v :: vs => max (nest v) (nests vs)
end
/-- plain atoms -/
def atsOk (xs : List PV) : Prop := ∀ x ∈ xs, atO x = true
theorem pds_app : ∀ {xs ys : List PV}, pds (xs ++ ys) = (pds xs && pds ys)
  | [], ys => by simp [pds]
  | x :: xs, ys => by
    have h1 : ∀ l : List PV, pds (x :: l) = (pd x && pds l) := fun l => rfl
    rw [List.cons_append, h1, h1, pds_app, Bool.and_assoc]
theorem dps_app : ∀ {xs ys : List PV}, dps (xs ++ ys) = max (dps xs) (dps ys)
  | [], ys => by simp [dps]
  | x :: xs, ys => by
    have h1 : ∀ l : List PV, dps (x :: l) = max (dp x) (dps l) := fun l => rfl
    rw [List.cons_append, h1, h1, dps_app]
    omega
theorem atsOk_nil : atsOk [] := fun x h => by cases h
theorem atsOk_pds : ∀ {xs : List PV}, atsOk xs → pds xs = true ∧ dps xs < 82
  | [], _ => ⟨rfl, by decide⟩
  | x :: xs, h => by
    obtain ⟨h1, h2⟩ := atsOk_pds (xs := xs) fun y hy => h y (List.mem_cons_of_mem _ hy)
    obtain ⟨q1, q2, _⟩ := atO_pd (h x List.mem_cons_self)
    refine ⟨?_, ?_⟩
    · show (pd x && pds xs) = true
      rw [q1, h1]
      rfl
    · show max (dp x) (dps xs) < 82
      omega
theorem atsOk_snoc {xs : List PV} {a : PV} (h : atsOk xs) (ha : atO a = true) : atsOk (xs ++ [a]) := fun x hx => by
  rcases List.mem_append.mp hx with hx | hx
  · exact h x hx
  · rw [List.mem_singleton.mp hx]; exact ha
mutual
theorem gath_ok : ∀ (v : PV) (xs : List PV), atP v = true → atsOk xs → atsOk (gath v xs) ∧ (gath v xs).length ≤ xs.length + cnt v
  | .obj c ns vs, xs, h, hx => by
    simp only [atP] at h
    simp only [gath, cnt]
    split
    · split
      · exact ⟨hx, by omega⟩
      · exact ⟨atsOk_snoc hx h, by simp⟩
    · exact ⟨hx, by omega⟩
  | .tup vs, xs, h, hx => by
    simp only [atP] at h
    simp only [gath, cnt]
    exact gaths_ok vs xs h hx
  | .non, xs, h, hx => by simp only [gath, cnt]; exact ⟨hx, by omega⟩
  | .bl _, xs, h, hx => by simp only [gath, cnt]; exact ⟨hx, by omega⟩
  | .int _, xs, h, hx => by simp only [gath, cnt]; exact ⟨hx, by omega⟩
  | .str _, xs, h, hx => by simp only [gath, cnt]; exact ⟨hx, by omega⟩
  | .rol _, xs, h, hx => by simp only [gath, cnt]; exact ⟨hx, by omega⟩
  | .ref _, xs, h, hx => by simp only [gath, cnt]; exact ⟨hx, by omega⟩
  | .rod _ _, xs, h, hx => by simp only [gath, cnt]; exact ⟨hx, by omega⟩
  | .ty _, xs, h, hx => by simp only [gath, cnt]; exact ⟨hx, by omega⟩
theorem gaths_ok : ∀ (vs : List PV) (xs : List PV), atPs vs = true → atsOk xs → atsOk (gaths vs xs) ∧ (gaths vs xs).length ≤ xs.length + cnts vs
  | [], xs, _, hx => by simp only [gaths, cnts]; exact ⟨hx, by omega⟩
  | v :: vs, xs, h, hx => by
    simp only [atPs, Bool.and_eq_true] at h
    obtain ⟨h1, h2⟩ := gath_ok v xs h.1 hx
    obtain ⟨h3, h4⟩ := gaths_ok vs (gath v xs) h.2 h1
    simp only [gaths, cnts]
    exact ⟨h3, by omega⟩
end
/-- an atom's rank -/
def rankA : PV → Int
  | .obj _ _ vs => match vs with
    | _ :: _ :: .int r :: _ => r
    | _ => 0
  | _ => 0
def rankW (v : PV) : Int := ((gath v []).map rankA).foldl max 0
/-! ### one list behind another, what is there already left out -/
def hasV (xs : List PV) (a : PV) : Bool := xs.any fun z => eqV z a
def mrg (xs l : List PV) : List PV := xs ++ l.filter fun a => !hasV xs a
theorem hasV_app {xs ys : List PV} {a : PV} : hasV (xs ++ ys) a = (hasV xs a || hasV ys a) := by
  unfold hasV
  rw [List.any_append]
theorem hasV_eq {xs : List PV} {a b : PV} (h : eqV a b = true) : hasV xs a = hasV xs b := by
  unfold hasV
  congr 1
  funext z
  rw [Bool.eq_iff_iff]
  exact ⟨fun k => eqV_trans k h, fun k => eqV_trans k (eqV_symm h)⟩
theorem mrg_nil (l : List PV) : mrg [] l = l := by
  unfold mrg hasV
  simp
theorem mrg_assoc (xs l m : List PV) : mrg (mrg xs l) m = mrg xs (mrg l m) := by
  unfold mrg
  rw [List.filter_append, List.filter_filter, ← List.append_assoc]
  congr 1
  refine List.filter_congr fun a _ => ?_
  rw [hasV_app]
  cases h : hasV xs a with
  | true => simp
  | false =>
    simp only [Bool.false_or, Bool.not_false, Bool.true_and]
    congr 1
    unfold hasV at h ⊢
    rw [Bool.eq_iff_iff, List.any_eq_true, List.any_eq_true]
    refine ⟨fun ⟨z, h1, h2⟩ => ⟨z, (List.mem_filter.mp h1).1, h2⟩, fun ⟨z, h1, h2⟩ => ⟨z, List.mem_filter.mpr ⟨h1, ?_⟩, h2⟩⟩
    have : hasV xs z = hasV xs a := hasV_eq h2
    unfold hasV at this
    rw [this, h]
    rfl
mutual
/-- the atoms in a word, each once -/
def insd : PV → List PV
  | .obj c ns vs => if c == 0 then [.obj c ns vs] else []
  | .tup vs => insds vs []
  | _ => []
def insds : List PV → List PV → List PV
  | [], acc => acc
  | v :: vs, acc => insds vs (mrg acc (insd v))
end
theorem insds_mem : ∀ {vs acc : List PV} {a : PV}, a ∈ insds vs acc → a ∈ acc ∨ ∃ v ∈ vs, a ∈ insd v
  | [], acc, a, h => .inl h
  | v :: vs, acc, a, h => by
    simp only [insds] at h
    rcases insds_mem h with q | ⟨w, h1, h2⟩
    · rcases List.mem_append.mp q with q | q
      · exact .inl q
      · exact .inr ⟨v, List.mem_cons_self, (List.mem_filter.mp q).1⟩
    · exact .inr ⟨w, List.mem_cons_of_mem _ h1, h2⟩
mutual
theorem gath_mrg : ∀ (v : PV) (xs : List PV), gath v xs = mrg xs (insd v)
  | .obj c ns vs, xs => by
    simp only [gath, insd]
    cases h : (c == 0) with
    | false => simp [mrg]
    | true =>
      simp only [if_true]
      unfold mrg hasV
      rw [List.filter_cons]
      cases ha : (xs.any fun z => eqV z (.obj c ns vs)) <;> simp
  | .tup vs, xs => by
    simp only [gath, insd]
    rw [gaths_mrg vs xs, insds_gaths vs []]
  | .non, xs => by simp [gath, insd, mrg]
  | .bl _, xs => by simp [gath, insd, mrg]
  | .int _, xs => by simp [gath, insd, mrg]
  | .str _, xs => by simp [gath, insd, mrg]
  | .rol _, xs => by simp [gath, insd, mrg]
  | .ref _, xs => by simp [gath, insd, mrg]
  | .rod _ _, xs => by simp [gath, insd, mrg]
  | .ty _, xs => by simp [gath, insd, mrg]
theorem gaths_mrg : ∀ (vs : List PV) (xs : List PV), gaths vs xs = mrg xs (gaths vs [])
  | [], xs => by simp [gaths, mrg]
  | v :: vs, xs => by
    simp only [gaths]
    rw [gath_mrg v xs, gath_mrg v [], mrg_nil, gaths_mrg vs (mrg xs (insd v)), gaths_mrg vs (insd v), mrg_assoc]
theorem insds_gaths : ∀ (vs : List PV) (acc : List PV), insds vs acc = gaths vs acc
  | [], acc => rfl
  | v :: vs, acc => by
    simp only [insds, gaths]
    rw [insds_gaths vs, gath_mrg v acc]
end
theorem gath_nil (v : PV) : gath v [] = insd v := by rw [gath_mrg, mrg_nil]
def isTupV : PV → Bool
  | .tup _ => true
  | _ => false
theorem kd_ok {M : Mem} {v : PV} (h : okV v = true) : ∃ q, kd v M = some q ∧ (decide (q = Kd.str) = isStrV v) ∧ (decide (q = Kd.tup) = isTupV v) := by
  cases v <;> first | (simp [okV] at h; done) | exact ⟨_, rfl, rfl, rfl⟩ | exact ⟨_, rfl, by simp [isStrV], by simp [isTupV]⟩
/-- isinstance(v, str), isinstance(v, tuple) -/
theorem isi_str {M : Mem} {v : PV} (h : okV v = true) : isiRes (kd v M) .str M = .ok (.bl (isStrV v)) M := by
  obtain ⟨q, h1, h2, h3⟩ := kd_ok (M := M) h
  rw [h1, isiRes_str, h2]
theorem isi_tup {M : Mem} {v : PV} (h : okV v = true) : isiRes (kd v M) .tuple M = .ok (.bl (isTupV v)) M := by
  obtain ⟨q, h1, h2, h3⟩ := kd_ok (M := M) h
  rw [h1, isiRes_tuple, h3]
end HP
end

set_option Elab.async false
set_option linter.all false
set_option autoImplicit false
set_option maxRecDepth 100000
set_option maxHeartbeats 4000000
/-! Programs, registers, measures, starts: what the texts about them come to, in plain functions. -/
noncomputable section
namespace HP
def isI : PV → Bool
  | .int _ => true
  | _ => false
def inRg (lo hi : Int) : PV → Bool
  | .int i => decide (lo ≤ i) && decide (i < hi)
  | _ => false
abbrev chR : Nat := 114
abbrev chN : Nat := 110
abbrev chT : Nat := 116
abbrev wSet : List Nat := [115, 101, 116]
abbrev wCpy : List Nat := [99, 111, 112, 121]
abbrev wAdd : List Nat := [97, 100, 100]
abbrev wLes : List Nat := [108, 101, 115, 115]
abbrev wSam : List Nat := [115, 97, 109, 101]
abbrev wZer : List Nat := [122, 101, 114, 111]
abbrev wJmp : List Nat := [106, 117, 109, 112]
abbrev wLod : List Nat := [108, 111, 97, 100]
abbrev wSto : List Nat := [115, 116, 111, 114, 101]
abbrev wTel : List Nat := [116, 101, 108, 108]
abbrev wTok : List Nat := [116, 111, 107, 101, 110]
abbrev wEnd : List Nat := [101, 110, 100]
abbrev wPag : List Nat := [112, 97, 103, 101]
abbrev wCpu : List Nat := [99, 112, 117]
abbrev wGon : List Nat := [103, 111, 110, 101]
abbrev wWor : List Nat := [119, 111, 114, 100]
abbrev wFau : List Nat := [102, 97, 117, 108, 116]
abbrev wDon : List Nat := [100, 111, 110, 101]
def lkF (s : List Nat) : List (List Nat × List Nat) → Option (List Nat)
  | [] => none
  | p :: r => if p.1 = s then some p.2 else lkF s r
def formsL : List (List Nat × List Nat) := [(wSet, [chR, chN]), (wCpy, [chR, chR]), (wAdd, [chR, chR, chR]), (wLes, [chR, chR, chR]), (wSam, [chR, chR, chR]), (wZer, [chR, chT]), (wJmp, [chT]), (wLod, [chR, chR, chR]), (wSto, [chR, chR, chR]), (wTel, [chR, chR]), (wTok, [chR, chR]), (wEnd, [])]
def formOf : PV → Option (List Nat)
  | .str s => lkF s formsL
  | _ => none
def formV (v : PV) : PV := match formOf v with
  | some f => .str f
  | none => .non
def isPart (many : Int) (c : Nat) (v : PV) : Bool := if c = chR then inRg 0 4 v else if c = chT then inRg 0 many v else inRg (-2147483648) 2147483648 v
def partsOk (many : Int) : List Nat → List PV → Bool
  | [], vs => vs.isEmpty
  | c :: cs, vs => match vs with
    | [] => false
    | v :: vs => isPart many c v && partsOk many cs vs
def isInstr (many : Int) : PV → Bool
  | .tup vs => match vs with
    | [] => false
    | a :: ps => match formOf a with
      | some f => partsOk many f ps
      | none => false
  | _ => false
def headV : PV → PV
  | .tup (a :: _) => a
  | _ => .non
def isS (s : List Nat) : PV → Bool
  | .str t => decide (t = s)
  | _ => false
def endsOk (rows : List PV) : Bool := match rows.getLast? with
  | some r => isS wJmp (headV r) || isS wEnd (headV r)
  | none => false
def isProg : PV → Bool
  | .tup rows => (decide (1 ≤ rows.length) && decide (rows.length ≤ 24)) && (rows.all (isInstr rows.length) && endsOk rows)
  | _ => false
def isHostW (v : PV) : Bool := fitsD v 10 && decide (rankW v ≤ 36)
def isRegs : PV → Bool
  | .tup ws => decide (ws.length = 4) && ws.all isHostW
  | _ => false
/-- values that the texts can ask: no place in the memory, plain atoms -/
def gd (v : PV) : Bool := okV v && atP v && decide (cnt v < 1000)
theorem gd_inv {v : PV} (h : gd v = true) : okV v = true ∧ atP v = true ∧ cnt v < 1000 := by
  unfold gd at h
  simp only [Bool.and_eq_true, decide_eq_true_eq] at h
  exact ⟨h.1.1, h.1.2, h.2⟩
theorem atPs_mem : ∀ {vs : List PV}, atPs vs = true → ∀ v ∈ vs, atP v = true
  | [], _, v, hv => by cases hv
  | x :: vs, h, v, hv => by
    simp only [atPs, Bool.and_eq_true] at h
    rcases List.mem_cons.mp hv with rfl | hv
    · exact h.1
    · exact atPs_mem h.2 v hv
theorem cnts_mem : ∀ {vs : List PV} {v : PV}, v ∈ vs → cnt v ≤ cnts vs
  | [], v, hv => by cases hv
  | x :: vs, v, hv => by
    simp only [cnts]
    rcases List.mem_cons.mp hv with rfl | hv
    · omega
    · have := cnts_mem hv
      omega
theorem nests_mem : ∀ {vs : List PV} {v : PV}, v ∈ vs → nest v ≤ nests vs
  | [], v, hv => by cases hv
  | x :: vs, v, hv => by
    simp only [nests]
    rcases List.mem_cons.mp hv with rfl | hv
    · omega
    · have := nests_mem hv
      omega
theorem gd_tup {vs : List PV} (h : gd (.tup vs) = true) : vs.length ≤ lim ∧ ∀ v ∈ vs, gd v = true := by
  obtain ⟨h1, h2, h3⟩ := gd_inv h
  simp only [okV, Bool.and_eq_true, decide_eq_true_eq] at h1
  simp only [atP] at h2
  simp only [cnt] at h3
  refine ⟨h1.1, fun v hv => ?_⟩
  have := cnts_mem hv
  unfold gd
  simp only [okVs_mem h1.2 v hv, atPs_mem h2 v hv, Bool.true_and, decide_eq_true_eq]
  omega
theorem nest_tup {vs : List PV} {v : PV} (h : v ∈ vs) : nest v + 1 ≤ nest (.tup vs) := by
  have := nests_mem h
  simp only [nest]
  omega
mutual
theorem fits_nest : ∀ (v : PV) (r : Nat), fitsD v r = true → nest v ≤ r
  | .tup vs, r, h => by
    cases r with
    | zero => simp [fitsD] at h
    | succ r =>
      simp only [fitsD] at h
      have := fitss_nest vs r h
      simp only [nest]
      omega
  | .non, r, _ => by simp [nest]
  | .bl _, r, _ => by simp [nest]
  | .int _, r, _ => by simp [nest]
  | .str _, r, _ => by simp [nest]
  | .rol _, r, _ => by simp [nest]
  | .ref _, r, _ => by simp [nest]
  | .obj _ _ _, r, _ => by simp [nest]
  | .rod _ _, r, _ => by simp [nest]
  | .ty _, r, _ => by simp [nest]
theorem fitss_nest : ∀ (vs : List PV) (r : Nat), fitsDs vs r = true → nests vs ≤ r
  | [], r, _ => by simp [nests]
  | v :: vs, r, h => by
    simp only [fitsDs, Bool.and_eq_true] at h
    have h1 := fits_nest v r h.1
    have h2 := fitss_nest vs r h.2
    simp only [nests]
    omega
end
theorem partsOk_len {many : Int} : ∀ {f : List Nat} {ps : List PV}, partsOk many f ps = true → ps.length = f.length
  | [], ps, h => by
    simp only [partsOk, List.isEmpty_iff] at h
    subst h
    rfl
  | c :: cs, ps, h => by
    cases ps with
    | nil => simp [partsOk] at h
    | cons v vs =>
      simp only [partsOk, Bool.and_eq_true] at h
      simp [partsOk_len h.2]
theorem partsOk_range {many : Int} : ∀ {f : List Nat} {ps : List PV}, ps.length = f.length → ((List.range f.length).all fun j => isPart many (f.getD j 0) (ps.getD j .non)) = partsOk many f ps
  | [], ps, h => by
    have : ps = [] := List.eq_nil_of_length_eq_zero h
    subst this
    rfl
  | c :: cs, ps, h => by
    cases ps with
    | nil => simp at h
    | cons v vs =>
      have ih := partsOk_range (many := many) (f := cs) (ps := vs) (by simpa using h)
      simp only [List.length_cons, List.range_succ_eq_map, List.all_cons, List.all_map, partsOk]
      rw [← ih]
      rfl
theorem isInstr_form {many : Int} {v : PV} (h : isInstr many v = true) : ∃ s ps, v = .tup (.str s :: ps) := by
  cases v <;> try (simp [isInstr] at h; done)
  rename_i vs
  cases vs with
  | nil => simp [isInstr] at h
  | cons a ps =>
    cases a <;> try (simp [isInstr, formOf] at h; done)
    exact ⟨_, _, rfl⟩
theorem getLast_ix {xs : List PV} (h : 1 ≤ xs.length) : ∃ x, x ∈ xs ∧ xs.getLast? = some x ∧ getI xs (-1) = some x := by
  have hne : xs ≠ [] := fun e => by rw [e] at h; simp at h
  have hg : xs[xs.length - 1]? = some (xs.getLast hne) := by
    rw [← List.getLast?_eq_getElem?, List.getLast?_eq_some_getLast hne]
  refine ⟨xs.getLast hne, List.getLast_mem hne, List.getLast?_eq_some_getLast hne, ?_⟩
  have e : ixP xs.length (-1) = some (xs.length - 1) := by
    unfold ixP
    rw [if_neg (by decide), if_pos (by omega)]
    congr 1
    omega
  unfold getI
  rw [e]
  exact hg
/-! ### parts of measures -/
def isPageP : PV → Bool
  | .tup [a, b, c] => isS wPag a && (inRg 0 8 b && (match c with
    | .tup ws => decide (ws.length = 4) && ws.all fun w => fitsD w 40
    | _ => false))
  | _ => false
def isCpuP : PV → Bool
  | .tup [a, b, c] => isS wCpu a && (isProg b && isRegs c)
  | _ => false
def secI : PV → Int
  | .tup (_ :: .int i :: _) => i
  | _ => 0
def isPg (v : PV) : Bool := isS wPag (headV v)
/-- the pages' numbers -/
def pgsOf (ps : List PV) : List Int := (ps.filter isPg).map secI
def isMeas : PV → Bool
  | .tup ps => (ps.all fun p => isPageP p || isCpuP p) && decide ((uniq (pgsOf ps)).length = (pgsOf ps).length)
  | _ => false
def isPlainPg : PV → Bool
  | .non => true
  | .str s => decide (s = wGon)
  | .tup ws => decide (ws.length = 4) && ws.all fun w => fitsD w 40
  | _ => false
def isPlainCpu : PV → Bool
  | .tup [a, b, c, d] => (isProg a && (inRg 0 (match a with | .tup rows => rows.length | _ => 0) b)) && (isRegs c && (isN d || inRg 0 4 d))
  | _ => false
def isStartV : PV → Bool
  | .tup [.tup ps, .tup cs] => (decide (ps.length = 8) && ps.all isPlainPg) && cs.all isPlainCpu
  | _ => false
end HP
end

set_option maxRecDepth 100000
namespace Lk27
open HP
abbrev i_is_number : Nat := 0
abbrev i_is_text : Nat := 1
abbrev i_fits_kind : Nat := 2
abbrev i_fits_depth : Nat := 3
abbrev i_is_word : Nat := 4
abbrev i_gather : Nat := 5
abbrev i_atoms_in : Nat := 6
abbrev i_rank_of : Nat := 7
abbrev i_is_granule : Nat := 8
abbrev i_is_pair : Nat := 9
abbrev i_leaf_of : Nat := 10
abbrev i_token_of : Nat := 11
abbrev i_is_integer : Nat := 12
abbrev i_is_below : Nat := 13
abbrev i_wrapped : Nat := 14
abbrev i__law_next : Nat := 15
abbrev i__law_word : Nat := 16
abbrev i__law_rank : Nat := 17
abbrev i_Atom____init__ : Nat := 18
abbrev i_Core____init__ : Nat := 19
abbrev i_Core__row : Nat := 20
abbrev i_Core__touched : Nat := 21
abbrev i_Core__request : Nat := 22
abbrev i_Core__step : Nat := 23
abbrev i_Core__step_token : Nat := 24
abbrev i_Core__put : Nat := 25
abbrev i_Core__answer : Nat := 26
abbrev i_Core__step_plain : Nat := 27
abbrev i_Core__step_zero : Nat := 28
abbrev i_Core__step_numbers : Nat := 29
abbrev i_Core__step_touch : Nat := 30
abbrev i_Core__end_touch : Nat := 31
abbrev i_law : Nat := 32
abbrev g_LEAST_words : Nat := 0
abbrev g_GREATEST : Nat := 1
abbrev g_MOST_CHARACTERS : Nat := 2
abbrev g_MOST_DEEP : Nat := 3
abbrev g_MOST_RANK : Nat := 4
abbrev g_MOST_RANK_HOST : Nat := 5
abbrev g_KINDS : Nat := 6
abbrev g_SEALED : Nat := 7
abbrev g_GRANULES : Nat := 8
abbrev g_WORDS : Nat := 9
abbrev g_PAGES : Nat := 10
abbrev g_LEAST_machine : Nat := 11
abbrev g_MANY : Nat := 12
abbrev g_MEASURE : Nat := 13
abbrev a_kind : Nat := 0
abbrev a_term : Nat := 1
abbrev a_rank : Nat := 2
abbrev a_place : Nat := 3
abbrev a_registers : Nat := 4
abbrev a_stage : Nat := 5
abbrev a_leaf : Nat := 6
abbrev a_program : Nat := 7
abbrev n_kind : List Nat := [0, 1]
abbrev n_term : List Nat := [0, 1]
abbrev n_rank : List Nat := [0, 1]
abbrev n_place : List Nat := [0, 1]
abbrev n_registers : List Nat := [0, 1]
abbrev n_stage : List Nat := [0, 1]
abbrev n_leaf : List Nat := [0, 1]
abbrev n_program : List Nat := [0, 1]
abbrev c_Atom : Nat := 0
abbrev c_Core : Nat := 1
abbrev e_NotValid : Nat := 0
/-- 0 is_number([value]) names [value] -/
def f_is_number : Fn := ⟨1, 1, [.ret (.and (.opn .isi [(.var 0), (.lit (.ty .int))]) (.and (.nott (.opn .isi [(.var 0), (.lit (.ty .bool))])) (.chain .le .le (.glob g_LEAST_words) (.var 0) (.glob g_GREATEST))))]⟩
/-- 1 is_text([value]) names [value, char] -/
def f_is_text : Fn := ⟨1, 2, [.ifs (.or (.not (.val (.opn .isi [(.var 0), (.lit (.ty .str))]))) (.cmp .gt (.opn .len [(.var 0)]) (.glob g_MOST_CHARACTERS))) [.ret (.lit (.bl false))] [],
    .ret (.opn .all [(.rlc (.name 1) (.val (.var 0)) [] [1] (.chain .le .le (.lit (.str [32])) (.var 1) (.lit (.str [126]))))])]⟩
/-- 2 fits_kind([kind, term]) names [kind, term, held, part] -/
def f_fits_kind : Fn := ⟨2, 4, [.ifs (.or (.not (.val (.opn .isi [(.op2 .idx (.var 1) (.lit (.int (0)))), (.lit (.ty .str))]))) (.and (.cmp .ne (.var 0) (.lit (.str [116, 111, 107, 101, 110]))) (.not (.val (.call i_is_number [(.op2 .idx (.var 1) (.lit (.int (1))))]))))) [.ret (.lit (.bl false))] [],
    .ifs (.cmp .eq (.var 0) (.lit (.str [116, 111, 107, 101, 110]))) [.ret (.opn .isi [(.op2 .idx (.var 1) (.lit (.int (1)))), (.lit (.ty .tuple))])] [],
    .ifs (.cmp .mem (.var 0) (.glob g_SEALED)) [.asg (.name 2) (.op2 .idx (.var 1) (.lit (.int (3)))), .ret (.and (.call i_is_number [(.op2 .idx (.var 1) (.lit (.int (2))))]) (.or (.op2 .is (.var 2) (.lit .non)) (.and (.opn .isi [(.var 2), (.lit (.ty .tuple))]) (.op2 .eq (.opn .len [(.var 2)]) (.lit (.int (4)))))))] [],
    .ifs (.cmp .eq (.var 0) (.lit (.str [116, 105, 99, 107, 101, 116]))) [.ifs (.or (.not (.val (.opn .isi [(.op2 .idx (.var 1) (.lit (.int (2)))), (.lit (.ty .str))]))) (.not (.val (.opn .all [(.rlc (.name 3) (.val (.rcut true false (.var 1) (.lit (.int (3))) .bad)) [] [3] (.opn .isi [(.var 3), (.lit (.ty .tuple))]))])))) [.ret (.lit (.bl false))] [], .ret (.op2 .eq (.opn .len [(.op2 .idx (.var 1) (.lit (.int (4))))]) (.lit (.int (8))))] [],
    .ret (.lit (.bl true))]⟩
/-- 3 fits_depth([value, room]) names [value, room, part] -/
def f_fits_depth : Fn := ⟨2, 3, [.ifs (.or (.cmp .is (.var 0) (.lit .non)) (.or (.val (.call i_is_number [(.var 0)])) (.or (.val (.call i_is_text [(.var 0)])) (.val (.opn .isi [(.var 0), (.lit (.ty (.own c_Atom)))]))))) [.ret (.lit (.bl true))] [],
    .ifs (.or (.not (.val (.opn .isi [(.var 0), (.lit (.ty .tuple))]))) (.cmp .eq (.var 1) (.lit (.int (0))))) [.ret (.lit (.bl false))] [],
    .ret (.opn .all [(.rlc (.name 2) (.val (.var 0)) [] [2] (.call i_fits_depth [(.var 2), (.op2 .sub (.var 1) (.lit (.int (1))))]))])]⟩
/-- 4 is_word([value]) names [value] -/
def f_is_word : Fn := ⟨1, 1, [.ret (.call i_fits_depth [(.var 0), (.glob g_MOST_DEEP)])]⟩
def b1_gather : List S := [.expr (.call i_gather [(.var 2), (.var 1)])]
/-- 5 gather([word, found]) names [word, found, part] -/
def f_gather : Fn := ⟨2, 3, [.ifs (.val (.opn .isi [(.var 0), (.lit (.ty (.own c_Atom)))])) [.ifs (.cmp .notin (.var 0) (.var 1)) [.expr (.meth .list .append (.var 1) [(.var 0)])] []] [.ifs (.val (.opn .isi [(.var 0), (.lit (.ty .tuple))])) [.forr (.name 2) (.val (.var 0)) b1_gather] []]]⟩
/-- 6 atoms_in([value]) names [value, found] -/
def f_atoms_in : Fn := ⟨1, 2, [.asg (.name 1) (.lst []),
    .expr (.call i_gather [(.var 0), (.var 1)]),
    .ret (.var 1)]⟩
/-- 7 rank_of([word]) names [word, atom] -/
def f_rank_of : Fn := ⟨1, 2, [.ret (.opn .max [(.op2 .add (.rls [(.lit (.int (0)))]) (.rlc (.name 1) (.val (.call i_atoms_in [(.var 0)])) [] [1] (.fld (.var 1) a_rank n_rank)))])]⟩
/-- 8 is_granule([value]) names [value] -/
def f_is_granule : Fn := ⟨1, 1, [.ret (.and (.opn .isi [(.var 0), (.lit (.ty .int))]) (.and (.nott (.opn .isi [(.var 0), (.lit (.ty .bool))])) (.chain .le .lt (.lit (.int (0))) (.var 0) (.glob g_GRANULES))))]⟩
/-- 9 is_pair([value, kind]) names [value, kind] -/
def f_is_pair : Fn := ⟨2, 2, [.ret (.and (.opn .isi [(.var 0), (.lit (.ty .tuple))]) (.and (.op2 .eq (.opn .len [(.var 0)]) (.lit (.int (2)))) (.and (.op2 .eq (.op2 .idx (.var 0) (.lit (.int (0)))) (.var 1)) (.call i_is_granule [(.op2 .idx (.var 0) (.lit (.int (1))))]))))]⟩
/-- 10 leaf_of([word]) names [word] -/
def f_leaf_of : Fn := ⟨1, 1, [.ifs (.val (.call i_is_pair [(.var 0), (.lit (.str [116, 97, 98, 108, 101]))])) [.ret (.op2 .idx (.var 0) (.lit (.int (1))))] [],
    .ret (.lit .non)]⟩
/-- 11 token_of([monitor, measure, challenge]) names [monitor, measure, challenge] -/
def f_token_of : Fn := ⟨3, 3, [.ifs (.not (.val (.opn .isi [(.var 0), (.lit (.ty .str))]))) [.rais e_NotValid] [],
    .ret (.make c_Atom i_Atom____init__ true [(.lit (.str [116, 111, 107, 101, 110])), (.tup [(.var 0), (.var 1), (.var 2)])])]⟩
/-- 12 is_integer([value]) names [value] -/
def f_is_integer : Fn := ⟨1, 1, [.ret (.and (.opn .isi [(.var 0), (.lit (.ty .int))]) (.nott (.opn .isi [(.var 0), (.lit (.ty .bool))])))]⟩
/-- 13 is_below([value, bound]) names [value, bound] -/
def f_is_below : Fn := ⟨2, 2, [.ret (.and (.call i_is_integer [(.var 0)]) (.chain .le .lt (.lit (.int (0))) (.var 0) (.var 1)))]⟩
/-- 14 wrapped([number]) names [number] -/
def f_wrapped : Fn := ⟨1, 1, [.ret (.op2 .add (.op2 .mod (.opn .int [(.op2 .sub (.var 0) (.glob g_LEAST_machine))]) (.glob g_MANY)) (.glob g_LEAST_machine))]⟩
/-- 15 _law_next([tape, many]) names [tape, many, rest, cell] -/
def f__law_next : Fn := ⟨2, 4, [.asg (.name 2) (.op2 .idx (.var 0) (.lit (.int (2)))),
    .ifs (.cmp .gt (.var 2) (.lit (.int (0)))) [.setI (.var 0) (.lit (.int (2))) (.op2 .fdiv (.var 2) (.var 1)), .ret (.op2 .mod (.opn .int [(.var 2)]) (.var 1))] [],
    .asg (.name 3) (.lit (.int (0))),
    .ifs (.cmp .lt (.op2 .idx (.var 0) (.lit (.int (1)))) (.opn .len [(.op2 .idx (.var 0) (.lit (.int (0))))])) [.asg (.name 3) (.opn .abs [(.op2 .idx (.op2 .idx (.var 0) (.lit (.int (0)))) (.op2 .idx (.var 0) (.lit (.int (1)))))]), .augI (.var 0) (.lit (.int (1))) .add (.lit (.int (1)))] [],
    .ifs (.cmp .ge (.var 3) (.op2 .pow (.lit (.int (10))) (.lit (.int (18))))) [.setI (.var 0) (.lit (.int (2))) (.op2 .fdiv (.var 3) (.var 1)), .ret (.op2 .mod (.opn .int [(.var 3)]) (.var 1))] [],
    .setI (.var 0) (.lit (.int (3))) (.op2 .mod (.opn .int [(.op2 .add (.op2 .add (.op2 .mul (.op2 .idx (.var 0) (.lit (.int (3)))) (.lit (.int (48271)))) (.op2 .mul (.var 3) (.lit (.int (69621))))) (.lit (.int (11))))]) (.lit (.int (2147483647)))),
    .ret (.op2 .mod (.opn .int [(.op2 .fdiv (.op2 .mod (.op2 .mul (.op2 .idx (.var 0) (.lit (.int (3)))) (.lit (.int (16807)))) (.lit (.int (2147483647)))) (.lit (.int (7))))]) (.var 1))]⟩
/-- 16 _law_word([tape]) names [tape, atom, words] -/
def f__law_word : Fn := ⟨1, 3, [.asg (.name 1) (.make c_Atom i_Atom____init__ true [(.lit (.str [99, 104, 97, 108, 108, 101, 110, 103, 101])), (.tup [(.lit (.str [118])), (.call i__law_next [(.var 0), (.lit (.int (9)))])])]),
    .asg (.name 2) (.tup [(.lit (.int (7))), (.lit (.str [119])), (.lit .non), (.tup [(.lit (.int (1))), (.lit (.str [97]))]), (.var 1), (.tup [(.var 1), (.lit (.int (3)))]), (.make c_Atom i_Atom____init__ true [(.lit (.str [116, 111, 107, 101, 110])), (.tup [(.lit (.str [109])), (.tup []), (.var 1)])])]),
    .ret (.op2 .idx (.var 2) (.call i__law_next [(.var 0), (.lit (.int (7)))]))]⟩
/-- 17 _law_rank([word]) names [word, part] -/
def f__law_rank : Fn := ⟨1, 2, [.ifs (.val (.opn .isi [(.var 0), (.lit (.ty (.own c_Atom)))])) [.ret (.op2 .add (.lit (.int (1))) (.call i__law_rank [(.fld (.var 0) a_term n_term)]))] [],
    .ifs (.val (.opn .isi [(.var 0), (.lit (.ty .tuple))])) [.ret (.opn .max [(.op2 .add (.rls [(.lit (.int (0)))]) (.rlc (.name 1) (.val (.var 0)) [] [1] (.call i__law_rank [(.var 1)])))])] [],
    .ret (.lit (.int (0)))]⟩
/-- 18 __init__([self, kind, term]) names [self, kind, term, part] -/
def f_Atom____init__ : Fn := ⟨3, 4, [.ifs (.or (.not (.val (.opn .isi [(.var 1), (.lit (.ty .str))]))) (.or (.cmp .notin (.var 1) (.glob g_KINDS)) (.not (.val (.opn .isi [(.var 2), (.lit (.ty .tuple))]))))) [.rais e_NotValid] [],
    .ifs (.or (.cmp .ne (.opn .len [(.var 2)]) (.op2 .idx (.glob g_KINDS) (.var 1))) (.or (.not (.val (.opn .all [(.rlc (.name 3) (.val (.var 2)) [] [3] (.call i_is_word [(.var 3)]))]))) (.not (.val (.call i_fits_kind [(.var 1), (.var 2)]))))) [.rais e_NotValid] [],
    .setA (.var 0) a_kind n_kind (.var 1),
    .setA (.var 0) a_term n_term (.var 2),
    .setA (.var 0) a_rank n_rank (.ife (.cmp .mem (.var 1) (.glob g_SEALED)) (.lit (.int (1))) (.op2 .add (.lit (.int (1))) (.call i_rank_of [(.var 2)]))),
    .ifs (.or (.cmp .gt (.fld (.var 0) a_rank n_rank) (.glob g_MOST_RANK)) (.and (.cmp .eq (.var 1) (.lit (.str [116, 111, 107, 101, 110]))) (.cmp .gt (.fld (.var 0) a_rank n_rank) (.glob g_MOST_RANK_HOST)))) [.rais e_NotValid] []]⟩
/-- 19 __init__([self, program, place, registers]) names [self, program, place, registers] -/
def f_Core____init__ : Fn := ⟨4, 4, [.setA (.var 0) a_program n_program (.var 1),
    .setA (.var 0) a_place n_place (.var 2),
    .setA (.var 0) a_registers n_registers (.var 3),
    .setA (.var 0) a_stage n_stage (.lit (.str [116, 111, 117, 99, 104])),
    .setA (.var 0) a_leaf n_leaf (.lit .non)]⟩
/-- 20 row([self]) names [self] -/
def f_Core__row : Fn := ⟨1, 1, [.ret (.op2 .idx (.fld (.var 0) a_program n_program) (.fld (.var 0) a_place n_place))]⟩
/-- 21 touched([self]) names [self, row, first, second, page, index] -/
def f_Core__touched : Fn := ⟨1, 6, [.asg (.name 1) (.mcall (.var 0) none [(c_Core, i_Core__row)] []),
    .asg (.name 2) (.op2 .idx (.var 1) (.lit (.int (2)))),
    .ifs (.cmp .eq (.op2 .idx (.var 1) (.lit (.int (0)))) (.lit (.str [115, 116, 111, 114, 101]))) [.asg (.name 2) (.op2 .idx (.var 1) (.lit (.int (1))))] [],
    .asg (.name 3) (.op2 .idx (.var 1) (.lit (.int (3)))),
    .ifs (.cmp .eq (.op2 .idx (.var 1) (.lit (.int (0)))) (.lit (.str [115, 116, 111, 114, 101]))) [.asg (.name 3) (.op2 .idx (.var 1) (.lit (.int (2))))] [],
    .par 4 5 (.op2 .idx (.fld (.var 0) a_registers n_registers) (.var 2)) (.op2 .idx (.fld (.var 0) a_registers n_registers) (.var 3)),
    .ifs (.or (.not (.val (.call i_is_below [(.var 4), (.glob g_PAGES)]))) (.not (.val (.call i_is_below [(.var 5), (.glob g_WORDS)])))) [.ret (.lit .non)] [],
    .ret (.tup [(.var 4), (.var 5)])]⟩
/-- 22 request([self, root, descriptor]) names [self, root, descriptor, row, place, page, index] -/
def f_Core__request : Fn := ⟨3, 7, [.asg (.name 3) (.mcall (.var 0) none [(c_Core, i_Core__row)] []),
    .ifs (.cmp .eq (.op2 .idx (.var 3) (.lit (.int (0)))) (.lit (.str [116, 111, 107, 101, 110]))) [.ret (.tup [(.lit (.str [109, 111, 110, 105, 116, 111, 114])), (.tup [(.lit (.str [114, 101, 97, 100])), (.var 2), (.glob g_MEASURE)])])] [],
    .ifs (.and (.cmp .ne (.op2 .idx (.var 3) (.lit (.int (0)))) (.lit (.str [108, 111, 97, 100]))) (.cmp .ne (.op2 .idx (.var 3) (.lit (.int (0)))) (.lit (.str [115, 116, 111, 114, 101])))) [.ret (.lit .non)] [],
    .asg (.name 4) (.mcall (.var 0) none [(c_Core, i_Core__touched)] []),
    .ifs (.cmp .is (.var 4) (.lit .non)) [.ret (.lit .non)] [],
    .asg (.tup [(.name 5), (.name 6)]) (.var 4),
    .ifs (.cmp .eq (.fld (.var 0) a_stage n_stage) (.lit (.str [119, 97, 108, 107]))) [.ret (.tup [(.lit (.str [99, 111, 114, 101])), (.tup [(.lit (.str [119, 97, 108, 107])), (.var 1), (.op2 .fdiv (.var 5) (.glob g_WORDS))])])] [],
    .ifs (.cmp .eq (.fld (.var 0) a_stage n_stage) (.lit (.str [108, 101, 97, 102]))) [.ret (.tup [(.lit (.str [99, 111, 114, 101])), (.tup [(.lit (.str [108, 101, 97, 102])), (.var 5), (.fld (.var 0) a_leaf n_leaf), (.op2 .mod (.var 5) (.glob g_WORDS))])])] [],
    .ifs (.cmp .eq (.op2 .idx (.var 3) (.lit (.int (0)))) (.lit (.str [108, 111, 97, 100]))) [.ret (.tup [(.lit (.str [99, 111, 114, 101])), (.tup [(.lit (.str [116, 111, 117, 99, 104])), (.var 5), (.var 6)])])] [],
    .ret (.tup [(.lit (.str [99, 111, 114, 101])), (.tup [(.lit (.str [112, 117, 116])), (.var 5), (.var 6), (.op2 .idx (.fld (.var 0) a_registers n_registers) (.op2 .idx (.var 3) (.lit (.int (3)))))])])]⟩
/-- 23 step([self, result, monitor]) names [self, result, monitor, row, word] -/
def f_Core__step : Fn := ⟨3, 5, [.asg (.name 3) (.mcall (.var 0) none [(c_Core, i_Core__row)] []),
    .ifs (.or (.cmp .eq (.op2 .idx (.var 3) (.lit (.int (0)))) (.lit (.str [108, 111, 97, 100]))) (.cmp .eq (.op2 .idx (.var 3) (.lit (.int (0)))) (.lit (.str [115, 116, 111, 114, 101])))) [.ret (.mcall (.var 0) none [(c_Core, i_Core__step_touch)] [(.var 3), (.var 1)])] [],
    .ifs (.cmp .eq (.op2 .idx (.var 3) (.lit (.int (0)))) (.lit (.str [116, 101, 108, 108]))) [.asg (.name 4) (.op2 .idx (.fld (.var 0) a_registers n_registers) (.op2 .idx (.var 3) (.lit (.int (1))))), .augA (.var 0) a_place n_place .add (.lit (.int (1))), .ret (.tup [(.lit (.str [116, 111, 108, 100])), (.var 4)])] [],
    .ifs (.cmp .eq (.op2 .idx (.var 3) (.lit (.int (0)))) (.lit (.str [101, 110, 100]))) [.ret (.tup [(.lit (.str [101, 110, 100, 101, 100]))])] [],
    .ifs (.cmp .eq (.op2 .idx (.var 3) (.lit (.int (0)))) (.lit (.str [116, 111, 107, 101, 110]))) [.ret (.mcall (.var 0) none [(c_Core, i_Core__step_token)] [(.var 3), (.var 1), (.var 2)])] [],
    .ret (.mcall (.var 0) none [(c_Core, i_Core__step_plain)] [(.var 3)])]⟩
/-- 24 step_token([self, row, measure, monitor]) names [self, row, measure, monitor, token] -/
def f_Core__step_token : Fn := ⟨4, 5, [.asg (.name 4) (.lit .non),
    .tryy [.asg (.name 4) (.call i_token_of [(.var 3), (.var 2), (.op2 .idx (.fld (.var 0) a_registers n_registers) (.op2 .idx (.var 1) (.lit (.int (2)))))])] none (.hnd e_NotValid [.asg (.name 4) (.lit .non)] .nil),
    .ifs (.cmp .is (.var 4) (.lit .non)) [.ret (.tup [(.lit (.str [115, 116, 117, 99, 107]))])] [],
    .expr (.mcall (.var 0) none [(c_Core, i_Core__put)] [(.op2 .idx (.var 1) (.lit (.int (1)))), (.var 4)]),
    .ret (.lit .non)]⟩
/-- 25 put([self, register, word]) names [self, register, word] -/
def f_Core__put : Fn := ⟨3, 3, [.expr (.mcall (.var 0) none [(c_Core, i_Core__answer)] [(.var 1), (.var 2)]),
    .augA (.var 0) a_place n_place .add (.lit (.int (1)))]⟩
/-- 26 answer([self, register, word]) names [self, register, word, words] -/
def f_Core__answer : Fn := ⟨3, 4, [.asg (.name 3) (.opn .list [(.fld (.var 0) a_registers n_registers)]),
    .setI (.var 3) (.var 1) (.var 2),
    .setA (.var 0) a_registers n_registers (.opn .tuple [(.var 3)])]⟩
/-- 27 step_plain([self, row]) names [self, row, kind] -/
def f_Core__step_plain : Fn := ⟨2, 3, [.asg (.name 2) (.op2 .idx (.var 1) (.lit (.int (0)))),
    .ifs (.cmp .eq (.var 2) (.lit (.str [115, 101, 116]))) [.expr (.mcall (.var 0) none [(c_Core, i_Core__put)] [(.op2 .idx (.var 1) (.lit (.int (1)))), (.op2 .idx (.var 1) (.lit (.int (2))))])] [.ifs (.cmp .eq (.var 2) (.lit (.str [99, 111, 112, 121]))) [.expr (.mcall (.var 0) none [(c_Core, i_Core__put)] [(.op2 .idx (.var 1) (.lit (.int (1)))), (.op2 .idx (.fld (.var 0) a_registers n_registers) (.op2 .idx (.var 1) (.lit (.int (2)))))])] [.ifs (.cmp .eq (.var 2) (.lit (.str [115, 97, 109, 101]))) [.expr (.mcall (.var 0) none [(c_Core, i_Core__put)] [(.op2 .idx (.var 1) (.lit (.int (1)))), (.opn .int [(.op2 .eq (.op2 .idx (.fld (.var 0) a_registers n_registers) (.op2 .idx (.var 1) (.lit (.int (2))))) (.op2 .idx (.fld (.var 0) a_registers n_registers) (.op2 .idx (.var 1) (.lit (.int (3))))))])])] [.ifs (.cmp .eq (.var 2) (.lit (.str [106, 117, 109, 112]))) [.setA (.var 0) a_place n_place (.op2 .idx (.var 1) (.lit (.int (1))))] [.ifs (.cmp .eq (.var 2) (.lit (.str [122, 101, 114, 111]))) [.ret (.mcall (.var 0) none [(c_Core, i_Core__step_zero)] [(.var 1)])] [.ret (.mcall (.var 0) none [(c_Core, i_Core__step_numbers)] [(.var 1)])]]]]],
    .ret (.lit .non)]⟩
/-- 28 step_zero([self, row]) names [self, row, word] -/
def f_Core__step_zero : Fn := ⟨2, 3, [.asg (.name 2) (.op2 .idx (.fld (.var 0) a_registers n_registers) (.op2 .idx (.var 1) (.lit (.int (1))))),
    .ifs (.and (.val (.call i_is_integer [(.var 2)])) (.cmp .eq (.var 2) (.lit (.int (0))))) [.setA (.var 0) a_place n_place (.op2 .idx (.var 1) (.lit (.int (2))))] [.augA (.var 0) a_place n_place .add (.lit (.int (1)))]]⟩
/-- 29 step_numbers([self, row]) names [self, row, first, second] -/
def f_Core__step_numbers : Fn := ⟨2, 4, [.par 2 3 (.op2 .idx (.fld (.var 0) a_registers n_registers) (.op2 .idx (.var 1) (.lit (.int (2))))) (.op2 .idx (.fld (.var 0) a_registers n_registers) (.op2 .idx (.var 1) (.lit (.int (3))))),
    .ifs (.or (.not (.val (.call i_is_integer [(.var 2)]))) (.not (.val (.call i_is_integer [(.var 3)])))) [.ret (.tup [(.lit (.str [115, 116, 117, 99, 107]))])] [],
    .ifs (.cmp .eq (.op2 .idx (.var 1) (.lit (.int (0)))) (.lit (.str [97, 100, 100]))) [.expr (.mcall (.var 0) none [(c_Core, i_Core__put)] [(.op2 .idx (.var 1) (.lit (.int (1)))), (.call i_wrapped [(.op2 .add (.var 2) (.var 3))])])] [.expr (.mcall (.var 0) none [(c_Core, i_Core__put)] [(.op2 .idx (.var 1) (.lit (.int (1)))), (.opn .int [(.op2 .lt (.var 2) (.var 3))])])],
    .ret (.lit .non)]⟩
/-- 30 step_touch([self, row, result]) names [self, row, result, place, stage, word] -/
def f_Core__step_touch : Fn := ⟨3, 6, [.asg (.name 3) (.mcall (.var 0) none [(c_Core, i_Core__touched)] []),
    .ifs (.cmp .is (.var 3) (.lit .non)) [.ret (.tup [(.lit (.str [115, 116, 117, 99, 107]))])] [],
    .asg (.name 4) (.fld (.var 0) a_stage n_stage),
    .setA (.var 0) a_stage n_stage (.lit (.str [116, 111, 117, 99, 104])),
    .ifs (.cmp .eq (.var 4) (.lit (.str [116, 111, 117, 99, 104]))) [.ret (.mcall (.var 0) none [(c_Core, i_Core__end_touch)] [(.var 1), (.op2 .idx (.var 3) (.lit (.int (0)))), (.var 2)])] [],
    .ifs (.and (.cmp .eq (.var 4) (.lit (.str [108, 101, 97, 102]))) (.cmp .eq (.op2 .idx (.var 2) (.lit (.int (0)))) (.lit (.str [97, 103, 97, 105, 110])))) [.setA (.var 0) a_stage n_stage (.lit (.str [119, 97, 108, 107])), .ret (.lit .non)] [],
    .asg (.name 5) (.op2 .idx (.var 2) (.lit (.int (1)))),
    .ifs (.cmp .eq (.var 4) (.lit (.str [119, 97, 108, 107]))) [.setA (.var 0) a_leaf n_leaf (.call i_leaf_of [(.var 5)]), .ifs (.cmp .is (.fld (.var 0) a_leaf n_leaf) (.lit .non)) [.ret (.tup [(.lit (.str [102, 97, 117, 108, 116])), (.op2 .idx (.var 3) (.lit (.int (0))))])] [], .setA (.var 0) a_stage n_stage (.lit (.str [108, 101, 97, 102])), .ret (.lit .non)] [],
    .ifs (.and (.val (.opn .isi [(.var 5), (.lit (.ty .tuple))])) (.and (.cmp .eq (.opn .len [(.var 5)]) (.lit (.int (2)))) (.or (.cmp .eq (.op2 .idx (.var 5) (.lit (.int (0)))) (.lit (.str [100, 97, 116, 97]))) (.cmp .eq (.op2 .idx (.var 5) (.lit (.int (0)))) (.lit (.str [115, 104, 97, 114, 101, 100])))))) [.ret (.lit .non)] [],
    .ret (.tup [(.lit (.str [102, 97, 117, 108, 116])), (.op2 .idx (.var 3) (.lit (.int (0))))])]⟩
/-- 31 end_touch([self, row, page, result]) names [self, row, page, result] -/
def f_Core__end_touch : Fn := ⟨4, 4, [.ifs (.cmp .eq (.op2 .idx (.var 3) (.lit (.int (0)))) (.lit (.str [110, 111, 110, 101]))) [.setA (.var 0) a_stage n_stage (.lit (.str [119, 97, 108, 107])), .ret (.lit .non)] [],
    .ifs (.cmp .eq (.op2 .idx (.var 3) (.lit (.int (0)))) (.lit (.str [102, 97, 117, 108, 116]))) [.ret (.tup [(.lit (.str [102, 97, 117, 108, 116])), (.var 2)])] [],
    .ifs (.cmp .eq (.op2 .idx (.var 1) (.lit (.int (0)))) (.lit (.str [108, 111, 97, 100]))) [.expr (.mcall (.var 0) none [(c_Core, i_Core__put)] [(.op2 .idx (.var 1) (.lit (.int (1)))), (.op2 .idx (.var 3) (.lit (.int (1))))])] [.augA (.var 0) a_place n_place .add (.lit (.int (1)))],
    .ret (.lit .non)]⟩
def s0_b2_law : S := .ifs (.cmp .ne (.mcall (.var 4) none [(c_Core, i_Core__request)] [(.lit (.int (11))), (.lit (.int (4)))]) (.tup [(.lit (.str [109, 111, 110, 105, 116, 111, 114])), (.tup [(.lit (.str [114, 101, 97, 100])), (.lit (.int (4))), (.lit (.int (2)))])])) [.ret (.lit (.bl false))] []
def s1_b2_law : S := .asg (.name 10) (.tup [(.fld (.var 4) a_place n_place), (.fld (.var 4) a_registers n_registers)])
def s2_b2_law : S := .asg (.name 11) (.mcall (.var 4) none [(c_Core, i_Core__step)] [(.var 3), (.lit (.str [104, 101, 114, 101]))])
def s3_b2_law : S := .asg (.name 6) (.op2 .add (.lit (.int (1))) (.opn .max [(.var 6), (.var 7)]))
def s4_b2_law : S := .ifs (.cmp .gt (.var 6) (.lit (.int (36)))) [.ifs (.or (.cmp .ne (.var 11) (.tup [(.lit (.str [115, 116, 117, 99, 107]))])) (.cmp .ne (.tup [(.fld (.var 4) a_place n_place), (.fld (.var 4) a_registers n_registers)]) (.var 10))) [.ret (.lit (.bl false))] [], .ret (.op2 .eq (.mcall (.var 4) none [(c_Core, i_Core__step)] [(.var 3), (.lit (.str [104, 101, 114, 101]))]) (.tup [(.lit (.str [115, 116, 117, 99, 107]))]))] []
def s5_b2_law : S := .asg (.name 12) (.make c_Atom i_Atom____init__ true [(.lit (.str [116, 111, 107, 101, 110])), (.tup [(.lit (.str [104, 101, 114, 101])), (.var 3), (.var 5)])])
def s6_b2_law : S := .ifs (.or (.cmp .isnot (.var 11) (.lit .non)) (.or (.cmp .ne (.op2 .idx (.fld (.var 4) a_registers n_registers) (.op2 .add (.lit (.int (1))) (.var 9))) (.var 12)) (.cmp .ne (.fld (.var 4) a_place n_place) (.op2 .add (.var 9) (.lit (.int (1))))))) [.ret (.lit (.bl false))] []
def s7_b2_law : S := .ifs (.cmp .eq (.var 9) (.lit (.int (0)))) [.asg (.name 5) (.var 12)] [.asg (.name 6) (.op2 .sub (.var 6) (.lit (.int (1))))]
def b2_law : List S := [s0_b2_law, s1_b2_law, s2_b2_law, s3_b2_law, s4_b2_law, s5_b2_law, s6_b2_law, s7_b2_law]
def b1_law : List S := [.forr (.name 9) (.range [(.lit (.int (2)))]) b2_law, .ifs (.or (.cmp .isnot (.mcall (.var 4) none [(c_Core, i_Core__request)] [(.lit (.int (11))), (.lit (.int (4)))]) (.lit .non)) (.cmp .isnot (.mcall (.var 4) none [(c_Core, i_Core__step)] [(.lit .non), (.lit (.str [104, 101, 114, 101]))]) (.lit .non))) [.ret (.lit (.bl false))] []]
/-- 32 law([script]) names [script, tape, first, measure, core, word, rank, high, turn, number, kept, told, due] -/
def f_law : Fn := ⟨1, 13, [.asg (.name 1) (.lst [(.opn .rlist [(.var 0)]), (.lit (.int (0))), (.lit (.int (0))), (.lit (.int (5)))]),
    .asg (.name 2) (.call i__law_word [(.var 1)]),
    .asg (.name 3) (.op2 .idx (.tup [(.tup []), (.tup [(.tup [(.lit (.str [99, 112, 117])), (.lit (.int (5))), (.call i__law_word [(.var 1)])])])]) (.call i__law_next [(.var 1), (.lit (.int (2)))])),
    .asg (.name 4) (.make c_Core i_Core____init__ false [(.tup [(.tup [(.lit (.str [116, 111, 107, 101, 110])), (.lit (.int (1))), (.lit (.int (1)))]), (.tup [(.lit (.str [116, 111, 107, 101, 110])), (.lit (.int (2))), (.lit (.int (1)))]), (.tup [(.lit (.str [106, 117, 109, 112])), (.lit (.int (0)))])]), (.lit (.int (0))), (.tup [(.lit (.int (0))), (.var 2), (.lit (.int (0))), (.lit (.int (0)))])]),
    .asg (.name 5) (.var 2),
    .asg (.name 6) (.call i__law_rank [(.var 2)]),
    .asg (.name 7) (.call i__law_rank [(.var 3)]),
    .forr (.name 8) (.range [(.op2 .add (.lit (.int (5))) (.call i__law_next [(.var 1), (.lit (.int (56)))]))]) b1_law,
    .ret (.lit (.bl true))]⟩
def fns : List Fn := [f_is_number, f_is_text, f_fits_kind, f_fits_depth, f_is_word, f_gather, f_atoms_in, f_rank_of, f_is_granule, f_is_pair, f_leaf_of, f_token_of, f_is_integer, f_is_below, f_wrapped, f__law_next, f__law_word, f__law_rank, f_Atom____init__, f_Core____init__, f_Core__row, f_Core__touched, f_Core__request, f_Core__step, f_Core__step_token, f_Core__put, f_Core__answer, f_Core__step_plain, f_Core__step_zero, f_Core__step_numbers, f_Core__step_touch, f_Core__end_touch, f_law]
end Lk27

set_option Elab.async false
set_option linter.all false
set_option maxRecDepth 100000
noncomputable section
namespace Lk27
open HP
abbrev gl : Nat → Option PV := glv [(.int (-2147483648)), (.int (2147483647)), (.int (24)), (.int (40)), (.int (40)), (.int (36)), (.rod [(.str [116, 111, 107, 101, 110]), (.str [99, 104, 97, 108, 108, 101, 110, 103, 101]), (.str [115, 101, 97, 108]), (.str [116, 105, 99, 107, 101, 116]), (.str [112, 97, 103, 101])] [(.int (3)), (.int (2)), (.int (4)), (.int (6)), (.int (4))]), (.tup [(.str [115, 101, 97, 108]), (.str [112, 97, 103, 101])]), (.int (24)), (.int (4)), (.int (16)), (.int (-2147483648)), (.int (4294967296)), (.int (2))]
abbrev fuel : Nat := 1000
theorem gl_LEAST_words : gl g_LEAST_words = some (.int (-2147483648)) := (rfl)
theorem gl_GREATEST : gl g_GREATEST = some (.int (2147483647)) := (rfl)
theorem gl_MOST_CHARACTERS : gl g_MOST_CHARACTERS = some (.int (24)) := (rfl)
theorem gl_MOST_DEEP : gl g_MOST_DEEP = some (.int (40)) := (rfl)
theorem gl_MOST_RANK : gl g_MOST_RANK = some (.int (40)) := (rfl)
theorem gl_MOST_RANK_HOST : gl g_MOST_RANK_HOST = some (.int (36)) := (rfl)
theorem gl_KINDS : gl g_KINDS = some (.rod [(.str [116, 111, 107, 101, 110]), (.str [99, 104, 97, 108, 108, 101, 110, 103, 101]), (.str [115, 101, 97, 108]), (.str [116, 105, 99, 107, 101, 116]), (.str [112, 97, 103, 101])] [(.int (3)), (.int (2)), (.int (4)), (.int (6)), (.int (4))]) := (rfl)
theorem gl_SEALED : gl g_SEALED = some (.tup [(.str [115, 101, 97, 108]), (.str [112, 97, 103, 101])]) := (rfl)
theorem gl_GRANULES : gl g_GRANULES = some (.int (24)) := (rfl)
theorem gl_WORDS : gl g_WORDS = some (.int (4)) := (rfl)
theorem gl_PAGES : gl g_PAGES = some (.int (16)) := (rfl)
theorem gl_LEAST_machine : gl g_LEAST_machine = some (.int (-2147483648)) := (rfl)
theorem gl_MANY : gl g_MANY = some (.int (4294967296)) := (rfl)
theorem gl_MEASURE : gl g_MEASURE = some (.int (2)) := (rfl)
end Lk27
end

set_option Elab.async false
set_option linter.all false
set_option maxRecDepth 100000
set_option maxHeartbeats 4000000
noncomputable section
namespace Lk27
open HP
theorem c_is_number (k : Nat) {M : Mem} {v : PV} (h : okV v = true) : run fns gl fuel (k + 1) i_is_number [v] M = .ok (.bl (isNum v)) M := by
  rw [run_fn (d := f_is_number) rfl rfl (by decide)]
  cases v with
  | ty T => simp [okV] at h
  | ref n => simp [okV] at h
  | int i =>
    have e : op2 .le (.int (-2147483648)) (.int i) M = .ok (.bl (decide (-2147483648 ≤ i))) M := (rfl)
    simp [f_is_number, isNum, gl_LEAST_words, gl_GREATEST, e]
    by_cases c : -2147483648 ≤ i <;> simp [c]
  | _ => simp [f_is_number, isNum, gl_LEAST_words, gl_GREATEST]
theorem c_is_text (k : Nat) {M : Mem} {v : PV} (h : okV v = true) : run fns gl fuel (k + 1) i_is_text [v] M = .ok (.bl (isTxt v)) M := by
  rw [run_fn (d := f_is_text) rfl rfl (by decide)]
  cases v with
  | ty T => simp [okV] at h
  | ref n => simp [okV] at h
  | str s =>
    have hl : s.length ≤ lim := by simpa [okV] using h
    by_cases c : s.length ≤ 24
    · have c' : ¬ (24 : Int) < s.length := by omega
      have e : ∀ c1, evE ⟨run fns gl fuel k, gl, fuel, c1⟩ (.rlc (.name 1) (.val (.var 0)) [] [1] (.chain .le .le (.lit (.str [32])) (.var 1) (.lit (.str [126])))) [some (.str s), none] M = .ok (.rol (s.map fun c => PV.bl (chOk c))) M := by
        intro c1
        have := rlc_items0 (w := ⟨run fns gl fuel k, gl, fuel, c1⟩) (g := .name 1) (it := .val (.var 0)) (vs := [1]) (elt := .chain .le .le (.lit (.str [32])) (.var 1) (.lit (.str [126]))) (env := [some (.str s), none]) (M := M) (M1 := M) (xs := s.map fun c => PV.str [c]) (f := fun x => .bl (match x with | .str [c] => chOk c | _ => false))
          (by simp only [evI]; simp) (by simpa using hl) (fun x hx => by
            obtain ⟨c, _, rfl⟩ := List.mem_map.mp hx
            refine ⟨[some (.str s), some (.str [c])], by simp [wipeE], ?_⟩
            simp [chOk]
            cases ltL [c] [32] <;> simp)
        rw [List.map_map] at this
        exact this
      simp [f_is_text, isTxt, gl_MOST_CHARACTERS, hl, c, c', e, blsV_map, List.all_map, Function.comp_def]
    · have c' : (24 : Int) < s.length := by omega
      simp [f_is_text, isTxt, gl_MOST_CHARACTERS, hl, c, c']
  | _ => simp [f_is_text, isTxt, gl_MOST_CHARACTERS]
theorem c_fits : ∀ (r k : Nat) (v : PV) (M : Mem), okV v = true → run fns gl fuel (k + nest v + 2) i_fits_depth [v, .int r] M = .ok (.bl (fitsD v r)) M
  | r, k, v, M, h => by
    have hn := c_is_number (M := M) (k + nest v) h
    have ht := c_is_text (M := M) (k + nest v) h
    rw [run_fn (d := f_fits_depth) rfl rfl (by decide)]
    cases v with
    | ty T => simp [okV] at h
    | ref n => simp [okV] at h
    | non => simp [f_fits_depth, fitsD]
    | bl b => simp [f_fits_depth, fitsD, hn, ht, isNum, isTxt]
    | int i => simp [f_fits_depth, fitsD, hn, ht, isTxt]; cases isNum (.int i) <;> simp
    | str s => simp [f_fits_depth, fitsD, hn, ht, isNum]; cases isTxt (.str s) <;> simp
    | rol xs => simp [f_fits_depth, fitsD, hn, ht, isNum, isTxt]
    | rod ks vs => simp [f_fits_depth, fitsD, hn, ht, isNum, isTxt]
    | obj c ns vs =>
      by_cases hc : c = 0
      · subst hc
        simp [f_fits_depth, fitsD, hn, ht, isNum, isTxt]
      · have h0 : (0 == c) = false := by simp; omega
        simp [f_fits_depth, fitsD, hn, ht, isNum, isTxt, hc, h0]
    | tup vs =>
      cases r with
      | zero => simp [f_fits_depth, fitsD, hn, ht, isNum, isTxt]
      | succ r =>
        simp only [okV, Bool.and_eq_true, decide_eq_true_eq] at h
        have r0 : ¬ ((r : Int) + 1 = 0) := by omega
        have e : ∀ c1, evE ⟨run fns gl fuel (k + nest (.tup vs) + 1), gl, fuel, c1⟩ (.rlc (.name 2) (.val (.var 0)) [] [2] (.call i_fits_depth [(.var 2), (.op2 .sub (.var 1) (.lit (.int (1))))])) [some (.tup vs), some (.int ((r : Int) + 1)), none] M = .ok (.rol (vs.map fun x => PV.bl (fitsD x r))) M :=
          fun c1 => rlc_items0 (f := fun x => .bl (fitsD x r)) (by simp only [evI]; simp) h.1 (fun x hx => by
            refine ⟨[some (.tup vs), some (.int ((r : Int) + 1)), some x], by simp [wipeE], ?_⟩
            have hx2 := nest_tup hx
            have ih := c_fits r (k + nest (.tup vs) - nest x - 1) x M (okVs_mem h.2 x hx)
            rw [show k + nest (.tup vs) - nest x - 1 + nest x + 2 = k + nest (.tup vs) + 1 by omega] at ih
            have e1 : (r : Int) + 1 - 1 = r := by omega
            simp [e1]
            exact ih)
        simp [f_fits_depth, fitsD, hn, ht, isNum, isTxt, r0, e, blsV_map, List.all_map, Function.comp_def, fitsDs_all]
theorem c_is_word (k : Nat) {v : PV} (M : Mem) (h : okV v = true) : run fns gl fuel (k + nest v + 3) i_is_word [v] M = .ok (.bl (fitsD v 40)) M := by
  have e := c_fits 40 k v M h
  rw [run_fn (d := f_is_word) (k := k + nest v + 2) rfl rfl (by decide)]
  simp [f_is_word, gl_MOST_DEEP]
  have e' : run fns gl fuel (k + nest v + 2) i_fits_depth [v, .int 40] M = .ok (.bl (fitsD v 40)) M := e
  simp [e']
theorem set_self {M : Mem} {n : Nat} {c : Cell} (h : M[n]? = some c) : M.set n c = M := by
  obtain ⟨hl, e⟩ := List.getElem?_eq_some_iff.mp h
  rw [← e]
  exact List.set_getElem_self hl
theorem get_set {M : Mem} {n : Nat} {c d : Cell} (h : M[n]? = some c) : (M.set n d)[n]? = some d := by
  have hl := (List.getElem?_eq_some_iff.mp h).1
  simp [hl]
theorem trs {M : Mem} {n : Nat} {c : Cell} {v : PV} : trimM M (M.set n c) v = M.set n c := trimM_eq (by simp)
mutual
theorem c_gather : ∀ (v : PV) (k : Nat) (M : Mem) (n : Nat) (xs : List PV), okV v = true → atP v = true → atsOk xs → M[n]? = some (.lst xs) → xs.length + cnt v < lim →
    run fns gl fuel (k + nest v + 1) i_gather [v, .ref n] M = .ok .non (M.set n (.lst (gath v xs)))
  | .obj c ns vs, k, M, n, xs, h, ha, hx, hM, hl => by
    simp only [atP] at ha
    have ha := atO_pd ha
    have hx2 := atsOk_pds hx
    have hc : c = 0 := by
      have := ha.1
      simp only [pd, Bool.and_eq_true] at this
      exact eq_of_beq this.1.1.1
    subst hc
    have hin := inPV_lst hM ha.1 (by omega) hx2.1 (by omega)
    have hl : xs.length < lim := by simp only [cnt] at hl; omega
    rw [run_fn (d := f_gather) rfl rfl (by decide)]
    cases hi : (xs.any fun z => eqV z (.obj 0 ns vs)) with
    | true => simp [f_gather, hin, hi, gath, set_self hM]
    | false => simp [f_gather, hin, hi, gath, tyM_list hM, opn_append_l hM, hl, trs]
  | .tup vs, k, M, n, xs, h, ha, hx, hM, hl => by
    simp only [okV, Bool.and_eq_true] at h
    simp only [atP] at ha
    simp only [cnt] at hl
    rw [run_fn (d := f_gather) (k := k + nest (.tup vs)) rfl rfl (by decide)]
    have e : k + nest (.tup vs) = k + nests vs + 1 := by simp only [nest]; omega
    rw [e]
    obtain ⟨env', hloop⟩ := c_gloop vs k M n xs (some (.tup vs)) none (run fns gl fuel (k + nests vs)) h.2 ha hx hM hl
    simp [f_gather, evS_for, evI, kFor_items, hloop, gath, trs]
  | .non, k, M, n, xs, h, ha, hx, hM, hl => by
    rw [run_fn (d := f_gather) rfl rfl (by decide)]
    simp [f_gather, gath, set_self hM]
  | .bl _, k, M, n, xs, h, ha, hx, hM, hl => by
    rw [run_fn (d := f_gather) rfl rfl (by decide)]
    simp [f_gather, gath, set_self hM]
  | .int _, k, M, n, xs, h, ha, hx, hM, hl => by
    rw [run_fn (d := f_gather) rfl rfl (by decide)]
    simp [f_gather, gath, set_self hM]
  | .str _, k, M, n, xs, h, ha, hx, hM, hl => by
    rw [run_fn (d := f_gather) rfl rfl (by decide)]
    simp [f_gather, gath, set_self hM]
  | .rol _, k, M, n, xs, h, ha, hx, hM, hl => by
    rw [run_fn (d := f_gather) rfl rfl (by decide)]
    simp [f_gather, gath, set_self hM]
  | .rod _ _, k, M, n, xs, h, ha, hx, hM, hl => by
    rw [run_fn (d := f_gather) rfl rfl (by decide)]
    simp [f_gather, gath, set_self hM]
  | .ref _, k, M, n, xs, h, ha, hx, hM, hl => by simp [okV] at h
  | .ty _, k, M, n, xs, h, ha, hx, hM, hl => by simp [okV] at h
theorem c_gloop : ∀ (vs : List PV) (k : Nat) (M : Mem) (n : Nat) (xs : List PV) (a b : Option PV) (c1 : CallT), okVs vs = true → atPs vs = true → atsOk xs → M[n]? = some (.lst xs) → xs.length + cnts vs < lim →
    ∃ env', loopX (.name 2) (fun env M => evSs ⟨run fns gl fuel (k + nests vs + 1), gl, fuel, c1⟩ b1_gather env M) vs [a, some (.ref n), b] M = .nxt env' (M.set n (.lst (gaths vs xs)))
  | [], k, M, n, xs, a, b, c1, h, ha, hx, hM, hl => by
    refine ⟨[a, some (.ref n), b], ?_⟩
    simp only [loopX, gaths]
    rw [set_self hM]
  | v :: vs, k, M, n, xs, a, b, c1, h, ha, hx, hM, hl => by
    simp only [okVs, Bool.and_eq_true] at h
    simp only [atPs, Bool.and_eq_true] at ha
    simp only [cnts] at hl
    obtain ⟨g1, g2⟩ := gath_ok v xs ha.1 hx
    have e1 : k + nests (v :: vs) + 1 = (k + (nests (v :: vs) - nest v)) + nest v + 1 := by simp only [nests]; omega
    have e2 : k + nests (v :: vs) + 1 = (k + (nests (v :: vs) - nests vs)) + nests vs + 1 := by simp only [nests]; omega
    have c := c_gather v (k + (nests (v :: vs) - nest v)) M n xs h.1 ha.1 hx hM (by omega)
    rw [← e1] at c
    obtain ⟨env', ih⟩ := c_gloop vs (k + (nests (v :: vs) - nests vs)) (M.set n (.lst (gath v xs))) n (gath v xs) a (some v) c1 h.2 ha.2 g1 (get_set hM) (by omega)
    rw [← e2, List.set_set] at ih
    refine ⟨env', ?_⟩
    unfold loopX
    simp [b1_gather, c]
    simpa [b1_gather, gaths] using ih
end
theorem c_atoms_in (k : Nat) {v : PV} (M : Mem) (h : okV v = true) (ha : atP v = true) (hc : cnt v < lim) : run fns gl fuel (k + nest v + 2) i_atoms_in [v] M = .ok (.ref M.length) (M ++ [.lst (gath v [])]) := by
  have e := c_gather v k (M ++ [.lst []]) M.length [] h ha atsOk_nil (by simp) (by simpa using hc)
  have hl : (0 : Nat) ≤ lim := by decide
  have es : (M ++ [Cell.lst []]).set M.length (.lst (gath v [])) = M ++ [.lst (gath v [])] := by
    rw [List.set_append_right _ _ (Nat.le_refl _)]
    simp
  rw [es] at e
  have ht : trimM M (M ++ [.lst (gath v [])]) (.ref M.length) = M ++ [.lst (gath v [])] := trimM_hi (by simp [low])
  rw [run_fn (d := f_atoms_in) (k := k + nest v + 1) rfl rfl (by decide)]
  simp [f_atoms_in, hl, e, ht]
theorem c_rank_of (k : Nat) {v : PV} (M : Mem) (h : okV v = true) (ha : atP v = true) (hc : cnt v < lim) : run fns gl fuel (k + nest v + 3) i_rank_of [v] M = .ok (.int (rankW v)) M := by
  obtain ⟨g1, g2⟩ := gath_ok v [] ha atsOk_nil
  simp only [List.length_nil, Nat.zero_add] at g2
  have hl : (gath v []).length ≤ lim := by omega
  have e : ∀ c1, evE ⟨run fns gl fuel (k + nest v + 2), gl, fuel, c1⟩ (.rlc (.name 1) (.val (.call i_atoms_in [(.var 0)])) [] [1] (.fld (.var 1) a_rank n_rank)) [some v, none] M = .ok (.rol ((gath v []).map fun a => PV.int (rankA a))) (M ++ [.lst (gath v [])]) := by
    intro c1
    refine rlc_mem0 (n := M.length) (M1 := M ++ [.lst (gath v [])]) (xs := gath v []) (f := fun a => .int (rankA a)) ?_ (by simp) hl fun x hx => ?_
    · simp only [evI]
      simp [c_atoms_in k M h ha hc]
    · obtain ⟨a, b, r, rfl⟩ := isAt3_form (atO_pd (g1 x hx)).2.2
      exact ⟨[some v, some (.obj 0 [0, 1, 2] [a, b, .int r])], by simp [wipeE], by simp [rankA, a_rank, n_rank]⟩
  have l1 : 1 + (gath v []).length ≤ lim := by omega
  have l0 : (1 : Nat) ≤ lim := by decide
  have im : intsV (.int 0 :: (gath v []).map fun a => PV.int (rankA a)) = some (0 :: (gath v []).map rankA) := by
    have : ∀ l : List PV, intsV (l.map fun a => PV.int (rankA a)) = some (l.map rankA) := fun l => by
      induction l with
      | nil => rfl
      | cons x l ih => simp [intsV, ih]
    simp [intsV, this]
  have ht : trimM M (M ++ [.lst (gath v [])]) (.int (rankW v)) = M := trimM_push (by simp [low])
  rw [run_fn (d := f_rank_of) (k := k + nest v + 2) rfl rfl (by decide)]
  simp [f_rank_of, l0, e, l1, im]
  exact ⟨rfl, ht⟩
abbrev sTok : List Nat := [116, 111, 107, 101, 110]
abbrev sCha : List Nat := [99, 104, 97, 108, 108, 101, 110, 103, 101]
abbrev sSea : List Nat := [115, 101, 97, 108]
abbrev sTic : List Nat := [116, 105, 99, 107, 101, 116]
abbrev sPag : List Nat := [112, 97, 103, 101]
abbrev ksK : List PV := [(.str sTok), (.str sCha), (.str sSea), (.str sTic), (.str sPag)]
abbrev vsK : List PV := [(.int (3)), (.int (2)), (.int (4)), (.int (6)), (.int (4))]
theorem in_sealed (M : Mem) (s : List Nat) : inPV M (.str s) (.tup [.str sSea, .str sPag]) = some (decide (s = sSea) || decide (s = sPag)) := by
  unfold inPV
  have h : allD (toD M 90) [.str sSea, .str sPag] = some [.str sSea, .str sPag] := (rfl)
  simp only [toD_str, h]
  simp only [List.any_cons, List.any_nil, eqD, Bool.or_false, Option.some.injEq]
  have c : ∀ a b : List Nat, (a == b) = decide (b = a) := fun a b => by
    rw [Bool.eq_iff_iff, beq_iff_eq, decide_eq_true_eq]
    exact ⟨fun h => h.symm, fun h => h.symm⟩
  rw [c, c]
theorem f_cha (k : Nat) {t0 t1 : PV} {M : Mem} (h0 : okV t0 = true) (h1 : okV t1 = true) : run fns gl fuel (k + 2) i_fits_kind [.str sCha, .tup [t0, t1]] M = .ok (.bl (isStrV t0 && isNum t1)) M := by
  have e := c_is_number (M := M) k h1
  rw [run_fn (d := f_fits_kind) (k := k + 1) rfl rfl (by decide)]
  cases c0 : isStrV t0 <;> cases c1 : isNum t1 <;> simp [f_fits_kind, isi_str h0, c0, e, c1, gl_SEALED, in_sealed]
theorem f_tok (k : Nat) {t0 t1 t2 : PV} {M : Mem} (h0 : okV t0 = true) (h1 : okV t1 = true) : run fns gl fuel (k + 2) i_fits_kind [.str sTok, .tup [t0, t1, t2]] M = .ok (.bl (isStrV t0 && isTupV t1)) M := by
  rw [run_fn (d := f_fits_kind) (k := k + 1) rfl rfl (by decide)]
  cases c0 : isStrV t0 <;> cases c1 : isTupV t1 <;> simp [f_fits_kind, isi_str h0, isi_tup h1, c0, c1]
def heldOk : PV → Bool
  | .non => true
  | .tup vs => decide (vs.length = 4)
  | _ => false
theorem f_sea (k : Nat) {t0 t1 t2 t3 : PV} {M : Mem} {s : List Nat} (hs : s = sSea ∨ s = sPag) (h0 : okV t0 = true) (h1 : okV t1 = true) (h2 : okV t2 = true) (h3 : okV t3 = true) : run fns gl fuel (k + 2) i_fits_kind [.str s, .tup [t0, t1, t2, t3]] M = .ok (.bl (isStrV t0 && isNum t1 && isNum t2 && heldOk t3)) M := by
  have e1 := c_is_number (M := M) k h1
  have e2 := c_is_number (M := M) k h2
  rw [run_fn (d := f_fits_kind) (k := k + 1) rfl rfl (by decide)]
  have n0 : ¬ s = sTok := by rcases hs with rfl | rfl <;> decide
  have n1 : (decide (s = sSea) || decide (s = sPag)) = true := by rcases hs with rfl | rfl <;> decide
  cases c0 : isStrV t0 with
  | false => simp [f_fits_kind, isi_str h0, c0]
  | true =>
  cases c1 : isNum t1 with
  | false => simp [f_fits_kind, isi_str h0, c0, n0, e1, c1]
  | true =>
  cases c2 : isNum t2 with
  | false => simp [f_fits_kind, isi_str h0, c0, n0, e1, c1, gl_SEALED, in_sealed, n1, e2, c2]
  | true =>
    cases t3 <;> first | (simp [okV] at h3; done) | simp [f_fits_kind, isi_str h0, c0, n0, e1, c1, gl_SEALED, in_sealed, n1, e2, c2, heldOk]
    omega
def len8 : PV → Bool
  | .tup vs => decide (vs.length = 8)
  | _ => false
theorem f_tic (k : Nat) {t0 t1 t2 t3 t4 t5 : PV} {M : Mem} (h0 : okV t0 = true) (h1 : okV t1 = true) (h2 : okV t2 = true) (h3 : okV t3 = true) (h4 : okV t4 = true) (h5 : okV t5 = true) :
    run fns gl fuel (k + 2) i_fits_kind [.str sTic, .tup [t0, t1, t2, t3, t4, t5]] M = .ok (.bl (isStrV t0 && isNum t1 && (isStrV t2 && (isTupV t3 && isTupV t4 && isTupV t5)) && len8 t4)) M := by
  have e1 := c_is_number (M := M) k h1
  rw [run_fn (d := f_fits_kind) (k := k + 1) rfl rfl (by decide)]
  have n1 : (decide (sTic = sSea) || decide (sTic = sPag)) = false := by decide
  cases c0 : isStrV t0 with
  | false => simp [f_fits_kind, isi_str h0, c0]
  | true =>
  cases c1 : isNum t1 with
  | false => simp [f_fits_kind, isi_str h0, c0, e1, c1]
  | true =>
  cases c2 : isStrV t2 with
  | false => simp [f_fits_kind, isi_str h0, c0, e1, c1, gl_SEALED, in_sealed, isi_str h2, c2]
  | true =>
    have cu : cut [t0, t1, t2, t3, t4, t5] (some 3) none = [t3, t4, t5] := (rfl)
    have l3 : [t3, t4, t5].length ≤ lim := (by decide : 3 ≤ lim)
    have e : ∀ c1, evE ⟨run fns gl fuel (k + 1), gl, fuel, c1⟩ (.rlc (.name 3) (.val (.rcut true false (.var 1) (.lit (.int (3))) .bad)) [] [3] (.opn .isi [(.var 3), (.lit (.ty .tuple))])) [some (.str sTic), some (.tup [t0, t1, t2, t3, t4, t5]), none, none] M = .ok (.rol ([t3, t4, t5].map fun x => PV.bl (isTupV x))) M := fun c1 =>
      rlc_items0 (f := fun x => .bl (isTupV x)) (by simp only [evI]; simp [cu]) l3 (fun x hx => by
        refine ⟨[some (.str sTic), some (.tup [t0, t1, t2, t3, t4, t5]), none, some x], by simp [wipeE], ?_⟩
        have hx' : okV x = true := by
          simp only [List.mem_cons, List.not_mem_nil, or_false] at hx
          rcases hx with rfl | rfl | rfl <;> assumption
        simp [isi_tup hx'])
    have b : ∀ x y z : Bool, blsV [PV.bl x, PV.bl y, PV.bl z] = some [x, y, z] := fun _ _ _ => rfl
    cases c4 : isTupV t4 with
    | false => cases c3 : isTupV t3 <;> cases c5 : isTupV t5 <;> simp [f_fits_kind, isi_str h0, c0, e1, c1, gl_SEALED, in_sealed, isi_str h2, c2, e, b, c3, c4, c5]
    | true =>
      obtain ⟨ws, rfl⟩ : ∃ ws, t4 = .tup ws := by cases t4 <;> first | exact ⟨_, rfl⟩ | (simp [isTupV] at c4)
      cases c3 : isTupV t3 <;> cases c5 : isTupV t5 <;> simp [f_fits_kind, isi_str h0, c0, e1, c1, gl_SEALED, in_sealed, isi_str h2, c2, e, b, c3, c4, c5, len8]
      omega
def SealedS (s : List Nat) : Prop := s = sSea ∨ s = sPag
instance (s : List Nat) : Decidable (SealedS s) := by unfold SealedS; infer_instance
def rankOf (s : List Nat) (ts : List PV) : Int := if SealedS s then 1 else 1 + rankW (.tup ts)
theorem c_init (K : Nat) {s : List Nat} {ts : List PV} {n j : Nat} {M : Mem} (hn : M[n]? = some (.ins 0 [] [])) (hk : keyIx s ksK = some j) (hv : vsK[j]? = some (.int ts.length)) (ho : okVs ts = true) (hl : ts.length ≤ lim) (hw : ts.all (fun t => fitsD t 40) = true)
    (hf : run fns gl fuel K i_fits_kind [.str s, .tup ts] M = .ok (.bl true) M) (ha : atPs ts = true) (hc : cnts ts < lim) (hr : nests ts + 4 ≤ K) (h40 : rankOf s ts ≤ 40) (h36 : s = sTok → rankOf s ts ≤ 36) :
    run fns gl fuel (K + 1) i_Atom____init__ [.ref n, .str s, .tup ts] M = .ok .non (M.set n (.ins 0 [0, 1, 2] [.str s, .tup ts, .int (rankOf s ts)])) := by
  have e : ∀ c1, evE ⟨run fns gl fuel K, gl, fuel, c1⟩ (.rlc (.name 3) (.val (.var 2)) [] [3] (.call i_is_word [(.var 3)])) [some (.ref n), some (.str s), some (.tup ts), none] M = .ok (.rol (ts.map fun _ => PV.bl true)) M := fun c1 =>
    rlc_items0 (f := fun _ => .bl true) (by simp only [evI]; simp) hl (fun x hx => by
      refine ⟨[some (.ref n), some (.str s), some (.tup ts), some x], by simp [wipeE], ?_⟩
      have hx2 := nests_mem hx
      have q := c_is_word (K - nest x - 3) M (okVs_mem ho x hx)
      rw [show K - nest x - 3 + nest x + 3 = K by omega, List.all_eq_true.mp hw x hx] at q
      simp [q])
  have ix : ixK (some j) vsK M = .ok (.int ts.length) M := by unfold ixK; simp only [hv]
  have m1 : M.set n (.ins 0 [0] [.str s]) = M.set n (.ins 0 [0] [.str s]) := (rfl)
  have s1 : ∀ v, setAR (.ref n) 0 n_kind v M = some (M.set n (.ins 0 [0] [v])) := fun v => by rw [setAR_ref hn]; rfl
  have s2 : ∀ u v, setAR (.ref n) 1 n_term v (M.set n (.ins 0 [0] [u])) = some (M.set n (.ins 0 [0, 1] [u, v])) := fun u v => by rw [setAR_ref (get_set hn), List.set_set]; rfl
  have s3 : ∀ u v x, setAR (.ref n) 2 n_rank x (M.set n (.ins 0 [0, 1] [u, v])) = some (M.set n (.ins 0 [0, 1, 2] [u, v, x])) := fun u v x => by rw [setAR_ref (get_set hn), List.set_set]; rfl
  have fl : ∀ u v x, fldR (.ref n) 2 n_rank (M.set n (.ins 0 [0, 1, 2] [u, v, x])) = .ok x (M.set n (.ins 0 [0, 1, 2] [u, v, x])) := fun u v x => by rw [fldR_ref (get_set hn)]; rfl
  have rk := fun M' => c_rank_of (K - (nests ts + 1) - 3) (v := .tup ts) M' (by simp only [okV, ho, hl, decide_true, Bool.and_self]) ha hc
  have eK : K - (nests ts + 1) - 3 + nest (.tup ts) + 3 = K := by simp only [nest]; omega
  rw [eK] at rk
  rw [run_fn (d := f_Atom____init__) rfl rfl (by decide)]
  have tt : ∀ c, trimM M (M.set n c) .non = M.set n c := fun c => trs
  have n40 : ¬ (40 : Int) < rankOf s ts := by omega
  by_cases hs : SealedS s
  · have d1 : (decide (s = sSea) || decide (s = sPag)) = true := by
      rcases hs with rfl | rfl <;> decide
    have er : rankOf s ts = 1 := by unfold rankOf; rw [if_pos hs]
    have nt : ¬ s = sTok := by rcases hs with rfl | rfl <;> decide
    rw [er]
    simp [f_Atom____init__, a_kind, a_term, a_rank, n_kind, n_term, n_rank, gl_KINDS, gl_MOST_RANK, gl_MOST_RANK_HOST, gl_SEALED, in_sealed, hk, ix, e, blsV_map, List.all_map, Function.comp_def, hf, s1, s2, s3, fl, d1, tt, nt]
  · have d1 : (decide (s = sSea) || decide (s = sPag)) = false := by
      unfold SealedS at hs
      rw [not_or] at hs
      simp [hs.1, hs.2]
    have er : rankOf s ts = 1 + rankW (.tup ts) := by unfold rankOf; rw [if_neg hs]
    rw [er] at n40 h36 ⊢
    by_cases nt : s = sTok
    · have n36 : ¬ (36 : Int) < 1 + rankW (.tup ts) := by have := h36 nt; omega
      subst nt
      simp [f_Atom____init__, a_kind, a_term, a_rank, n_kind, n_term, n_rank, gl_KINDS, gl_MOST_RANK, gl_MOST_RANK_HOST, gl_SEALED, in_sealed, hk, ix, e, blsV_map, List.all_map, Function.comp_def, hf, s1, s2, s3, fl, d1, tt, rk, n40, n36]
    · simp [f_Atom____init__, a_kind, a_term, a_rank, n_kind, n_term, n_rank, gl_KINDS, gl_MOST_RANK, gl_MOST_RANK_HOST, gl_SEALED, in_sealed, hk, ix, e, blsV_map, List.all_map, Function.comp_def, hf, s1, s2, s3, fl, d1, tt, nt, rk, n40]
theorem kMk {w : Wd} {K c f : Nat} {vs : List PV} {M : Mem} {v : PV} (hw : w.call1 = run fns gl fuel K) (h : makR c true M (run fns gl fuel K f (.ref M.length :: vs) (M ++ [.ins c [] []])) = .ok v M) : kMake w c f true vs M = .ok v M := by
  unfold kMake
  rw [hw]
  exact h
theorem kMkF {w : Wd} {K c f : Nat} {vs : List PV} {M R : Mem} (hw : w.call1 = run fns gl fuel K) (h : run fns gl fuel K f (.ref M.length :: vs) (M ++ [.ins c [] []]) = .ok .non (M ++ R)) : kMake w c f false vs M = .ok (.ref M.length) (M ++ R) := by
  unfold kMake
  rw [hw, h]
  unfold makR
  simp
theorem kExc {w : Wd} {K c f : Nat} {fz : Bool} {vs : List PV} {M G : Mem} {x : Nat} (hw : w.call1 = run fns gl fuel K) (h : run fns gl fuel K f (.ref M.length :: vs) (M ++ [.ins c [] []]) = .exc x (M ++ G)) : kMake w c f fz vs M = .exc x M := by
  unfold kMake
  rw [hw, h, makR_exc, trimM_push (by simp [low])]
/-- an atom that is made -/
theorem mk_at (K : Nat) {s : List Nat} {ts : List PV} {j : Nat} (M : Mem) (hk : keyIx s ksK = some j) (hv : vsK[j]? = some (.int ts.length)) (ho : okVs ts = true) (hl : ts.length ≤ lim) (hw : ts.all (fun t => fitsD t 40) = true)
    (hf : ∀ M, run fns gl fuel K i_fits_kind [.str s, .tup ts] M = .ok (.bl true) M) (ha : atPs ts = true) (hc : cnts ts < lim) (hr : nests ts + 4 ≤ K) (h40 : rankOf s ts ≤ 40) (h36 : s = sTok → rankOf s ts ≤ 36) (hp : pds ts = true) :
    makR 0 true M (run fns gl fuel (K + 1) i_Atom____init__ [.ref M.length, .str s, .tup ts] (M ++ [.ins 0 [] []])) = .ok (.obj 0 [0, 1, 2] [.str s, .tup ts, .int (rankOf s ts)]) M := by
  have e := c_init K (n := M.length) (M := M ++ [.ins 0 [] []]) (by simp) hk hv ho hl hw (hf _) ha hc hr h40 h36
  have es : (M ++ [Cell.ins 0 [] []]).set M.length (.ins 0 [0, 1, 2] [.str s, .tup ts, .int (rankOf s ts)]) = M ++ [.ins 0 [0, 1, 2] [.str s, .tup ts, .int (rankOf s ts)]] := by
    rw [List.set_append_right _ _ (Nat.le_refl _)]
    simp
  rw [es] at e
  rw [e]
  have tr : Trims M (M ++ [.ins 0 [0, 1, 2] [.str s, .tup ts, .int (rankOf s ts)]]) (.tup [.str s, .tup ts, .int (rankOf s ts)]) := by
    refine ⟨?_, fun i c hi h => .inl ?_⟩
    · simp only [low, lows, Bool.and_true, Bool.true_and]
      exact lows_pds ts hp
    · rw [List.getElem?_append_left hi] at h
      exact h
  unfold makR
  simp only [if_true]
  have g : (M ++ [Cell.ins 0 [0, 1, 2] [.str s, .tup ts, .int (rankOf s ts)]])[M.length]? = some (.ins 0 [0, 1, 2] [.str s, .tup ts, .int (rankOf s ts)]) := by simp
  simp only [g]
  rw [if_pos ⟨rfl, tr⟩]
  simp
/-- a token whose rank would be too great -/
theorem init_rank (K : Nat) {ts : List PV} {n : Nat} {M : Mem} (hn : M[n]? = some (.ins 0 [] [])) (hv : ts.length = 3) (ho : okVs ts = true) (hw : ts.all (fun t => fitsD t 40) = true)
    (hf : run fns gl fuel K i_fits_kind [.str sTok, .tup ts] M = .ok (.bl true) M) (ha : atPs ts = true) (hc : cnts ts < lim) (hr : nests ts + 4 ≤ K) (h36 : 36 < 1 + rankW (.tup ts)) :
    run fns gl fuel (K + 1) i_Atom____init__ [.ref n, .str sTok, .tup ts] M = .exc e_NotValid (M.set n (.ins 0 [0, 1, 2] [.str sTok, .tup ts, .int (1 + rankW (.tup ts))])) := by
  have hlim : lim = 1000000 := rfl
  have hl : ts.length ≤ lim := by omega
  have e : ∀ c1, evE ⟨run fns gl fuel K, gl, fuel, c1⟩ (.rlc (.name 3) (.val (.var 2)) [] [3] (.call i_is_word [(.var 3)])) [some (.ref n), some (.str sTok), some (.tup ts), none] M = .ok (.rol (ts.map fun _ => PV.bl true)) M := fun c1 =>
    rlc_items0 (f := fun _ => .bl true) (by simp only [evI]; simp) hl (fun x hx => by
      refine ⟨[some (.ref n), some (.str sTok), some (.tup ts), some x], by simp [wipeE], ?_⟩
      have hx2 := nests_mem hx
      have q := c_is_word (K - nest x - 3) M (okVs_mem ho x hx)
      rw [show K - nest x - 3 + nest x + 3 = K by omega, List.all_eq_true.mp hw x hx] at q
      simp [q])
  have ix : ixK (some 0) vsK M = .ok (.int ts.length) M := by rw [hv]; rfl
  have s1 : ∀ v, setAR (.ref n) 0 n_kind v M = some (M.set n (.ins 0 [0] [v])) := fun v => by rw [setAR_ref hn]; rfl
  have s2 : ∀ u v, setAR (.ref n) 1 n_term v (M.set n (.ins 0 [0] [u])) = some (M.set n (.ins 0 [0, 1] [u, v])) := fun u v => by rw [setAR_ref (get_set hn), List.set_set]; rfl
  have s3 : ∀ u v x, setAR (.ref n) 2 n_rank x (M.set n (.ins 0 [0, 1] [u, v])) = some (M.set n (.ins 0 [0, 1, 2] [u, v, x])) := fun u v x => by rw [setAR_ref (get_set hn), List.set_set]; rfl
  have fl : ∀ u v x, fldR (.ref n) 2 n_rank (M.set n (.ins 0 [0, 1, 2] [u, v, x])) = .ok x (M.set n (.ins 0 [0, 1, 2] [u, v, x])) := fun u v x => by rw [fldR_ref (get_set hn)]; rfl
  have rk := fun M' => c_rank_of (K - (nests ts + 1) - 3) (v := .tup ts) M' (by simp only [okV, ho, hl, decide_true, Bool.and_self]) ha hc
  have eK : K - (nests ts + 1) - 3 + nest (.tup ts) + 3 = K := by simp only [nest]; omega
  rw [eK] at rk
  have hk : keyIx sTok ksK = some 0 := rfl
  rw [run_fn (d := f_Atom____init__) rfl rfl (by decide)]
  have tt : ∀ c, trimM M (M.set n c) .non = M.set n c := fun c => trs
  have d1 : (decide (sTok = sSea) || decide (sTok = sPag)) = false := by decide
  by_cases n40 : (40 : Int) < 1 + rankW (.tup ts)
  · simp [f_Atom____init__, a_kind, a_term, a_rank, n_kind, n_term, n_rank, gl_KINDS, gl_MOST_RANK, gl_MOST_RANK_HOST, gl_SEALED, in_sealed, hk, ix, e, blsV_map, List.all_map, Function.comp_def, hf, s1, s2, s3, fl, d1, tt, rk, n40]
  · simp [f_Atom____init__, a_kind, a_term, a_rank, n_kind, n_term, n_rank, gl_KINDS, gl_MOST_RANK, gl_MOST_RANK_HOST, gl_SEALED, in_sealed, hk, ix, e, blsV_map, List.all_map, Function.comp_def, hf, s1, s2, s3, fl, d1, tt, rk, n40, h36]
/-- the token of three words -/
def tokV (a b c : PV) : PV := .obj 0 [0, 1, 2] [.str sTok, .tup [a, b, c], .int (1 + rankW (.tup [a, b, c]))]
structure T3 (a b c : PV) (d : Nat) : Prop where
  ok : okVs [a, b, c] = true
  fit : [a, b, c].all (fun t => fitsD t 40) = true
  at_ : atPs [a, b, c] = true
  ct : cnts [a, b, c] < lim
  ne : nests [a, b, c] ≤ d
  pd : pds [a, b, c] = true
  s : isStrV a = true
  t : isTupV b = true
theorem tok_mk (K : Nat) {a b c : PV} {d : Nat} (t : T3 a b c d) (hd : d + 4 ≤ K) (hr : 1 + rankW (.tup [a, b, c]) ≤ 36) (M : Mem) : makR 0 true M (run fns gl fuel (K + 1) i_Atom____init__ [.ref M.length, .str sTok, .tup [a, b, c]] (M ++ [.ins 0 [] []])) = .ok (tokV a b c) M := by
  have hs : ¬ SealedS sTok := by unfold SealedS; decide
  have er : rankOf sTok [a, b, c] = 1 + rankW (.tup [a, b, c]) := by unfold rankOf; rw [if_neg hs]
  have ho := t.ok
  simp only [okVs, Bool.and_eq_true, Bool.and_true] at ho
  have := mk_at K (s := sTok) (ts := [a, b, c]) (j := 0) M (by decide) rfl t.ok (by decide : 3 ≤ lim) t.fit (fun M => ?_) t.at_ t.ct (by have := t.ne; omega) (by rw [er]; omega) (fun _ => by rw [er]; exact hr) t.pd
  · rw [this, er, tokV]
  · have e := f_tok (K - 2) (M := M) (t0 := a) (t1 := b) (t2 := c) ho.1 ho.2.1
    rw [show K - 2 + 2 = K by omega, t.s, t.t] at e
    exact e
theorem tok_no (K : Nat) {a b c : PV} {d : Nat} (t : T3 a b c d) (hd : d + 4 ≤ K) (hr : 36 < 1 + rankW (.tup [a, b, c])) (M : Mem) : run fns gl fuel (K + 1) i_Atom____init__ [.ref M.length, .str sTok, .tup [a, b, c]] (M ++ [.ins 0 [] []]) = .exc e_NotValid (M ++ [.ins 0 [0, 1, 2] [.str sTok, .tup [a, b, c], .int (1 + rankW (.tup [a, b, c]))]]) := by
  have ho := t.ok
  simp only [okVs, Bool.and_eq_true, Bool.and_true] at ho
  have e := f_tok (K - 2) (M := M ++ [.ins 0 [] []]) (t0 := a) (t1 := b) (t2 := c) ho.1 ho.2.1
  rw [show K - 2 + 2 = K by omega, t.s, t.t] at e
  have q := init_rank K (ts := [a, b, c]) (n := M.length) (M := M ++ [.ins 0 [] []]) (by simp) rfl t.ok t.fit e t.at_ t.ct (by have := t.ne; omega) hr
  rw [q, List.set_append_right _ _ (Nat.le_refl _)]
  simp
end Lk27
end

set_option Elab.async false
set_option linter.all false
set_option maxRecDepth 100000
set_option maxHeartbeats 4000000
noncomputable section
namespace Lk27
open HP HTR
abbrev sHere : List Nat := [104, 101, 114, 101]
abbrev sJmp : List Nat := [106, 117, 109, 112]
abbrev rowT (a b : Int) : PV := .tup [.str sTok, .int a, .int b]
abbrev rowJ : PV := .tup [.str sJmp, .int 0]
abbrev PP : PV := .tup [rowT 1 1, rowT 2 1, rowJ]
abbrev sTou : List Nat := [116, 111, 117, 99, 104]
def coreC (p : Int) (x y : PV) : Cell := .ins c_Core [a_program, a_place, a_registers, a_stage, a_leaf] [PP, .int p, .tup [.int 0, x, y, .int 0], .str sTou, .non]
structure CF (M : Mem) (p : Int) (x y : PV) : Prop where
  pr : fldR (.ref 1) a_program n_program M = .ok PP M
  pl : fldR (.ref 1) a_place n_place M = .ok (.int p) M
  rg : fldR (.ref 1) a_registers n_registers M = .ok (.tup [.int 0, x, y, .int 0]) M
  io : insOf (.ref 1) M = some (c_Core, [a_program, a_place, a_registers, a_stage, a_leaf], [PP, .int p, .tup [.int 0, x, y, .int 0], .str sTou, .non])
  s_pl : ∀ n : Int, setAR (.ref 1) a_place n_place (.int n) M = some (M.set 1 (coreC n x y))
  s_rg : ∀ a b, setAR (.ref 1) a_registers n_registers (.tup [.int 0, a, b, .int 0]) M = some (M.set 1 (coreC p a b))
theorem cf {M : Mem} {p : Int} {x y : PV} (h : M[1]? = some (coreC p x y)) : CF M p x y := by
  constructor
  · rw [fldR_ref h]; rfl
  · rw [fldR_ref h]; rfl
  · rw [fldR_ref h]; rfl
  · exact insOf_ref h
  · intro n; rw [setAR_ref h]; rfl
  · intro a b; rw [setAR_ref h]; rfl
section
variable {M : Mem} {p : Int} {x y : PV} (k : Nat)
def rowAt (p : Int) : PV := if p = 0 then rowT 1 1 else if p = 1 then rowT 2 1 else rowJ
theorem c_row (h : M[1]? = some (coreC p x y)) (hp : 0 ≤ p ∧ p ≤ 2) : run fns gl fuel (k + 1) i_Core__row [.ref 1] M = .ok (rowAt p) M := by
  have F := cf h
  rw [run_fn (d := f_Core__row) rfl rfl (by decide)]
  have : p = 0 ∨ p = 1 ∨ p = 2 := by omega
  have g0 : getI [rowT 1 1, rowT 2 1, rowJ] 0 = some (rowT 1 1) := rfl
  have g1 : getI [rowT 1 1, rowT 2 1, rowJ] 1 = some (rowT 2 1) := rfl
  have g2 : getI [rowT 1 1, rowT 2 1, rowJ] 2 = some rowJ := rfl
  rcases this with rfl | rfl | rfl <;> simp [f_Core__row, F.pr, F.pl, rowAt, g0, g1, g2]
abbrev wishT : PV := .tup [.str [109, 111, 110, 105, 116, 111, 114], .tup [.str [114, 101, 97, 100], .int 4, .int 2]]
theorem c_req_tok (h : M[1]? = some (coreC p x y)) (hp : p = 0 ∨ p = 1) : run fns gl fuel (k + 2) i_Core__request [.ref 1, .int 11, .int 4] M = .ok wishT M := by
  have F := cf h
  have e := c_row k h (by omega)
  rw [run_fn (d := f_Core__request) (k := k + 1) rfl rfl (by decide)]
  rcases hp with rfl | rfl <;> simp [f_Core__request, metR_n F.io, e, rowAt, gl_MEASURE]
theorem c_req_jmp (h : M[1]? = some (coreC 2 x y)) : run fns gl fuel (k + 2) i_Core__request [.ref 1, .int 11, .int 4] M = .ok .non M := by
  have F := cf h
  have e := c_row k h (by omega)
  rw [run_fn (d := f_Core__request) (k := k + 1) rfl rfl (by decide)]
  simp [f_Core__request, metR_n F.io, e, rowAt]
theorem c_answer1 {c : Cell} {v : PV} (hv : pd v = true) (hy : pd y = true) : run fns gl fuel (k + 1) i_Core__answer [.ref 1, .int 1, v] [c, coreC p x y] = .ok .non [c, coreC p v y] := by
  have F := cf (M := [c, coreC p x y, .lst [.int 0, v, y, .int 0]]) (p := p) (x := x) (y := y) rfl
  have F0 := cf (M := [c, coreC p x y]) (p := p) (x := x) (y := y) rfl
  have l4 : 4 ≤ lim := by decide
  have ht : trimM [c, coreC p x y] [c, coreC p v y, .lst [.int 0, v, y, .int 0]] .non = [c, coreC p v y] := by
    refine trimM_app (A := [c, coreC p v y]) (G := [.lst [.int 0, v, y, .int 0]]) (by simp) (by simp [low]) fun i c' e => ?_
    match i with
    | 0 => left; simpa using e
    | 1 => right; cases e; simp [coreC, lowC, lows, low, low_pd v hv, low_pd y hy]
    | i + 2 => simp at e
  have s1 : setL (.ref 2) (.int 1) v [c, coreC p x y, .lst [.int 0, x, y, .int 0]] = some [c, coreC p x y, .lst [.int 0, v, y, .int 0]] := by
    have := setL_l (M := [c, coreC p x y, .lst [.int 0, x, y, .int 0]]) (n := 2) (xs := [.int 0, x, y, .int 0]) (v := v) (k := 1) rfl (by simp)
    exact this
  have tu : opn .tuple [.ref 2] [c, coreC p x y, .lst [.int 0, v, y, .int 0]] = .ok (.tup [.int 0, v, y, .int 0]) [c, coreC p x y, .lst [.int 0, v, y, .int 0]] := opn_tuple_l rfl
  rw [run_fn (d := f_Core__answer) rfl rfl (by decide)]
  simp [f_Core__answer, F0.rg, l4, s1, tu, F.s_rg]
  exact ht
theorem c_answer2 {c : Cell} {v : PV} (hv : pd v = true) (hx : pd x = true) : run fns gl fuel (k + 1) i_Core__answer [.ref 1, .int 2, v] [c, coreC p x y] = .ok .non [c, coreC p x v] := by
  have F := cf (M := [c, coreC p x y, .lst [.int 0, x, v, .int 0]]) (p := p) (x := x) (y := y) rfl
  have F0 := cf (M := [c, coreC p x y]) (p := p) (x := x) (y := y) rfl
  have l4 : 4 ≤ lim := by decide
  have ht : trimM [c, coreC p x y] [c, coreC p x v, .lst [.int 0, x, v, .int 0]] .non = [c, coreC p x v] := by
    refine trimM_app (A := [c, coreC p x v]) (G := [.lst [.int 0, x, v, .int 0]]) (by simp) (by simp [low]) fun i c' e => ?_
    match i with
    | 0 => left; simpa using e
    | 1 => right; cases e; simp [coreC, lowC, lows, low, low_pd v hv, low_pd x hx]
    | i + 2 => simp at e
  have s1 : setL (.ref 2) (.int 2) v [c, coreC p x y, .lst [.int 0, x, y, .int 0]] = some [c, coreC p x y, .lst [.int 0, x, v, .int 0]] := by
    have := setL_l (M := [c, coreC p x y, .lst [.int 0, x, y, .int 0]]) (n := 2) (xs := [.int 0, x, y, .int 0]) (v := v) (k := 2) rfl (by simp)
    exact this
  have tu : opn .tuple [.ref 2] [c, coreC p x y, .lst [.int 0, x, v, .int 0]] = .ok (.tup [.int 0, x, v, .int 0]) [c, coreC p x y, .lst [.int 0, x, v, .int 0]] := opn_tuple_l rfl
  rw [run_fn (d := f_Core__answer) rfl rfl (by decide)]
  simp [f_Core__answer, F0.rg, l4, s1, tu, F.s_rg]
  exact ht
theorem c_put1 {c : Cell} {v : PV} (hv : pd v = true) (hy : pd y = true) : run fns gl fuel (k + 2) i_Core__put [.ref 1, .int 1, v] [c, coreC p x y] = .ok .non [c, coreC (p + 1) v y] := by
  have F0 := cf (M := [c, coreC p x y]) (p := p) (x := x) (y := y) rfl
  have F := cf (M := [c, coreC p v y]) (p := p) (x := v) (y := y) rfl
  have e := c_answer1 k (c := c) (p := p) (x := x) (y := y) hv hy
  have ht : trimM [c, coreC p x y] [c, coreC (p + 1) v y] .non = [c, coreC (p + 1) v y] := trimM_eq (by simp)
  rw [run_fn (d := f_Core__put) (k := k + 1) rfl rfl (by decide)]
  simp [f_Core__put, metR_n F0.io, e, F.pl, F.s_pl, ht]
theorem c_put2 {c : Cell} {v : PV} (hv : pd v = true) (hx : pd x = true) : run fns gl fuel (k + 2) i_Core__put [.ref 1, .int 2, v] [c, coreC p x y] = .ok .non [c, coreC (p + 1) x v] := by
  have F0 := cf (M := [c, coreC p x y]) (p := p) (x := x) (y := y) rfl
  have F := cf (M := [c, coreC p x v]) (p := p) (x := x) (y := v) rfl
  have e := c_answer2 k (c := c) (p := p) (x := x) (y := y) hv hx
  have ht : trimM [c, coreC p x y] [c, coreC (p + 1) x v] .non = [c, coreC (p + 1) x v] := trimM_eq (by simp)
  rw [run_fn (d := f_Core__put) (k := k + 1) rfl rfl (by decide)]
  simp [f_Core__put, metR_n F0.io, e, F.pl, F.s_pl, ht]
end
end Lk27
end

set_option Elab.async false
set_option linter.all false
set_option maxRecDepth 100000
set_option maxHeartbeats 4000000
noncomputable section
namespace Lk27
open HP HTR
section
variable {M : Mem} {p : Int} {x y m : PV} {d : Nat} (K : Nat)
theorem c_token_of (t : T3 (.str sHere) m x d) (hd : d + 4 ≤ K) (hr : 1 + rankW (.tup [.str sHere, m, x]) ≤ 36) (M : Mem) :
    run fns gl fuel (K + 3) i_token_of [.str sHere, m, x] M = .ok (tokV (.str sHere) m x) M := by
  have e : ∀ w : Wd, w.call1 = run fns gl fuel (K + 1) → kMake w 0 i_Atom____init__ true [.str sTok, .tup [.str sHere, m, x]] M = .ok (tokV (.str sHere) m x) M := fun w hw => kMk hw (tok_mk K t hd hr M)
  rw [run_fn (d := f_token_of) (k := K + 2) rfl rfl (by decide)]
  have l3 : 3 ≤ lim := by decide
  have e' := e ⟨run fns gl fuel (K + 2), gl, fuel, run fns gl fuel (K + 1)⟩ rfl
  have ht : trimM M M (tokV (.str sHere) m x) = M := trimM_eq rfl
  simp [-kMake_, f_token_of, l3, e', ht]
theorem c_token_no (t : T3 (.str sHere) m x d) (hd : d + 4 ≤ K) (hr : 36 < 1 + rankW (.tup [.str sHere, m, x])) (M : Mem) :
    run fns gl fuel (K + 3) i_token_of [.str sHere, m, x] M = .exc e_NotValid M := by
  have e : ∀ w : Wd, w.call1 = run fns gl fuel (K + 1) → kMake w 0 i_Atom____init__ true [.str sTok, .tup [.str sHere, m, x]] M = .exc e_NotValid M := fun w hw => kExc hw (tok_no K t hd hr M)
  rw [run_fn (d := f_token_of) (k := K + 2) rfl rfl (by decide)]
  have l3 : 3 ≤ lim := by decide
  have e' := e ⟨run fns gl fuel (K + 2), gl, fuel, run fns gl fuel (K + 1)⟩ rfl
  have ht : trimM M M .non = M := trimM_eq rfl
  simp [-kMake_, f_token_of, l3, e', ht]
theorem tok_pd (t : T3 (.str sHere) m x d) : pd (tokV (.str sHere) m x) = true := by
  have := t.pd
  simp only [tokV, pd, pds, Bool.and_true, Bool.and_eq_true] at this ⊢
  simp [this]
abbrev stuckV : PV := .tup [.str [115, 116, 117, 99, 107]]
/-- a step that makes a token -/
theorem c_step0 {c : Cell} (t : T3 (.str sHere) m x d) (hd : d + 4 ≤ K) (hr : 1 + rankW (.tup [.str sHere, m, x]) ≤ 36) (hy : pd y = true) :
    run fns gl fuel (K + 5) i_Core__step [.ref 1, m, .str sHere] [c, coreC 0 x y] = .ok .non [c, coreC 1 (tokV (.str sHere) m x) y] := by
  have F0 := cf (M := [c, coreC 0 x y]) (p := 0) (x := x) (y := y) rfl
  have e0 := c_row (K + 3) (M := [c, coreC 0 x y]) (p := 0) (x := x) (y := y) rfl (by omega)
  have e1 := c_token_of K t hd hr [c, coreC 0 x y]
  have e2 := c_put1 (K + 1) (c := c) (p := 0) (x := x) (y := y) (tok_pd t) hy
  have ht : trimM [c, coreC 0 x y] [c, coreC 1 (tokV (.str sHere) m x) y] .non = [c, coreC 1 (tokV (.str sHere) m x) y] := trimM_eq (by simp)
  have g : getI [.int 0, x, y, .int 0] 1 = some x := rfl
  have q : run fns gl fuel (K + 4) i_Core__step_token [.ref 1, rowT 1 1, m, .str sHere] [c, coreC 0 x y] = .ok .non [c, coreC 1 (tokV (.str sHere) m x) y] := by
    rw [run_fn (d := f_Core__step_token) (k := K + 3) rfl rfl (by decide)]
    have z : tokV (.str sHere) m x = .obj 0 [0, 1, 2] [.str sTok, .tup [.str sHere, m, x], .int (1 + rankW (.tup [.str sHere, m, x]))] := rfl
    generalize tokV (.str sHere) m x = w at z e1 e2 ht
    have z2 : isN w = false := by rw [z]; rfl
    simp [f_Core__step_token, metR_n F0.io, F0.rg, g, e1, e2, z2, ht]
  rw [run_fn (d := f_Core__step) (k := K + 4) rfl rfl (by decide)]
  simp [f_Core__step, metR_n F0.io, e0, rowAt, q, ht]
theorem c_step1 {c : Cell} (t : T3 (.str sHere) m x d) (hd : d + 4 ≤ K) (hr : 1 + rankW (.tup [.str sHere, m, x]) ≤ 36) (hx : pd x = true) :
    run fns gl fuel (K + 5) i_Core__step [.ref 1, m, .str sHere] [c, coreC 1 x y] = .ok .non [c, coreC 2 x (tokV (.str sHere) m x)] := by
  have F0 := cf (M := [c, coreC 1 x y]) (p := 1) (x := x) (y := y) rfl
  have e0 := c_row (K + 3) (M := [c, coreC 1 x y]) (p := 1) (x := x) (y := y) rfl (by omega)
  have e1 := c_token_of K t hd hr [c, coreC 1 x y]
  have e2 := c_put2 (K + 1) (c := c) (p := 1) (x := x) (y := y) (tok_pd t) hx
  have ht : trimM [c, coreC 1 x y] [c, coreC 2 x (tokV (.str sHere) m x)] .non = [c, coreC 2 x (tokV (.str sHere) m x)] := trimM_eq (by simp)
  have g : getI [.int 0, x, y, .int 0] 1 = some x := rfl
  have q : run fns gl fuel (K + 4) i_Core__step_token [.ref 1, rowT 2 1, m, .str sHere] [c, coreC 1 x y] = .ok .non [c, coreC 2 x (tokV (.str sHere) m x)] := by
    rw [run_fn (d := f_Core__step_token) (k := K + 3) rfl rfl (by decide)]
    have z : tokV (.str sHere) m x = .obj 0 [0, 1, 2] [.str sTok, .tup [.str sHere, m, x], .int (1 + rankW (.tup [.str sHere, m, x]))] := rfl
    generalize tokV (.str sHere) m x = w at z e1 e2 ht
    have z2 : isN w = false := by rw [z]; rfl
    simp [f_Core__step_token, metR_n F0.io, F0.rg, g, e1, e2, z2, ht]
  rw [run_fn (d := f_Core__step) (k := K + 4) rfl rfl (by decide)]
  simp [f_Core__step, metR_n F0.io, e0, rowAt, q, ht]
theorem c_step_no {c : Cell} (t : T3 (.str sHere) m x d) (hd : d + 4 ≤ K) (hr : 36 < 1 + rankW (.tup [.str sHere, m, x])) (hp : p = 0 ∨ p = 1) :
    run fns gl fuel (K + 5) i_Core__step [.ref 1, m, .str sHere] [c, coreC p x y] = .ok stuckV [c, coreC p x y] := by
  have F0 := cf (M := [c, coreC p x y]) (p := p) (x := x) (y := y) rfl
  have e0 := c_row (K + 3) (M := [c, coreC p x y]) (p := p) (x := x) (y := y) rfl (by omega)
  have e1 := c_token_no K t hd hr [c, coreC p x y]
  have ht : trimM [c, coreC p x y] [c, coreC p x y] stuckV = [c, coreC p x y] := trimM_eq (by simp)
  have g : getI [.int 0, x, y, .int 0] 1 = some x := rfl
  have q : ∀ j : Int, run fns gl fuel (K + 4) i_Core__step_token [.ref 1, rowT j 1, m, .str sHere] [c, coreC p x y] = .ok stuckV [c, coreC p x y] := fun j => by
    rw [run_fn (d := f_Core__step_token) (k := K + 3) rfl rfl (by decide)]
    simp [f_Core__step_token, metR_n F0.io, F0.rg, g, e1, ht]
  rw [run_fn (d := f_Core__step) (k := K + 4) rfl rfl (by decide)]
  rcases hp with rfl | rfl <;> simp [f_Core__step, metR_n F0.io, e0, rowAt, q, ht]
theorem c_step_jmp {c : Cell} {v : PV} :
    run fns gl fuel (K + 5) i_Core__step [.ref 1, v, .str sHere] [c, coreC 2 x y] = .ok .non [c, coreC 0 x y] := by
  have F0 := cf (M := [c, coreC 2 x y]) (p := 2) (x := x) (y := y) rfl
  have e0 := c_row (K + 3) (M := [c, coreC 2 x y]) (p := 2) (x := x) (y := y) rfl (by omega)
  have ht : trimM [c, coreC 2 x y] [c, coreC 0 x y] .non = [c, coreC 0 x y] := trimM_eq (by simp)
  have q : run fns gl fuel (K + 4) i_Core__step_plain [.ref 1, rowJ] [c, coreC 2 x y] = .ok .non [c, coreC 0 x y] := by
    rw [run_fn (d := f_Core__step_plain) (k := K + 3) rfl rfl (by decide)]
    simp [f_Core__step_plain, metR_n F0.io, F0.s_pl, ht]
  rw [run_fn (d := f_Core__step) (k := K + 4) rfl rfl (by decide)]
  simp [f_Core__step, metR_n F0.io, e0, rowAt, q, ht]
end
end Lk27
end

set_option Elab.async false
set_option linter.all false
set_option maxRecDepth 100000
set_option maxHeartbeats 4000000
noncomputable section
namespace Lk27
open HP HTR
/-! ### the law's own rank -/
def lr : Nat → PV → Int
  | 0, _ => 0
  | n + 1, v => match v with
    | .tup vs => (vs.map (lr n)).foldl max 0
    | .obj _ _ vs => match vs with
      | _ :: b :: _ => 1 + lr n b
      | _ => 0
    | _ => 0
def lrOk : Nat → PV → Bool
  | 0, _ => false
  | n + 1, v => match v with
    | .tup vs => decide (vs.length ≤ 10) && vs.all (lrOk n)
    | .obj c ns vs => (c == 0) && (ns == [0, 1, 2]) && (match vs with
      | [_, b, _] => lrOk n b
      | _ => false)
    | .ref _ => false
    | .ty _ => false
    | _ => true
theorem c_lr (k : Nat) (M : Mem) : ∀ (n : Nat) (v : PV), lrOk n v = true → run fns gl fuel (k + n) i__law_rank [v] M = .ok (.int (lr n v)) M := by
  intro n
  induction n with
  | zero => intro v h; cases h
  | succ n ih =>
    intro v h
    have ht : ∀ i, trimM M M (.int i) = M := fun i => trimM_eq rfl
    rw [show k + (n + 1) = k + n + 1 from rfl, run_fn (d := f__law_rank) (k := k + n) rfl rfl (by decide)]
    cases v <;> try (first | (simp [lrOk] at h; done) | (simp [f__law_rank, lr, ht]; done))
    · rename_i vs
      simp only [lrOk, Bool.and_eq_true, decide_eq_true_eq] at h
      obtain ⟨hl, hv⟩ := h
      have hlim : lim = 1000000 := rfl
      have e : ∀ c1, evE ⟨run fns gl fuel (k + n), gl, fuel, c1⟩ (.rlc (.name 1) (.val (.var 0)) [] [1] (.call i__law_rank [(.var 1)])) [some (.tup vs), none] M = .ok (.rol (vs.map fun v => PV.int (lr n v))) M := fun c1 =>
        rlc_items0 (f := fun v => .int (lr n v)) (by simp only [evI]; simp) (by omega) (fun x hx => by
          refine ⟨[some (.tup vs), some x], by simp [wipeE], ?_⟩
          have := ih x (List.all_eq_true.mp hv x hx)
          simp [this])
      have im : intsV (.int 0 :: vs.map fun a => PV.int (lr n a)) = some (0 :: vs.map (lr n)) := by
        have : ∀ l : List PV, intsV (l.map fun a => PV.int (lr n a)) = some (l.map (lr n)) := fun l => by
          induction l with
          | nil => rfl
          | cons x l ih => simp [intsV, ih]
        simp [intsV, this]
      have l0 : (1 : Nat) ≤ lim := by decide
      have l1 : 1 + vs.length ≤ lim := by omega
      simp [f__law_rank, lr, e, l0, l1, im, ht]
    · rename_i c ns vs
      simp only [lrOk, Bool.and_eq_true] at h
      obtain ⟨⟨h1, h2⟩, h3⟩ := h
      have h1 := eq_of_beq h1
      have h2 := eq_of_beq h2
      subst h1 h2
      split at h3
      · rename_i a b c
        have := ih b h3
        simp [f__law_rank, lr, this, a_term, n_term, ht]
      · cases h3
/-! ### the law's words -/
abbrev cha (j : Int) : PV := .obj 0 [0, 1, 2] [.str sCha, .tup [.str [118], .int j], .int 1]
abbrev tokM (j : Int) : PV := .obj 0 [0, 1, 2] [.str sTok, .tup [.str [109], .tup [], cha j], .int 2]
def wl (j : Int) : List PV := [.int 7, .str [119], .non, .tup [.int 1, .str [97]], cha j, .tup [cha j, .int 3], tokM j]
def isB (b : PV) : Prop := ∃ j, b = cha j ∨ b = tokM j
/-- what is known of a word -/
structure Gw (w : PV) : Prop where
  ok : okV w = true
  fit : fitsD w 40 = true
  at_ : atP w = true
  ct : cnt w ≤ 1
  ne : nest w ≤ 1
  p : pd w = true
  dpb : (dp w : Int) ≤ 2 * rankW w + 6
  r0 : 0 ≤ rankW w
  r36 : rankW w ≤ 36
  af : ((∀ xs, gath w xs = xs) ∧ rankW w = 0) ∨ ∃ b, (isB b ∨ ∃ m v, b = tokV (.str sHere) m v) ∧ rankW w = rankA b ∧ ∀ xs, gath w xs = if xs.any (fun z => eqV z b) then xs else xs ++ [b]
theorem wl_lt {j : Int} {i : Nat} {v : PV} (h : (wl j)[i]? = some v) : i < 7 := by
  have : i < (wl j).length := by
    rcases Nat.lt_or_ge i (wl j).length with q | q
    · exact q
    · rw [List.getElem?_eq_none q] at h
      cases h
  exact this
theorem gath_obj {vs : List PV} {ns : List Nat} (xs : List PV) : gath (.obj 0 ns vs) xs = if xs.any (fun z => eqV z (.obj 0 ns vs)) then xs else xs ++ [.obj 0 ns vs] := by
  simp only [gath, beq_self_eq_true, if_true]
theorem wl_ok {j : Int} (h0 : 0 ≤ j) (h9 : j < 9) {i : Nat} {v : PV} (h : (wl j)[i]? = some v) : Gw v ∧ lrOk 7 v = true ∧ lr 7 v = rankW v := by
  have hi := wl_lt h
  have : i = 0 ∨ i = 1 ∨ i = 2 ∨ i = 3 ∨ i = 4 ∨ i = 5 ∨ i = 6 := by omega
  rcases this with rfl | rfl | rfl | rfl | rfl | rfl | rfl <;> cases h
  · exact ⟨⟨rfl, rfl, rfl, by decide, by decide, rfl, by decide, by decide, by decide, .inl ⟨fun xs => rfl, rfl⟩⟩, rfl, rfl⟩
  · exact ⟨⟨rfl, rfl, rfl, by decide, by decide, rfl, by decide, by decide, by decide, .inl ⟨fun xs => rfl, rfl⟩⟩, rfl, rfl⟩
  · exact ⟨⟨rfl, rfl, rfl, by decide, by decide, rfl, by decide, by decide, by decide, .inl ⟨fun xs => rfl, rfl⟩⟩, rfl, rfl⟩
  · exact ⟨⟨rfl, rfl, rfl, by decide, by decide, rfl, by decide, by decide, by decide, .inl ⟨fun xs => rfl, rfl⟩⟩, rfl, rfl⟩
  · exact ⟨⟨rfl, rfl, rfl, Nat.le_refl 1, Nat.zero_le 1, rfl, by show (2 : Int) ≤ 2 * 1 + 6; decide, by show (0 : Int) ≤ 1; decide, by show (1 : Int) ≤ 36; decide, .inr ⟨_, .inl ⟨j, .inl rfl⟩, rfl, gath_obj⟩⟩, rfl, rfl⟩
  · exact ⟨⟨rfl, rfl, rfl, Nat.le_refl 1, Nat.le_refl 1, rfl, by show (3 : Int) ≤ 2 * 1 + 6; decide, by show (0 : Int) ≤ 1; decide, by show (1 : Int) ≤ 36; decide, .inr ⟨_, .inl ⟨j, .inl rfl⟩, rfl, gath_obj⟩⟩, rfl, rfl⟩
  · exact ⟨⟨rfl, rfl, rfl, Nat.le_refl 1, Nat.zero_le 1, rfl, by show (4 : Int) ≤ 2 * 2 + 6; decide, by show (0 : Int) ≤ 2; decide, by show (2 : Int) ≤ 36; decide, .inr ⟨_, .inl ⟨j, .inr rfl⟩, rfl, gath_obj⟩⟩, rfl, rfl⟩
/-- .. of the measure -/
structure Gm (m : PV) : Prop where
  ok : okV m = true
  fit : fitsD m 40 = true
  at_ : atP m = true
  ct : cnt m ≤ 1
  ne : nest m ≤ 3
  p : pd m = true
  dpb : dp m ≤ 6
  t : isTupV m = true
  r0 : 0 ≤ rankW m
  r2 : rankW m ≤ 2
  af : (gath m [] = [] ∧ rankW m = 0) ∨ ∃ b, isB b ∧ rankW m = rankA b ∧ gath m [] = [b]
abbrev sCpu : List Nat := [99, 112, 117]
def ml (w : PV) : List PV := [.tup [], .tup [.tup [.str sCpu, .int 5, w]]]
theorem ml_ok {j : Int} (h0 : 0 ≤ j) (h9 : j < 9) {i n : Nat} {v m : PV} (h : (wl j)[i]? = some v) (hm : (ml v)[n]? = some m) : Gm m ∧ lrOk 9 m = true ∧ lr 9 m = rankW m := by
  have hi := wl_lt h
  match n, hm with
  | 0, hm =>
    cases hm
    exact ⟨⟨rfl, rfl, rfl, by decide, by decide, rfl, by decide, rfl, by decide, by decide, .inl ⟨rfl, rfl⟩⟩, rfl, rfl⟩
  | 1, hm =>
    cases hm
    have : i = 0 ∨ i = 1 ∨ i = 2 ∨ i = 3 ∨ i = 4 ∨ i = 5 ∨ i = 6 := by omega
    rcases this with rfl | rfl | rfl | rfl | rfl | rfl | rfl <;> cases h
    · exact ⟨⟨rfl, rfl, rfl, by decide, by decide, rfl, by decide, rfl, by decide, by decide, .inl ⟨rfl, rfl⟩⟩, rfl, rfl⟩
    · exact ⟨⟨rfl, rfl, rfl, by decide, by decide, rfl, by decide, rfl, by decide, by decide, .inl ⟨rfl, rfl⟩⟩, rfl, rfl⟩
    · exact ⟨⟨rfl, rfl, rfl, by decide, by decide, rfl, by decide, rfl, by decide, by decide, .inl ⟨rfl, rfl⟩⟩, rfl, rfl⟩
    · exact ⟨⟨rfl, rfl, rfl, by decide, by decide, rfl, by decide, rfl, by decide, by decide, .inl ⟨rfl, rfl⟩⟩, rfl, rfl⟩
    · exact ⟨⟨rfl, rfl, rfl, Nat.le_refl 1, by show 2 ≤ 3; decide, rfl, by show 4 ≤ 6; decide, rfl, by show (0 : Int) ≤ 1; decide, by show (1 : Int) ≤ 2; decide, .inr ⟨_, ⟨j, .inl rfl⟩, rfl, rfl⟩⟩, rfl, rfl⟩
    · exact ⟨⟨rfl, rfl, rfl, Nat.le_refl 1, by show 3 ≤ 3; decide, rfl, by show 5 ≤ 6; decide, rfl, by show (0 : Int) ≤ 1; decide, by show (1 : Int) ≤ 2; decide, .inr ⟨_, ⟨j, .inl rfl⟩, rfl, rfl⟩⟩, rfl, rfl⟩
    · exact ⟨⟨rfl, rfl, rfl, Nat.le_refl 1, by show 2 ≤ 3; decide, rfl, by show 6 ≤ 6; decide, rfl, by show (0 : Int) ≤ 2; decide, by show (2 : Int) ≤ 2; decide, .inr ⟨_, ⟨j, .inr rfl⟩, rfl, rfl⟩⟩, rfl, rfl⟩
  | n + 2, hm => cases hm
/-- equal atoms have one rank -/
theorem eq_rank {a b : PV} (ha : isB a) (hb : isB b ∨ ∃ m v, b = tokV (.str sHere) m v) (h : eqV a b = true) : rankA a = rankA b := by
  obtain ⟨i, rfl | rfl⟩ := ha <;> rcases hb with ⟨j, rfl | rfl⟩ | ⟨m, v, rfl⟩
  · rfl
  · simp [eqV, dO, eqD] at h
  · simp [eqV, dO, dOs, eqD, tokV] at h
  · simp [eqV, dO, eqD] at h
  · rfl
  · simp [eqV, dO, dOs, eqD, eqDs, tokV] at h
theorem rank_tok {m w : PV} {s : List Nat} (hm : Gm m) (hw : Gw w) : rankW (.tup [.str s, m, w]) = max (rankW m) (rankW w) := by
  have h0 := hm.r0
  have h1 := hw.r0
  have e : gath (.tup [.str s, m, w]) [] = gath w (gath m []) := by simp only [gath, gaths]
  have er : rankW (.tup [.str s, m, w]) = ((gath w (gath m [])).map rankA).foldl max 0 := by
    unfold rankW
    rw [e]
  rw [er]
  rcases hm.af with ⟨a1, a2⟩ | ⟨a, a1, a2, a3⟩
  · rw [a1]
    have : ((gath w []).map rankA).foldl max 0 = rankW w := rfl
    rw [this]
    omega
  · rw [a3]
    rcases hw.af with ⟨b1, b2⟩ | ⟨b, b1, b2, b3⟩
    · rw [b1]
      simp only [List.map_cons, List.map_nil, List.foldl_cons, List.foldl_nil]
      omega
    · rw [b3]
      by_cases c : eqV a b = true
      · have := eq_rank a1 b1 c
        simp only [List.any_cons, List.any_nil, Bool.or_false, c, if_true, List.map_cons, List.map_nil, List.foldl_cons, List.foldl_nil]
        omega
      · simp only [List.any_cons, List.any_nil, Bool.or_false, c, List.cons_append, List.nil_append, List.map_cons, List.map_nil, List.foldl_cons, List.foldl_nil, Bool.false_eq_true, if_false]
        omega
theorem t3 {m w : PV} (hm : Gm m) (hw : Gw w) : T3 (.str sHere) m w 3 := by
  have hlim : lim = 1000000 := rfl
  refine ⟨?_, ?_, ?_, ?_, ?_, ?_, rfl, hm.t⟩
  · simp [okVs, okV, hm.ok, hw.ok]
  · have : fitsD (.str sHere) 40 = true := by decide
    simp [this, hm.fit, hw.fit]
  · simp [atPs, atP, hm.at_, hw.at_]
  · have := hm.ct
    have := hw.ct
    simp only [cnts, cnt]
    omega
  · have := hm.ne
    have := hw.ne
    simp only [nests, nest]
    omega
  · simp [pds, pd, hm.p, hw.p]
theorem gw_tok {m w : PV} (hm : Gm m) (hw : Gw w) (hr : 1 + max (rankW m) (rankW w) ≤ 36) : Gw (tokV (.str sHere) m w) ∧ rankW (tokV (.str sHere) m w) = 1 + max (rankW m) (rankW w) := by
  have e := rank_tok (s := sHere) hm hw
  have h0 := hm.r0
  have h1 := hw.r0
  have er : rankW (tokV (.str sHere) m w) = 1 + max (rankW m) (rankW w) := by
    have : rankW (tokV (.str sHere) m w) = max 0 (1 + rankW (.tup [.str sHere, m, w])) := rfl
    rw [this, e]
    omega
  have hp : pd (tokV (.str sHere) m w) = true := tok_pd (t3 hm hw)
  have hd : (dp (tokV (.str sHere) m w) : Int) ≤ 2 * (1 + max (rankW m) (rankW w)) + 6 := by
    have a := hm.dpb
    have b := hw.dpb
    simp only [tokV, dp, dps]
    omega
  refine ⟨⟨rfl, rfl, ?_, Nat.le_refl 1, Nat.zero_le 1, hp, by rw [er]; exact hd, by rw [er]; omega, by rw [er]; exact hr, .inr ⟨_, .inr ⟨m, w, rfl⟩, by rw [er, ← e]; rfl, gath_obj⟩⟩, er⟩
  show atO (tokV (.str sHere) m w) = true
  unfold atO
  rw [hp, decide_eq_true (show dp (tokV (.str sHere) m w) < 82 by omega)]
  rfl
end Lk27
end

set_option Elab.async false
set_option linter.all false
set_option maxRecDepth 100000
set_option maxHeartbeats 4000000
noncomputable section
namespace Lk27
open HP HTR
/-- a loop that may answer true -/
theorem loopX_true {g : Tg} {body : Env → Mem → Ctl} {P : Env → Mem → Prop} : ∀ (xs : List PV) (env : Env) (M : Mem), P env M →
    (∀ x env M, x ∈ xs → P env M → ∃ e1, bindT g x env = some e1 ∧ ((∃ env' M', body e1 M = .nxt env' M' ∧ P env' M') ∨ ∃ M', body e1 M = .ret (.bl true) M')) →
    (∃ env' M', loopX g body xs env M = .nxt env' M' ∧ P env' M') ∨ ∃ M', loopX g body xs env M = .ret (.bl true) M'
  | [], env, M, h, _ => .inl ⟨env, M, rfl, h⟩
  | x :: xs, env, M, h, hs => by
    obtain ⟨e1, h1, h2⟩ := hs x env M List.mem_cons_self h
    unfold loopX
    rw [h1]
    simp only
    rcases h2 with ⟨env', M', h2, h3⟩ | ⟨M', h2⟩
    · rw [h2]
      exact loopX_true xs env' M' h3 fun y e m hy hp => hs y e m (List.mem_cons_of_mem _ hy) hp
    · rw [h2]
      exact .inr ⟨M', rfl⟩
abbrev W (k : Nat) : Wd := ⟨run fns gl fuel (k + 12), gl, fuel, run fns gl fuel (k + 11)⟩
def en (x0 : Option PV) (fi m w : PV) (r h : Int) (x8 x9 x10 x11 x12 : Option PV) : Env := [x0, some (.ref 0), some fi, some m, some (.ref 1), some w, some (.int r), some (.int h), x8, x9, x10, x11, x12]
theorem op_max (a b : Int) (M : Mem) : opn .max [.int a, .int b] M = .ok (.int (max a b)) M := by
  show Res.ok (PV.int (if b > a then b else a)) M = _
  congr 2
  split <;> omega
theorem w_c1 (k : Nat) : (W k).call1 = run fns gl fuel (k + 11) := rfl
section
variable {x0 x8 x9 x10 x11 x12 : Option PV} {fi m w y : PV} (k : Nat)
theorem keptD {x y : PV} {p : Int} (hx : pd x = true) (hy : pd y = true) (dx : dp x ≤ 80) (dy : dp y ≤ 80) : pd (.tup [.int p, .tup [.int 0, x, y, .int 0]]) = true ∧ dp (.tup [.int p, .tup [.int 0, x, y, .int 0]]) < 90 := by
  simp only [pd, pds, hx, hy, dp, dps, Bool.and_self, true_and]
  omega
theorem eq_self {v : PV} {M : Mem} (h : pd v = true) (hd : dp v < 90) : eqPV M v v = some true := eqPV_self (toD_pd v 90 h hd)
theorem Gw.d {w : PV} (h : Gw w) : dp w ≤ 78 := by
  have := h.dpb
  have := h.r36
  omega
/-- the first half of a turn -/
theorem half0 {c : Cell} (hm : Gm m) (hw : Gw w) (hy : pd y = true) (dy : dp y ≤ 80) :
    (∃ M', evSs (W k) b2_law (en x0 fi m w (rankW w) (rankW m) x8 (some (.int 0)) x10 x11 x12) [c, coreC 0 w y] = .ret (.bl true) M') ∨
    ∃ y10 y11 y12, evSs (W k) b2_law (en x0 fi m w (rankW w) (rankW m) x8 (some (.int 0)) x10 x11 x12) [c, coreC 0 w y] =
      .nxt (en x0 fi m (tokV (.str sHere) m w) (1 + max (rankW w) (rankW m)) (rankW m) x8 (some (.int 0)) y10 y11 y12) [c, coreC 1 (tokV (.str sHere) m w) y] ∧ 1 + max (rankW m) (rankW w) ≤ 36 := by
  have F0 := cf (M := [c, coreC 0 w y]) (p := 0) (x := w) (y := y) rfl
  have e0 := c_req_tok (k + 10) (M := [c, coreC 0 w y]) (p := 0) (x := w) (y := y) rfl (.inl rfl)
  have q0 : ∀ M, eqPV M wishT wishT = some true := fun M => eqPV_self rfl
  have er := rank_tok (s := sHere) hm hw
  have t := t3 hm hw
  have emx : max (rankW w) (rankW m) = max (rankW m) (rankW w) := by omega
  by_cases hr : 1 + max (rankW m) (rankW w) ≤ 36
  · right
    have e1 := c_step0 (K := k + 7) (c := c) (y := y) t (by omega) (by rw [er]; exact hr) hy
    have e2 := kMk (w := W k) (K := k + 11) (c := 0) (f := i_Atom____init__) (vs := [.str sTok, .tup [.str sHere, m, w]]) (M := [c, coreC 1 (tokV (.str sHere) m w) y]) (w_c1 k) (tok_mk (k + 10) t (by omega) (by rw [er]; exact hr) _)
    obtain ⟨g1, g2⟩ := gw_tok hm hw hr
    have l3 : 3 ≤ lim := by decide
    have z : tokV (.str sHere) m w = .obj 0 [0, 1, 2] [.str sTok, .tup [.str sHere, m, w], .int (1 + rankW (.tup [.str sHere, m, w]))] := rfl
    generalize tokV (.str sHere) m w = w' at *
    have F1 := cf (M := [c, coreC 1 w' y]) (p := 1) (x := w') (y := y) rfl
    have gi : getI [.int 0, w', y, .int 0] 1 = some w' := rfl
    have q1 : ∀ M, eqPV M w' w' = some true := fun M => eq_self g1.p (by have := g1.d; omega)
    have n36 : ¬ (36 : Int) < 1 + max (rankW w) (rankW m) := by omega
    refine ⟨some (.tup [.int 0, .tup [.int 0, w, y, .int 0]]), some .non, some w', ?_, hr⟩
    simp [-kMake_, en, b2_law, s0_b2_law, s1_b2_law, s2_b2_law, s3_b2_law, s4_b2_law, s5_b2_law, s6_b2_law, s7_b2_law, metR_n F0.io, e0, q0, F0.pl, F0.rg, e1, op_max, n36, l3, e2, F1.pl, F1.rg, gi, q1]
  · left
    have e1 := c_step_no (p := 0) (K := k + 7) (c := c) (y := y) t (by omega) (by rw [er]; omega) (.inl rfl)
    have q1 : ∀ M, eqPV M stuckV stuckV = some true := fun M => eqPV_self rfl
    obtain ⟨kp, kd⟩ := keptD (p := 0) hw.p hy (by have := hw.d; omega) dy
    have q2 : ∀ M, eqPV M (.tup [.int 0, .tup [.int 0, w, y, .int 0]]) (.tup [.int 0, .tup [.int 0, w, y, .int 0]]) = some true := fun M => eq_self kp kd
    have n36 : (36 : Int) < 1 + max (rankW w) (rankW m) := by omega
    refine ⟨[c, coreC 0 w y], ?_⟩
    simp [-kMake_, en, b2_law, s0_b2_law, s1_b2_law, s2_b2_law, s3_b2_law, s4_b2_law, s5_b2_law, s6_b2_law, s7_b2_law, metR_n F0.io, e0, q0, F0.pl, F0.rg, e1, op_max, n36, q1, q2]
/-- the second half -/
theorem half1 {c : Cell} (hm : Gm m) (hw : Gw w) (hr0 : rankW m < rankW w) (hy : pd y = true) (dy : dp y ≤ 80) :
    (∃ M', evSs (W k) b2_law (en x0 fi m w (rankW w) (rankW m) x8 (some (.int 1)) x10 x11 x12) [c, coreC 1 w y] = .ret (.bl true) M') ∨
    ∃ y10 y11 y12, evSs (W k) b2_law (en x0 fi m w (rankW w) (rankW m) x8 (some (.int 1)) x10 x11 x12) [c, coreC 1 w y] =
      .nxt (en x0 fi m w (rankW w) (rankW m) x8 (some (.int 1)) y10 y11 y12) [c, coreC 2 w (tokV (.str sHere) m w)] ∧ 1 + max (rankW m) (rankW w) ≤ 36 := by
  have F0 := cf (M := [c, coreC 1 w y]) (p := 1) (x := w) (y := y) rfl
  have e0 := c_req_tok (k + 10) (M := [c, coreC 1 w y]) (p := 1) (x := w) (y := y) rfl (.inr rfl)
  have q0 : ∀ M, eqPV M wishT wishT = some true := fun M => eqPV_self rfl
  have er := rank_tok (s := sHere) hm hw
  have t := t3 hm hw
  by_cases hr : 1 + max (rankW m) (rankW w) ≤ 36
  · right
    have e1 := c_step1 (K := k + 7) (c := c) (y := y) t (by omega) (by rw [er]; exact hr) hw.p
    have e2 := kMk (w := W k) (K := k + 11) (c := 0) (f := i_Atom____init__) (vs := [.str sTok, .tup [.str sHere, m, w]]) (M := [c, coreC 2 w (tokV (.str sHere) m w)]) (w_c1 k) (tok_mk (k + 10) t (by omega) (by rw [er]; exact hr) _)
    obtain ⟨g1, g2⟩ := gw_tok hm hw hr
    have l3 : 3 ≤ lim := by decide
    generalize tokV (.str sHere) m w = w' at *
    have F1 := cf (M := [c, coreC 2 w w']) (p := 2) (x := w) (y := w') rfl
    have gi : getI [.int 0, w, w', .int 0] 2 = some w' := rfl
    have q1 : ∀ M, eqPV M w' w' = some true := fun M => eq_self g1.p (by have := g1.d; omega)
    have n36 : ¬ (36 : Int) < 1 + max (rankW w) (rankW m) := by omega
    have r1 : 1 + max (rankW w) (rankW m) - 1 = rankW w := by omega
    refine ⟨some (.tup [.int 1, .tup [.int 0, w, y, .int 0]]), some .non, some w', ?_, hr⟩
    simp [-kMake_, en, b2_law, s0_b2_law, s1_b2_law, s2_b2_law, s3_b2_law, s4_b2_law, s5_b2_law, s6_b2_law, s7_b2_law, metR_n F0.io, e0, q0, F0.pl, F0.rg, e1, op_max, n36, l3, e2, F1.pl, F1.rg, gi, q1, r1]
  · left
    have e1 := c_step_no (p := 1) (K := k + 7) (c := c) (y := y) t (by omega) (by rw [er]; omega) (.inr rfl)
    have q1 : ∀ M, eqPV M stuckV stuckV = some true := fun M => eqPV_self rfl
    obtain ⟨kp, kd⟩ := keptD (p := 1) hw.p hy (by have := hw.d; omega) dy
    have q2 : ∀ M, eqPV M (.tup [.int 1, .tup [.int 0, w, y, .int 0]]) (.tup [.int 1, .tup [.int 0, w, y, .int 0]]) = some true := fun M => eq_self kp kd
    have n36 : (36 : Int) < 1 + max (rankW w) (rankW m) := by omega
    refine ⟨[c, coreC 1 w y], ?_⟩
    simp [-kMake_, en, b2_law, s0_b2_law, s1_b2_law, s2_b2_law, s3_b2_law, s4_b2_law, s5_b2_law, s6_b2_law, s7_b2_law, metR_n F0.io, e0, q0, F0.pl, F0.rg, e1, op_max, n36, q1, q2]
/-- a turn -/
theorem turn {c : Cell} (hm : Gm m) (hw : Gw w) (hy : pd y = true) (dy : dp y ≤ 80) :
    (∃ M', evSs (W k) b1_law (en x0 fi m w (rankW w) (rankW m) x8 x9 x10 x11 x12) [c, coreC 0 w y] = .ret (.bl true) M') ∨
    ∃ w' y' y9 y10 y11 y12, evSs (W k) b1_law (en x0 fi m w (rankW w) (rankW m) x8 x9 x10 x11 x12) [c, coreC 0 w y] =
      .nxt (en x0 fi m w' (rankW w') (rankW m) x8 y9 y10 y11 y12) [c, coreC 0 w' y'] ∧ Gw w' ∧ pd y' = true ∧ dp y' ≤ 80 := by
  have ti : evI (W k) (.range [(.lit (.int (2)))]) (en x0 fi m w (rankW w) (rankW m) x8 x9 x10 x11 x12) [c, coreC 0 w y] = .ok (.items [.int 0, .int 1]) [c, coreC 0 w y] := evI_rangeN (n := 2) (by simp) (by decide)
  have b0 : ∀ (m w : PV) (r h v : Int) (x9 x10 x11 x12 : Option PV), bindT (.name 9) (.int v) (en x0 fi m w r h x8 x9 x10 x11 x12) = some (en x0 fi m w r h x8 (some (.int v)) x10 x11 x12) := fun m w r h v x9 x10 x11 x12 => rfl
  rcases half0 (x0 := x0) (x8 := x8) (x10 := x10) (x11 := x11) (x12 := x12) (fi := fi) k (c := c) hm hw hy dy with ⟨M', e⟩ | ⟨y10, y11, y12, e, hr⟩
  · left
    refine ⟨M', ?_⟩
    rw [b1_law, evSs_cons, evS_for, ti]
    simp only [Res.thn_ok, kFor_items, loopX, b0, e, Ctl.turn, Ctl.seq]
  · obtain ⟨g1, g2⟩ := gw_tok hm hw hr
    have r1 : 1 + max (rankW w) (rankW m) = rankW (tokV (.str sHere) m w) := by rw [g2]; omega
    rw [r1] at e
    have rl : rankW m < rankW (tokV (.str sHere) m w) := by rw [g2]; omega
    rcases half1 (x0 := x0) (x8 := x8) (x10 := y10) (x11 := y11) (x12 := y12) (fi := fi) k (c := c) hm g1 rl hy dy with ⟨M', e'⟩ | ⟨z10, z11, z12, e', hr'⟩
    · left
      refine ⟨M', ?_⟩
      rw [b1_law, evSs_cons, evS_for, ti]
      simp only [Res.thn_ok, kFor_items, loopX, b0, e, e', Ctl.turn, Ctl.seq]
    · right
      obtain ⟨h1, h2⟩ := gw_tok hm g1 hr'
      refine ⟨tokV (.str sHere) m w, tokV (.str sHere) m (tokV (.str sHere) m w), some (.int 1), z10, z11, z12, ?_, g1, h1.p, by have := h1.d; omega⟩
      rw [b1_law, evSs_cons, evS_for, ti]
      simp only [Res.thn_ok, kFor_items, loopX, b0, e, e', Ctl.turn, Ctl.seq]
      generalize tokV (.str sHere) m (tokV (.str sHere) m w) = u
      generalize tokV (.str sHere) m w = v
      have F0 := cf (M := [c, coreC 2 v u]) (p := 2) (x := v) (y := u) rfl
      have e1 := c_req_jmp (k + 10) (M := [c, coreC 2 v u]) (x := v) (y := u) rfl
      have e2 := c_step_jmp (k + 7) (c := c) (x := v) (y := u) (v := .non)
      simp [en, metR_n F0.io, e1, e2]
end
end Lk27
end

set_option Elab.async false
set_option linter.all false
set_option maxRecDepth 100000
set_option maxHeartbeats 4000000
noncomputable section
namespace Lk27
open HP HTR
theorem nx (k : Nat) {tp : Cell} {R : Mem} {many : Int} (T : IsTp tp) (h0 : 0 < many) (h1 : many < 2 ^ 62) :
    ∃ v tp', run fns gl fuel (k + 1) i__law_next [.ref 0, .int many] (tp :: R) = .ok (.int v) (tp' :: R) ∧ 0 ≤ v ∧ v < many ∧ IsTp tp' := next_R rfl T h0 h1
theorem nxN (k : Nat) {tp : Cell} {R : Mem} (n : Nat) (many : Int) (hm : many = n) (T : IsTp tp) (h0 : 0 < n) (h1 : n < 1000000) :
    ∃ (v : Nat) (tp' : Cell), run fns gl fuel (k + 1) i__law_next [.ref 0, .int many] (tp :: R) = .ok (.int v) (tp' :: R) ∧ v < n ∧ IsTp tp' := by
  subst hm
  obtain ⟨v, tp', e, a, b, T'⟩ := nx k (R := R) (many := n) T (by omega) (by omega)
  exact ⟨v.toNat, tp', by rw [e, Int.toNat_of_nonneg a], by omega, T'⟩
theorem mk_cha (K : Nat) {j : Int} (h0 : 0 ≤ j) (h9 : j < 9) (M : Mem) (hK : 4 ≤ K) : makR 0 true M (run fns gl fuel (K + 1) i_Atom____init__ [.ref M.length, .str sCha, .tup [.str [118], .int j]] (M ++ [.ins 0 [] []])) = .ok (cha j) M := by
  have hn : isNum (.int j) = true := by simp only [isNum, Bool.and_eq_true, decide_eq_true_eq]; omega
  have := mk_at K (s := sCha) (ts := [.str [118], .int j]) (j := 1) M (by decide) rfl rfl (by decide : 2 ≤ lim) (by
    have : isTxt (.str [118]) = true := by decide
    simp [fitsD, hn, this]) (fun M => ?_) rfl (by show 0 < lim; decide) (by show 0 + 4 ≤ K; omega) (by show (1 : Int) ≤ 40; decide) (fun h => by cases h) rfl
  · exact this
  · have e := f_cha (K - 2) (M := M) (t0 := .str [118]) (t1 := .int j) rfl rfl
    rw [show K - 2 + 2 = K by omega, hn] at e
    exact e
theorem mk_tokM (K : Nat) (j : Int) (M : Mem) (hK : 5 ≤ K) : makR 0 true M (run fns gl fuel (K + 1) i_Atom____init__ [.ref M.length, .str sTok, .tup [.str [109], .tup [], cha j]] (M ++ [.ins 0 [] []])) = .ok (tokM j) M := by
  have t : T3 (.str [109]) (.tup []) (cha j) 1 := ⟨rfl, rfl, rfl, by show 1 < lim; decide, by show 1 ≤ 1; decide, rfl, rfl, rfl⟩
  exact tok_mk K t (by omega) (by show (2 : Int) ≤ 36; decide) M
/-- a word of the law -/
theorem c_law_word (k : Nat) {tp : Cell} {R : Mem} (T : IsTp tp) : ∃ (j : Int) (i : Nat) (v : PV) (tp' : Cell), run fns gl fuel (k + 8) i__law_word [.ref 0] (tp :: R) = .ok v (tp' :: R) ∧ 0 ≤ j ∧ j < 9 ∧ (wl j)[i]? = some v ∧ IsTp tp' := by
  obtain ⟨j, t1, e1, hj, T1⟩ := nxN (k + 6) (R := R) 9 9 rfl T (by decide) (by decide)
  obtain ⟨i, t2, e2, hi, T2⟩ := nxN (k + 6) (R := R) 7 7 rfl T1 (by decide) (by decide)
  have m1 := kMk (w := ⟨run fns gl fuel (k + 7), gl, fuel, run fns gl fuel (k + 6)⟩) (K := k + 6) (c := 0) (f := i_Atom____init__) (vs := [.str sCha, .tup [.str [118], .int (j : Int)]]) (M := t1 :: R) rfl (mk_cha (k + 5) (by omega) (by omega) _ (by omega))
  have m2 := kMk (w := ⟨run fns gl fuel (k + 7), gl, fuel, run fns gl fuel (k + 6)⟩) (K := k + 6) (c := 0) (f := i_Atom____init__) (vs := [.str sTok, .tup [.str [109], .tup [], cha j]]) (M := t1 :: R) rfl (mk_tokM (k + 5) j _ (by omega))
  obtain ⟨v, hv⟩ : ∃ v, (wl j)[i]? = some v := ⟨_, List.getElem?_eq_getElem (by show i < 7; exact hi)⟩
  refine ⟨j, i, v, t2, ?_, by omega, by omega, hv, T2⟩
  have ht : trimM (tp :: R) (t2 :: R) v = t2 :: R := trimM_eq (by simp)
  have gi : getI (wl j) (i : Int) = some v := by rw [getI_nat]; exact hv
  have l7 : 7 ≤ lim := by decide
  have l2 : 2 ≤ lim := by decide
  have l3 : 3 ≤ lim := by decide
  have l0 : 0 ≤ lim := by decide
  rw [run_fn (d := f__law_word) (k := k + 7) rfl rfl (by decide)]
  unfold wl at gi
  simp [-kMake_, f__law_word, e1, m1, m2, e2, l7, l2, l3, l0, gi, ht]
theorem mk_core (K : Nat) {w : PV} {wd : Wd} (hw : wd.call1 = run fns gl fuel (K + 1)) (tp : Cell) : kMake wd 1 i_Core____init__ false [PP, .int 0, .tup [.int 0, w, .int 0, .int 0]] [tp] = .ok (.ref 1) [tp, coreC 0 w (.int 0)] := by
  have := kMkF (w := wd) (c := 1) (f := i_Core____init__) (vs := [PP, .int 0, .tup [.int 0, w, .int 0, .int 0]]) (M := [tp]) (R := [coreC 0 w (.int 0)]) hw ?_
  · exact this
  · rw [run_fn (d := f_Core____init__) rfl rfl (by decide)]
    have ht : trimM [tp, .ins 1 [] []] [tp, coreC 0 w (.int 0)] .non = [tp, coreC 0 w (.int 0)] := trimM_eq (by simp)
    have s0 : ∀ v, setAR (.ref 1) a_program n_program v [tp, .ins 1 [] []] = some [tp, .ins 1 [a_program] [v]] := fun v => by rw [setAR_ref (m := 1) (k := 1) (ns := []) (vs := []) rfl]; rfl
    have s1 : ∀ v u, setAR (.ref 1) a_place n_place v [tp, .ins 1 [a_program] [u]] = some [tp, .ins 1 [a_program, a_place] [u, v]] := fun v u => by rw [setAR_ref (m := 1) (k := 1) (ns := [a_program]) (vs := [u]) rfl]; rfl
    have s2 : ∀ v u x, setAR (.ref 1) a_registers n_registers v [tp, .ins 1 [a_program, a_place] [u, x]] = some [tp, .ins 1 [a_program, a_place, a_registers] [u, x, v]] := fun v u x => by rw [setAR_ref (m := 1) (k := 1) (ns := [a_program, a_place]) (vs := [u, x]) rfl]; rfl
    have s3 : ∀ v u x y, setAR (.ref 1) a_stage n_stage v [tp, .ins 1 [a_program, a_place, a_registers] [u, x, y]] = some [tp, .ins 1 [a_program, a_place, a_registers, a_stage] [u, x, y, v]] := fun v u x y => by rw [setAR_ref (m := 1) (k := 1) (ns := [a_program, a_place, a_registers]) (vs := [u, x, y]) rfl]; rfl
    have s4 : ∀ v u x y z, setAR (.ref 1) a_leaf n_leaf v [tp, .ins 1 [a_program, a_place, a_registers, a_stage] [u, x, y, z]] = some [tp, .ins 1 [a_program, a_place, a_registers, a_stage, a_leaf] [u, x, y, z, v]] := fun v u x y z => by rw [setAR_ref (m := 1) (k := 1) (ns := [a_program, a_place, a_registers, a_stage]) (vs := [u, x, y, z]) rfl]; rfl
    show Res.trim [tp, .ins 1 [] []] _ = _
    simp [f_Core____init__, s0, s1, s2, s3, s4]
    exact ht
def Inv (x0 : Option PV) (fi m : PV) (env : Env) (M : Mem) : Prop := ∃ c w y x8 x9 x10 x11 x12, env = en x0 fi m w (rankW w) (rankW m) x8 x9 x10 x11 x12 ∧ M = [c, coreC 0 w y] ∧ Gw w ∧ pd y = true ∧ dp y ≤ 80
theorem seq_seq (c : Ctl) (f g : Env → Mem → Ctl) : (c.seq f).seq g = c.seq fun e m => (f e m).seq g := by cases c <;> rfl
theorem evSs_app {w : Wd} : ∀ (a b : List S) (env : Env) (M : Mem), evSs w (a ++ b) env M = (evSs w a env M).seq fun e m => evSs w b e m
  | [], b, env, M => by rw [List.nil_append, evSs]; rfl
  | s :: a, b, env, M => by
    rw [List.cons_append, evSs_cons, evSs_cons, seq_seq]
    congr 1
    funext e m
    exact evSs_app a b e m
theorem plainK (k : Nat) (ns : List Int) : ∃ M, run fns gl fuel (k + 13) i_law [scriptV ns] [] = .ok (.bl true) M := by
  obtain ⟨j, i, w, t1, e1, j0, j9, hw, T1⟩ := c_law_word (k + 4) (R := []) (tp_mk (ns := ns) (i := 0) (r := 0) (s := 5) (Int.le_refl 0) (Int.le_refl 0))
  obtain ⟨j', i', w', t2, e2, j0', j9', hw', T2⟩ := c_law_word (k + 4) (R := []) T1
  obtain ⟨q, t3, e3, hq, T3⟩ := nxN (k + 11) (R := []) 2 2 rfl T2 (by decide) (by decide)
  obtain ⟨m, hm⟩ : ∃ m, (ml w')[q]? = some m := ⟨_, List.getElem?_eq_getElem (by show q < 2; exact hq)⟩
  obtain ⟨gm, lm1, lm2⟩ := ml_ok j0' j9' hw' hm
  obtain ⟨gw, lw1, lw2⟩ := wl_ok j0 j9 hw
  have gi : getI (ml w') (q : Int) = some m := by rw [getI_nat]; exact hm
  have e4 := mk_core (k + 10) (w := w) (wd := W k) rfl t3
  have e5 := c_lr (k + 5) [t3, coreC 0 w (.int 0)] 7 w lw1
  have e6 := c_lr (k + 3) [t3, coreC 0 w (.int 0)] 9 m lm1
  rw [lw2] at e5
  rw [lm2] at e6
  obtain ⟨n, t4, e7, hn, T4⟩ := nxN (k + 11) (R := [coreC 0 w (.int 0)]) 56 56 rfl T3 (by decide) (by decide)
  have st1 : evSs (W k) [.asg (.name 1) (.lst [(.opn .rlist [(.var 0)]), (.lit (.int (0))), (.lit (.int (0))), (.lit (.int (5)))]),
    .asg (.name 2) (.call i__law_word [(.var 1)]),
    .asg (.name 3) (.op2 .idx (.tup [(.tup []), (.tup [(.tup [(.lit (.str [99, 112, 117])), (.lit (.int (5))), (.call i__law_word [(.var 1)])])])]) (.call i__law_next [(.var 1), (.lit (.int (2)))]))] [some (scriptV ns), none, none, none, none, none, none, none, none, none, none, none, none] [] = .nxt [some (scriptV ns), some (.ref 0), some w, some m, none, none, none, none, none, none, none, none, none] [t3] := by
    have l4 : 4 ≤ lim := by decide
    have l3 : 3 ≤ lim := by decide
    have l2 : 2 ≤ lim := by decide
    have l1 : 1 ≤ lim := by decide
    have l0 : 0 ≤ lim := by decide
    unfold HTR.tpC at e1
    unfold ml at gi
    simp [scriptV, l0, l1, l2, l3, l4, e1, e2, e3, gi]
  have st2 : evSs (W k) [.asg (.name 4) (.make c_Core i_Core____init__ false [(.tup [(.tup [(.lit (.str [116, 111, 107, 101, 110])), (.lit (.int (1))), (.lit (.int (1)))]), (.tup [(.lit (.str [116, 111, 107, 101, 110])), (.lit (.int (2))), (.lit (.int (1)))]), (.tup [(.lit (.str [106, 117, 109, 112])), (.lit (.int (0)))])]), (.lit (.int (0))), (.tup [(.lit (.int (0))), (.var 2), (.lit (.int (0))), (.lit (.int (0)))])]),
    .asg (.name 5) (.var 2),
    .asg (.name 6) (.call i__law_rank [(.var 2)]),
    .asg (.name 7) (.call i__law_rank [(.var 3)])] [some (scriptV ns), some (.ref 0), some w, some m, none, none, none, none, none, none, none, none, none] [t3] = .nxt (en (some (scriptV ns)) w m w (rankW w) (rankW m) none none none none none) [t3, coreC 0 w (.int 0)] := by
    have l4 : 4 ≤ lim := by decide
    have l3 : 3 ≤ lim := by decide
    have l2 : 2 ≤ lim := by decide
    have a1 : evS (W k) (.asg (.name 4) (.make c_Core i_Core____init__ false [(.tup [(.tup [(.lit (.str [116, 111, 107, 101, 110])), (.lit (.int (1))), (.lit (.int (1)))]), (.tup [(.lit (.str [116, 111, 107, 101, 110])), (.lit (.int (2))), (.lit (.int (1)))]), (.tup [(.lit (.str [106, 117, 109, 112])), (.lit (.int (0)))])]), (.lit (.int (0))), (.tup [(.lit (.int (0))), (.var 2), (.lit (.int (0))), (.lit (.int (0)))])])) [some (scriptV ns), some (.ref 0), some w, some m, none, none, none, none, none, none, none, none, none] [t3] = .nxt [some (scriptV ns), some (.ref 0), some w, some m, some (.ref 1), none, none, none, none, none, none, none, none] [t3, coreC 0 w (.int 0)] := by
      simp [-kMake_, l2, l3, l4, e4]
    rw [evSs_cons, a1, seq_nxt, evSs_cons]
    have a2 : ∀ M, evS (W k) (.asg (.name 5) (.var 2)) [some (scriptV ns), some (.ref 0), some w, some m, some (.ref 1), none, none, none, none, none, none, none, none] M = .nxt [some (scriptV ns), some (.ref 0), some w, some m, some (.ref 1), some w, none, none, none, none, none, none, none] M := fun M => by simp
    rw [a2, seq_nxt, evSs_cons]
    have a3 : evS (W k) (.asg (.name 6) (.call i__law_rank [(.var 2)])) [some (scriptV ns), some (.ref 0), some w, some m, some (.ref 1), some w, none, none, none, none, none, none, none] [t3, coreC 0 w (.int 0)] = .nxt [some (scriptV ns), some (.ref 0), some w, some m, some (.ref 1), some w, some (.int (rankW w)), none, none, none, none, none, none] [t3, coreC 0 w (.int 0)] := by simp [e5]
    rw [a3, seq_nxt, evSs_cons]
    have a4 : evS (W k) (.asg (.name 7) (.call i__law_rank [(.var 3)])) [some (scriptV ns), some (.ref 0), some w, some m, some (.ref 1), some w, some (.int (rankW w)), none, none, none, none, none, none] [t3, coreC 0 w (.int 0)] = .nxt [some (scriptV ns), some (.ref 0), some w, some m, some (.ref 1), some w, some (.int (rankW w)), some (.int (rankW m)), none, none, none, none, none] [t3, coreC 0 w (.int 0)] := by simp [e6]
    rw [a4, seq_nxt, evSs]
    rfl
  have ti : evI (W k) (.range [(.op2 .add (.lit (.int (5))) (.call i__law_next [(.var 1), (.lit (.int (56)))]))]) (en (some (scriptV ns)) w m w (rankW w) (rankW m) none none none none none) [t3, coreC 0 w (.int 0)] = .ok (.items (rangeL 0 (5 + n))) [t4, coreC 0 w (.int 0)] := evI_rangeN (n := 5 + n) (by
    have : (5 : Int) + (n : Int) = ((5 + n : Nat) : Int) := by omega
    simp [en, e7]) (by omega)
  have lp := loopX_true (g := .name 8) (body := fun env M => evSs (W k) b1_law env M) (P := Inv (some (scriptV ns)) w m) (rangeL 0 (5 + n)) (en (some (scriptV ns)) w m w (rankW w) (rankW m) none none none none none) [t4, coreC 0 w (.int 0)] ⟨t4, w, .int 0, none, none, none, none, none, rfl, rfl, gw, rfl, by decide⟩ (fun x env M hx hi => by
    obtain ⟨c, w, y, x8, x9, x10, x11, x12, rfl, rfl, g, py, dy⟩ := hi
    refine ⟨en (some (scriptV ns)) _ m w (rankW w) (rankW m) (some x) x9 x10 x11 x12, rfl, ?_⟩
    rcases turn (x0 := some (scriptV ns)) (x8 := some x) (x9 := x9) (x10 := x10) (x11 := x11) (x12 := x12) k (c := c) gm g py dy with ⟨M', e⟩ | ⟨w', y', y9, y10, y11, y12, e, g', py', dy'⟩
    · exact .inr ⟨M', e⟩
    · exact .inl ⟨_, _, e, c, w', y', some x, y9, y10, y11, y12, rfl, rfl, g', py', dy'⟩)
  have eb : f_law.body = [.asg (.name 1) (.lst [(.opn .rlist [(.var 0)]), (.lit (.int (0))), (.lit (.int (0))), (.lit (.int (5)))]),
    .asg (.name 2) (.call i__law_word [(.var 1)]),
    .asg (.name 3) (.op2 .idx (.tup [(.tup []), (.tup [(.tup [(.lit (.str [99, 112, 117])), (.lit (.int (5))), (.call i__law_word [(.var 1)])])])]) (.call i__law_next [(.var 1), (.lit (.int (2)))]))] ++ ([.asg (.name 4) (.make c_Core i_Core____init__ false [(.tup [(.tup [(.lit (.str [116, 111, 107, 101, 110])), (.lit (.int (1))), (.lit (.int (1)))]), (.tup [(.lit (.str [116, 111, 107, 101, 110])), (.lit (.int (2))), (.lit (.int (1)))]), (.tup [(.lit (.str [106, 117, 109, 112])), (.lit (.int (0)))])]), (.lit (.int (0))), (.tup [(.lit (.int (0))), (.var 2), (.lit (.int (0))), (.lit (.int (0)))])]),
    .asg (.name 5) (.var 2),
    .asg (.name 6) (.call i__law_rank [(.var 2)]),
    .asg (.name 7) (.call i__law_rank [(.var 3)])] ++ [.forr (.name 8) (.range [(.op2 .add (.lit (.int (5))) (.call i__law_next [(.var 1), (.lit (.int (56)))]))]) b1_law,
    .ret (.lit (.bl true))]) := rfl
  have en0 : ([scriptV ns].map some ++ List.replicate (f_law.names - [scriptV ns].length) none : Env) = [some (scriptV ns), none, none, none, none, none, none, none, none, none, none, none, none] := rfl
  have ew : (⟨run fns gl fuel (k + 12), gl, fuel, run fns gl fuel (k + 12 - 1)⟩ : Wd) = W k := rfl
  rw [run_fn (d := f_law) (k := k + 12) rfl rfl (by decide), eb, en0, ew, evSs_app, st1, seq_nxt, evSs_app, st2, seq_nxt, evSs_cons, evS_for, ti]
  simp only [Res.thn_ok, kFor_items]
  rcases lp with ⟨env', M', e, _⟩ | ⟨M', e⟩
  · rw [e]
    exact ⟨trimM [] M' (.bl true), by simp⟩
  · rw [e]
    exact ⟨trimM [] M' (.bl true), by simp [Ctl.seq]⟩
abbrev depth : Nat := 12
theorem plain (ns : List Int) (hn : ns.length ≤ 63) : ∃ M, run fns gl fuel (depth + 1) i_law [scriptV ns] [] = .ok (.bl true) M := plainK 0 ns
end Lk27
end

set_option Elab.async false
set_option linter.all false
set_option maxRecDepth 100000
set_option maxHeartbeats 0

namespace Lk27
open PySem L2 HP
def top (i : Nat) : Stmt := PySem.Challenge.pw_hermithall_k27_tokens_of_cores.main.body.getD i (.Pass ⟨0, 0, 0, 0⟩)
abbrev ed : He.DefD := (mkMf "Atom" "__eq__" (mth (top 15) 1) ⟨0, 0, []⟩ []).d
abbrev si : He.DefD := (mkMf "HermitError" "__init__" (mth (top 2) 0) ⟨0, 0, []⟩ []).d
abbrev d_is_number : Df := mkDf "is_number" (top 13) f_is_number [] []
abbrev d_is_text : Df := mkDf "is_text" (top 14) f_is_text ["char"] []
abbrev d_fits_kind : Df := mkDf "fits_kind" (top 16) f_fits_kind ["part"] []
abbrev d_fits_depth : Df := mkDf "fits_depth" (top 17) f_fits_depth ["part"] []
abbrev d_is_word : Df := mkDf "is_word" (top 18) f_is_word [] []
abbrev d_gather : Df := mkDf "gather" (top 19) f_gather [] []
abbrev d_atoms_in : Df := mkDf "atoms_in" (top 20) f_atoms_in [] [70012]
abbrev d_rank_of : Df := mkDf "rank_of" (top 21) f_rank_of ["atom"] []
abbrev d_is_granule : Df := mkDf "is_granule" (top 26) f_is_granule [] []
abbrev d_is_pair : Df := mkDf "is_pair" (top 27) f_is_pair [] []
abbrev d_leaf_of : Df := mkDf "leaf_of" (top 28) f_leaf_of [] []
abbrev d_token_of : Df := mkDf "token_of" (top 30) f_token_of [] []
abbrev d_is_integer : Df := mkDf "is_integer" (top 35) f_is_integer [] []
abbrev d_is_below : Df := mkDf "is_below" (top 36) f_is_below [] []
abbrev d_wrapped : Df := mkDf "wrapped" (top 37) f_wrapped [] []
abbrev d__law_next : Df := mkDf "_law_next" (top 40) f__law_next [] []
abbrev d__law_word : Df := mkDf "_law_word" (top 41) f__law_word [] []
abbrev d__law_rank : Df := mkDf "_law_rank" (top 42) f__law_rank ["part"] []
abbrev d_Atom____init__ : Df := mkMf "Atom" "__init__" (mth (top 15) 0) f_Atom____init__ ["part"] []
abbrev d_Core____init__ : Df := mkMf "Core" "__init__" (mth (top 38) 0) f_Core____init__ [] []
abbrev d_Core__row : Df := mkMf "Core" "row" (mth (top 38) 1) f_Core__row [] []
abbrev d_Core__touched : Df := mkMf "Core" "touched" (mth (top 38) 2) f_Core__touched [] []
abbrev d_Core__request : Df := mkMf "Core" "request" (mth (top 38) 3) f_Core__request [] []
abbrev d_Core__step : Df := mkMf "Core" "step" (mth (top 38) 4) f_Core__step [] []
abbrev d_Core__step_token : Df := mkMf "Core" "step_token" (mth (top 38) 5) f_Core__step_token [] []
abbrev d_Core__put : Df := mkMf "Core" "put" (mth (top 38) 6) f_Core__put [] []
abbrev d_Core__answer : Df := mkMf "Core" "answer" (mth (top 38) 7) f_Core__answer [] [175016]
abbrev d_Core__step_plain : Df := mkMf "Core" "step_plain" (mth (top 38) 8) f_Core__step_plain [] []
abbrev d_Core__step_zero : Df := mkMf "Core" "step_zero" (mth (top 38) 9) f_Core__step_zero [] []
abbrev d_Core__step_numbers : Df := mkMf "Core" "step_numbers" (mth (top 38) 10) f_Core__step_numbers [] []
abbrev d_Core__step_touch : Df := mkMf "Core" "step_touch" (mth (top 38) 11) f_Core__step_touch [] []
abbrev d_Core__end_touch : Df := mkMf "Core" "end_touch" (mth (top 38) 12) f_Core__end_touch [] []
abbrev d_law : Df := mkDf "law" (top 43) f_law [] [277011]
abbrev DS : List Df := [d_is_number, d_is_text, d_fits_kind, d_fits_depth, d_is_word, d_gather, d_atoms_in, d_rank_of, d_is_granule, d_is_pair, d_leaf_of, d_token_of, d_is_integer, d_is_below, d_wrapped, d__law_next, d__law_word, d__law_rank, d_Atom____init__, d_Core____init__, d_Core__row, d_Core__touched, d_Core__request, d_Core__step, d_Core__step_token, d_Core__put, d_Core__answer, d_Core__step_plain, d_Core__step_zero, d_Core__step_numbers, d_Core__step_touch, d_Core__end_touch, d_law]
abbrev CS : List (Str × PV) := [("LEAST_words", (.int (-2147483648))), ("GREATEST", (.int (2147483647))), ("MOST_CHARACTERS", (.int (24))), ("MOST_DEEP", (.int (40))), ("MOST_RANK", (.int (40))), ("MOST_RANK_HOST", (.int (36))), ("KINDS", (.rod [(.str [116, 111, 107, 101, 110]), (.str [99, 104, 97, 108, 108, 101, 110, 103, 101]), (.str [115, 101, 97, 108]), (.str [116, 105, 99, 107, 101, 116]), (.str [112, 97, 103, 101])] [(.int (3)), (.int (2)), (.int (4)), (.int (6)), (.int (4))])), ("SEALED", (.tup [(.str [115, 101, 97, 108]), (.str [112, 97, 103, 101])])), ("GRANULES", (.int (24))), ("WORDS", (.int (4))), ("PAGES", (.int (16))), ("LEAST_machine", (.int (-2147483648))), ("MANY", (.int (4294967296))), ("MEASURE", (.int (2)))]
abbrev tx : Tx := { DS := DS, CS := CS, CL := ["Atom", "Core"], FR := ["ValueError", "abs", "all", "bool", "int", "isinstance", "len", "list", "max", "range", "str", "super", "tuple"], AT := ["kind", "term", "rank", "place", "registers", "stage", "leaf", "program"], NA := [[0, 1], [0, 1], [0, 1], [0, 1], [0, 1], [0, 1], [0, 1], [0, 1]], MT := [("row", [(1, 20, 1)]), ("touched", [(1, 21, 1)]), ("request", [(1, 22, 3)]), ("step", [(1, 23, 3)]), ("step_token", [(1, 24, 4)]), ("put", [(1, 25, 3)]), ("answer", [(1, 26, 3)]), ("step_plain", [(1, 27, 2)]), ("step_zero", [(1, 28, 2)]), ("step_numbers", [(1, 29, 2)]), ("step_touch", [(1, 30, 3)]), ("end_touch", [(1, 31, 4)])], IN := [(0, 18, 3, true), (1, 19, 4, false)], ED := [ed], EX := ["NotValid"], ER := [0], EH := [("NotValid", [0], [])], SI := [si], FI := PySem.Challenge.pw_hermithall_k27_tokens_of_cores.main.file }
abbrev G : Gt := mkG tx
theorem ok_is_number : DfOk G d_is_number :=
  ⟨by decide +kernel, by kernel_rfl, rfl, rfl, fun _ _ _ _ _ _ us hl => match us, hl with | [_], _ => rfl, rfl, rfl⟩
theorem ok_is_text : DfOk G d_is_text :=
  ⟨by decide +kernel, by kernel_rfl, rfl, rfl, fun _ _ _ _ _ _ us hl => match us, hl with | [_], _ => rfl, rfl, rfl⟩
theorem ok_fits_kind : DfOk G d_fits_kind :=
  ⟨by decide +kernel, by kernel_rfl, rfl, rfl, fun _ _ _ _ _ _ us hl => match us, hl with | [_, _], _ => rfl, rfl, rfl⟩
theorem ok_fits_depth : DfOk G d_fits_depth :=
  ⟨by decide +kernel, by kernel_rfl, rfl, rfl, fun _ _ _ _ _ _ us hl => match us, hl with | [_, _], _ => rfl, rfl, rfl⟩
theorem ok_is_word : DfOk G d_is_word :=
  ⟨by decide +kernel, by kernel_rfl, rfl, rfl, fun _ _ _ _ _ _ us hl => match us, hl with | [_], _ => rfl, rfl, rfl⟩
theorem ok_gather : DfOk G d_gather :=
  ⟨by decide +kernel, by kernel_rfl, rfl, rfl, fun _ _ _ _ _ _ us hl => match us, hl with | [_, _], _ => rfl, rfl, rfl⟩
theorem ok_atoms_in : DfOk G d_atoms_in :=
  ⟨by decide +kernel, by kernel_rfl, rfl, rfl, fun _ _ _ _ _ _ us hl => match us, hl with | [_], _ => rfl, rfl, rfl⟩
theorem ok_rank_of : DfOk G d_rank_of :=
  ⟨by decide +kernel, by kernel_rfl, rfl, rfl, fun _ _ _ _ _ _ us hl => match us, hl with | [_], _ => rfl, rfl, rfl⟩
theorem ok_is_granule : DfOk G d_is_granule :=
  ⟨by decide +kernel, by kernel_rfl, rfl, rfl, fun _ _ _ _ _ _ us hl => match us, hl with | [_], _ => rfl, rfl, rfl⟩
theorem ok_is_pair : DfOk G d_is_pair :=
  ⟨by decide +kernel, by kernel_rfl, rfl, rfl, fun _ _ _ _ _ _ us hl => match us, hl with | [_, _], _ => rfl, rfl, rfl⟩
theorem ok_leaf_of : DfOk G d_leaf_of :=
  ⟨by decide +kernel, by kernel_rfl, rfl, rfl, fun _ _ _ _ _ _ us hl => match us, hl with | [_], _ => rfl, rfl, rfl⟩
theorem ok_token_of : DfOk G d_token_of :=
  ⟨by decide +kernel, by kernel_rfl, rfl, rfl, fun _ _ _ _ _ _ us hl => match us, hl with | [_, _, _], _ => rfl, rfl, rfl⟩
theorem ok_is_integer : DfOk G d_is_integer :=
  ⟨by decide +kernel, by kernel_rfl, rfl, rfl, fun _ _ _ _ _ _ us hl => match us, hl with | [_], _ => rfl, rfl, rfl⟩
theorem ok_is_below : DfOk G d_is_below :=
  ⟨by decide +kernel, by kernel_rfl, rfl, rfl, fun _ _ _ _ _ _ us hl => match us, hl with | [_, _], _ => rfl, rfl, rfl⟩
theorem ok_wrapped : DfOk G d_wrapped :=
  ⟨by decide +kernel, by kernel_rfl, rfl, rfl, fun _ _ _ _ _ _ us hl => match us, hl with | [_], _ => rfl, rfl, rfl⟩
theorem ok__law_next : DfOk G d__law_next :=
  ⟨by decide +kernel, by kernel_rfl, rfl, rfl, fun _ _ _ _ _ _ us hl => match us, hl with | [_, _], _ => rfl, rfl, rfl⟩
theorem ok__law_word : DfOk G d__law_word :=
  ⟨by decide +kernel, by kernel_rfl, rfl, rfl, fun _ _ _ _ _ _ us hl => match us, hl with | [_], _ => rfl, rfl, rfl⟩
theorem ok__law_rank : DfOk G d__law_rank :=
  ⟨by decide +kernel, by kernel_rfl, rfl, rfl, fun _ _ _ _ _ _ us hl => match us, hl with | [_], _ => rfl, rfl, rfl⟩
theorem ok_Atom____init__ : DfOk G d_Atom____init__ :=
  ⟨by decide +kernel, by kernel_rfl, rfl, rfl, fun _ _ _ _ _ _ us hl => match us, hl with | [_, _, _], _ => rfl, rfl, rfl⟩
theorem ok_Core____init__ : DfOk G d_Core____init__ :=
  ⟨by decide +kernel, by kernel_rfl, rfl, rfl, fun _ _ _ _ _ _ us hl => match us, hl with | [_, _, _, _], _ => rfl, rfl, rfl⟩
theorem ok_Core__row : DfOk G d_Core__row :=
  ⟨by decide +kernel, by kernel_rfl, rfl, rfl, fun _ _ _ _ _ _ us hl => match us, hl with | [_], _ => rfl, rfl, rfl⟩
theorem ok_Core__touched : DfOk G d_Core__touched :=
  ⟨by decide +kernel, by kernel_rfl, rfl, rfl, fun _ _ _ _ _ _ us hl => match us, hl with | [_], _ => rfl, rfl, rfl⟩
theorem ok_Core__request : DfOk G d_Core__request :=
  ⟨by decide +kernel, by kernel_rfl, rfl, rfl, fun _ _ _ _ _ _ us hl => match us, hl with | [_, _, _], _ => rfl, rfl, rfl⟩
theorem ok_Core__step : DfOk G d_Core__step :=
  ⟨by decide +kernel, by kernel_rfl, rfl, rfl, fun _ _ _ _ _ _ us hl => match us, hl with | [_, _, _], _ => rfl, rfl, rfl⟩
theorem ok_Core__step_token : DfOk G d_Core__step_token :=
  ⟨by decide +kernel, by kernel_rfl, rfl, rfl, fun _ _ _ _ _ _ us hl => match us, hl with | [_, _, _, _], _ => rfl, rfl, rfl⟩
theorem ok_Core__put : DfOk G d_Core__put :=
  ⟨by decide +kernel, by kernel_rfl, rfl, rfl, fun _ _ _ _ _ _ us hl => match us, hl with | [_, _, _], _ => rfl, rfl, rfl⟩
theorem ok_Core__answer : DfOk G d_Core__answer :=
  ⟨by decide +kernel, by kernel_rfl, rfl, rfl, fun _ _ _ _ _ _ us hl => match us, hl with | [_, _, _], _ => rfl, rfl, rfl⟩
theorem ok_Core__step_plain : DfOk G d_Core__step_plain :=
  ⟨by decide +kernel, by kernel_rfl, rfl, rfl, fun _ _ _ _ _ _ us hl => match us, hl with | [_, _], _ => rfl, rfl, rfl⟩
theorem ok_Core__step_zero : DfOk G d_Core__step_zero :=
  ⟨by decide +kernel, by kernel_rfl, rfl, rfl, fun _ _ _ _ _ _ us hl => match us, hl with | [_, _], _ => rfl, rfl, rfl⟩
theorem ok_Core__step_numbers : DfOk G d_Core__step_numbers :=
  ⟨by decide +kernel, by kernel_rfl, rfl, rfl, fun _ _ _ _ _ _ us hl => match us, hl with | [_, _], _ => rfl, rfl, rfl⟩
theorem ok_Core__step_touch : DfOk G d_Core__step_touch :=
  ⟨by decide +kernel, by kernel_rfl, rfl, rfl, fun _ _ _ _ _ _ us hl => match us, hl with | [_, _, _], _ => rfl, rfl, rfl⟩
theorem ok_Core__end_touch : DfOk G d_Core__end_touch :=
  ⟨by decide +kernel, by kernel_rfl, rfl, rfl, fun _ _ _ _ _ _ us hl => match us, hl with | [_, _, _, _], _ => rfl, rfl, rfl⟩
theorem ok_law : DfOk G d_law :=
  ⟨by decide +kernel, by kernel_rfl, rfl, rfl, fun _ _ _ _ _ _ us hl => match us, hl with | [_], _ => rfl, rfl, rfl⟩
theorem all_ok : ∀ D ∈ tx.DS, DfOk (mkG tx) D := by
  intro D hD
  simp only [tx, DS, List.mem_cons, List.not_mem_nil, or_false] at hD
  rcases hD with rfl | rfl | rfl | rfl | rfl | rfl | rfl | rfl | rfl | rfl | rfl | rfl | rfl | rfl | rfl | rfl | rfl | rfl | rfl | rfl | rfl | rfl | rfl | rfl | rfl | rfl | rfl | rfl | rfl | rfl | rfl | rfl | rfl
  · exact ok_is_number
  · exact ok_is_text
  · exact ok_fits_kind
  · exact ok_fits_depth
  · exact ok_is_word
  · exact ok_gather
  · exact ok_atoms_in
  · exact ok_rank_of
  · exact ok_is_granule
  · exact ok_is_pair
  · exact ok_leaf_of
  · exact ok_token_of
  · exact ok_is_integer
  · exact ok_is_below
  · exact ok_wrapped
  · exact ok__law_next
  · exact ok__law_word
  · exact ok__law_rank
  · exact ok_Atom____init__
  · exact ok_Core____init__
  · exact ok_Core__row
  · exact ok_Core__touched
  · exact ok_Core__request
  · exact ok_Core__step
  · exact ok_Core__step_token
  · exact ok_Core__put
  · exact ok_Core__answer
  · exact ok_Core__step_plain
  · exact ok_Core__step_zero
  · exact ok_Core__step_numbers
  · exact ok_Core__step_touch
  · exact ok_Core__end_touch
  · exact ok_law
theorem ed_ok : ∀ d ∈ tx.ED, EdOk tx d := by
  intro d hd
  simp only [tx, List.mem_cons, List.not_mem_nil, or_false] at hd
  subst hd
  exact ⟨rfl, rfl, by decide +kernel, by decide +kernel, by decide +kernel, by decide +kernel, by decide +kernel, by decide +kernel, fun _ _ _ _ _ _ us hl => match us, hl with | [_, _], _ => rfl⟩
theorem pl_ok : plB tx = true := by decide +kernel
theorem ex_ok : ExOk (PySem.Challenge.rw_hermithall_k27_tokens_of_cores).prog tx := ⟨fun d hd => by
  simp only [tx, List.mem_cons, List.not_mem_nil, or_false] at hd
  subst hd
  exact ⟨⟨by decide +kernel, ⟨_, rfl, by decide +kernel, fun _ _ _ _ _ _ _ _ => rfl⟩⟩, by decide +kernel, by decide +kernel⟩⟩
def names : List PySem.Str := (["_wall", "HermitError", "NotValid", "LEAST_words", "GREATEST", "MOST_CHARACTERS", "MOST_DEEP", "MOST_RANK", "MOST_RANK_HOST", "KINDS", "SEALED", "is_number", "is_text", "Atom", "fits_kind", "fits_depth", "is_word", "gather", "atoms_in", "rank_of"] : List PySem.Str) ++ (["GRANULES", "WORDS", "PAGES", "is_granule", "is_pair", "leaf_of", "token_of", "LEAST_machine", "MANY", "MEASURE", "is_integer", "is_below", "wrapped", "Core", "_law_next", "_law_word", "_law_rank"] : List PySem.Str)
abbrev R : PySem.W.OpenRow := PySem.W.OpenLaw.row PySem.Challenge.rw_hermithall_k27_tokens_of_cores
abbrev hk : PySem.W.Hook := hookP 5 tx
def ob : PySem.W.SharedT → hk.α := obP 5 tx
theorem run_top0 (w : World) : HandSHeadRun.RunEq R (PySem.W.view R.prog [43]) hk ob 20000 names (w.withFollow "special-get-raises" false) := by
  intro os
  kernel_rfl
theorem run_top1 (w : World) : HandSHeadRun.RunEq R (PySem.W.view R.prog [43]) hk ob 20000 names (w.withFollow "special-get-raises" true) := by
  intro os
  kernel_rfl
theorem run_top (w : World) : HandSHeadRun.RunEq R (PySem.W.view R.prog [43]) hk ob 20000 names w :=
  PySem.W.byRow2 "special-get-raises" (P := fun w => HandSHeadRun.RunEq R (PySem.W.view R.prog [43]) hk ob 20000 names w) run_top0 run_top1 w
theorem ho : ∀ s, ob s = hk.obs s.abs := fun s => obP_eq s
open PySem.W PyProof.Rows in
theorem a1 : opening R.prog = plainProg R.prog.main.scope.names := by kernel_rfl
open PySem.W PyProof.Rows in
theorem a2 : ∀ s, fenceModules? R.prog s = some s := fun s => by kernel_rfl
open PySem.W PyProof.Rows in
theorem a3 : defOf (view R.prog [43]) R.name = some (HandSHeadRun.topDef R.prog 43, []) := by kernel_rfl
open PySem.W PyProof.Rows in
theorem a4 : R.prog.theDef R.name = some ((HandSHeadRun.topDef R.prog 43).params, (HandSHeadRun.topDef R.prog 43).body, (HandSHeadRun.topDef R.prog 43).scope) := by kernel_rfl
open PySem.W PyProof.Rows in
theorem a5 : kwWritten? (HandSHeadRun.topDef R.prog 43).params.kwonlyargs (HandSHeadRun.topDef R.prog 43).params.kw_defaults = some [] := by kernel_rfl
open PySem.W PyProof.Rows in
theorem a6 : (!R.writes || R.records.isEmpty) = true := by rfl
open PySem.W PyProof.Rows in
theorem a8 : (chainsOk (view R.prog [43]) && opensWell R.prog && (frees R.toRowW && R.within.isEmpty)) = true := by decide +kernel
open PySem.W PyProof.Rows in
theorem a9 : R.prog.bare := ⟨rfl, rfl, rfl, rfl, rfl, by decide +kernel⟩
end Lk27

set_option Elab.async false
set_option linter.all false
set_option maxRecDepth 100000
set_option maxHeartbeats 0

open PySem PySem.W PySem.Calls PyProof.Rows
set_option maxRecDepth 100000 in
set_option maxHeartbeats 0 in
theorem PySem.Challenge.cw_hermithall_k27_tokens_of_cores_holds : PySem.Challenge.rw_hermithall_k27_tokens_of_cores.Holds := by
  w_on; o_law
  refine @HandSHeadRun.head_any Lk27.R (view Lk27.R.prog [43]) Lk27.hk Lk27.ob 20000 Lk27.names (HandSHeadRun.topDef Lk27.R.prog 43) [] Lk27.ho Lk27.a1 Lk27.a2 Lk27.run_top Lk27.a3 Lk27.a4 Lk27.a5 Lk27.a6 (by first | assumption | decide +kernel) Lk27.a8 Lk27.a9 ?hw ?hc
  case hw => w_witness2
  case hc =>
    refine L2.walk_ofE (l := PySem.Challenge.rw_hermithall_k27_tokens_of_cores) (n := 63) (k := HP.lv (Lk27.depth + 1)) (x := "script") (CX := L2.CX0) rfl (by decide) (by kernel_rfl) ⟨rfl, by decide, by decide⟩ ?F (fun _ _ _ _ z => z)
    intro w mg fa h Y G hmg0
    obtain ⟨K, KX, c, cc⟩ := Y
    have hmg : mg ("law" : PySem.Str) = some (.ref fa) := by
      have e : (HandSHeadRun.topDef (OpenLaw.row PySem.Challenge.rw_hermithall_k27_tokens_of_cores).prog 43).name = ("law" : PySem.Str) := by kernel_rfl
      rw [← e]
      exact hmg0
    obtain ⟨fd, hb, hF⟩ := HP.law_end (P := (PySem.Challenge.rw_hermithall_k27_tokens_of_cores).prog) (w := w) (t := Lk27.tx) (k := Lk27.depth) (fuel := Lk27.fuel) (li := 32) (L := Lk27.d_law) Lk27.all_ok Lk27.ed_ok Lk27.ex_ok Lk27.pl_ok rfl rfl rfl
      (fun ns hn => by have h := Lk27.plain ns hn; rw [show Lk27.gl = HP.globOf Lk27.tx.CS from HP.globOf_glv rfl] at h; exact h) KX G hmg c cc
    exact ⟨K, fd, HP.spLaw K, KX, hb, fun H a ns hl ho hS => ⟨a, ns, rfl, hl, ho, hS, fun _ => rfl⟩, hF⟩

