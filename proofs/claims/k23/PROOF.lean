import PyProof.Rows.All
import HandS.ForExc
import HandS.CallSlots
import HandS.IsInst
import HandS.Wide
import HandS.Flow
import HandS.More
import HandS.TupAny
import HandS.Text
import HandS.TupMul
import HandS.Style
import HandS.Deep
import HandS.Iter
import HandS.Comp
import HandS.Defaults
import HandS.HeadEnd
import HandS.HeadHook1
import HandS.HeadHook2
import HandS.HeadHook3
import HandS.Head0
import HandS.Head1
import HandS.Head2
import PySem.Challenge.RW_hermithall_k23_what_is_a_program
set_option autoImplicit false
/-! A small reader of Python bodies over plain data: values, memory, expressions, statements, and what they come to. Nothing of the kit stands in it. -/
namespace HP

/-- classes -/
inductive Ty where
  | int | str | bool | tuple | list | dict | own (c : Nat)
  deriving DecidableEq, Repr
/-- values: tuples are data; mutable things stand in the memory; obj is an instance that never changes; rod a dict that is read -/
inductive PV where
  | non
  | bl (b : Bool)
  | int (i : Int)
  | str (s : List Nat)
  | tup (vs : List PV)
  | rol (vs : List PV)
  | ref (n : Nat)
  | obj (c : Nat) (ns : List Nat) (vs : List PV)
  | rod (ks vs : List PV)
  | ty (T : Ty)

inductive Cell where
  | lst (xs : List PV)
  | dic (ks vs : List PV)
  | ins (c : Nat) (ns : List Nat) (vs : List PV)

abbrev Mem := List Cell
abbrev Env := List (Option PV)

inductive Res (α : Type) where
  | ok (a : α) (M : Mem)
  | exc (c : Nat) (M : Mem)
  | fail

namespace Res
variable {α β : Type}
def bind (r : Res α) (f : α → Mem → Res β) : Res β :=
  match r with
  | .ok a M => f a M
  | .exc c M => .exc c M
  | .fail => .fail
@[simp] theorem bind_ok (a : α) (M : Mem) (f : α → Mem → Res β) : bind (.ok a M) f = f a M := rfl
@[simp] theorem bind_exc (c : Nat) (M : Mem) (f : α → Mem → Res β) : bind (.exc c M) f = .exc c M := rfl
@[simp] theorem bind_fail (f : α → Mem → Res β) : bind .fail f = .fail := rfl
end Res

/-- most items, signs -/
def lim : Nat := 1000000

/-! ### data as it stands in a memory -/
inductive PD where
  | non | bl (b : Bool) | int (i : Int) | str (s : List Nat) | tup (vs : List PD) | lst (vs : List PD)

/-- of nesting at most that deep -/
def allD (f : PV → Option PD) : List PV → Option (List PD)
  | [] => some []
  | x :: xs => match f x with
    | none => none
    | some d => match allD f xs with
      | none => none
      | some ds => some (d :: ds)
def toD (M : Mem) : Nat → PV → Option PD
  | 0, _ => none
  | k + 1, v => match v with
    | .non => some .non
    | .bl b => some (.bl b)
    | .int i => some (.int i)
    | .str s => some (.str s)
    | .tup vs => match allD (toD M k) vs with
      | some ds => some (.tup ds)
      | none => none
    | .rol vs => match allD (toD M k) vs with
      | some ds => some (.lst ds)
      | none => none
    | .ref n => match M[n]? with
      | some (.lst xs) => match allD (toD M k) xs with
        | some ds => some (.lst ds)
        | none => none
      | _ => none
    | .obj _ _ _ => none
    | .rod _ _ => none
    | .ty _ => none

mutual
def eqD : PD → PD → Bool
  | .non, b => match b with | .non => true | _ => false
  | .bl a, b => match b with | .bl c => a == c | .int j => (if a then 1 else 0) == j | _ => false
  | .int i, b => match b with | .bl c => i == (if c then 1 else 0) | .int j => i == j | _ => false
  | .str x, b => match b with | .str y => x == y | _ => false
  | .tup xs, b => match b with | .tup ys => eqDs xs ys | _ => false
  | .lst xs, b => match b with | .lst ys => eqDs xs ys | _ => false
def eqDs : List PD → List PD → Bool
  | [], ys => match ys with | [] => true | _ => false
  | x :: xs, ys => match ys with | [] => false | y :: ys => eqD x y && eqDs xs ys
end

/-- == of two plain scalars -/
def eqS (a b : PV) : Option Bool :=
  match a with
  | .non => match b with | .non => some true | .bl _ => some false | .int _ => some false | .str _ => some false | _ => none
  | .bl x => match b with | .non => some false | .bl y => some (x == y) | .str _ => some false | _ => none
  | .int i => match b with | .non => some false | .int j => some (i == j) | .str _ => some false | _ => none
  | .str s => match b with | .non => some false | .bl _ => some false | .int _ => some false | .str t => some (s == t) | _ => none
  | _ => none
def eqPV (M : Mem) (a b : PV) : Option Bool :=
  match eqS a b with
  | some r => some r
  | none => match toD M 60 a with
    | some x => match toD M 60 b with
      | some y => some (eqD x y)
      | none => none
    | none => none

/-! ### operations on values -/
inductive O2 where
  | add | sub | mul | fdiv | mod | pow
  | eq | ne | lt | le | gt | ge | is | isnot | mem | notin
  | idx
  deriving DecidableEq, Repr
inductive O1 where
  | neg
  deriving DecidableEq, Repr
/-- calls of what is built in, the receiver first -/
inductive On where
  | len | abs | int | list | tuple | append | isi | max | min | sum | all | any | dget
  deriving DecidableEq, Repr
/-- the kind of a method's receiver -/
inductive MT where
  | list | str | dict
  deriving DecidableEq, Repr

def ltL : List Nat → List Nat → Bool
  | [], ys => match ys with | [] => false | _ :: _ => true
  | x :: xs, ys => match ys with
    | [] => false
    | y :: ys => if x < y then true else if x == y then ltL xs ys else false

def ok {α : Type} (a : α) (M : Mem) : Res α := .ok a M

/-- the place that an index of any sign means -/
def ixP (n : Nat) (i : Int) : Option Nat := if 0 ≤ i then (if i < n then some i.toNat else none) else if -(n : Int) ≤ i then some (i + n).toNat else none
def getI (xs : List PV) (i : Int) : Option PV := match ixP xs.length i with | some j => xs[j]? | none => none

/-- the place of a text key -/
def keyIx (s : List Nat) : List PV → Option Nat
  | [] => none
  | q :: ks => match q with
    | .str t => if t = s then some 0 else (keyIx s ks).map (· + 1)
    | _ => (keyIx s ks).map (· + 1)
def isStrV : PV → Bool
  | .str _ => true
  | _ => false
/-- a in b -/
def inPV (M : Mem) (a b : PV) : Option Bool :=
  match b with
  | .tup xs => match toD M 60 a with
    | some d => match allD (toD M 60) xs with
      | some ds => some (ds.any fun z => eqD z d)
      | none => none
    | none => none
  | .rol xs => match toD M 60 a with
    | some d => match allD (toD M 60) xs with
      | some ds => some (ds.any fun z => eqD z d)
      | none => none
    | none => none
  | .ref n => match M[n]? with
    | some (.lst xs) => match toD M 60 a with
      | some d => match allD (toD M 60) xs with
        | some ds => some (ds.any fun z => eqD z d)
        | none => none
      | none => none
    | _ => none
  | .rod ks _ => match a with | .str s => some (keyIx s ks).isSome | _ => none
  | .str t => match a with
    | .str s => match s with
      | [c] => some (decide (c ∈ t))
      | _ => none
    | _ => none
  | _ => none
def small (i : Int) : Bool := decide (-(2 ^ 64) < i) && decide (i < 2 ^ 64)

def op2 (o : O2) (a b : PV) (M : Mem) : Res PV :=
  match o with
  | .add => match a with
    | .int i => match b with | .int j => .ok (.int (i + j)) M | _ => .fail
    | .str x => match b with | .str y => if x.length + y.length ≤ lim then .ok (.str (x ++ y)) M else .fail | _ => .fail
    | .tup xs => match b with | .tup ys => if xs.length + ys.length ≤ lim then .ok (.tup (xs ++ ys)) M else .fail | _ => .fail
    | .ref n => match b with
      | .ref m => match M[n]? with
        | some (.lst xs) => match M[m]? with
          | some (.lst ys) => if xs.length + ys.length ≤ lim then .ok (.ref M.length) (M ++ [.lst (xs ++ ys)]) else .fail
          | _ => .fail
        | _ => .fail
      | _ => .fail
    | _ => .fail
  | .sub => match a with
    | .int i => match b with | .int j => .ok (.int (i - j)) M | _ => .fail
    | _ => .fail
  | .mul => match a with
    | .int i => match b with | .int j => if small i || small j then .ok (.int (i * j)) M else .fail | _ => .fail
    | .tup xs => match b with | .int j => if xs ≠ [] ∧ 2 ≤ j ∧ j ≤ 1000 ∧ xs.length ≤ 1000 then .ok (.tup (List.replicate j.toNat xs).flatten) M else .fail | _ => .fail
    | .ref n => match b with
      | .int j => match M[n]? with
        | some (.lst xs) => if -(2 ^ 63) ≤ j ∧ j < 2 ^ 63 ∧ xs.length * j.toNat ≤ lim then .ok (.ref M.length) (M ++ [.lst (List.replicate j.toNat xs).flatten]) else .fail
        | _ => .fail
      | _ => .fail
    | _ => .fail
  | .fdiv => match a with
    | .int i => match b with | .int j => if 0 < j ∧ j < 2 ^ 64 then .ok (.int (i / j)) M else .fail | _ => .fail
    | _ => .fail
  | .mod => match a with
    | .int i => match b with | .int j => if 0 < j then .ok (.int (i % j)) M else .fail | _ => .fail
    | _ => .fail
  | .pow => match a with
    | .int i => match b with | .int j => if 0 ≤ j ∧ j ≤ 1000000 ∧ i.natAbs < 2 ^ 64 then .ok (.int (i ^ j.toNat)) M else .fail | _ => .fail
    | _ => .fail
  | .eq => match eqPV M a b with | some r => .ok (.bl r) M | none => .fail
  | .ne => match eqPV M a b with | some r => .ok (.bl (!r)) M | none => .fail
  | .lt => match a with
    | .int i => match b with | .int j => .ok (.bl (decide (i < j))) M | _ => .fail
    | .str x => match b with | .str y => .ok (.bl (ltL x y)) M | _ => .fail
    | _ => .fail
  | .le => match a with
    | .int i => match b with | .int j => .ok (.bl (decide (i ≤ j))) M | _ => .fail
    | .str x => match b with | .str y => .ok (.bl (!ltL y x)) M | _ => .fail
    | _ => .fail
  | .gt => match a with
    | .int i => match b with | .int j => .ok (.bl (decide (j < i))) M | _ => .fail
    | .str x => match b with | .str y => .ok (.bl (ltL y x)) M | _ => .fail
    | _ => .fail
  | .ge => match a with
    | .int i => match b with | .int j => .ok (.bl (decide (j ≤ i))) M | _ => .fail
    | .str x => match b with | .str y => .ok (.bl (!ltL x y)) M | _ => .fail
    | _ => .fail
  | .is => match b with
    | .non => match a with | .non => .ok (.bl true) M | _ => .ok (.bl false) M
    | .bl k => match a with | .bl j => .ok (.bl (decide (j = k))) M | _ => .ok (.bl false) M
    | _ => .fail
  | .isnot => match b with
    | .non => match a with | .non => .ok (.bl false) M | _ => .ok (.bl true) M
    | .bl k => match a with | .bl j => .ok (.bl (!decide (j = k))) M | _ => .ok (.bl true) M
    | _ => .fail
  | .mem => match inPV M a b with | some r => .ok (.bl r) M | none => .fail
  | .notin => match inPV M a b with | some r => .ok (.bl (!r)) M | none => .fail
  | .idx => match b with
    | .int i => match a with
      | .tup xs => match getI xs i with | some v => .ok v M | none => .fail
      | .rol xs => match getI xs i with | some v => .ok v M | none => .fail
      | .str s => if s.length ≤ lim then (match ixP s.length i with | some j => (match s[j]? with | some c => .ok (.str [c]) M | none => .fail) | none => .fail) else .fail
      | .ref n => match M[n]? with
        | some (.lst xs) => match getI xs i with | some v => .ok v M | none => .fail
        | _ => .fail
      | _ => .fail
    | .str s => match a with
      | .rod ks vs => match keyIx s ks with | some j => (match vs[j]? with | some v => .ok v M | none => .fail) | none => .fail
      | _ => .fail
    | _ => .fail

/-- x op= y -/
def iop (o : O2) (a b : PV) (M : Mem) : Res PV :=
  match o with
  | .add => match a with
    | .int _ => op2 .add a b M
    | .str _ => op2 .add a b M
    | _ => .fail
  | .sub => op2 .sub a b M
  | .mul => op2 .mul a b M
  | _ => .fail

def op1 (o : O1) (a : PV) (M : Mem) : Res PV :=
  match o with
  | .neg => match a with | .int i => .ok (.int (-i)) M | _ => .fail

/-- the kind of a value; an instance's class -/
inductive Kd where
  | non | bl | int | str | tup | lst | dic | own (c : Nat)
  deriving DecidableEq
def kd (v : PV) (M : Mem) : Option Kd :=
  match v with
  | .non => some .non
  | .bl _ => some .bl
  | .int _ => some .int
  | .str _ => some .str
  | .tup _ => some .tup
  | .rol _ => some .lst
  | .ref n => match M[n]? with
    | some (.lst _) => some .lst
    | _ => none
  | .obj _ _ _ => none
  | .rod _ _ => some .dic
  | .ty _ => none
def isK (k : Kd) : Ty → Option Bool
  | .int => some (match k with | .int => true | .bl => true | _ => false)
  | .bool => some (match k with | .bl => true | _ => false)
  | .str => some (match k with | .str => true | _ => false)
  | .tuple => some (match k with | .tup => true | _ => false)
  | .list => some (match k with | .lst => true | _ => false)
  | .dict => some (match k with | .dic => true | _ => false)
  | .own _ => match k with | .own _ => none | _ => some false
def isi (v : PV) (M : Mem) (T : Ty) : Option Bool :=
  match kd v M with
  | some k => isK k T
  | none => none

def intsV : List PV → Option (List Int)
  | [] => some []
  | x :: xs => match x with
    | .int i => match intsV xs with | some is => some (i :: is) | none => none
    | _ => none
def blsV : List PV → Option (List Bool)
  | [] => some []
  | x :: xs => match x with
    | .bl i => match blsV xs with | some is => some (i :: is) | none => none
    | _ => none
def opn (o : On) (as : List PV) (M : Mem) : Res PV :=
  match o with
  | .len => match as with
    | [.tup xs] => .ok (.int xs.length) M
    | [.rol xs] => .ok (.int xs.length) M
    | [.str s] => if s.length ≤ lim then .ok (.int s.length) M else .fail
    | [.ref n] => match M[n]? with
      | some (.lst xs) => .ok (.int xs.length) M
      | _ => .fail
    | _ => .fail
  | .abs => match as with
    | [.int i] => .ok (.int (if i < 0 then -i else i)) M
    | _ => .fail
  | .int => match as with
    | [.int i] => .ok (.int i) M
    | [.bl b] => .ok (.int (if b then 1 else 0)) M
    | _ => .fail
  | .list => match as with
    | [.tup xs] => .ok (.ref M.length) (M ++ [.lst xs])
    | [.rol xs] => .ok (.ref M.length) (M ++ [.lst xs])
    | [.ref n] => match M[n]? with
      | some (.lst xs) => .ok (.ref M.length) (M ++ [.lst xs])
      | _ => .fail
    | _ => .fail
  | .tuple => match as with
    | [.tup xs] => .ok (.tup xs) M
    | [.rol xs] => .ok (.tup xs) M
    | [.ref n] => match M[n]? with
      | some (.lst xs) => .ok (.tup xs) M
      | _ => .fail
    | _ => .fail
  | .append => match as with
    | [.ref n, v] => match M[n]? with
      | some (.lst xs) => if xs.length < lim then .ok .non (M.set n (.lst (xs ++ [v]))) else .fail
      | _ => .fail
    | _ => .fail
  | .isi => match as with
    | [v, .ty T] => match isi v M T with
      | some b => .ok (.bl b) M
      | none => .fail
    | _ => .fail

  | .max => match as with
    | [.ref n] => match M[n]? with
      | some (.lst xs) => match intsV xs with
        | some (i :: is) => .ok (.int (is.foldl max i)) M
        | _ => .fail
      | _ => .fail
    | [.int i, .int j] => .ok (.int (if j > i then j else i)) M
    | _ => .fail
  | .min => match as with
    | [.ref n] => match M[n]? with
      | some (.lst xs) => match intsV xs with
        | some (i :: is) => .ok (.int (is.foldl min i)) M
        | _ => .fail
      | _ => .fail
    | [.int i, .int j] => .ok (.int (if j < i then j else i)) M
    | _ => .fail
  | .sum => match as with
    | [.ref n] => match M[n]? with
      | some (.lst xs) => match intsV xs with
        | some is => .ok (.int is.sum) M
        | _ => .fail
      | _ => .fail
    | _ => .fail
  | .all => match as with
    | [.ref n] => match M[n]? with
      | some (.lst xs) => match blsV xs with
        | some bs => .ok (.bl (bs.all id)) M
        | _ => .fail
      | _ => .fail
    | _ => .fail
  | .any => match as with
    | [.ref n] => match M[n]? with
      | some (.lst xs) => match blsV xs with
        | some bs => .ok (.bl (bs.any id)) M
        | _ => .fail
      | _ => .fail
    | _ => .fail
  | .dget => match as with
    | [.rod ks vs, .str s] => match keyIx s ks with
      | some j => (match vs[j]? with | some v => .ok v M | none => .fail)
      | none => .ok .non M
    | _ => .fail

/-- truth -/
def tru (v : PV) (M : Mem) : Option Bool :=
  match v with
  | .non => some false
  | .bl b => some b
  | .int i => some (i != 0)
  | .str s => if s.length ≤ lim then some (!s.isEmpty) else none
  | .tup xs => some (!xs.isEmpty)
  | .rol xs => some (!xs.isEmpty)
  | .ref n => match M[n]? with
    | some (.lst xs) => some (!xs.isEmpty)
    | _ => none
  | _ => none

def tyM (k : MT) (v : PV) (M : Mem) : Bool :=
  match k with
  | .list => match v with
    | .ref n => match M[n]? with
      | some (.lst _) => true
      | _ => false
    | _ => false
  | .str => match v with
    | .str _ => true
    | _ => false
  | .dict => match v with
    | .rod _ _ => true
    | _ => false

/-- xs[a:b] -/
def cutIx (n d : Nat) : Option Int → Nat
  | none => d
  | some v => if v < 0 then (v + (n : Int)).toNat else min v.toNat n
def cut {α : Type} (xs : List α) (lo hi : Option Int) : List α := (xs.drop (cutIx xs.length 0 lo)).take (cutIx xs.length xs.length hi - cutIx xs.length 0 lo)

/-! ### the texts -/
inductive Tg where
  | name (i : Nat)
  | tup (ts : List Tg)
mutual
inductive E where
  | var (i : Nat)
  | lit (v : PV)
  | glob (g : Nat)
  | op1 (o : O1) (a : E)
  | op2 (o : O2) (a b : E)
  | nott (a : E)
  | and (a b : E)
  | or (a b : E)
  | chain (o p : O2) (a b c : E)
  | ife (t : T) (a b : E)
  | tup (es : List E)
  | lst (es : List E)
  | call (f : Nat) (es : List E)
  | opn (o : On) (es : List E)
  | meth (k : MT) (o : On) (a : E) (es : List E)
  | bad
  | cut (fl fh : Bool) (a lo hi : E)
  | lc (g : Tg) (it : I) (ts : List T) (vs : List Nat) (elt : E)
inductive T where
  | val (e : E)
  | cmp (o : O2) (a b : E)
  | chain (o p : O2) (a b c : E)
  | and (a b : T)
  | or (a b : T)
  | not (a : T)
inductive I where
  | val (e : E)
  | range (es : List E)
end
inductive S where
  | asg (g : Tg) (e : E)
  | par (i j : Nat) (a b : E)
  | par3 (i j l : Nat) (a b c : E)
  | setI (a i e : E)
  | aug (i : Nat) (o : O2) (e : E)
  | augI (a i : E) (o : O2) (e : E)
  | expr (e : E)
  | ret (e : E)
  | retN
  | ifs (t : T) (a b : List S)
  | forr (g : Tg) (it : I) (b : List S)
  | whil (t : T) (b : List S)
  | pass
  | brk
  | cnt
  | bad

/-! ### what they come to -/
structure Wd where
  call : Nat → List PV → Mem → Res PV
  glob : Nat → Option PV
  fuel : Nat

/-- what a for walks: a list in the memory, or items -/
inductive Src where
  | mem (n : Nat)
  | items (xs : List PV)
def rangeL (lo : Int) (n : Nat) : List PV := (List.range n).map fun (k : Nat) => .int (lo + (k : Int))
mutual
def bindT : Tg → PV → Env → Option Env
  | .name i, v, env => if i < env.length then some (env.set i (some v)) else none
  | .tup ts, v, env => match v with
    | .tup vs => bindTs ts vs env
    | _ => none
def bindTs : List Tg → List PV → Env → Option Env
  | [], vs, env => match vs with | [] => some env | _ :: _ => none
  | t :: ts, vs, env => match vs with
    | [] => none
    | v :: vs => match bindT t v env with
      | some env' => bindTs ts vs env'
      | none => none
end

/-- a value of the first outcome; an exception does not go through -/
def Res.only {α β : Type} (r : Res α) (f : α → Mem → Res β) : Res β :=
  match r with
  | .ok a M => f a M
  | _ => .fail
@[simp] theorem Res.only_ok {α β : Type} (a : α) (M : Mem) (f : α → Mem → Res β) : Res.only (.ok a M) f = f a M := rfl
@[simp] theorem Res.only_fail {α β : Type} (f : α → Mem → Res β) : Res.only (.fail) f = .fail := rfl
def wipeE (env : Env) : List Nat → Env
  | [] => env
  | v :: vs => (wipeE env vs).set v none
/-- a list's turns: c tells if the list that is walked still stands as it did -/
noncomputable def lcX (g : Tg) (ts : Env → Mem → Res Bool) (elt : Env → Mem → Res PV) (env : Env) (c : Mem → Prop) : List PV → Mem → Res (List PV)
  | [], M => open Classical in if c M then .ok [] M else .fail
  | x :: xs, M => open Classical in if c M then match bindT g x env with
    | none => .fail
    | some env' => (ts env' M).only fun b M1 => if b then (elt env' M1).only fun v M2 => (lcX g ts elt env c xs M2).only fun vs M3 => .ok (v :: vs) M3 else lcX g ts elt env c xs M1
    else .fail
noncomputable def lcS (g : Tg) (ts : Env → Mem → Res Bool) (elt : Env → Mem → Res PV) (env : Env) (s : Src) (M : Mem) : Res (List PV) :=
  match s with
  | .items xs => if xs.length ≤ lim then lcX g ts elt env (fun _ => True) xs M else .fail
  | .mem n => match M[n]? with
    | some (.lst xs) => if xs.length ≤ lim then lcX g ts elt env (fun M => M[n]? = some (.lst xs)) xs M else .fail
    | _ => .fail
def partV (f : Bool) (v : PV) : Option (Option Int) :=
  if f then match v with
    | .int i => some (some i)
    | _ => none
  else some none
/-- xs[lo:hi] -/
def cutR (a : PV) (lo hi : Option Int) (M : Mem) : Res PV :=
  match a with
  | .tup xs => .ok (.tup (cut xs lo hi)) M
  | .rol xs => .ok (.ref M.length) (M ++ [.lst (cut xs lo hi)])
  | .str s => if s.length ≤ lim then .ok (.str (cut s lo hi)) M else .fail
  | .ref n => match M[n]? with
    | some (.lst xs) => .ok (.ref M.length) (M ++ [.lst (cut xs lo hi)])
    | _ => .fail
  | _ => .fail

noncomputable section
mutual
def evE (w : Wd) : E → Env → Mem → Res PV
  | .var i, env, M => match env[i]? with | some (some v) => .ok v M | _ => .fail
  | .lit v, _, M => .ok v M
  | .glob g, _, M => match w.glob g with | some v => .ok v M | none => .fail
  | .op1 o a, env, M => (evE w a env M).bind fun x M1 => op1 o x M1
  | .op2 o a b, env, M => (evE w a env M).bind fun x M1 => (evE w b env M1).bind fun y M2 => op2 o x y M2
  | .nott a, env, M => (evE w a env M).bind fun v M1 => match tru v M1 with | some b => .ok (.bl (!b)) M1 | none => .fail
  | .and a b, env, M => (evE w a env M).bind fun x M1 => match tru x M1 with
    | some c => if c then evE w b env M1 else .ok x M1
    | none => .fail
  | .or a b, env, M => (evE w a env M).bind fun x M1 => match tru x M1 with
    | some c => if c then .ok x M1 else evE w b env M1
    | none => .fail
  | .chain o p a b c, env, M => (evE w a env M).bind fun x M1 => (evE w b env M1).bind fun y M2 => (op2 o x y M2).bind fun r M3 => match r with
    | .bl k => if k then (evE w c env M3).bind fun z M4 => op2 p y z M4 else .ok (.bl false) M3
    | _ => .fail
  | .ife t a b, env, M => (evT w t env M).bind fun c M1 => if c then evE w a env M1 else evE w b env M1
  | .tup es, env, M => (evEs w es env M).bind fun vs M1 => if vs.length ≤ lim then .ok (.tup vs) M1 else .fail
  | .lst es, env, M => (evEs w es env M).bind fun vs M1 => if vs.length ≤ lim then .ok (.ref M1.length) (M1 ++ [.lst vs]) else .fail
  | .call f es, env, M => (evEs w es env M).bind fun vs M1 => w.call f vs M1
  | .opn o es, env, M => (evEs w es env M).bind fun vs M1 => opn o vs M1
  | .bad, _, _ => .fail
  | .cut fl fh a lo hi, env, M => (evE w a env M).bind fun v M1 => (if fl then evE w lo env M1 else .ok .non M1).bind fun l M2 => match partV fl l with
    | some pl => (if fh then evE w hi env M2 else .ok .non M2).bind fun h M3 => (match partV fh h with
      | some ph => cutR v pl ph M3
      | none => .fail)
    | none => .fail
  | .lc g it ts vs elt, env, M => (evI w it env M).bind fun s M1 => (lcS g (fun env M => evTs w ts env M) (fun env M => evE w elt env M) (wipeE env vs) s M1).bind fun vs M2 => .ok (.ref M2.length) (M2 ++ [.lst vs])
  | .meth k o a es, env, M => (evE w a env M).bind fun v M1 => if tyM k v M1 then (evEs w es env M1).bind fun vs M2 => opn o (v :: vs) M2 else .fail
def evEs (w : Wd) : List E → Env → Mem → Res (List PV)
  | [], _, M => .ok [] M
  | e :: es, env, M => (evE w e env M).bind fun v M1 => (evEs w es env M1).bind fun vs M2 => .ok (v :: vs) M2
def evT (w : Wd) : T → Env → Mem → Res Bool
  | .val e, env, M => (evE w e env M).bind fun v M1 => match tru v M1 with | some b => .ok b M1 | none => .fail
  | .cmp o a b, env, M => (evE w a env M).bind fun x M1 => (evE w b env M1).bind fun y M2 => (op2 o x y M2).bind fun r M3 => match r with
    | .bl k => .ok k M3
    | _ => .fail
  | .chain o p a b c, env, M => (evE w a env M).bind fun x M1 => (evE w b env M1).bind fun y M2 => (op2 o x y M2).bind fun r M3 => match r with
    | .bl k => if k then (evE w c env M3).bind fun z M4 => (op2 p y z M4).bind fun r M5 => (match r with | .bl k => .ok k M5 | _ => .fail) else .ok false M3
    | _ => .fail
  | .and a b, env, M => (evT w a env M).bind fun c M1 => if c then evT w b env M1 else .ok false M1
  | .or a b, env, M => (evT w a env M).bind fun c M1 => if c then .ok true M1 else evT w b env M1
  | .not a, env, M => (evT w a env M).bind fun c M1 => .ok (!c) M1
def evTs (w : Wd) : List T → Env → Mem → Res Bool
  | [], _, M => .ok true M
  | t :: ts, env, M => (evT w t env M).bind fun c M1 => if c then evTs w ts env M1 else .ok false M1
def evI (w : Wd) : I → Env → Mem → Res Src
  | .val e, env, M => (evE w e env M).bind fun v M1 => match v with
    | .tup xs => .ok (.items xs) M1
    | .rol xs => .ok (.items xs) M1
    | .str s => .ok (.items (s.map fun c => .str [c])) M1
    | .ref n => match M1[n]? with
      | some (.lst _) => .ok (.mem n) M1
      | _ => .fail
    | _ => .fail
  | .range es, env, M => (evEs w es env M).bind fun vs M1 => match vs with
    | [.int j] => if -(2 ^ 62) ≤ j ∧ j < 2 ^ 62 then .ok (.items (rangeL 0 j.toNat)) M1 else .fail
    | [.int i, .int j] => if -(2 ^ 62) ≤ i ∧ i < 2 ^ 62 ∧ -(2 ^ 62) ≤ j ∧ j < 2 ^ 62 then .ok (.items (rangeL i (j - i).toNat)) M1 else .fail
    | _ => .fail
end

inductive Ctl where
  | nxt (env : Env) (M : Mem)
  | ret (v : PV) (M : Mem)
  | brk (env : Env) (M : Mem)
  | cnt (env : Env) (M : Mem)
  | exc (c : Nat) (env : Env) (M : Mem)
  | fail
/-- an expression's outcome, then a statement's -/
def Res.thn {α : Type} (r : Res α) (env : Env) (f : α → Mem → Ctl) : Ctl :=
  match r with
  | .ok a M => f a M
  | .exc c M => .exc c env M
  | .fail => .fail
@[simp] theorem Res.thn_ok {α : Type} (a : α) (M : Mem) (env : Env) (f : α → Mem → Ctl) : Res.thn (.ok a M) env f = f a M := rfl
@[simp] theorem Res.thn_exc {α : Type} (c : Nat) (M : Mem) (env : Env) (f : α → Mem → Ctl) : Res.thn (.exc c M) env f = .exc c env M := rfl
@[simp] theorem Res.thn_fail {α : Type} (env : Env) (f : α → Mem → Ctl) : Res.thn .fail env f = .fail := rfl

def Ctl.seq (c : Ctl) (f : Env → Mem → Ctl) : Ctl :=
  match c with
  | .nxt env M => f env M
  | c => c
/-- behind a loop's turn: on, or out -/
def Ctl.turn (c : Ctl) (on out : Env → Mem → Ctl) : Ctl :=
  match c with
  | .nxt env M => on env M
  | .cnt env M => on env M
  | .brk env M => out env M
  | c => c

/-- over items -/
def loopX (g : Tg) (body : Env → Mem → Ctl) : List PV → Env → Mem → Ctl
  | [], env, M => .nxt env M
  | x :: xs, env, M => match bindT g x env with
    | none => .fail
    | some env' => (body env' M).turn (loopX g body xs) .nxt
/-- over a list in the memory, read anew at each turn -/
def loopM (g : Tg) (body : Env → Mem → Ctl) (n : Nat) : Nat → Nat → Env → Mem → Ctl
  | 0, _, _, _ => .fail
  | k + 1, i, env, M => match M[n]? with
    | some (.lst xs) => match xs[i]? with
      | none => .nxt env M
      | some x => match bindT g x env with
        | none => .fail
        | some env' => (body env' M).turn (loopM g body n k (i + 1)) .nxt
    | _ => .fail
def loopW (t : Env → Mem → Res Bool) (body : Env → Mem → Ctl) : Nat → Env → Mem → Ctl
  | 0, _, _ => .fail
  | k + 1, env, M => (t env M).thn env fun c M1 => if c then (body env M1).turn (loopW t body k) .nxt else .nxt env M1

def setL (v i x : PV) (M : Mem) : Option Mem :=
  match v with
  | .ref n => match i with
    | .int i => match M[n]? with
      | some (.lst xs) => match ixP xs.length i with
        | some j => some (M.set n (.lst (xs.set j x)))
        | none => none
      | _ => none
    | _ => none
  | _ => none

mutual
def evS (w : Wd) : S → Env → Mem → Ctl
  | .asg g e, env, M => (evE w e env M).thn env fun v M1 => match bindT g v env with | some env' => .nxt env' M1 | none => .fail
  | .par i j a b, env, M => (evE w a env M).thn env fun x M1 => (evE w b env M1).thn env fun y M2 => .nxt ((env.set i (some x)).set j (some y)) M2
  | .par3 i j l a b c, env, M => (evE w a env M).thn env fun x M1 => (evE w b env M1).thn env fun y M2 => (evE w c env M2).thn env fun z M3 => .nxt (((env.set i (some x)).set j (some y)).set l (some z)) M3
  | .setI a i e, env, M => (evE w e env M).thn env fun x M1 => (evE w a env M1).thn env fun v M2 => (evE w i env M2).thn env fun j M3 => match setL v j x M3 with | some M4 => .nxt env M4 | none => .fail
  | .aug i o e, env, M => match env[i]? with
    | some (some x) => (evE w e env M).thn env fun y M1 => (iop o x y M1).thn env fun z M2 => .nxt (env.set i (some z)) M2
    | _ => .fail
  | .augI a i o e, env, M => (evE w a env M).thn env fun v M1 => (evE w i env M1).thn env fun j M2 => match v with
    | .ref n => (op2 .idx (.ref n) j M2).thn env fun x M3 => (evE w e env M3).thn env fun y M4 => (iop o x y M4).thn env fun z M5 => match setL (.ref n) j z M5 with | some M6 => .nxt env M6 | none => .fail
    | _ => .fail
  | .expr e, env, M => (evE w e env M).thn env fun _ M1 => .nxt env M1
  | .ret e, env, M => (evE w e env M).thn env fun v M1 => .ret v M1
  | .retN, _, M => .ret .non M
  | .ifs t a b, env, M => (evT w t env M).thn env fun c M1 => if c then evSs w a env M1 else evSs w b env M1
  | .forr g it b, env, M => (evI w it env M).thn env fun s M1 => match s with
    | .mem n => loopM g (fun env M => evSs w b env M) n w.fuel 0 env M1
    | .items xs => loopX g (fun env M => evSs w b env M) xs env M1
  | .whil t b, env, M => loopW (evT w t) (fun env M => evSs w b env M) w.fuel env M
  | .bad, _, _ => .fail
  | .pass, env, M => .nxt env M
  | .brk, env, M => .brk env M
  | .cnt, env, M => .cnt env M
def evSs (w : Wd) : List S → Env → Mem → Ctl
  | [], env, M => .nxt env M
  | s :: ss, env, M => (evS w s env M).seq fun env' M' => evSs w ss env' M'
end

/-- a def: how many parameters, how many names in all, its body -/
structure Fn where
  params : Nat
  names : Nat
  body : List S

def Ctl.out : Ctl → Res PV
  | .nxt _ M => .ok .non M
  | .ret v M => .ok v M
  | .exc c _ M => .exc c M
  | _ => .fail

mutual
/-- every cell named is below n -/
def low (n : Nat) : PV → Bool
  | .tup vs => lows n vs
  | .rol vs => lows n vs
  | .obj _ _ vs => lows n vs
  | .rod _ vs => lows n vs
  | .ref m => decide (m < n)
  | _ => true
def lows (n : Nat) : List PV → Bool
  | [] => true
  | v :: vs => low n v && lows n vs
end
def lowC (n : Nat) : Cell → Bool
  | .lst xs => lows n xs
  | .dic ks vs => lows n ks && lows n vs
  | .ins _ _ vs => lows n vs
def Trims (M M' : Mem) (v : PV) : Prop := low M.length v = true ∧ ∀ i c, i < M.length → M'[i]? = some c → (M[i]? = some c ∨ lowC M.length c = true)
open Classical in
/-- behind a call: what is new in the memory is left out if nothing names it -/
def trimM (M M' : Mem) (v : PV) : Mem := if Trims M M' v then M'.take M.length else M'
def Res.trim (M : Mem) (r : Res PV) : Res PV :=
  match r with
  | .ok v M' => .ok v (trimM M M' v)
  | .exc c M' => .exc c (trimM M M' .non)
  | .fail => .fail
@[simp] theorem Res.trim_ok {M M' : Mem} {v : PV} : Res.trim M (.ok v M') = .ok v (trimM M M' v) := rfl
@[simp] theorem Res.trim_exc {M M' : Mem} {c : Nat} : Res.trim M (.exc c M') = .exc c (trimM M M' .non) := rfl
@[simp] theorem Res.trim_fail {M : Mem} : Res.trim M .fail = .fail := rfl
/-- a call, so many levels deep at most -/
def run (fs : List Fn) (glob : Nat → Option PV) (fuel : Nat) : Nat → Nat → List PV → Mem → Res PV
  | 0, _, _, _ => .fail
  | k + 1, f, vs, M => match fs[f]? with
    | none => .fail
    | some d => if vs.length = d.params ∧ d.params ≤ d.names then (evSs ⟨run fs glob fuel k, glob, fuel⟩ d.body (vs.map some ++ List.replicate (d.names - vs.length) none) M).out.trim M else .fail
end
/-- the module's constants by place -/
def glv (vs : List PV) (i : Nat) : Option PV := vs[i]?
/-- the script as a plain value -/
def scriptV (ns : List Int) : PV := .rol (ns.map PV.int)
end HP

set_option Elab.async false
set_option linter.all false
set_option autoImplicit false
set_option maxRecDepth 100000
set_option maxHeartbeats 4000000
/-! What the plain values and memories are in the layer's abstract heap; readings by outcomes. -/
namespace HP
open PySem L2

/-- the classes of the text: where they stand, the names of what their instances hold -/
structure Zx where
  nc : Nat
  cls : Nat → Addr
  anm : Nat → Str
structure Kx where
  K : PySem.W.Frag
  w : World
  Z : Zx
abbrev kx (X : Cx) (Z : Zx) : Kx := ⟨X.K, X.w, Z⟩
/-- a tuple that is read and never changes -/
def TR (K : Kx) (H : Hp) (a : Addr) (us : List V) : Prop := H a = some (.tup us) ∨ (∃ o, H a = some (.frz o (.tup us))) ∨ ∀ H', SqT K.K H' a us
/-- a list that is read and never changes -/
def LR (K : Kx) (H : Hp) (a : Addr) (us : List V) : Prop := (∃ o, H a = some (.frz o (.lst us))) ∨ ∀ H', SqL K.K H' a us
theorem TR.sq {K : Kx} {H : Hp} {a : Addr} {us : List V} (h : TR K H a us) : SqT K.K H a us := by
  rcases h with h | ⟨o, h⟩ | h
  · exact .inl (.inl h)
  · exact .inl (.inr ⟨o, h⟩)
  · exact h H
theorem LR.sq {K : Kx} {H : Hp} {a : Addr} {us : List V} (h : LR K H a us) : SqL K.K H a us := by
  rcases h with ⟨o, h⟩ | h
  · exact .inl (.inr ⟨o, h⟩)
  · exact h H

def tyS : Ty → String
  | .int => "int" | .str => "str" | .bool => "bool" | .tuple => "tuple" | .list => "list" | .dict => "dict" | .own _ => ""
/-- code points -/
def vstr (s : List Nat) : Bool := s.all fun c => decide (c < 1114112)
/-- a dict of the module, by its keys -/
def RodK (K : Kx) (a : Addr) (ks : List PV) (us : List V) : Prop := ∃ es n, KDict K.K K.w a es n ∧ ∀ z : Str, match keyIx z.cps.toList ks with
  | none => PySem.W.nsIn K.K a z = some none
  | some j => ∃ u uv, us[j]? = some u ∧ PySem.W.nsIn K.K a z = some (some uv) ∧ RelV u uv
mutual
/-- a value as it stands in a heap -/
def VR (K : Kx) (ρ : List Addr) (H : Hp) : PV → V → Prop
  | .non, u => u = .non
  | .bl b, u => u = .bl b
  | .int i, u => u = .int i
  | .str s, u => ∃ x : Str, u = .str x ∧ x.cps.toList = s ∧ vstr s = true
  | .tup vs, u => ∃ a us, u = .ref a ∧ TR K H a us ∧ VRs K ρ H vs us
  | .rol vs, u => ∃ a us, u = .ref a ∧ LR K H a us ∧ VRs K ρ H vs us
  | .ref n, u => ∃ a, u = .ref a ∧ ρ[n]? = some a
  | .obj c ns vs, u => ∃ a dx us, u = .ref a ∧ a ∉ ρ ∧ H a = some (.ins (K.Z.cls c) dx ((ns.map K.Z.anm).zip us)) ∧ VRs K ρ H vs us
  | .rod ks vs, u => ∃ a us, u = .ref a ∧ RodK K a ks us ∧ VRs K ρ H vs us
  | .ty T, u => match T with
    | .own c => u = .ref (K.Z.cls c) ∧ c < K.Z.nc
    | T => u = .ty (tyS T)
def VRs (K : Kx) (ρ : List Addr) (H : Hp) : List PV → List V → Prop
  | [], us => us = []
  | v :: vs, us => ∃ u ur, us = u :: ur ∧ VR K ρ H v u ∧ VRs K ρ H vs ur
end

/-- from one heap to a later one: what is not held in the memory is kept; what comes into the memory is new -/
structure Fw (ρ ρ' : List Addr) (H H' : Hp) : Prop where
  pre : ∃ r, ρ' = ρ ++ r
  keep : ∀ b o, H b = some o → b ∉ ρ → H' b = some o
  new : ∀ b, b ∈ ρ' → b ∈ ρ ∨ H b = none
theorem Fw.refl {ρ : List Addr} {H : Hp} : Fw ρ ρ H H := ⟨⟨[], by simp⟩, fun _ _ h _ => h, fun _ h => .inl h⟩
theorem Fw.trans {ρ ρ1 ρ2 : List Addr} {H H1 H2 : Hp} (a : Fw ρ ρ1 H H1) (b : Fw ρ1 ρ2 H1 H2) : Fw ρ ρ2 H H2 := by
  have k : ∀ x o, H x = some o → x ∉ ρ → H1 x = some o ∧ x ∉ ρ1 := fun x o h n => ⟨a.keep x o h n, fun m => by
    rcases a.new x m with q | q
    · exact n q
    · rw [q] at h; cases h⟩
  refine ⟨?_, fun x o h n => ?_, fun x m => ?_⟩
  · obtain ⟨r, rfl⟩ := a.pre
    obtain ⟨r', rfl⟩ := b.pre
    exact ⟨r ++ r', by simp⟩
  · obtain ⟨h1, n1⟩ := k x o h n
    exact b.keep x o h1 n1
  · by_cases hx : x ∈ ρ
    · exact .inl hx
    · refine .inr ?_
      cases q : H x with
      | none => rfl
      | some o =>
        obtain ⟨h1, n1⟩ := k x o q hx
        rcases b.new x m with z | z
        · exact absurd z n1
        · rw [z] at h1; cases h1
theorem Fw.get {ρ ρ' : List Addr} {H H' : Hp} (f : Fw ρ ρ' H H') {n : Nat} {a : Addr} (h : ρ[n]? = some a) : ρ'[n]? = some a := by
  obtain ⟨r, rfl⟩ := f.pre
  rw [List.getElem?_append_left (List.getElem?_eq_some_iff.mp h).1]
  exact h

/-- what stands at the memory's addresses may be written -/
def Own (ρ : List Addr) (H : Hp) : Prop := ∀ a ∈ ρ, Mut (H a)
theorem TR.mono {K : Kx} {ρ ρ' : List Addr} {H H' : Hp} {a : Addr} {us : List V} (w : Own ρ H) (f : Fw ρ ρ' H H') (h : TR K H a us) : TR K H' a us := by
  rcases h with h | ⟨o, h⟩ | h
  · exact .inl (f.keep a _ h fun m => by have := w a m; rw [h] at this; exact this)
  · exact .inr (.inl ⟨o, f.keep a _ h fun m => by have := w a m; rw [h] at this; exact this⟩)
  · exact .inr (.inr h)
theorem LR.mono {K : Kx} {ρ ρ' : List Addr} {H H' : Hp} {a : Addr} {us : List V} (w : Own ρ H) (f : Fw ρ ρ' H H') (h : LR K H a us) : LR K H' a us := by
  rcases h with ⟨o, h⟩ | h
  · exact .inl ⟨o, f.keep a _ h fun m => by have := w a m; rw [h] at this; exact this⟩
  · exact .inr h

mutual
theorem VR.mono {K : Kx} {ρ ρ' : List Addr} {H H' : Hp} (w : Own ρ H) (f : Fw ρ ρ' H H') : ∀ (v : PV) (u : V), VR K ρ H v u → VR K ρ' H' v u
  | .non, u, h => by unfold VR at h ⊢; exact h
  | .bl b, u, h => by unfold VR at h ⊢; exact h
  | .int i, u, h => by unfold VR at h ⊢; exact h
  | .str s, u, h => by unfold VR at h ⊢; exact h
  | .tup vs, u, h => by
    unfold VR at h ⊢
    obtain ⟨a, us, e, t, r⟩ := h
    exact ⟨a, us, e, t.mono w f, VRs.mono w f vs us r⟩
  | .rol vs, u, h => by
    unfold VR at h ⊢
    obtain ⟨a, us, e, t, r⟩ := h
    exact ⟨a, us, e, t.mono w f, VRs.mono w f vs us r⟩
  | .ref n, u, h => by
    unfold VR at h ⊢
    obtain ⟨a, e, q⟩ := h
    exact ⟨a, e, f.get q⟩
  | .obj c ns vs, u, h => by
    unfold VR at h ⊢
    obtain ⟨a, dx, us, e, n, q, r⟩ := h
    refine ⟨a, dx, us, e, fun m => ?_, f.keep a _ q n, VRs.mono w f vs us r⟩
    rcases f.new a m with z | z
    · exact n z
    · rw [z] at q; cases q
  | .rod ks vs, u, h => by
    unfold VR at h ⊢
    obtain ⟨a, us, e, q, r⟩ := h
    exact ⟨a, us, e, q, VRs.mono w f vs us r⟩
  | .ty T, u, h => by unfold VR at h ⊢; exact h
theorem VRs.mono {K : Kx} {ρ ρ' : List Addr} {H H' : Hp} (w : Own ρ H) (f : Fw ρ ρ' H H') : ∀ (vs : List PV) (us : List V), VRs K ρ H vs us → VRs K ρ' H' vs us
  | [], us, h => by unfold VRs at h ⊢; exact h
  | v :: vs, us, h => by
    unfold VRs at h ⊢
    obtain ⟨u, ur, e, a, b⟩ := h
    exact ⟨u, ur, e, VR.mono w f v u a, VRs.mono w f vs ur b⟩
end

section
variable {K : Kx} {ρ ρ' : List Addr} {H H' : Hp}
theorem vrs_nil : VRs K ρ H [] [] := by unfold VRs; rfl
theorem vrs_cons {v : PV} {u : V} {vs : List PV} {us : List V} (h : VR K ρ H v u) (t : VRs K ρ H vs us) : VRs K ρ H (v :: vs) (u :: us) := by
  unfold VRs
  exact ⟨u, us, rfl, h, t⟩
theorem VRs.inv {v : PV} {vs : List PV} {us : List V} (h : VRs K ρ H (v :: vs) us) : ∃ u ur, us = u :: ur ∧ VR K ρ H v u ∧ VRs K ρ H vs ur := by
  unfold VRs at h
  exact h
theorem VRs.nil {us : List V} (h : VRs K ρ H [] us) : us = [] := by
  unfold VRs at h
  exact h
theorem VRs.length : ∀ {vs : List PV} {us : List V}, VRs K ρ H vs us → us.length = vs.length
  | [], us, h => by rw [h.nil]; rfl
  | v :: vs, us, h => by
    obtain ⟨u, ur, rfl, _, t⟩ := h.inv
    simp [VRs.length t]
theorem VRs.get : ∀ {vs : List PV} {us : List V} {i : Nat} {v : PV}, VRs K ρ H vs us → vs[i]? = some v → ∃ u, us[i]? = some u ∧ VR K ρ H v u
  | [], _, _, _, _, e => by simp at e
  | x :: vs, us, 0, v, h, e => by
    obtain ⟨u, ur, rfl, a, _⟩ := h.inv
    simp at e
    subst e
    exact ⟨u, by simp, a⟩
  | x :: vs, us, i + 1, v, h, e => by
    obtain ⟨u, ur, rfl, _, t⟩ := h.inv
    obtain ⟨w, e1, e2⟩ := VRs.get (i := i) t (by simpa using e)
    exact ⟨w, by simpa using e1, e2⟩
theorem VRs.append : ∀ {vs ws : List PV} {us xs : List V}, VRs K ρ H vs us → VRs K ρ H ws xs → VRs K ρ H (vs ++ ws) (us ++ xs)
  | [], ws, us, xs, h, t => by rw [h.nil]; simpa using t
  | v :: vs, ws, us, xs, h, t => by
    obtain ⟨u, ur, rfl, a, b⟩ := h.inv
    exact vrs_cons a (VRs.append b t)
theorem VRs.set : ∀ {vs : List PV} {us : List V} {v : PV} {u : V} (j : Nat), VR K ρ H v u → VRs K ρ H vs us → VRs K ρ H (vs.set j v) (us.set j u)
  | [], us, v, u, j, _, h => by rw [h.nil]; simpa using vrs_nil
  | x :: vs, us, v, u, 0, r, h => by
    obtain ⟨y, ur, rfl, a, b⟩ := h.inv
    simpa using vrs_cons r b
  | x :: vs, us, v, u, j + 1, r, h => by
    obtain ⟨y, ur, rfl, a, b⟩ := h.inv
    simpa using vrs_cons a (VRs.set j r b)
theorem VRs.take : ∀ {vs : List PV} {us : List V} (n : Nat), VRs K ρ H vs us → VRs K ρ H (vs.take n) (us.take n)
  | vs, us, 0, _ => by simpa using vrs_nil
  | [], us, n + 1, h => by rw [h.nil]; simpa using vrs_nil
  | x :: vs, us, n + 1, h => by
    obtain ⟨y, ur, rfl, a, b⟩ := h.inv
    simpa using vrs_cons a (VRs.take n b)
theorem VRs.drop : ∀ {vs : List PV} {us : List V} (n : Nat), VRs K ρ H vs us → VRs K ρ H (vs.drop n) (us.drop n)
  | vs, us, 0, h => by simpa using h
  | [], us, n + 1, h => by rw [h.nil]; simpa using vrs_nil
  | x :: vs, us, n + 1, h => by
    obtain ⟨y, ur, rfl, a, b⟩ := h.inv
    simpa using VRs.drop n b
end

theorem nodupIx {α : Type} {N : List α} (hN : N.Nodup) {i j : Nat} {x : α} (a : N[i]? = some x) (b : N[j]? = some x) : i = j := by
  obtain ⟨h1, e1⟩ := List.getElem?_eq_some_iff.mp a
  obtain ⟨h2, e2⟩ := List.getElem?_eq_some_iff.mp b
  exact (List.getElem_inj hN).mp (e1.trans e2.symm)
/-- a cell of the memory, what stands at its address -/
def CellR (K : Kx) (ρ : List Addr) (H : Hp) : Cell → Option HO → Prop
  | .lst xs, o => ∃ us, o = some (.lst us) ∧ VRs K ρ H xs us
  | .dic _ _, _ => False
  | .ins _ _ _, _ => False
structure MemR (K : Kx) (M : Mem) (ρ : List Addr) (H : Hp) : Prop where
  len : ρ.length = M.length
  nd : ρ.Nodup
  cell : ∀ (n : Nat) (c : Cell) (a : Addr), M[n]? = some c → ρ[n]? = some a → CellR K ρ H c (H a)
theorem CellR.mut {K : Kx} {ρ : List Addr} {H : Hp} {c : Cell} {o : Option HO} (h : CellR K ρ H c o) : Mut o := by
  cases c with
  | lst xs =>
    obtain ⟨us, rfl, _⟩ := h
    exact trivial
  | dic _ _ => exact h.elim
  | ins _ _ _ => exact h.elim
theorem CellR.mono {K : Kx} {ρ ρ' : List Addr} {H H' : Hp} {c : Cell} {o : Option HO} (w : Own ρ H) (f : Fw ρ ρ' H H') (h : CellR K ρ H c o) : CellR K ρ' H' c o := by
  cases c with
  | lst xs =>
    obtain ⟨us, e, r⟩ := h
    exact ⟨us, e, r.mono w f⟩
  | dic _ _ => exact h.elim
  | ins _ _ _ => exact h.elim
theorem MemR.own {K : Kx} {M : Mem} {ρ : List Addr} {H : Hp} (m : MemR K M ρ H) : Own ρ H := fun a ha => by
  obtain ⟨n, hn, e⟩ := List.getElem_of_mem ha
  have h1 : ρ[n]? = some a := by rw [List.getElem?_eq_getElem hn, e]
  have h2 : n < M.length := by rw [← m.len]; exact hn
  exact (m.cell n M[n] a (List.getElem?_eq_getElem h2) h1).mut
theorem MemR.at_ {K : Kx} {M : Mem} {ρ : List Addr} {H : Hp} (m : MemR K M ρ H) {n : Nat} {c : Cell} (h : M[n]? = some c) : ∃ a, ρ[n]? = some a ∧ CellR K ρ H c (H a) := by
  have hn : n < ρ.length := by rw [m.len]; exact (List.getElem?_eq_some_iff.mp h).1
  exact ⟨ρ[n], List.getElem?_eq_getElem hn, m.cell n c _ h (List.getElem?_eq_getElem hn)⟩
theorem MemR.lst {K : Kx} {M : Mem} {ρ : List Addr} {H : Hp} (m : MemR K M ρ H) {n : Nat} {xs : List PV} {a : Addr} (h : M[n]? = some (.lst xs)) (ha : ρ[n]? = some a) : ∃ us, H a = some (.lst us) ∧ VRs K ρ H xs us :=
  m.cell n _ a h ha
/-- an address that holds nothing is none of the memory's -/
theorem MemR.fresh {K : Kx} {M : Mem} {ρ : List Addr} {H : Hp} (m : MemR K M ρ H) {p : Addr} (h : H p = none) : p ∉ ρ := fun hp => by
  have := m.own p hp
  rw [h] at this
  exact this
/-- a new thing beside the memory -/
theorem Fw.side {ρ : List Addr} {H : Hp} {p : Addr} {o : HO} (h : H p = none) : Fw ρ ρ H (upd H p o) :=
  ⟨⟨[], by simp⟩, fun b u e _ => by rw [upd_ne (ne_of_none e h)]; exact e, fun b m => .inl m⟩
theorem MemR.side {K : Kx} {M : Mem} {ρ : List Addr} {H : Hp} (m : MemR K M ρ H) {p : Addr} {o : HO} (h : H p = none) : MemR K M ρ (upd H p o) :=
  ⟨m.len, m.nd, fun n c a e1 e2 => by
    have hne : a ≠ p := fun z => m.fresh h (z ▸ List.mem_of_getElem? e2)
    rw [upd_ne hne]
    exact (m.cell n c a e1 e2).mono m.own (Fw.side h)⟩
/-- a new cell -/
theorem Fw.push {ρ : List Addr} {H : Hp} {p : Addr} {o : HO} (h : H p = none) : Fw ρ (ρ ++ [p]) H (upd H p o) :=
  ⟨⟨[p], rfl⟩, fun b u e _ => by rw [upd_ne (ne_of_none e h)]; exact e, fun b m => by
    rcases List.mem_append.mp m with q | q
    · exact .inl q
    · rw [List.mem_singleton.mp q]; exact .inr h⟩
theorem MemR.push {K : Kx} {M : Mem} {ρ : List Addr} {H : Hp} (m : MemR K M ρ H) {p : Addr} {xs : List PV} {us : List V} (h : H p = none) (r : VRs K ρ H xs us) : MemR K (M ++ [.lst xs]) (ρ ++ [p]) (upd H p (.lst us)) := by
  have f : Fw ρ (ρ ++ [p]) H (upd H p (.lst us)) := Fw.push h
  refine ⟨by simp [m.len], ?_, fun n c a e1 e2 => ?_⟩
  · rw [List.nodup_append]
    exact ⟨m.nd, by simp, fun a ha b hb => by rw [List.mem_singleton.mp hb]; exact fun z => m.fresh h (z ▸ ha)⟩
  · by_cases hn : n < M.length
    · rw [List.getElem?_append_left hn] at e1
      rw [List.getElem?_append_left (by rw [m.len]; exact hn)] at e2
      have hne : a ≠ p := fun z => m.fresh h (z ▸ List.mem_of_getElem? e2)
      rw [upd_ne hne]
      exact (m.cell n c a e1 e2).mono m.own f
    · have hl : n < (M ++ [Cell.lst xs]).length := (List.getElem?_eq_some_iff.mp e1).1
      have e : n = M.length := by
        simp at hl
        omega
      subst e
      rw [List.getElem?_append_right (Nat.le_refl _)] at e1
      rw [List.getElem?_append_right (by rw [m.len]; exact Nat.le_refl _), m.len] at e2
      simp at e1 e2
      subst e1 e2
      exact ⟨us, upd_same, r.mono m.own f⟩
/-- a cell is written -/
theorem Fw.write {ρ : List Addr} {H : Hp} {a : Addr} {o : HO} (h : a ∈ ρ) : Fw ρ ρ H (upd H a o) :=
  ⟨⟨[], by simp⟩, fun b u e n => by rw [upd_ne (show b ≠ a from fun z => n (by rw [z]; exact h))]; exact e, fun b m => .inl m⟩
theorem MemR.write {K : Kx} {M : Mem} {ρ : List Addr} {H : Hp} (m : MemR K M ρ H) {n : Nat} {a : Addr} {xs : List PV} {us : List V} (ha : ρ[n]? = some a) (r : VRs K ρ H xs us) : MemR K (M.set n (.lst xs)) ρ (upd H a (.lst us)) := by
  have f : Fw ρ ρ H (upd H a (.lst us)) := Fw.write (List.mem_of_getElem? ha)
  refine ⟨by simp [m.len], m.nd, fun k c b e1 e2 => ?_⟩
  by_cases hk : k = n
  · subst hk
    rw [ha] at e2
    cases e2
    rw [List.getElem?_set] at e1
    have hlt : k < M.length := by rw [← m.len]; exact (List.getElem?_eq_some_iff.mp ha).1
    simp [hlt] at e1
    subst e1
    exact ⟨us, upd_same, r.mono m.own f⟩
  · rw [List.getElem?_set_ne (Ne.symm hk)] at e1
    have hne : b ≠ a := fun z => by
      subst z
      exact hk (nodupIx m.nd e2 ha)
    rw [upd_ne hne]
    exact (m.cell k c b e1 e2).mono m.own f

/-! ### a list beside the memory -/
theorem TR.out {K : Kx} {H : Hp} {D : Addr} {xs : List V} {o : HO} (hD : H D = some (.lst xs)) {a : Addr} {us : List V} (h : TR K H a us) : TR K (upd H D o) a us := by
  have ne : ∀ {u}, H a = some u → (∀ ys, u ≠ .lst ys) → a ≠ D := fun {u} e z q => by
    subst q
    rw [hD] at e
    cases e
    exact z xs rfl
  rcases h with h | ⟨q, h⟩ | h
  · exact .inl (by rw [upd_ne (ne h fun _ z => nomatch z)]; exact h)
  · exact .inr (.inl ⟨q, by rw [upd_ne (ne h fun _ z => nomatch z)]; exact h⟩)
  · exact .inr (.inr h)
theorem LR.out {K : Kx} {H : Hp} {D : Addr} {xs : List V} {o : HO} (hD : H D = some (.lst xs)) {a : Addr} {us : List V} (h : LR K H a us) : LR K (upd H D o) a us := by
  rcases h with ⟨q, h⟩ | h
  · refine .inl ⟨q, ?_⟩
    rw [upd_ne (fun z => by subst z; rw [hD] at h; cases h)]
    exact h
  · exact .inr h
mutual
theorem VR.out {K : Kx} {ρ : List Addr} {H : Hp} {D : Addr} {xs : List V} {o : HO} (hD : H D = some (.lst xs)) : ∀ (v : PV) (u : V), VR K ρ H v u → VR K ρ (upd H D o) v u
  | .non, u, h => by unfold VR at h ⊢; exact h
  | .bl b, u, h => by unfold VR at h ⊢; exact h
  | .int i, u, h => by unfold VR at h ⊢; exact h
  | .str s, u, h => by unfold VR at h ⊢; exact h
  | .tup vs, u, h => by
    unfold VR at h ⊢
    obtain ⟨a, us, e, t, r⟩ := h
    exact ⟨a, us, e, t.out hD, VRs.out hD vs us r⟩
  | .rol vs, u, h => by
    unfold VR at h ⊢
    obtain ⟨a, us, e, t, r⟩ := h
    exact ⟨a, us, e, t.out hD, VRs.out hD vs us r⟩
  | .ref n, u, h => by unfold VR at h ⊢; exact h
  | .obj c ns vs, u, h => by
    unfold VR at h ⊢
    obtain ⟨a, dx, us, e, n, q, r⟩ := h
    refine ⟨a, dx, us, e, n, ?_, VRs.out hD vs us r⟩
    rw [upd_ne (fun z => by subst z; rw [hD] at q; cases q)]
    exact q
  | .rod ks vs, u, h => by
    unfold VR at h ⊢
    obtain ⟨a, us, e, q, r⟩ := h
    exact ⟨a, us, e, q, VRs.out hD vs us r⟩
  | .ty T, u, h => by unfold VR at h ⊢; exact h
theorem VRs.out {K : Kx} {ρ : List Addr} {H : Hp} {D : Addr} {xs : List V} {o : HO} (hD : H D = some (.lst xs)) : ∀ (vs : List PV) (us : List V), VRs K ρ H vs us → VRs K ρ (upd H D o) vs us
  | [], us, h => by unfold VRs at h ⊢; exact h
  | v :: vs, us, h => by
    unfold VRs at h ⊢
    obtain ⟨u, ur, e, a, b⟩ := h
    exact ⟨u, ur, e, VR.out hD v u a, VRs.out hD vs ur b⟩
end
theorem CellR.out {K : Kx} {ρ : List Addr} {H : Hp} {D : Addr} {xs : List V} {o : HO} (hD : H D = some (.lst xs)) {c : Cell} {u : Option HO} (h : CellR K ρ H c u) : CellR K ρ (upd H D o) c u := by
  cases c with
  | lst xs =>
    obtain ⟨us, e, r⟩ := h
    exact ⟨us, e, r.out hD⟩
  | dic _ _ => exact h.elim
  | ins _ _ _ => exact h.elim
theorem MemR.out {K : Kx} {M : Mem} {ρ : List Addr} {H : Hp} {D : Addr} {xs : List V} {o : HO} (m : MemR K M ρ H) (hD : H D = some (.lst xs)) (hn : D ∉ ρ) : MemR K M ρ (upd H D o) :=
  ⟨m.len, m.nd, fun n c a e1 e2 => by
    have hne : a ≠ D := fun z => hn (z ▸ List.mem_of_getElem? e2)
    rw [upd_ne hne]
    exact (m.cell n c a e1 e2).out hD⟩
theorem Fw.out {ρ0 ρ : List Addr} {H0 H : Hp} {D : Addr} {o : HO} (f : Fw ρ0 ρ H0 H) (hD : H0 D = none) : Fw ρ0 ρ H0 (upd H D o) :=
  ⟨f.pre, fun b u e n => by rw [upd_ne (ne_of_none e hD)]; exact f.keep b u e n, f.new⟩
/-- a list that stood beside the memory comes into it -/
theorem Fw.adopt {ρ0 ρ : List Addr} {H0 H : Hp} {D : Addr} (f : Fw ρ0 ρ H0 H) (hD : H0 D = none) : Fw ρ0 (ρ ++ [D]) H0 H :=
  ⟨let ⟨r, e⟩ := f.pre; ⟨r ++ [D], by rw [e, List.append_assoc]⟩, f.keep, fun b m => by
    rcases List.mem_append.mp m with q | q
    · exact f.new b q
    · rw [List.mem_singleton.mp q]; exact .inr hD⟩
/-! ### values by a longer list of addresses -/
mutual
theorem VR.grow {K : Kx} {ρ r : List Addr} {H : Hp} (hn : ∀ a ∈ r, ∃ xs, H a = some (.lst xs)) : ∀ (v : PV) (u : V), VR K ρ H v u → VR K (ρ ++ r) H v u
  | .non, u, h => by unfold VR at h ⊢; exact h
  | .bl b, u, h => by unfold VR at h ⊢; exact h
  | .int i, u, h => by unfold VR at h ⊢; exact h
  | .str s, u, h => by unfold VR at h ⊢; exact h
  | .tup vs, u, h => by
    unfold VR at h ⊢
    obtain ⟨a, us, e, t, q⟩ := h
    exact ⟨a, us, e, t, VRs.grow hn vs us q⟩
  | .rol vs, u, h => by
    unfold VR at h ⊢
    obtain ⟨a, us, e, t, q⟩ := h
    exact ⟨a, us, e, t, VRs.grow hn vs us q⟩
  | .ref n, u, h => by
    unfold VR at h ⊢
    obtain ⟨a, e, q⟩ := h
    exact ⟨a, e, by rw [List.getElem?_append_left (List.getElem?_eq_some_iff.mp q).1]; exact q⟩
  | .obj c ns vs, u, h => by
    unfold VR at h ⊢
    obtain ⟨a, dx, us, e, n, q, z⟩ := h
    refine ⟨a, dx, us, e, fun m => ?_, q, VRs.grow hn vs us z⟩
    rcases List.mem_append.mp m with m | m
    · exact n m
    · obtain ⟨xs, hx⟩ := hn a m
      rw [hx] at q; cases q
  | .rod ks vs, u, h => by
    unfold VR at h ⊢
    obtain ⟨a, us, e, q, z⟩ := h
    exact ⟨a, us, e, q, VRs.grow hn vs us z⟩
  | .ty T, u, h => by unfold VR at h ⊢; exact h
theorem VRs.grow {K : Kx} {ρ r : List Addr} {H : Hp} (hn : ∀ a ∈ r, ∃ xs, H a = some (.lst xs)) : ∀ (vs : List PV) (us : List V), VRs K ρ H vs us → VRs K (ρ ++ r) H vs us
  | [], us, h => by unfold VRs at h ⊢; exact h
  | v :: vs, us, h => by
    unfold VRs at h ⊢
    obtain ⟨u, ur, e, a, b⟩ := h
    exact ⟨u, ur, e, VR.grow hn v u a, VRs.grow hn vs ur b⟩
end
theorem CellR.grow {K : Kx} {ρ r : List Addr} {H : Hp} (hn : ∀ a ∈ r, ∃ xs, H a = some (.lst xs)) {c : Cell} {u : Option HO} (h : CellR K ρ H c u) : CellR K (ρ ++ r) H c u := by
  cases c with
  | lst xs =>
    obtain ⟨us, e, q⟩ := h
    exact ⟨us, e, q.grow hn⟩
  | dic _ _ => exact h.elim
  | ins _ _ _ => exact h.elim
theorem MemR.adopt {K : Kx} {M : Mem} {ρ : List Addr} {H : Hp} {D : Addr} {xs : List PV} {us : List V} (m : MemR K M ρ H) (hD : H D = some (.lst us)) (hn : D ∉ ρ) (r : VRs K ρ H xs us) : MemR K (M ++ [.lst xs]) (ρ ++ [D]) H := by
  have hg : ∀ a ∈ [D], ∃ xs, H a = some (.lst xs) := fun a ha => by rw [List.mem_singleton.mp ha]; exact ⟨us, hD⟩
  refine ⟨by simp [m.len], ?_, fun n c a e1 e2 => ?_⟩
  · rw [List.nodup_append]
    exact ⟨m.nd, by simp, fun a ha b hb => by rw [List.mem_singleton.mp hb]; exact fun z => hn (z ▸ ha)⟩
  · by_cases hl : n < M.length
    · rw [List.getElem?_append_left hl] at e1
      rw [List.getElem?_append_left (by rw [m.len]; exact hl)] at e2
      exact (m.cell n c a e1 e2).grow hg
    · have hl : n < (M ++ [Cell.lst xs]).length := (List.getElem?_eq_some_iff.mp e1).1
      have e : n = M.length := by
        simp at hl
        omega
      subst e
      rw [List.getElem?_append_right (Nat.le_refl _)] at e1
      rw [List.getElem?_append_right (by rw [m.len]; exact Nat.le_refl _), m.len] at e2
      simp at e1 e2
      subst e1 e2
      exact ⟨us, hD, r.grow hg⟩
/-! ### behind a call: less is named -/
mutual
theorem VR.low {K : Kx} {ρ : List Addr} {H : Hp} (n : Nat) : ∀ (v : PV) (u : V), low n v = true → VR K ρ H v u → VR K (ρ.take n) H v u
  | .non, u, _, h => by unfold VR at h ⊢; exact h
  | .bl b, u, _, h => by unfold VR at h ⊢; exact h
  | .int i, u, _, h => by unfold VR at h ⊢; exact h
  | .str s, u, _, h => by unfold VR at h ⊢; exact h
  | .tup vs, u, l, h => by
    unfold VR at h ⊢
    simp only [HP.low] at l
    obtain ⟨a, us, e, t, q⟩ := h
    exact ⟨a, us, e, t, VRs.low n vs us l q⟩
  | .rol vs, u, l, h => by
    unfold VR at h ⊢
    simp only [HP.low] at l
    obtain ⟨a, us, e, t, q⟩ := h
    exact ⟨a, us, e, t, VRs.low n vs us l q⟩
  | .ref k, u, l, h => by
    unfold VR at h ⊢
    simp only [HP.low, decide_eq_true_eq] at l
    obtain ⟨a, e, q⟩ := h
    exact ⟨a, e, by rw [List.getElem?_take_of_lt l]; exact q⟩
  | .obj c ns vs, u, l, h => by
    unfold VR at h ⊢
    simp only [HP.low] at l
    obtain ⟨a, dx, us, e, z, q, r⟩ := h
    exact ⟨a, dx, us, e, fun m => z (List.mem_of_mem_take m), q, VRs.low n vs us l r⟩
  | .rod ks vs, u, l, h => by
    unfold VR at h ⊢
    simp only [HP.low] at l
    obtain ⟨a, us, e, q, r⟩ := h
    exact ⟨a, us, e, q, VRs.low n vs us l r⟩
  | .ty T, u, _, h => by unfold VR at h ⊢; exact h
theorem VRs.low {K : Kx} {ρ : List Addr} {H : Hp} (n : Nat) : ∀ (vs : List PV) (us : List V), lows n vs = true → VRs K ρ H vs us → VRs K (ρ.take n) H vs us
  | [], us, _, h => by unfold VRs at h ⊢; exact h
  | v :: vs, us, l, h => by
    unfold VRs at h ⊢
    simp only [lows, Bool.and_eq_true] at l
    obtain ⟨u, ur, e, a, b⟩ := h
    exact ⟨u, ur, e, VR.low n v u l.1 a, VRs.low n vs ur l.2 b⟩
end
mutual
theorem VR.isLow {K : Kx} {ρ : List Addr} {H : Hp} {n : Nat} (hn : ρ.length = n) : ∀ (v : PV) (u : V), VR K ρ H v u → HP.low n v = true
  | .non, u, _ => by simp only [HP.low]
  | .bl b, u, _ => by simp only [HP.low]
  | .int i, u, _ => by simp only [HP.low]
  | .str s, u, _ => by simp only [HP.low]
  | .tup vs, u, h => by
    unfold VR at h
    obtain ⟨a, us, e, t, q⟩ := h
    simp only [HP.low]
    exact VRs.isLow hn vs us q
  | .rol vs, u, h => by
    unfold VR at h
    obtain ⟨a, us, e, t, q⟩ := h
    simp only [HP.low]
    exact VRs.isLow hn vs us q
  | .ref k, u, h => by
    unfold VR at h
    obtain ⟨a, e, q⟩ := h
    simp only [HP.low, decide_eq_true_eq]
    rw [← hn]
    exact (List.getElem?_eq_some_iff.mp q).1
  | .obj c ns vs, u, h => by
    unfold VR at h
    obtain ⟨a, dx, us, e, z, q, r⟩ := h
    simp only [HP.low]
    exact VRs.isLow hn vs us r
  | .rod ks vs, u, h => by
    unfold VR at h
    obtain ⟨a, us, e, q, r⟩ := h
    simp only [HP.low]
    exact VRs.isLow hn vs us r
  | .ty T, u, _ => by simp only [HP.low]
theorem VRs.isLow {K : Kx} {ρ : List Addr} {H : Hp} {n : Nat} (hn : ρ.length = n) : ∀ (vs : List PV) (us : List V), VRs K ρ H vs us → lows n vs = true
  | [], us, _ => by simp only [lows]
  | v :: vs, us, h => by
    unfold VRs at h
    obtain ⟨u, ur, e, a, b⟩ := h
    simp only [lows, VR.isLow hn v u a, VRs.isLow hn vs ur b, Bool.and_self]
end
/-- from an outcome behind a call to the outcome that is told -/
theorem MemR.trim {K : Kx} {M M' : Mem} {ρ ρ' : List Addr} {H H' : Hp} {v : PV} (m : MemR K M ρ H) (f : Fw ρ ρ' H H') (m' : MemR K M' ρ' H') :
    ∃ ρ'', Fw ρ ρ'' H H' ∧ MemR K (trimM M M' v) ρ'' H' ∧ ∀ u, VR K ρ' H' v u → VR K ρ'' H' v u := by
  unfold trimM
  split
  · rename_i t
    obtain ⟨r, rfl⟩ := f.pre
    have hM : M.length ≤ M'.length := by rw [← m.len, ← m'.len]; simp
    have hρ : (ρ ++ r).take M.length = ρ := by rw [← m.len]; simp
    have f' : Fw ρ ρ H H' := ⟨⟨[], by simp⟩, fun b o e n => f.keep b o e n, fun b z => .inl z⟩
    refine ⟨ρ, f', ⟨by rw [List.length_take, m.len]; omega, m.nd, fun n c a e1 e2 => ?_⟩, fun u h => ?_⟩
    · have hn : n < M.length := by
        rw [← m.len]
        exact (List.getElem?_eq_some_iff.mp e2).1
      rw [List.getElem?_take_of_lt hn] at e1
      have e2' : (ρ ++ r)[n]? = some a := by rw [List.getElem?_append_left (by rw [m.len]; exact hn)]; exact e2
      have q := m'.cell n c a e1 e2'
      rcases t.2 n c hn e1 with z | z
      · -- as it was: its values are below
        have q0 := m.cell n c a z e2
        cases c with
        | lst xs =>
          obtain ⟨us, h1, h2⟩ := q
          refine ⟨us, h1, ?_⟩
          obtain ⟨us0, h3, h4⟩ := q0
          -- the same addresses below
          have : lows M.length xs = true := VRs.isLow m.len _ _ h4
          have := VRs.low M.length xs us this h2
          rwa [hρ] at this
        | dic _ _ => exact q.elim
        | ins _ _ _ => exact q.elim
      · cases c with
        | lst xs =>
          obtain ⟨us, h1, h2⟩ := q
          refine ⟨us, h1, ?_⟩
          have := VRs.low M.length xs us z h2
          rwa [hρ] at this
        | dic _ _ => exact q.elim
        | ins _ _ _ => exact q.elim
    · have := VR.low M.length v u t.1 h
      rwa [hρ] at this
  · exact ⟨ρ', f, m', fun u h => h⟩
/-- the names' values -/
structure EnvR (K : Kx) (ρ : List Addr) (H : Hp) (env : Env) (σ : St) : Prop where
  len : env.length = σ.length
  val : ∀ (i : Nat) (v : PV), env[i]? = some (some v) → ∃ u : V, σ[i]? = some (some u) ∧ VR K ρ H v u
theorem EnvR.mono {K : Kx} {ρ ρ' : List Addr} {H H' : Hp} {env : Env} {σ : St} (w : Own ρ H) (f : Fw ρ ρ' H H') (h : EnvR K ρ H env σ) : EnvR K ρ' H' env σ :=
  ⟨h.len, fun i v e => by
    obtain ⟨u, a, b⟩ := h.val i v e
    exact ⟨u, a, b.mono w f⟩⟩
theorem EnvR.set {K : Kx} {ρ : List Addr} {H : Hp} {env : Env} {σ : St} {i : Nat} {v : PV} {u : V} (h : EnvR K ρ H env σ) (r : VR K ρ H v u) : EnvR K ρ H (env.set i (some v)) (σ.set i (some u)) := by
  refine ⟨by simp [h.len], fun j w e => ?_⟩
  by_cases hj : i = j
  · subst hj
    have hlt : i < env.length := by
      have := (List.getElem?_eq_some_iff.mp e).1
      simpa using this
    rw [List.getElem?_set_self hlt] at e
    cases e
    exact ⟨u, by rw [List.getElem?_set_self (by rw [← h.len]; exact hlt)], r⟩
  · rw [List.getElem?_set_ne hj] at e
    obtain ⟨x, a, b⟩ := h.val j w e
    exact ⟨x, by rw [List.getElem?_set_ne hj]; exact a, b⟩

/-! ### outcomes -/
/-- what is wanted of an exception of the class numbered c -/
abbrev XW := Nat → St → Hp → Prop
section
variable {α β : Type}
/-- an outcome, and what is wanted behind it -/
def Ps (K : Kx) (W : XW) (σ : St) (ρ : List Addr) (H : Hp) (r : Res α) (k : α → Mem → List Addr → Hp → Prop) : Prop :=
  match r with
  | .ok a M' => ∀ ρ' H', Fw ρ ρ' H H' → MemR K M' ρ' H' → k a M' ρ' H'
  | .exc c M' => ∀ ρ' H', Fw ρ ρ' H H' → MemR K M' ρ' H' → W c σ H'
  | .fail => False
variable {K : Kx} {W : XW} {σ : St} {ρ ρ' : List Addr} {H H' : Hp} {r : Res α} {k k' : α → Mem → List Addr → Hp → Prop}
theorem Ps.fw (f : Fw ρ ρ' H H') (h : Ps K W σ ρ H r k) : Ps K W σ ρ' H' r k := by
  cases r with
  | ok a M => exact fun ρ2 H2 f2 m => h ρ2 H2 (f.trans f2) m
  | exc c M => exact fun ρ2 H2 f2 m => h ρ2 H2 (f.trans f2) m
  | fail => exact h
theorem Ps.imp (h : Ps K W σ ρ H r k) (hk : ∀ a M' ρ' H', Fw ρ ρ' H H' → MemR K M' ρ' H' → k a M' ρ' H' → k' a M' ρ' H') : Ps K W σ ρ H r k' := by
  cases r with
  | ok a M => exact fun ρ2 H2 f2 m => hk a M ρ2 H2 f2 m (h ρ2 H2 f2 m)
  | exc c M => exact h
  | fail => exact h
theorem Ps.bind {f : α → Mem → Res β} {k : β → Mem → List Addr → Hp → Prop} (h : Ps K W σ ρ H (r.bind f) k) : Ps K W σ ρ H r (fun a M1 ρ1 H1 => Ps K W σ ρ1 H1 (f a M1) k) := by
  cases r with
  | ok a M => exact fun ρ2 H2 f2 m => Ps.fw f2 h
  | exc c M => exact h
  | fail => exact h
theorem Ps.here {a : α} {M : Mem} (h : Ps K W σ ρ H (.ok a M) k) (m : MemR K M ρ H) : k a M ρ H := h ρ H Fw.refl m
end

/-! ### readings by outcomes -/
def T1 (K : Kx) (W : XW) (m : Env → Mem → Res PV) : TE := fun σ H Q => ∃ env M ρ, EnvR K ρ H env σ ∧ MemR K M ρ H ∧ Ps K W σ ρ H (m env M) fun v _ ρ' H' => ∀ u, VR K ρ' H' v u → Q u H'
def Tn (K : Kx) (W : XW) (m : Env → Mem → Res (List PV)) : TA := fun σ H Q => ∃ env M ρ, EnvR K ρ H env σ ∧ MemR K M ρ H ∧ Ps K W σ ρ H (m env M) fun vs _ ρ' H' => ∀ us, VRs K ρ' H' vs us → Q us H'
def Tb (K : Kx) (W : XW) (m : Env → Mem → Res Bool) : TT := fun σ H Q => ∃ env M ρ, EnvR K ρ H env σ ∧ MemR K M ρ H ∧ Ps K W σ ρ H (m env M) fun b _ ρ' H' => Q b H'
theorem PE.imp {X : Cx} {e : Expr} {t t' : TE} (h : PE X e t) (f : ∀ σ H Q, t' σ H Q → t σ H Q) : PE X e t' := ⟨fun pins s σ H Q I q => h.run pins s σ H Q I (f σ H Q q)⟩
theorem PT.imp {X : Cx} {e : Expr} {t t' : TT} (h : PT X e t) (f : ∀ σ H Q, t' σ H Q → t σ H Q) : PT X e t' := ⟨fun pins s σ H Q I q => h.run pins s σ H Q I (f σ H Q q)⟩
theorem PA.imp {X : Cx} {es : List Expr} {t t' : TA} (h : PA X es t) (f : ∀ σ H Q, t' σ H Q → t σ H Q) : PA X es t' := ⟨fun pos pins s σ H Q I q => h.run pos pins s σ H Q I (f σ H Q q)⟩
end HP

set_option Elab.async false
set_option linter.all false
set_option autoImplicit false
set_option maxRecDepth 100000
set_option maxHeartbeats 4000000
/-! The operations on values: what the layer's rules say of them. -/
namespace HP
open PySem L2

theorem lim_le : lim ≤ sizeLine := by decide
theorem lim_lt {n : Nat} (h : n < lim) : n < sizeLine := Nat.lt_of_lt_of_le h lim_le
theorem str_len {x : Str} {s : List Nat} (h : x.cps.toList = s) : x.length = s.length := by
  subst h
  show x.cps.size = _
  simp
theorem str_eq {x y : Str} (h : x.cps.toList = y.cps.toList) : x = y := by
  obtain ⟨a⟩ := x
  obtain ⟨b⟩ := y
  simp at h
  rw [h]

/-! ### data -/
mutual
def cv : PD → PyData
  | .non => .none
  | .bl b => .bool b
  | .int i => .int i
  | .str s => .str ⟨s.toArray⟩
  | .tup vs => .tuple (cvs vs)
  | .lst vs => .list (cvs vs)
def cvs : List PD → List PyData
  | [] => []
  | v :: vs => cv v :: cvs vs
end
mutual
theorem eqD_cv : ∀ a b : PD, PyData.eqv (cv a) (cv b) = eqD a b
  | .non, b => by cases b <;> simp [cv, eqD, PyData.eqv]
  | .bl a, b => by cases b <;> simp [cv, eqD, PyData.eqv]
  | .int i, b => by cases b <;> simp [cv, eqD, PyData.eqv]
  | .str s, b => by
    cases b <;> simp [cv, eqD, PyData.eqv]
    rw [Bool.eq_iff_iff]
    simp
  | .tup vs, b => by
    cases b <;> simp [cv, eqD, PyData.eqv]
    exact eqDs_cv _ _
  | .lst vs, b => by
    cases b <;> simp [cv, eqD, PyData.eqv]
    exact eqDs_cv _ _
theorem eqDs_cv : ∀ a b : List PD, PyData.eqvAll (cvs a) (cvs b) = eqDs a b
  | [], b => by cases b <;> simp [cvs, eqDs, PyData.eqvAll]
  | x :: xs, b => by
    cases b with
    | nil => simp [cvs, eqDs, PyData.eqvAll]
    | cons y ys => simp [cvs, eqDs, PyData.eqvAll, eqD_cv x y, eqDs_cv xs ys]
end

section
variable {K : Kx} {M : Mem} {ρ : List Addr} {H : Hp}
/-- what is known of a value's data -/
def DOk (K : Kx) (H : Hp) (k : Nat) (u : V) (d : PD) : Prop := Dp K.K H u (cv d) ∧ (cv d).canLay0 = true ∧ (cv d).depth ≤ k
theorem allD_ok {k : Nat} {f : PV → Option PD} (hf : ∀ v u d, VR K ρ H v u → f v = some d → DOk K H k u d) : ∀ (vs : List PV) (us : List V) (ds : List PD), VRs K ρ H vs us → allD f vs = some ds →
    DpAll K.K H us (cvs ds) ∧ PyData.canLayAll0 (cvs ds) = true ∧ PyData.depthAll (cvs ds) ≤ k
  | [], us, ds, h, e => by
    cases e
    rw [h.nil]
    exact ⟨.nil, by simp [cvs, PyData.canLayAll0], by simp [cvs, PyData.depthAll]⟩
  | v :: vs, us, ds, h, e => by
    obtain ⟨u, ur, rfl, a, b⟩ := h.inv
    unfold allD at e
    cases e1 : f v with
    | none => rw [e1] at e; cases e
    | some d =>
      rw [e1] at e
      cases e2 : allD f vs with
      | none => rw [e2] at e; cases e
      | some ds' =>
        rw [e2] at e
        cases e
        obtain ⟨p1, p2, p3⟩ := hf v u d a e1
        obtain ⟨q1, q2, q3⟩ := allD_ok hf vs ur ds' b e2
        exact ⟨.cons p1 q1, by simp [cvs, PyData.canLayAll0, p2, q2], by simp only [cvs, PyData.depthAll]; omega⟩
theorem toD_ok (m : MemR K M ρ H) : ∀ (k : Nat) (v : PV) (u : V) (d : PD), VR K ρ H v u → toD M k v = some d → DOk K H k u d
  | 0, v, u, d, _, e => by cases e
  | k + 1, v, u, d, r, e => by
    unfold toD at e
    cases v with
    | non =>
      cases e
      unfold VR at r
      subst r
      exact ⟨.non, rfl, by simp [cv, PyData.depth]⟩
    | bl b =>
      cases e
      unfold VR at r
      subst r
      exact ⟨.bl b, rfl, by simp [cv, PyData.depth]⟩
    | int b =>
      cases e
      unfold VR at r
      subst r
      exact ⟨.int b, rfl, by simp [cv, PyData.depth]⟩
    | str s =>
      · cases e
        unfold VR at r
        obtain ⟨x, rfl, hx, hs⟩ := r
        subst hx
        have e1 : (⟨x.cps.toList.toArray⟩ : Str) = x := str_eq (by simp)
        refine ⟨?_, ?_, by simp [cv, PyData.depth]⟩
        · show Dp K.K H (.str x) (.str ⟨x.cps.toList.toArray⟩)
          rw [e1]
          exact .str x
        · show PySem.PyData.strOk ⟨x.cps.toList.toArray⟩ = true
          rw [e1]
          unfold PySem.PyData.strOk
          rw [← Array.all_toList]
          exact hs
    | tup vs =>
      unfold VR at r
      obtain ⟨a, us, rfl, t, rs⟩ := r
      simp only at e
      split at e
      · rename_i ds hd
        cases e
        obtain ⟨q1, q2, q3⟩ := allD_ok (toD_ok m k) vs us ds rs hd
        exact ⟨.tup t.sq q1, q2, by simp only [cv, PyData.depth]; omega⟩
      · cases e
    | rol vs =>
      unfold VR at r
      obtain ⟨a, us, rfl, t, rs⟩ := r
      simp only at e
      split at e
      · rename_i ds hd
        cases e
        obtain ⟨q1, q2, q3⟩ := allD_ok (toD_ok m k) vs us ds rs hd
        exact ⟨.lst t.sq q1, q2, by simp only [cv, PyData.depth]; omega⟩
      · cases e
    | ref n =>
      unfold VR at r
      obtain ⟨a, rfl, ha⟩ := r
      simp only at e
      split at e
      · rename_i xs hx
        split at e
        · rename_i ds hd
          cases e
          obtain ⟨us, hu, rs⟩ := m.lst hx ha
          obtain ⟨q1, q2, q3⟩ := allD_ok (toD_ok m k) xs us ds rs hd
          exact ⟨.lst (SqL.of hu) q1, q2, by simp only [cv, PyData.depth]; omega⟩
        · cases e
      · cases e
    | obj c ns fs => cases e
    | rod ks vs => cases e
    | ty c => cases e

/-! ### two-place operations -/
/-- the reading of an operation by its outcome (which is no exception) -/
def Pv (K : Kx) (ρ : List Addr) (H : Hp) (r : Res PV) (Q : VK) : Prop :=
  match r with
  | .ok v M' => ∀ ρ' H', Fw ρ ρ' H H' → MemR K M' ρ' H' → ∀ u, VR K ρ' H' v u → Q u H'
  | _ => False
def rG (K : Kx) (o : O2) : R2 := fun x y H Q => ∃ M ρ a b, MemR K M ρ H ∧ VR K ρ H a x ∧ VR K ρ H b y ∧ Pv K ρ H (op2 o a b M) Q
theorem Pv.val {v : PV} {u : V} {Q : VK} (h : Pv K ρ H (.ok v M) Q) (m : MemR K M ρ H) (r : VR K ρ H v u) : Q u H := h ρ H Fw.refl m u r
theorem vr_int {i : Int} : VR K ρ H (.int i) (.int i) := by unfold VR; rfl
theorem vr_bl {b : Bool} : VR K ρ H (.bl b) (.bl b) := by unfold VR; rfl
theorem vr_non : VR K ρ H .non .non := by unfold VR; rfl
theorem vr_str {s : List Nat} {x : Str} (h : x.cps.toList = s) (hv : vstr s = true) : VR K ρ H (.str s) (.str x) := by unfold VR; exact ⟨x, rfl, h, hv⟩
theorem VR.vs {s : List Nat} {u : V} (h : VR K ρ H (.str s) u) : vstr s = true := by unfold VR at h; obtain ⟨_, _, _, q⟩ := h; exact q
theorem vstr_app {s t : List Nat} (h : vstr s = true) (k : vstr t = true) : vstr (s ++ t) = true := by
  unfold vstr at *
  rw [List.all_append, h, k]
  rfl
theorem vstr_mem {s : List Nat} {c j : Nat} (h : vstr s = true) (k : s[j]? = some c) : vstr [c] = true := by
  unfold vstr at *
  rw [List.all_eq_true] at h
  simpa using h c (List.mem_of_getElem? k)
theorem vr_tup {vs : List PV} {us : List V} {a : Addr} (t : TR K H a us) (r : VRs K ρ H vs us) : VR K ρ H (.tup vs) (.ref a) := by unfold VR; exact ⟨a, us, rfl, t, r⟩
theorem vr_rol {vs : List PV} {us : List V} {a : Addr} (t : LR K H a us) (r : VRs K ρ H vs us) : VR K ρ H (.rol vs) (.ref a) := by unfold VR; exact ⟨a, us, rfl, t, r⟩
theorem vr_ref {n : Nat} {a : Addr} (h : ρ[n]? = some a) : VR K ρ H (.ref n) (.ref a) := by unfold VR; exact ⟨a, rfl, h⟩
theorem VR.int_ {i : Int} {u : V} (h : VR K ρ H (.int i) u) : u = .int i := by unfold VR at h; exact h
theorem VR.bl_ {i : Bool} {u : V} (h : VR K ρ H (.bl i) u) : u = .bl i := by unfold VR at h; exact h
theorem VR.non_ {u : V} (h : VR K ρ H .non u) : u = .non := by unfold VR at h; exact h
theorem VR.str_ {s : List Nat} {u : V} (h : VR K ρ H (.str s) u) : ∃ x : Str, u = .str x ∧ x.cps.toList = s := by unfold VR at h; obtain ⟨x, e, q, _⟩ := h; exact ⟨x, e, q⟩
theorem VR.tup_ {vs : List PV} {u : V} (h : VR K ρ H (.tup vs) u) : ∃ a us, u = .ref a ∧ TR K H a us ∧ VRs K ρ H vs us := by unfold VR at h; exact h
theorem VR.rol_ {vs : List PV} {u : V} (h : VR K ρ H (.rol vs) u) : ∃ a us, u = .ref a ∧ LR K H a us ∧ VRs K ρ H vs us := by unfold VR at h; exact h
theorem VR.rod_ {ks vs : List PV} {u : V} (h : VR K ρ H (.rod ks vs) u) : ∃ a us, u = .ref a ∧ RodK K a ks us ∧ VRs K ρ H vs us := by unfold VR at h; exact h
theorem VR.ref_ {n : Nat} {u : V} (h : VR K ρ H (.ref n) u) : ∃ a, u = .ref a ∧ ρ[n]? = some a := by unfold VR at h; exact h
/-- a new tuple as an outcome -/
theorem Pv.tup {vs : List PV} {us : List V} {Q : VK} (h : Pv K ρ H (.ok (.tup vs) M) Q) (m : MemR K M ρ H) (r : VRs K ρ H vs us) {p : Addr} (hp : H p = none) : Q (.ref p) (upd H p (.tup us)) :=
  h ρ _ (Fw.side hp) (m.side hp) _ (vr_tup (.inl upd_same) (r.mono m.own (Fw.side hp)))
/-- a new list as an outcome -/
theorem Pv.lst {vs : List PV} {us : List V} {Q : VK} (h : Pv K ρ H (.ok (.ref M.length) (M ++ [.lst vs])) Q) (m : MemR K M ρ H) (r : VRs K ρ H vs us) {p : Addr} (hp : H p = none) : Q (.ref p) (upd H p (.lst us)) :=
  h (ρ ++ [p]) _ (Fw.push hp) (m.push hp r) _ (vr_ref (by rw [← m.len]; simp))
end

theorem VRs.rep {K : Kx} {ρ : List Addr} {H : Hp} {vs : List PV} {us : List V} (h : VRs K ρ H vs us) : ∀ n : Nat, VRs K ρ H (List.replicate n vs).flatten (List.replicate n us).flatten
  | 0 => by simpa using vrs_nil
  | n + 1 => by
    rw [List.replicate_succ, List.replicate_succ, List.flatten_cons, List.flatten_cons]
    exact h.append (VRs.rep h n)
theorem TR.nil {K : Kx} {ρ : List Addr} {H : Hp} {vs : List PV} {us : List V} (r : VRs K ρ H vs us) : us = [] ↔ vs = [] := by
  rw [← List.length_eq_zero_iff, ← List.length_eq_zero_iff, r.length]

section
variable {X : Cx} {Z : Zx}
theorem or_add : OpR X (binaryOp .Add) (rG (kx X Z) .add) := by
  intro pins s σ H x y v u Q I rx ry h
  obtain ⟨M, ρ, a, b, m, ra, rb, h⟩ := h
  unfold op2 at h
  cases a <;> try exact h.elim
  case int i =>
    cases b <;> try exact h.elim
    case int j =>
      cases ra.int_
      cases rb.int_
      exact op_add pins s σ H _ _ _ _ Q I rx ry ⟨i, j, rfl, rfl, h.val m vr_int⟩
  case str s =>
    cases b <;> try exact h.elim
    case str t =>
      have vv := vstr_app ra.vs rb.vs
      obtain ⟨x1, rfl, e1⟩ := ra.str_
      obtain ⟨x2, rfl, e2⟩ := rb.str_
      simp only at h
      split at h
      · rename_i hl
        refine op_add_str pins _ σ H _ _ _ _ Q I rx ry ⟨x1, x2, rfl, rfl, ?_, h.val m (vr_str ?_ vv)⟩
        · rw [str_len e1, str_len e2]
          exact Nat.le_trans hl lim_le
        · show (x1.cps ++ x2.cps).toList = _
          rw [Array.toList_append, e1, e2]
      · exact h.elim
  case tup xs =>
    cases b <;> try exact h.elim
    case tup ys =>
      obtain ⟨p, us, rfl, t1, r1⟩ := ra.tup_
      obtain ⟨q, ws, rfl, t2, r2⟩ := rb.tup_
      simp only at h
      split at h
      · rename_i hl
        refine op_catA pins s σ H _ _ _ _ Q I rx ry ⟨p, q, us, ws, rfl, rfl, t1.sq, t2.sq, ?_, fun hx => ?_, fun hx hy => ?_, fun hx hy z hz => h.tup m (r1.append r2) hz⟩
        · rw [r1.length, r2.length]
          exact Nat.le_trans hl lim_le
        · rw [(TR.nil r1).mp hx] at h
          exact h.val m (vr_tup t2 r2)
        · rw [(TR.nil r2).mp hy, List.append_nil] at h
          exact h.val m (vr_tup t1 r1)
      · exact h.elim
  case ref n =>
    cases b <;> try exact h.elim
    case ref k =>
      obtain ⟨p, rfl, e1⟩ := ra.ref_
      obtain ⟨q, rfl, e2⟩ := rb.ref_
      simp only at h
      split at h
      · rename_i xs hx
        split at h
        · rename_i ys hy
          split at h
          · rename_i hl
            obtain ⟨us, hu, r1⟩ := m.lst hx e1
            obtain ⟨ws, hw, r2⟩ := m.lst hy e2
            refine op_cat pins s σ H _ _ _ _ Q I rx ry ⟨p, q, us, ws, rfl, rfl, hu, hw, ?_, fun z hz => h.lst m (r1.append r2) hz⟩
            rw [r1.length, r2.length]
            exact Nat.le_trans hl lim_le
          · exact h.elim
        · exact h.elim
      · exact h.elim
theorem or_sub : OpR X (binaryOp .Sub) (rG (kx X Z) .sub) := by
  intro pins s σ H x y v u Q I rx ry h
  obtain ⟨M, ρ, a, b, m, ra, rb, h⟩ := h
  unfold op2 at h
  cases a <;> try exact h.elim
  cases b <;> try exact h.elim
  cases ra.int_
  cases rb.int_
  exact op_sub pins s σ H _ _ _ _ Q I rx ry ⟨_, _, rfl, rfl, h.val m vr_int⟩
theorem small_iff {i : Int} (h : small i = true) : -(2 ^ 64) < i ∧ i < 2 ^ 64 := by
  unfold small at h
  simpa using h
theorem or_mul : OpR X (binaryOp .Mult) (rG (kx X Z) .mul) := by
  intro pins s σ H x y v u Q I rx ry h
  obtain ⟨M, ρ, a, b, m, ra, rb, h⟩ := h
  unfold op2 at h
  cases a <;> try exact h.elim
  case int i =>
    cases b <;> try exact h.elim
    cases ra.int_
    cases rb.int_
    simp only at h
    split at h
    · rename_i hs
      refine op_mul pins s σ H _ _ _ _ Q I rx ry ⟨_, _, rfl, rfl, ?_, h.val m vr_int⟩
      rw [Bool.or_eq_true] at hs
      rcases hs with hs | hs
      · exact .inl (small_iff hs)
      · exact .inr (small_iff hs)
    · exact h.elim
  case tup xs =>
    cases b <;> try exact h.elim
    cases rb.int_
    simp only at h
    split at h
    · rename_i hs
      obtain ⟨p, us, rfl, t, rr⟩ := ra.tup_
      exact op_repT pins s σ H _ _ _ _ Q I rx ry ⟨p, _, us, rfl, rfl, t.sq, fun z => hs.1 ((TR.nil rr).mp z), hs.2.1, hs.2.2.1, by rw [rr.length]; exact hs.2.2.2, fun z hz => h.tup m (rr.rep _) hz⟩
    · exact h.elim
  case ref n =>
    cases b <;> try exact h.elim
    cases rb.int_
    obtain ⟨p, rfl, e1⟩ := ra.ref_
    simp only at h
    split at h
    · rename_i xs hx
      obtain ⟨us, hu, rr⟩ := m.lst hx e1
      split at h
      · rename_i hs
        exact op_rep pins s σ H _ _ _ _ Q I rx ry ⟨p, _, us, rfl, rfl, hu, hs.1, hs.2.1, by rw [rr.length]; exact Nat.le_trans hs.2.2 lim_le, fun z hz => h.lst m (rr.rep _) hz⟩
      · exact h.elim
    · exact h.elim
theorem or_fdiv : OpR X (binaryOp .FloorDiv) (rG (kx X Z) .fdiv) := by
  intro pins s σ H x y v u Q I rx ry h
  obtain ⟨M, ρ, a, b, m, ra, rb, h⟩ := h
  unfold op2 at h
  cases a <;> try exact h.elim
  cases b <;> try exact h.elim
  cases ra.int_
  cases rb.int_
  simp only at h
  split at h
  · rename_i hs
    exact op_fdivW pins s σ H _ _ _ _ Q I rx ry ⟨_, _, rfl, rfl, wide_div hs.1 (b := 64) (by omega) (by decide) (by decide), h.val m vr_int⟩
  · exact h.elim
theorem or_mod : OpR X (binaryOp .Mod) (rG (kx X Z) .mod) := by
  intro pins s σ H x y v u Q I rx ry h
  obtain ⟨M, ρ, a, b, m, ra, rb, h⟩ := h
  unfold op2 at h
  cases a <;> try exact h.elim
  cases b <;> try exact h.elim
  cases ra.int_
  cases rb.int_
  simp only at h
  split at h
  · rename_i hs
    exact op_mod pins s σ H _ _ _ _ Q I rx ry ⟨_, _, rfl, rfl, hs, h.val m vr_int⟩
  · exact h.elim
theorem or_pow : OpR X (binaryOp .Pow) (rG (kx X Z) .pow) := by
  intro pins s σ H x y v u Q I rx ry h
  obtain ⟨M, ρ, a, b, m, ra, rb, h⟩ := h
  unfold op2 at h
  cases a <;> try exact h.elim
  cases b <;> try exact h.elim
  cases ra.int_
  cases rb.int_
  simp only at h
  split at h
  · rename_i hs
    exact op_pow pins s σ H _ _ _ _ Q I rx ry ⟨_, _, rfl, rfl, hs, h.val m vr_int⟩
  · exact h.elim
theorem eqS_toD {a b : PV} {r : Bool} {M : Mem} {k : Nat} (h : eqS a b = some r) : ∃ d e, toD M (k + 1) a = some d ∧ toD M (k + 1) b = some e ∧ eqD d e = r := by
  cases a <;> first | (cases h; done) | (cases b <;> first | (cases h; done) | (cases h; exact ⟨_, _, rfl, rfl, rfl⟩))
theorem eqPV_toD {a b : PV} {r : Bool} {M : Mem} (h : eqPV M a b = some r) : ∃ d e, toD M 60 a = some d ∧ toD M 60 b = some e ∧ eqD d e = r := by
  unfold eqPV at h
  split at h
  · rename_i r' hr
    cases h
    exact eqS_toD hr
  · split at h
    · rename_i d hd
      split at h
      · rename_i e he
        cases h
        exact ⟨d, e, hd, he, rfl⟩
      · cases h
    · cases h
theorem eqPV_ok {K : Kx} {M : Mem} {ρ : List Addr} {H : Hp} {a b : PV} {x y : V} {r : Bool} (m : MemR K M ρ H) (ra : VR K ρ H a x) (rb : VR K ρ H b y) (h : eqPV M a b = some r) :
    ∃ d e, Dp K.K H x d ∧ Dp K.K H y e ∧ SeqAt.shaped d = true ∧ SeqAt.shaped e = true ∧ PyData.eqv d e = r := by
  obtain ⟨d, e, h1, h2, rfl⟩ := eqPV_toD h
  obtain ⟨p1, p2, p3⟩ := toD_ok m 60 a x d ra h1
  obtain ⟨q1, q2, q3⟩ := toD_ok m 60 b y e rb h2
  refine ⟨cv d, cv e, p1, q1, ?_, ?_, eqD_cv d e⟩
  · unfold SeqAt.shaped
    rw [p2, Bool.true_and]
    exact decide_eq_true (by omega)
  · unfold SeqAt.shaped
    rw [q2, Bool.true_and]
    exact decide_eq_true (by omega)
theorem or_eq (hu : X.A.units + 64 < cLine) : OpR X (compareOp .Eq) (rG (kx X Z) .eq) := by
  intro pins s σ H x y v u Q I rx ry h
  obtain ⟨M, ρ, a, b, m, ra, rb, h⟩ := h
  unfold op2 at h
  simp only at h
  split at h
  · rename_i r hr
    obtain ⟨d, e, p1, p2, p3, p4, p5⟩ := eqPV_ok m ra rb hr
    exact op_eqD hu pins s σ H _ _ _ _ Q I rx ry ⟨d, e, p1, p2, p3, p4, by rw [p5]; exact h.val m vr_bl⟩
  · exact h.elim
theorem or_ne (hu : X.A.units + 64 < cLine) : OpR X (compareOp .NotEq) (rG (kx X Z) .ne) := by
  intro pins s σ H x y v u Q I rx ry h
  obtain ⟨M, ρ, a, b, m, ra, rb, h⟩ := h
  unfold op2 at h
  simp only at h
  split at h
  · rename_i r hr
    obtain ⟨d, e, p1, p2, p3, p4, p5⟩ := eqPV_ok m ra rb hr
    exact op_neD hu pins s σ H _ _ _ _ Q I rx ry ⟨d, e, p1, p2, p3, p4, by rw [p5]; exact h.val m vr_bl⟩
  · exact h.elim
theorem ltL_iff : ∀ a b : List Nat, ltL a b = decide (a < b)
  | [], [] => by simp [ltL]
  | [], y :: ys => by simp [ltL]
  | x :: xs, [] => by simp [ltL]
  | x :: xs, y :: ys => by
    unfold ltL
    simp only
    rw [ltL_iff xs ys, Bool.eq_iff_iff]
    rw [decide_eq_true_eq, List.cons_lt_cons_iff]
    split
    · rename_i h
      simp [h]
    · rename_i h
      split
      · rename_i h2
        simp at h2
        subst h2
        simp
      · rename_i h2
        simp at h2
        simp [h, h2]
theorem or_lt : OpR X (compareOp .Lt) (rG (kx X Z) .lt) := by
  intro pins s σ H x y v u Q I rx ry h
  obtain ⟨M, ρ, a, b, m, ra, rb, h⟩ := h
  unfold op2 at h
  cases a <;> try exact h.elim
  case int i =>
    cases b <;> try exact h.elim
    cases ra.int_
    cases rb.int_
    exact op_lt pins s σ H _ _ _ _ Q I rx ry ⟨_, _, rfl, rfl, h.val m vr_bl⟩
  case str a =>
    cases b <;> try exact h.elim
    obtain ⟨x1, rfl, e1⟩ := ra.str_
    obtain ⟨x2, rfl, e2⟩ := rb.str_
    subst e1 e2
    simp only [ltL_iff] at h
    exact op_lt_str pins s σ H _ _ _ _ Q I rx ry ⟨_, _, rfl, rfl, h.val m vr_bl⟩
theorem or_le : OpR X (compareOp .LtE) (rG (kx X Z) .le) := by
  intro pins s σ H x y v u Q I rx ry h
  obtain ⟨M, ρ, a, b, m, ra, rb, h⟩ := h
  unfold op2 at h
  cases a <;> try exact h.elim
  case int i =>
    cases b <;> try exact h.elim
    cases ra.int_
    cases rb.int_
    exact op_le pins s σ H _ _ _ _ Q I rx ry ⟨_, _, rfl, rfl, h.val m vr_bl⟩
  case str a =>
    cases b <;> try exact h.elim
    obtain ⟨x1, rfl, e1⟩ := ra.str_
    obtain ⟨x2, rfl, e2⟩ := rb.str_
    subst e1 e2
    simp only [ltL_iff] at h
    exact op_le_str pins s σ H _ _ _ _ Q I rx ry ⟨_, _, rfl, rfl, h.val m vr_bl⟩
theorem or_gt : OpR X (compareOp .Gt) (rG (kx X Z) .gt) := by
  intro pins s σ H x y v u Q I rx ry h
  obtain ⟨M, ρ, a, b, m, ra, rb, h⟩ := h
  unfold op2 at h
  cases a <;> try exact h.elim
  case int i =>
    cases b <;> try exact h.elim
    cases ra.int_
    cases rb.int_
    exact op_gt pins s σ H _ _ _ _ Q I rx ry ⟨_, _, rfl, rfl, h.val m vr_bl⟩
  case str a =>
    cases b <;> try exact h.elim
    obtain ⟨x1, rfl, e1⟩ := ra.str_
    obtain ⟨x2, rfl, e2⟩ := rb.str_
    subst e1 e2
    simp only [ltL_iff] at h
    exact op_gt_str pins s σ H _ _ _ _ Q I rx ry ⟨_, _, rfl, rfl, h.val m vr_bl⟩
theorem or_ge : OpR X (compareOp .GtE) (rG (kx X Z) .ge) := by
  intro pins s σ H x y v u Q I rx ry h
  obtain ⟨M, ρ, a, b, m, ra, rb, h⟩ := h
  unfold op2 at h
  cases a <;> try exact h.elim
  case int i =>
    cases b <;> try exact h.elim
    cases ra.int_
    cases rb.int_
    exact op_ge pins s σ H _ _ _ _ Q I rx ry ⟨_, _, rfl, rfl, h.val m vr_bl⟩
  case str a =>
    cases b <;> try exact h.elim
    obtain ⟨x1, rfl, e1⟩ := ra.str_
    obtain ⟨x2, rfl, e2⟩ := rb.str_
    subst e1 e2
    simp only [ltL_iff] at h
    exact op_ge_str pins s σ H _ _ _ _ Q I rx ry ⟨_, _, rfl, rfl, h.val m vr_bl⟩
theorem or_is : OpR X (compareOp .Is) (rG (kx X Z) .is) := by
  intro pins s σ H x y v u Q I rx ry h
  obtain ⟨M, ρ, a, b, m, ra, rb, h⟩ := h
  unfold op2 at h
  cases b <;> try exact h.elim
  case non =>
    cases rb.non_
    refine op_isN pins s σ H _ _ _ _ Q I rx ry ⟨rfl, ?_⟩
    cases a
    case non =>
      cases ra.non_
      simpa using h.val m vr_bl
    case bl => cases ra.bl_; simpa using h.val m vr_bl
    case int => cases ra.int_; simpa using h.val m vr_bl
    case str => obtain ⟨_, rfl, _⟩ := ra.str_; simpa using h.val m vr_bl
    case tup => obtain ⟨_, _, rfl, _⟩ := ra.tup_; simpa using h.val m vr_bl
    case rol => obtain ⟨_, _, rfl, _⟩ := ra.rol_; simpa using h.val m vr_bl
    case ref => obtain ⟨_, rfl, _⟩ := ra.ref_; simpa using h.val m vr_bl
    case obj => unfold VR at ra; obtain ⟨_, _, _, rfl, _⟩ := ra; simpa using h.val m vr_bl
    case rod => unfold VR at ra; obtain ⟨_, _, rfl, _⟩ := ra; simpa using h.val m vr_bl
    case ty T =>
      unfold VR at ra
      cases T <;> first | (cases ra; simpa using h.val m vr_bl) | (obtain ⟨rfl, _⟩ := ra; simpa using h.val m vr_bl)
  case bl k =>
    cases rb.bl_
    cases (show u = Value.bool k from ry)
    cases a
    case bl j =>
      cases ra.bl_
      exact op_isBl pins s σ H (.bl j) (.bl k) _ _ Q I rx (show RelV (.bl k) (.bool k) from rfl) ⟨j, k, rfl, rfl, h.val m vr_bl⟩
    case non =>
      cases ra.non_
      cases (show v = Value.none from rx)
      exact wpAny_is_other rfl (fun z => nomatch z) ⟨.bl false, H, I, rfl, h.val m vr_bl⟩
    case int => cases ra.int_; obtain ⟨t, rfl⟩ := rx; exact wpAny_is_other rfl (fun z => nomatch z) ⟨.bl false, H, I, rfl, h.val m vr_bl⟩
    case str => obtain ⟨_, rfl, _⟩ := ra.str_; obtain ⟨t, rfl⟩ := rx; exact wpAny_is_other rfl (fun z => nomatch z) ⟨.bl false, H, I, rfl, h.val m vr_bl⟩
    case tup => obtain ⟨_, _, rfl, _⟩ := ra.tup_; cases rx; exact wpAny_is_other rfl (fun z => nomatch z) ⟨.bl false, H, I, rfl, h.val m vr_bl⟩
    case rol => obtain ⟨_, _, rfl, _⟩ := ra.rol_; cases rx; exact wpAny_is_other rfl (fun z => nomatch z) ⟨.bl false, H, I, rfl, h.val m vr_bl⟩
    case ref => obtain ⟨_, rfl, _⟩ := ra.ref_; cases rx; exact wpAny_is_other rfl (fun z => nomatch z) ⟨.bl false, H, I, rfl, h.val m vr_bl⟩
    case obj => unfold VR at ra; obtain ⟨_, _, _, rfl, _⟩ := ra; cases rx; exact wpAny_is_other rfl (fun z => nomatch z) ⟨.bl false, H, I, rfl, h.val m vr_bl⟩
    case rod => unfold VR at ra; obtain ⟨_, _, rfl, _⟩ := ra; cases rx; exact wpAny_is_other rfl (fun z => nomatch z) ⟨.bl false, H, I, rfl, h.val m vr_bl⟩
    case ty T =>
      unfold VR at ra
      cases T <;> first | (cases ra; cases rx; exact wpAny_is_other rfl (fun z => nomatch z) ⟨.bl false, H, I, rfl, h.val m vr_bl⟩) | (obtain ⟨rfl, _⟩ := ra; cases rx; exact wpAny_is_other rfl (fun z => nomatch z) ⟨.bl false, H, I, rfl, h.val m vr_bl⟩)
theorem or_isnot : OpR X (compareOp .IsNot) (rG (kx X Z) .isnot) := by
  intro pins s σ H x y v u Q I rx ry h
  obtain ⟨M, ρ, a, b, m, ra, rb, h⟩ := h
  unfold op2 at h
  cases b <;> try exact h.elim
  case non =>
    cases rb.non_
    refine op_notN pins s σ H _ _ _ _ Q I rx ry ⟨rfl, ?_⟩
    cases a
    case non =>
      cases ra.non_
      simpa using h.val m vr_bl
    case bl => cases ra.bl_; simpa using h.val m vr_bl
    case int => cases ra.int_; simpa using h.val m vr_bl
    case str => obtain ⟨_, rfl, _⟩ := ra.str_; simpa using h.val m vr_bl
    case tup => obtain ⟨_, _, rfl, _⟩ := ra.tup_; simpa using h.val m vr_bl
    case rol => obtain ⟨_, _, rfl, _⟩ := ra.rol_; simpa using h.val m vr_bl
    case ref => obtain ⟨_, rfl, _⟩ := ra.ref_; simpa using h.val m vr_bl
    case obj => unfold VR at ra; obtain ⟨_, _, _, rfl, _⟩ := ra; simpa using h.val m vr_bl
    case rod => unfold VR at ra; obtain ⟨_, _, rfl, _⟩ := ra; simpa using h.val m vr_bl
    case ty T =>
      unfold VR at ra
      cases T <;> first | (cases ra; simpa using h.val m vr_bl) | (obtain ⟨rfl, _⟩ := ra; simpa using h.val m vr_bl)
  case bl k =>
    cases rb.bl_
    cases (show u = Value.bool k from ry)
    cases a
    case bl j =>
      cases ra.bl_
      exact op_notBl pins s σ H (.bl j) (.bl k) _ _ Q I rx (show RelV (.bl k) (.bool k) from rfl) ⟨j, k, rfl, rfl, h.val m vr_bl⟩
    case non =>
      cases ra.non_
      cases (show v = Value.none from rx)
      exact wpAny_isNot_other rfl (fun z => nomatch z) ⟨.bl true, H, I, rfl, h.val m vr_bl⟩
    case int => cases ra.int_; obtain ⟨t, rfl⟩ := rx; exact wpAny_isNot_other rfl (fun z => nomatch z) ⟨.bl true, H, I, rfl, h.val m vr_bl⟩
    case str => obtain ⟨_, rfl, _⟩ := ra.str_; obtain ⟨t, rfl⟩ := rx; exact wpAny_isNot_other rfl (fun z => nomatch z) ⟨.bl true, H, I, rfl, h.val m vr_bl⟩
    case tup => obtain ⟨_, _, rfl, _⟩ := ra.tup_; cases rx; exact wpAny_isNot_other rfl (fun z => nomatch z) ⟨.bl true, H, I, rfl, h.val m vr_bl⟩
    case rol => obtain ⟨_, _, rfl, _⟩ := ra.rol_; cases rx; exact wpAny_isNot_other rfl (fun z => nomatch z) ⟨.bl true, H, I, rfl, h.val m vr_bl⟩
    case ref => obtain ⟨_, rfl, _⟩ := ra.ref_; cases rx; exact wpAny_isNot_other rfl (fun z => nomatch z) ⟨.bl true, H, I, rfl, h.val m vr_bl⟩
    case obj => unfold VR at ra; obtain ⟨_, _, _, rfl, _⟩ := ra; cases rx; exact wpAny_isNot_other rfl (fun z => nomatch z) ⟨.bl true, H, I, rfl, h.val m vr_bl⟩
    case rod => unfold VR at ra; obtain ⟨_, _, rfl, _⟩ := ra; cases rx; exact wpAny_isNot_other rfl (fun z => nomatch z) ⟨.bl true, H, I, rfl, h.val m vr_bl⟩
    case ty T =>
      unfold VR at ra
      cases T <;> first | (cases ra; cases rx; exact wpAny_isNot_other rfl (fun z => nomatch z) ⟨.bl true, H, I, rfl, h.val m vr_bl⟩) | (obtain ⟨rfl, _⟩ := ra; cases rx; exact wpAny_isNot_other rfl (fun z => nomatch z) ⟨.bl true, H, I, rfl, h.val m vr_bl⟩)
/-! ### in -/
theorem in_data {K : Kx} {M : Mem} {ρ : List Addr} {H : Hp} {a : PV} {x : V} {d : PD} {xs : List PV} {us : List V} {ds : List PD} (m : MemR K M ρ H) (ra : VR K ρ H a x) (rr : VRs K ρ H xs us) (h1 : toD M 60 a = some d) (h2 : allD (toD M 60) xs = some ds) :
    Dp K.K H x (cv d) ∧ SeqAt.shaped (cv d) = true ∧ DpAll K.K H us (cvs ds) ∧ PyData.canLayAll0 (cvs ds) = true ∧ PyData.depthAll (cvs ds) ≤ 60 ∧ ((cvs ds).any fun z => PyData.eqv z (cv d)) = ds.any fun z => eqD z d := by
  obtain ⟨p1, p2, p3⟩ := toD_ok m 60 a x d ra h1
  obtain ⟨q1, q2, q3⟩ := allD_ok (toD_ok m 60) xs us ds rr h2
  refine ⟨p1, ?_, q1, q2, q3, ?_⟩
  · unfold SeqAt.shaped
    rw [p2, Bool.true_and]
    exact decide_eq_true (by omega)
  · clear q1 q2 q3 h2
    induction ds with
    | nil => rfl
    | cons e es ih =>
      simp only [cvs, List.any_cons, eqD_cv, ih]
theorem in_any (hu : X.A.units + 65 < cLine) {pins : List (Addr × Obj)} {s : Shared} {σ : St} {H : Hp} {x y : V} {v u : Value} {M : Mem} {ρ : List Addr} {a b : PV} {r : Bool} (I : Inv X pins σ H s) (rx : RelV x v) (ry : RelV y u) (m : MemR (kx X Z) M ρ H) (ra : VR (kx X Z) ρ H a x) (rb : VR (kx X Z) ρ H b y) (h : inPV M a b = some r) (Q : VK) (E : Value → Shared → Prop) :
    (Q (.bl r) H → wpAny (model X.prog X.w) X.A (compareOp .In v u) (EP X pins σ Q) X.xe s) ∧ (Q (.bl (!r)) H → wpAny (model X.prog X.w) X.A (compareOp .NotIn v u) (EP X pins σ Q) X.xe s) := by
  have seq : ∀ {xs : List PV} {us : List V} {d : PD} {ds : List PD}, toD M 60 a = some d → allD (toD M 60) xs = some ds → VRs (kx X Z) ρ H xs us → r = (ds.any fun z => eqD z d) → (∃ p, y = .ref p ∧ (SqL X.K H p us ∨ SqT X.K H p us)) →
      (Q (.bl r) H → wpAny (model X.prog X.w) X.A (compareOp .In v u) (EP X pins σ Q) X.xe s) ∧ (Q (.bl (!r)) H → wpAny (model X.prog X.w) X.A (compareOp .NotIn v u) (EP X pins σ Q) X.xe s) := by
    intro xs us d ds h1 h2 rr er hp
    obtain ⟨p1, p2, p3, p4, p5, p6⟩ := in_data m ra rr h1 h2
    obtain ⟨p, rfl, hs⟩ := hp
    rw [← p6] at er
    subst er
    obtain ⟨as, r1⟩ := Dp.reads I _ x v p1 rx
    have hl : PyData.canLay0 (cv d) = true := SeqAt.canLay_of_shaped p2
    rcases hs with hs | hs
    · obtain ⟨bs, r2⟩ := Dp.reads I (.list (cvs ds)) (.ref p) u (.lst hs p3) ry
      exact ⟨fun q => SeqAt.in_list_reads r2 r1 p4 hl (PyProof.Rows.room_in_shaped p2 hu) ⟨.bl _, H, I, rfl, q⟩, fun q => SeqAt.notIn_list_reads r2 r1 p4 hl (PyProof.Rows.room_in_shaped p2 hu) ⟨.bl _, H, I, rfl, q⟩⟩
    · obtain ⟨bs, r2⟩ := Dp.reads I (.tuple (cvs ds)) (.ref p) u (.tup hs p3) ry
      exact ⟨fun q => SeqAt.in_tuple_reads r2 r1 p4 hl (PyProof.Rows.room_in_shaped p2 hu) ⟨.bl _, H, I, rfl, q⟩, fun q => SeqAt.notIn_tuple_reads r2 r1 p4 hl (PyProof.Rows.room_in_shaped p2 hu) ⟨.bl _, H, I, rfl, q⟩⟩
  unfold inPV at h
  split at h
  · rename_i xs
    split at h
    · rename_i d hd
      split at h
      · rename_i ds hds
        cases h
        obtain ⟨p, us, e, t, rr⟩ := rb.tup_
        exact seq hd hds rr rfl ⟨p, e, .inr t.sq⟩
      · cases h
    · cases h
  · rename_i xs
    split at h
    · rename_i d hd
      split at h
      · rename_i ds hds
        cases h
        obtain ⟨p, us, e, t, rr⟩ := rb.rol_
        exact seq hd hds rr rfl ⟨p, e, .inl t.sq⟩
      · cases h
    · cases h
  · rename_i n
    obtain ⟨p, e, e1⟩ := rb.ref_
    split at h
    · rename_i xs hx
      obtain ⟨us, hus, rr⟩ := m.lst hx e1
      split at h
      · rename_i d hd
        split at h
        · rename_i ds hds
          cases h
          exact seq hd hds rr rfl ⟨p, e, .inl (SqL.of hus)⟩
        · cases h
      · cases h
    · cases h
  · rename_i ks vs
    split at h
    · rename_i t
      cases h
      obtain ⟨z, rfl, ez⟩ := ra.str_
      subst ez
      obtain ⟨p, us, rfl, hk, rr⟩ := rb.rod_
      obtain ⟨es, n, D, hz⟩ := hk
      have hz := hz z
      have key : ∃ o : Option Value, PySem.W.nsIn X.K p z = some o ∧ o.isSome = (keyIx z.cps.toList ks).isSome := by
        cases hi : keyIx z.cps.toList ks with
        | none =>
          rw [hi] at hz
          exact ⟨none, hz, rfl⟩
        | some j =>
          rw [hi] at hz
          obtain ⟨u0, uv, _, h2, _⟩ := hz
          exact ⟨some uv, h2, rfl⟩
      obtain ⟨o, h1, h2⟩ := key
      exact ⟨fun q => op_in_kd D pins s σ H _ _ _ _ Q I rx ry ⟨z, o, rfl, rfl, h1, by rw [h2]; exact q⟩, fun q => op_notIn_kd D pins s σ H _ _ _ _ Q I rx ry ⟨z, o, rfl, rfl, h1, by rw [h2]; exact q⟩⟩
    · cases h
  · rename_i t
    split at h
    · rename_i s0
      split at h
      rotate_left
      · cases h
      rename_i c
      cases h
      obtain ⟨z, rfl, ez⟩ := ra.str_
      obtain ⟨y, rfl, ey⟩ := rb.str_
      subst ey
      have e1 : z = ⟨#[c]⟩ := str_eq (by rw [ez])
      subst e1
      exact ⟨fun q => op_in_sign pins s σ H _ _ _ _ Q I rx ry ⟨c, y, rfl, rfl, q⟩, fun q => op_notIn_sign pins s σ H _ _ _ _ Q I rx ry ⟨c, y, rfl, rfl, q⟩⟩
    · cases h
  · cases h
theorem or_mem (hu : X.A.units + 65 < cLine) : OpR X (compareOp .In) (rG (kx X Z) .mem) := by
  intro pins s σ H x y v u Q I rx ry h
  obtain ⟨M, ρ, a, b, m, ra, rb, h⟩ := h
  unfold op2 at h
  simp only at h
  split at h
  · rename_i r hr
    exact (in_any hu I rx ry m ra rb hr Q X.xe).1 (h.val m vr_bl)
  · exact h.elim
theorem or_notin (hu : X.A.units + 65 < cLine) : OpR X (compareOp .NotIn) (rG (kx X Z) .notin) := by
  intro pins s σ H x y v u Q I rx ry h
  obtain ⟨M, ρ, a, b, m, ra, rb, h⟩ := h
  unfold op2 at h
  simp only at h
  split at h
  · rename_i r hr
    exact (in_any hu I rx ry m ra rb hr Q X.xe).2 (h.val m vr_bl)
  · exact h.elim
/-! ### an item -/
theorem ixP_eq (n : Nat) (i : Int) : ixP n i = ixN n i := rfl
theorem getI_ok {K : Kx} {ρ : List Addr} {H : Hp} {xs : List PV} {us : List V} {i : Int} {v : PV} (r : VRs K ρ H xs us) (h : getI xs i = some v) : ∃ u, atI us i = some u ∧ VR K ρ H v u := by
  unfold getI at h
  rw [ixP_eq] at h
  split at h
  · rename_i j hj
    obtain ⟨u, hu, ru⟩ := r.get h
    refine ⟨u, ?_, ru⟩
    unfold atI
    rw [r.length, hj]
    exact hu
  · cases h
theorem ixr_idx : IxR X (rG (kx X Z) .idx) := by
  intro value slice pins s σ H x y v u Q I rx ry h hs
  obtain ⟨M, ρ, a, b, m, ra, rb, h⟩ := h
  unfold op2 at h
  cases b <;> try exact h.elim
  case str s' =>
    cases a <;> try exact h.elim
    case rod ks vs =>
    obtain ⟨z, rfl, ez⟩ := rb.str_
    subst ez
    obtain ⟨p, us, rfl, hk, rr⟩ := ra.rod_
    obtain ⟨es, n, D, hz⟩ := hk
    have hz := hz z
    simp only at h
    split at h
    · rename_i j hj
      rw [hj] at hz
      obtain ⟨u0, uv, h1, h2, h3⟩ := hz
      split at h
      · rename_i w hw
        obtain ⟨u1, hu1, r1⟩ := rr.get hw
        rw [h1] at hu1
        cases hu1
        exact ix_kdict value slice pins s σ H _ _ v u Q I rx ry ⟨p, z, u0, rfl, rfl, ⟨es, n, uv, D.at_, D.lit, h2, h3⟩, h.val m r1⟩ hs
      · exact h.elim
    · exact h.elim
  case int i =>
  cases rb.int_
  cases a <;> try exact h.elim
  case str s' =>
    have vv := ra.vs
    obtain ⟨x1, rfl, e1⟩ := ra.str_
    subst e1
    simp only at h
    split at h
    · rename_i hl
      split at h
      · rename_i j hj
        split at h
        · rename_i c hc
          refine ix_str value slice pins s σ H _ _ v u Q I rx ry ⟨x1, _, c, rfl, rfl, ?_, ?_, h.val m (vr_str rfl (vstr_mem vv hc))⟩ hs
          · rw [str_len rfl]
            exact Nat.le_trans hl lim_le
          · unfold atI
            rw [← ixP_eq, hj]
            exact hc
        · exact h.elim
      · exact h.elim
    · exact h.elim
  case tup xs =>
    obtain ⟨p, us, rfl, t, r⟩ := ra.tup_
    simp only at h
    split at h
    · rename_i w hw
      obtain ⟨z, hz, rz⟩ := getI_ok r hw
      exact ix_tup value slice pins s σ H _ _ v u Q I rx ry ⟨p, us, _, z, rfl, rfl, t.sq, hz, h.val m rz⟩ hs
    · exact h.elim
  case rol xs =>
    obtain ⟨p, us, rfl, t, r⟩ := ra.rol_
    simp only at h
    split at h
    · rename_i w hw
      obtain ⟨z, hz, rz⟩ := getI_ok r hw
      exact ix_list value slice pins s σ H _ _ v u Q I rx ry ⟨p, us, _, z, rfl, rfl, t.sq, hz, h.val m rz⟩ hs
    · exact h.elim
  case ref n =>
    obtain ⟨p, rfl, e1⟩ := ra.ref_
    simp only at h
    split at h
    · rename_i xs hx
      split at h
      · rename_i w hw
        obtain ⟨us, hu, r⟩ := m.lst hx e1
        obtain ⟨z, hz, rz⟩ := getI_ok r hw
        exact ix_list value slice pins s σ H _ _ v u Q I rx ry ⟨p, us, _, z, rfl, rfl, SqL.of hu, hz, h.val m rz⟩ hs
      · exact h.elim
    · exact h.elim
/-! ### one-place operations -/
def rG1 (K : Kx) (o : O1) : V → Hp → VK → Prop := fun x H Q => ∃ M ρ a, MemR K M ρ H ∧ VR K ρ H a x ∧ Pv K ρ H (op1 o a M) Q
theorem ur_neg : UnR X (unaryOp .USub) (rG1 (kx X Z) .neg) := by
  intro pins s σ H x v Q I rx h
  obtain ⟨M, ρ, a, m, ra, h⟩ := h
  unfold op1 at h
  cases a <;> try exact h.elim
  cases ra.int_
  exact un_neg pins s σ H _ _ Q I rx ⟨_, rfl, h.val m vr_int⟩
/-! ### calls of what is built in -/
def rGn (K : Kx) (o : On) : List V → Hp → VK → Prop := fun xs H Q => ∃ M ρ as, MemR K M ρ H ∧ VRs K ρ H as xs ∧ Pv K ρ H (opn o as M) Q
theorem one_inv {K : Kx} {ρ : List Addr} {H : Hp} {a : PV} {us : List V} (h : VRs K ρ H [a] us) : ∃ u, us = [u] ∧ VR K ρ H a u := by
  obtain ⟨u, ur, rfl, r, t⟩ := h.inv
  cases t.nil
  exact ⟨u, rfl, r⟩
theorem two_inv {K : Kx} {ρ : List Addr} {H : Hp} {a b : PV} {us : List V} (h : VRs K ρ H [a, b] us) : ∃ u v, us = [u, v] ∧ VR K ρ H a u ∧ VR K ρ H b v := by
  obtain ⟨u, ur, rfl, r, t⟩ := h.inv
  obtain ⟨v, rfl, r2⟩ := one_inv t
  exact ⟨u, v, rfl, r, r2⟩
theorem cr_len : CallR X (.builtin "len") (rGn (kx X Z) .len) := by
  intro pins s σ H xs us Q I r h
  obtain ⟨M, ρ, as, m, ra, h⟩ := h
  unfold opn at h
  simp only at h
  split at h
  · obtain ⟨u, rfl, q⟩ := one_inv ra
    obtain ⟨p, ws, rfl, t, rr⟩ := q.tup_
    exact call_len pins s σ H _ us Q I r ⟨_, ws.length, rfl, .inr ⟨ws, t.sq, rfl⟩, by rw [rr.length]; exact h.val m vr_int⟩
  · obtain ⟨u, rfl, q⟩ := one_inv ra
    obtain ⟨p, ws, rfl, t, rr⟩ := q.rol_
    exact call_len pins s σ H _ us Q I r ⟨_, ws.length, rfl, .inl ⟨ws, t.sq, rfl⟩, by rw [rr.length]; exact h.val m vr_int⟩
  · obtain ⟨u, rfl, q⟩ := one_inv ra
    obtain ⟨x, rfl, e⟩ := q.str_
    split at h
    · rename_i hl
      refine call_len pins s σ H _ us Q I r ⟨_, x.length, rfl, ⟨?_, rfl⟩, by rw [str_len e]; exact h.val m vr_int⟩
      rw [str_len e]
      exact Nat.le_trans hl lim_le
    · exact h.elim
  · obtain ⟨u, rfl, q⟩ := one_inv ra
    obtain ⟨p, rfl, e⟩ := q.ref_
    split at h
    · rename_i xs hx
      obtain ⟨ws, hw, rr⟩ := m.lst hx e
      exact call_len pins s σ H _ us Q I r ⟨_, ws.length, rfl, .inl ⟨ws, SqL.of hw, rfl⟩, by rw [rr.length]; exact h.val m vr_int⟩
    · exact h.elim
  · exact h.elim
theorem cr_abs : CallR X (.builtin "abs") (rGn (kx X Z) .abs) := by
  intro pins s σ H xs us Q I r h
  obtain ⟨M, ρ, as, m, ra, h⟩ := h
  unfold opn at h
  simp only at h
  split at h
  · obtain ⟨u, rfl, q⟩ := one_inv ra
    cases q.int_
    exact call_abs pins s σ H _ us Q I r ⟨_, rfl, h.val m vr_int⟩
  · exact h.elim
theorem cr_int : CallR X (.type "int") (rGn (kx X Z) .int) := by
  intro pins s σ H xs us Q I r h
  obtain ⟨M, ρ, as, m, ra, h⟩ := h
  unfold opn at h
  simp only at h
  split at h
  · obtain ⟨u, rfl, q⟩ := one_inv ra
    cases q.int_
    exact call_int1 pins s σ H _ us Q I r (.inl ⟨_, rfl, h.val m vr_int⟩)
  · obtain ⟨u, rfl, q⟩ := one_inv ra
    cases q.bl_
    exact call_int1 pins s σ H _ us Q I r (.inr ⟨_, rfl, h.val m vr_int⟩)
  · exact h.elim
theorem cr_list : CallR X (.type "list") (rGn (kx X Z) .list) := by
  intro pins s σ H xs us Q I r h
  obtain ⟨M, ρ, as, m, ra, h⟩ := h
  unfold opn at h
  simp only at h
  split at h
  · obtain ⟨u, rfl, q⟩ := one_inv ra
    obtain ⟨p, ws, rfl, t, rr⟩ := q.tup_
    exact call_list_of pins s σ H _ us Q I r ⟨p, ws, rfl, .inr t.sq, fun l hl => h.lst m rr hl⟩
  · obtain ⟨u, rfl, q⟩ := one_inv ra
    obtain ⟨p, ws, rfl, t, rr⟩ := q.rol_
    exact call_list_of pins s σ H _ us Q I r ⟨p, ws, rfl, .inl t.sq, fun l hl => h.lst m rr hl⟩
  · obtain ⟨u, rfl, q⟩ := one_inv ra
    obtain ⟨p, rfl, e⟩ := q.ref_
    split at h
    · rename_i xs hx
      obtain ⟨ws, hw, rr⟩ := m.lst hx e
      exact call_list_of pins s σ H _ us Q I r ⟨p, ws, rfl, .inl (SqL.of hw), fun l hl => h.lst m rr hl⟩
    · exact h.elim
  · exact h.elim
theorem cr_tuple : CallR X (.type "tuple") (rGn (kx X Z) .tuple) := by
  intro pins s σ H xs us Q I r h
  obtain ⟨M, ρ, as, m, ra, h⟩ := h
  unfold opn at h
  simp only at h
  split at h
  · obtain ⟨u, rfl, q⟩ := one_inv ra
    obtain ⟨p, ws, rfl, t, rr⟩ := q.tup_
    exact call_tuple_of pins s σ H _ us Q I r ⟨p, ws, rfl, .inr ⟨t.sq, h.val m (vr_tup t rr)⟩⟩
  · obtain ⟨u, rfl, q⟩ := one_inv ra
    obtain ⟨p, ws, rfl, t, rr⟩ := q.rol_
    exact call_tuple_of pins s σ H _ us Q I r ⟨p, ws, rfl, .inl ⟨t.sq, fun l hl => h.tup m rr hl⟩⟩
  · obtain ⟨u, rfl, q⟩ := one_inv ra
    obtain ⟨p, rfl, e⟩ := q.ref_
    split at h
    · rename_i xs hx
      obtain ⟨ws, hw, rr⟩ := m.lst hx e
      exact call_tuple_of pins s σ H _ us Q I r ⟨p, ws, rfl, .inl ⟨SqL.of hw, fun l hl => h.tup m rr hl⟩⟩
    · exact h.elim
  · exact h.elim
/-- a method, by the receiver and the arguments -/
def rGm (K : Kx) (o : On) : V → List V → Hp → VK → Prop := fun x xs H Q => ∃ M ρ a as, MemR K M ρ H ∧ VR K ρ H a x ∧ VRs K ρ H as xs ∧ Pv K ρ H (opn o (a :: as) M) Q
theorem mr_append : MtM X "list.append" (rGm (kx X Z) .append) := by
  intro pins s σ H x xs v us Q I rx r h
  obtain ⟨M, ρ, a, as, m, ra, rs, h⟩ := h
  unfold opn at h
  simp only at h
  split at h
  · rename_i n w e
    cases e
    obtain ⟨y, rfl, ry⟩ := one_inv rs
    obtain ⟨p, rfl, e⟩ := ra.ref_
    split at h
    · rename_i ys hy
      split at h
      · rename_i hl
        obtain ⟨ws, hw, rr⟩ := m.lst hy e
        refine mt_append pins s σ H _ _ v us Q I rx r ⟨p, ws, y, rfl, rfl, hw, ?_, ?_⟩
        · rw [rr.length]
          exact lim_lt hl
        · exact h ρ _ (Fw.write (List.mem_of_getElem? e)) (m.write e (rr.append (vrs_cons ry vrs_nil))) _ vr_non
      · exact h.elim
    · exact h.elim
  · exact h.elim
/-! ### isinstance, truth -/
/-- what is asked of the text's classes -/
structure ClsF (K : Kx) : Prop where
  bo : ∀ c T, c < K.Z.nc → T ∈ ["NoneType", "bool", "int", "str", "tuple", "list", "dict"] → PySem.W.kitOne K.K (.type T) (.ref (K.Z.cls c)) = some false
def clsU (K : Kx) : Ty → Value
  | .own c => .ref (K.Z.cls c)
  | T => .type (tyS T)
theorem kd_ty {K : Kx} (F : ClsF K) {k : Kd} {t : String} {T : Ty} {b : Bool} (hT : ∀ c, T = .own c → c < K.Z.nc) (h : isK k T = some b)
    (hk : (k = .non ∧ t = "NoneType") ∨ (k = .bl ∧ t = "bool") ∨ (k = .int ∧ t = "int") ∨ (k = .str ∧ t = "str") ∨ (k = .tup ∧ t = "tuple") ∨ (k = .lst ∧ t = "list") ∨ (k = .dic ∧ t = "dict")) : PySem.W.kitOne K.K (.type t) (clsU K T) = some b := by
  rcases hk with ⟨rfl, rfl⟩ | ⟨rfl, rfl⟩ | ⟨rfl, rfl⟩ | ⟨rfl, rfl⟩ | ⟨rfl, rfl⟩ | ⟨rfl, rfl⟩ | ⟨rfl, rfl⟩ <;> cases T <;> cases h <;> first | exact kit_ty (by decide +kernel) | exact F.bo _ _ (hT _ rfl) (by decide)
theorem ty_of {M : Mem} {ρ : List Addr} {H : Hp} {v : PV} {u : V} {T : Ty} {b : Bool} (F : ClsF (kx X Z)) (hT : ∀ c, T = .own c → c < Z.nc) (m : MemR (kx X Z) M ρ H) (r : VR (kx X Z) ρ H v u) (h : isi v M T = some b) : ∃ t, TyX X.K H u (.type t) ∧ PySem.W.kitOne X.K (.type t) (clsU (kx X Z) T) = some b := by
  unfold isi at h
  split at h
  rotate_left
  · cases h
  rename_i k hk
  have fin : ∀ t, (k = .non ∧ t = "NoneType") ∨ (k = .bl ∧ t = "bool") ∨ (k = .int ∧ t = "int") ∨ (k = .str ∧ t = "str") ∨ (k = .tup ∧ t = "tuple") ∨ (k = .lst ∧ t = "list") ∨ (k = .dic ∧ t = "dict") → PySem.W.kitOne X.K (.type t) (clsU (kx X Z) T) = some b := fun t z => kd_ty (K := kx X Z) F hT h z
  cases v
  case non =>
    cases r.non_
    cases hk
    exact ⟨_, .base .non, fin _ (by simp)⟩
  case bl j =>
    cases r.bl_
    cases hk
    exact ⟨_, .base (.bl j), fin _ (by simp)⟩
  case int j =>
    cases r.int_
    cases hk
    exact ⟨_, .base (.int j), fin _ (by simp)⟩
  case str j =>
    obtain ⟨x, rfl, _⟩ := r.str_
    cases hk
    exact ⟨_, .base (.str x), fin _ (by simp)⟩
  case tup vs =>
    obtain ⟨p, us, rfl, t, _⟩ := r.tup_
    cases hk
    refine ⟨"tuple", ?_, fin _ (by simp)⟩
    rcases t with t | ⟨o, t⟩ | t
    · exact .base (.tup t)
    · exact .fTuple t
    · rcases t (fun _ => none) with (t | ⟨_, t⟩) | ⟨o, its, n, e1, e2, _⟩
      · cases t
      · cases t
      · exact .kTuple e1 e2
  case rol vs =>
    obtain ⟨p, us, rfl, t, _⟩ := r.rol_
    cases hk
    refine ⟨"list", ?_, fin _ (by simp)⟩
    rcases t with ⟨o, t⟩ | t
    · exact .base (.frz t)
    · rcases t (fun _ => none) with (t | ⟨_, t⟩) | ⟨o, its, n, e1, e2, _⟩
      · cases t
      · cases t
      · exact .kList e1 e2
  case ref n =>
    obtain ⟨p, rfl, e⟩ := r.ref_
    unfold kd at hk
    simp only at hk
    cases hM : M[n]? with
    | none => rw [hM] at hk; cases hk
    | some c =>
      rw [hM] at hk
      cases c with
      | lst xs =>
        cases hk
        obtain ⟨us, hu, _⟩ := m.lst hM e
        exact ⟨"list", .base (.lst hu), fin _ (by simp)⟩
      | dic _ _ => cases hk
      | ins _ _ _ => cases hk
  case obj => cases hk
  case rod ks vs =>
    obtain ⟨p, us, rfl, ⟨es, n, D, _⟩, _⟩ := r.rod_
    cases hk
    exact ⟨"dict", .kDict D.at_ rfl, fin _ (by simp)⟩
  case ty => cases hk
theorem ty_v {K : Kx} {ρ : List Addr} {H : Hp} {T : Ty} {c : V} (r : VR K ρ H (.ty T) c) : ClsV c (clsU K T) ∧ ∀ d, T = .own d → d < K.Z.nc := by
  unfold VR at r
  cases T
  case own d =>
    obtain ⟨rfl, h⟩ := r
    exact ⟨.own _, fun e he => by cases he; exact h⟩
  all_goals
    subst r
    exact ⟨.ty _, fun e he => nomatch he⟩
theorem cr_isi (F : ClsF (kx X Z)) : CallR X (.builtin "isinstance") (rGn (kx X Z) .isi) := by
  intro pins s σ H xs us Q I r h
  obtain ⟨M, ρ, as, m, ra, h⟩ := h
  unfold opn at h
  simp only at h
  split at h
  · rename_i v T
    obtain ⟨u, c, rfl, r1, r2⟩ := two_inv ra
    split at h
    · rename_i b hb
      obtain ⟨k1, k2⟩ := ty_v r2
      obtain ⟨ty, h1, h2⟩ := ty_of F k2 m r1 hb
      exact call_isi pins s σ H _ us Q I r ⟨u, c, .type ty, clsU (kx X Z) T, b, rfl, k1, h1, h2, h.val m vr_bl⟩
    · exact h.elim
  · exact h.elim
/-! ### of a list of ints, of truths -/
theorem ints_of {K : Kx} {ρ : List Addr} {H : Hp} : ∀ {xs : List PV} {us : List V} {is : List Int}, VRs K ρ H xs us → intsV xs = some is → us = is.map V.int
  | [], us, is, r, h => by
    cases h
    exact r.nil
  | x :: xs, us, is, r, h => by
    obtain ⟨u, ur, rfl, a, b⟩ := r.inv
    unfold intsV at h
    split at h
    · rename_i i
      split at h
      · rename_i js hj
        cases h
        rw [a.int_, ints_of b hj]
        rfl
      · cases h
    · cases h
theorem bls_of {K : Kx} {ρ : List Addr} {H : Hp} : ∀ {xs : List PV} {us : List V} {is : List Bool}, VRs K ρ H xs us → blsV xs = some is → us = is.map V.bl
  | [], us, is, r, h => by
    cases h
    exact r.nil
  | x :: xs, us, is, r, h => by
    obtain ⟨u, ur, rfl, a, b⟩ := r.inv
    unfold blsV at h
    split at h
    · rename_i i
      split at h
      · rename_i js hj
        cases h
        rw [a.bl_, bls_of b hj]
        rfl
      · cases h
    · cases h
theorem foldl_max : ∀ (is : List Int) (i m : Int), m ∈ i :: is → (∀ y ∈ i :: is, y ≤ m) → is.foldl max i = m
  | [], i, m, h, _ => (List.mem_singleton.mp h).symm
  | j :: is, i, m, h, hl => by
    rw [List.foldl_cons]
    refine foldl_max is (max i j) m ?_ fun y hy => ?_
    · have h1 := hl i (by simp)
      have h2 := hl j (by simp)
      rcases List.mem_cons.mp h with rfl | h
      · rw [Int.max_eq_left h2]; simp
      · rcases List.mem_cons.mp h with rfl | h
        · rw [Int.max_eq_right h1]; simp
        · exact List.mem_cons_of_mem _ h
    · rcases List.mem_cons.mp hy with rfl | hy
      · have h1 := hl i (by simp)
        have h2 := hl j (by simp)
        omega
      · exact hl y (by simp [hy])
theorem foldl_min : ∀ (is : List Int) (i m : Int), m ∈ i :: is → (∀ y ∈ i :: is, m ≤ y) → is.foldl min i = m
  | [], i, m, h, _ => (List.mem_singleton.mp h).symm
  | j :: is, i, m, h, hl => by
    rw [List.foldl_cons]
    refine foldl_min is (min i j) m ?_ fun y hy => ?_
    · have h1 := hl i (by simp)
      have h2 := hl j (by simp)
      rcases List.mem_cons.mp h with rfl | h
      · rw [Int.min_eq_left h2]; simp
      · rcases List.mem_cons.mp h with rfl | h
        · rw [Int.min_eq_right h1]; simp
        · exact List.mem_cons_of_mem _ h
    · rcases List.mem_cons.mp hy with rfl | hy
      · have h1 := hl i (by simp)
        have h2 := hl j (by simp)
        omega
      · exact hl y (by simp [hy])
theorem cr_max_ (hc : X.calm = true) : CallR X (.builtin "max") (rGn (kx X Z) .max) := by
  intro pins s σ H xs us Q I r h
  obtain ⟨M, ρ, as, m, ra, h⟩ := h
  unfold opn at h
  simp only at h
  split at h
  · obtain ⟨u, rfl, q⟩ := one_inv ra
    obtain ⟨p, rfl, e⟩ := q.ref_
    split at h
    · rename_i xs hx
      obtain ⟨ws, hw, rr⟩ := m.lst hx e
      split at h
      · rename_i i is hi
        have eu := ints_of rr hi
        subst eu
        exact cr_max hc pins s σ H _ us Q I r ⟨p, i :: is, rfl, SqL.of hw, by simp, fun k h1 h2 => by rw [← foldl_max is i k h1 h2]; exact h.val m vr_int⟩
      · exact h.elim
    · exact h.elim
  · obtain ⟨u, v, rfl, r1, r2⟩ := two_inv ra
    cases r1.int_
    cases r2.int_
    exact call_max2 hc pins s σ H _ us Q I r ⟨_, _, rfl, h.val m vr_int⟩
  · exact h.elim
theorem cr_min_ (hc : X.calm = true) : CallR X (.builtin "min") (rGn (kx X Z) .min) := by
  intro pins s σ H xs us Q I r h
  obtain ⟨M, ρ, as, m, ra, h⟩ := h
  unfold opn at h
  simp only at h
  split at h
  · obtain ⟨u, rfl, q⟩ := one_inv ra
    obtain ⟨p, rfl, e⟩ := q.ref_
    split at h
    · rename_i xs hx
      obtain ⟨ws, hw, rr⟩ := m.lst hx e
      split at h
      · rename_i i is hi
        have eu := ints_of rr hi
        subst eu
        exact cr_min hc pins s σ H _ us Q I r ⟨p, i :: is, rfl, SqL.of hw, by simp, fun k h1 h2 => by rw [← foldl_min is i k h1 h2]; exact h.val m vr_int⟩
      · exact h.elim
    · exact h.elim
  · obtain ⟨u, v, rfl, r1, r2⟩ := two_inv ra
    cases r1.int_
    cases r2.int_
    exact call_min2 hc pins s σ H _ us Q I r ⟨_, _, rfl, h.val m vr_int⟩
  · exact h.elim
theorem cr_sum_ (hc : X.calm = true) : CallR X (.builtin "sum") (rGn (kx X Z) .sum) := by
  intro pins s σ H xs us Q I r h
  obtain ⟨M, ρ, as, m, ra, h⟩ := h
  unfold opn at h
  simp only at h
  split at h
  · obtain ⟨u, rfl, q⟩ := one_inv ra
    obtain ⟨p, rfl, e⟩ := q.ref_
    split at h
    · rename_i xs hx
      obtain ⟨ws, hw, rr⟩ := m.lst hx e
      split at h
      · rename_i is hi
        have eu := ints_of rr hi
        subst eu
        exact cr_sum hc pins s σ H _ us Q I r ⟨p, is, rfl, SqL.of hw, h.val m vr_int⟩
      · exact h.elim
    · exact h.elim
  · exact h.elim
theorem cr_all_ (hc : X.calm = true) : CallR X (.builtin "all") (rGn (kx X Z) .all) := by
  intro pins s σ H xs us Q I r h
  obtain ⟨M, ρ, as, m, ra, h⟩ := h
  unfold opn at h
  simp only at h
  split at h
  · obtain ⟨u, rfl, q⟩ := one_inv ra
    obtain ⟨p, rfl, e⟩ := q.ref_
    split at h
    · rename_i xs hx
      obtain ⟨ws, hw, rr⟩ := m.lst hx e
      split at h
      · rename_i is hi
        have eu := bls_of rr hi
        subst eu
        exact cr_all hc pins s σ H _ us Q I r ⟨p, is, rfl, SqL.of hw, h.val m vr_bl⟩
      · exact h.elim
    · exact h.elim
  · exact h.elim
theorem cr_any_ (hc : X.calm = true) : CallR X (.builtin "any") (rGn (kx X Z) .any) := by
  intro pins s σ H xs us Q I r h
  obtain ⟨M, ρ, as, m, ra, h⟩ := h
  unfold opn at h
  simp only at h
  split at h
  · obtain ⟨u, rfl, q⟩ := one_inv ra
    obtain ⟨p, rfl, e⟩ := q.ref_
    split at h
    · rename_i xs hx
      obtain ⟨ws, hw, rr⟩ := m.lst hx e
      split at h
      · rename_i is hi
        have eu := bls_of rr hi
        subst eu
        exact cr_any hc pins s σ H _ us Q I r ⟨p, is, rfl, SqL.of hw, h.val m vr_bl⟩
      · exact h.elim
    · exact h.elim
  · exact h.elim
/-- d.get(k), d of the module -/
theorem mr_dget : MtR X "dict.get" (rGm (kx X Z) .dget) := by
  intro pins s σ H x xs v us Q I rx r h
  obtain ⟨M, ρ, a, as, m, ra, rs, h⟩ := h
  unfold opn at h
  simp only at h
  split at h
  · rename_i ks vs t e
    cases e
    obtain ⟨y, rfl, ry⟩ := one_inv rs
    obtain ⟨z, rfl, ez⟩ := ry.str_
    subst ez
    obtain ⟨p, ws, rfl, hk, rr⟩ := ra.rod_
    obtain ⟨es, n, D, hz⟩ := hk
    have hz := hz z
    obtain rfl : v = Value.ref p := rx
    obtain ⟨u1, rfl, ru⟩ := vals1 r
    obtain ⟨t, rfl⟩ := ru
    have hm := PySem.W.mapOf_K (prog := X.prog) (w := X.w) I.kIn D.at_ D.lit
    have fin : ∀ o : Option Value, PySem.W.nsIn X.K p z = some o → (∀ s', Inv X pins σ H s' → EP X pins σ Q (o.getD .none) s') → wpAny (model X.prog X.w) X.A (call (.builtin "dict.get") [.ref p, .str z t]) (EP X pins σ Q) X.xe s := fun o h1 h2 => by
      refine call_meetsIn PySem.F.slot_dict_get hm.typeIs PySem.F.entry_dict_get (PySem.F.args_dict_get_2 _ _) (meets_dict_get (PySem.strKind X.prog X.w) p (PySem.strKind_is X.prog X.w z t) D.low) ⟨_, hm, ?_⟩
      rw [PySem.W.find_K D.at_ h1]
      exact h2 _ (I.tok _)
    split at h
    · rename_i j hj
      rw [hj] at hz
      obtain ⟨u0, uv, h1, h2, h3⟩ := hz
      split at h
      · rename_i w hw
        obtain ⟨u1, hu1, r1⟩ := rr.get hw
        rw [h1] at hu1
        cases hu1
        exact fin (some uv) h2 fun s' I' => ⟨u0, H, I', h3, h.val m r1⟩
      · exact h.elim
    · rename_i hj
      rw [hj] at hz
      exact fin none hz fun s' I' => ⟨.non, H, I', rfl, h.val m vr_non⟩
  · exact h.elim
theorem tru_of {K : Kx} {M : Mem} {ρ : List Addr} {H : Hp} {v : PV} {u : V} {b : Bool} (m : MemR K M ρ H) (r : VR K ρ H v u) (h : tru v M = some b) : TruV K.K u H b := by
  have ie : ∀ {xs : List PV} {us : List V}, VRs K ρ H xs us → us.isEmpty = xs.isEmpty := fun {xs us} r => by
    have := r.length
    cases xs <;> cases us <;> simp_all
  cases v
  case non => cases r.non_; cases h; rfl
  case bl => cases r.bl_; cases h; rfl
  case int => cases r.int_; cases h; rfl
  case str k =>
    obtain ⟨x, rfl, e⟩ := r.str_
    unfold tru at h
    simp only at h
    split at h
    · rename_i hl
      cases h
      refine ⟨by rw [str_len e]; exact Nat.le_trans hl lim_le, ?_⟩
      rw [str_len e, Bool.eq_iff_iff]
      simp
    · cases h
  case tup =>
    obtain ⟨p, us, rfl, t, rr⟩ := r.tup_
    cases h
    exact .inr (.inl ⟨us, t.sq, by rw [ie rr]⟩)
  case rol =>
    obtain ⟨p, us, rfl, t, rr⟩ := r.rol_
    cases h
    exact .inl ⟨us, t.sq, by rw [ie rr]⟩
  case ref n =>
    obtain ⟨p, rfl, e⟩ := r.ref_
    unfold tru at h
    simp only at h
    split at h
    · rename_i xs hx
      cases h
      obtain ⟨us, hu, rr⟩ := m.lst hx e
      exact .inl ⟨us, SqL.of hu, by rw [ie rr]⟩
    · cases h
  case obj => cases h
  case rod => cases h
  case ty => cases h
/-! ### op= -/
def rGi (K : Kx) (o : O2) : R2 := fun x y H Q => ∃ M ρ a b, MemR K M ρ H ∧ VR K ρ H a x ∧ VR K ρ H b y ∧ Pv K ρ H (iop o a b M) Q
theorem ior_add : OpR X (inplaceOp .Add) (rGi (kx X Z) .add) := by
  intro pins s σ H x y v u Q I rx ry h
  obtain ⟨M, ρ, a, b, m, ra, rb, h⟩ := h
  unfold iop op2 at h
  cases a <;> try exact h.elim
  case int i =>
    cases b <;> try exact h.elim
    cases ra.int_
    cases rb.int_
    exact iop_add pins s σ H _ _ _ _ Q I rx ry ⟨_, _, rfl, rfl, h.val m vr_int⟩
  case str s =>
    cases b <;> try exact h.elim
    have vv := vstr_app ra.vs rb.vs
    obtain ⟨x1, rfl, e1⟩ := ra.str_
    obtain ⟨x2, rfl, e2⟩ := rb.str_
    simp only at h
    split at h
    · rename_i hl
      refine iop_add_str pins _ σ H _ _ _ _ Q I rx ry ⟨x1, x2, rfl, rfl, ?_, h.val m (vr_str ?_ vv)⟩
      · rw [str_len e1, str_len e2]
        exact Nat.le_trans hl lim_le
      · show (x1.cps ++ x2.cps).toList = _
        rw [Array.toList_append, e1, e2]
    · exact h.elim
theorem ior_sub : OpR X (inplaceOp .Sub) (rGi (kx X Z) .sub) := by
  intro pins s σ H x y v u Q I rx ry h
  obtain ⟨M, ρ, a, b, m, ra, rb, h⟩ := h
  unfold iop op2 at h
  cases a <;> try exact h.elim
  cases b <;> try exact h.elim
  cases ra.int_
  cases rb.int_
  exact iop_sub pins s σ H _ _ _ _ Q I rx ry ⟨_, _, rfl, rfl, h.val m vr_int⟩
/-! ### an item by values, a store -/
theorem pget_idx : PGet X (fun x y H Q => ∃ M ρ n b, MemR (kx X Z) M ρ H ∧ VR (kx X Z) ρ H (.ref n) x ∧ VR (kx X Z) ρ H b y ∧ Pv (kx X Z) ρ H (op2 .idx (.ref n) b M) Q) := by
  intro pins s σ H x y v u Q I rx ry h
  obtain ⟨M, ρ, n, b, m, ra, rb, h⟩ := h
  unfold op2 at h
  cases b <;> try exact h.elim
  case int i =>
  cases rb.int_
  obtain ⟨p, rfl, e1⟩ := ra.ref_
  simp only at h
  split at h
  · rename_i xs hx
    split at h
    · rename_i w hw
      obtain ⟨us, hu, r⟩ := m.lst hx e1
      obtain ⟨z, hz, rz⟩ := getI_ok r hw
      cases rx
      obtain ⟨t, rfl⟩ := ry
      obtain ⟨its, r2, pl, hsz⟩ := I.list (SqL.of hu)
      obtain ⟨j, h1, h2, h3, h4, h5⟩ := atI_get hz
      obtain ⟨w', ew, rw'⟩ := r2.get h2
      have hl := r2.length
      have hn := line63
      have fin : EP X pins σ Q w' s := ⟨z, H, I, rw', h.val m rz⟩
      by_cases h0 : 0 ≤ i
      · have hj : i.toNat = j := by
          rw [seqIndex_of h0 h5] at h1
          exact Option.some.inj h1
        exact wpAny_getItem_list pl.isList h0 (by omega) (by simpa [hj] using ew) fin
      · have hj : (i + (its.toArray.size : Int)).toNat = j := by
          unfold seqIndex? at h1
          simp only [List.size_toArray]
          rw [← hl]
          split at h1 <;> first | omega | skip
          all_goals (try (simp at h1; omega))
        exact wpAny_getItem_list_neg pl.isList (by omega) (by simp only [List.size_toArray]; omega) (by omega) (by rw [hj]; simpa using ew) fin
    · exact h.elim
  · exact h.elim
/-- v[i] = x by what it leaves -/
def sG (K : Kx) : TSet := fun o i v H Q => ∃ M ρ a b c, MemR K M ρ H ∧ VR K ρ H a o ∧ VR K ρ H b i ∧ VR K ρ H c v ∧ match setL a b c M with
  | some M' => ∀ H', Fw ρ ρ H H' → MemR K M' ρ H' → Q H'
  | none => False
theorem pset_lst : PSet X (sG (kx X Z)) := by
  intro pins s σ H o i v ov iv u Q I ro ri rv h
  obtain ⟨M, ρ, a, b, c, m, ra, rb, rc, h⟩ := h
  cases a <;> try exact h.elim
  case ref n =>
  cases b <;> try exact h.elim
  case int k =>
  obtain ⟨p, rfl, e1⟩ := ra.ref_
  cases rb.int_
  unfold setL at h
  simp only at h
  cases hx : M[n]? with
  | none => simp [hx] at h
  | some cl =>
    cases cl with
    | dic _ => simp [hx] at h
    | ins _ _ => simp [hx] at h
    | lst xs =>
      simp only [hx] at h
      cases hj : ixP xs.length k with
      | none => simp [hj] at h
      | some j =>
        simp only [hj] at h
        obtain ⟨us, hu, r⟩ := m.lst hx e1
        refine set_list pins s σ H _ _ _ _ _ _ Q I ro ri rv ⟨p, us, k, j, rfl, rfl, hu, ?_, ?_⟩
        · rw [← ixP_eq, r.length]
          exact hj
        · exact h _ (Fw.write (List.mem_of_getElem? e1)) (m.write e1 (VRs.set j rc r))
end
end HP

set_option Elab.async false
set_option linter.all false
set_option autoImplicit false
set_option maxRecDepth 100000
set_option maxHeartbeats 4000000
/-! A body's text, read into plain form; what its plain form comes to is what the layer's judgements say. -/
namespace HP
open PySem L2

/-! ### no operation raises -/
theorem op2_noexc {o : O2} {a b : PV} {M M' : Mem} {c : Nat} : op2 o a b M ≠ .exc c M' := by
  intro h
  unfold op2 at h
  cases o <;> (repeat' (first | (simp only at h; done) | (split at h) | (cases h; done)))
theorem iop_noexc {o : O2} {a b : PV} {M M' : Mem} {c : Nat} : iop o a b M ≠ .exc c M' := by
  intro h
  unfold iop at h
  cases o <;> simp only at h <;> (repeat' (first | exact op2_noexc h | (split at h) | (cases h; done)))
theorem op1_noexc {o : O1} {a : PV} {M M' : Mem} {c : Nat} : op1 o a M ≠ .exc c M' := by
  intro h
  unfold op1 at h
  cases o <;> (repeat' (first | (simp only at h; done) | (split at h) | (cases h; done)))
theorem opn_noexc {o : On} {as : List PV} {M M' : Mem} {c : Nat} : opn o as M ≠ .exc c M' := by
  intro h
  unfold opn at h
  cases o <;> (repeat' (first | (simp only at h; done) | (split at h) | (cases h; done)))
theorem Pv.of {K : Kx} {W : XW} {σ : St} {ρ : List Addr} {H : Hp} {r : Res PV} {Q : VK} (h : Ps K W σ ρ H r fun v _ ρ' H' => ∀ u, VR K ρ' H' v u → Q u H') (n : ∀ c M', r ≠ .exc c M') : Pv K ρ H r Q := by
  cases r with
  | ok v M => exact h
  | exc c M => exact absurd rfl (n c M)
  | fail => exact h

/-! ### the parts of an expression, from the left -/
section
variable {K : Kx} {W : XW} {σ : St} {H : Hp} {Q : VK} {w : Wd}
/-- a value with what stands behind it -/
theorem T1.go {m : Env → Mem → Res PV} {env : Env} {M : Mem} {ρ : List Addr} (e : EnvR K ρ H env σ) (mm : MemR K M ρ H) (h : Ps K W σ ρ H (m env M) fun v M' ρ' H' => Fw ρ ρ' H H' → EnvR K ρ' H' env σ → MemR K M' ρ' H' → ∀ u, VR K ρ' H' v u → Q u H') : T1 K W m σ H Q :=
  ⟨env, M, ρ, e, mm, h.imp fun v M' ρ' H' f m' q u r => q f (e.mono mm.own f) m' u r⟩
end

section
variable {X : Cx} {Z : Zx} {W : XW} {w : Wd} {a b c : Expr} {ia ib ic : E} {pos : Pos}
theorem s_op2 {op : Operator} {o : O2} (hop : OpR X (binaryOp op) (rG (kx X Z) o)) (ha : PE X a (T1 (kx X Z) W (evE w ia))) (hb : PE X b (T1 (kx X Z) W (evE w ib))) : PE X (.BinOp a op b pos) (T1 (kx X Z) W (evE w (.op2 o ia ib))) := by
  refine PE.imp (pe_op hop ha hb) fun σ H Q h => ?_
  obtain ⟨env, M, ρ, e, m, p⟩ := h
  simp only [evE] at p
  refine T1.go e m (p.bind.imp fun x M1 ρ1 H1 f1 m1 q _ e1 _ u ru => ?_)
  refine T1.go e1 m1 (q.bind.imp fun y M2 ρ2 H2 f2 m2 q2 _ e2 _ u2 ru2 => ?_)
  exact ⟨M2, ρ2, x, y, m2, ru.mono m1.own f2, ru2, Pv.of q2 fun _ _ => op2_noexc⟩
theorem s_cmp {op : CmpOp} {o : O2} (hop : OpR X (compareOp op) (rG (kx X Z) o)) (hm : behindInMarks op b = false) (ha : PE X a (T1 (kx X Z) W (evE w ia))) (hb : PE X b (T1 (kx X Z) W (evE w ib))) : PE X (.Compare a [op] [b] pos) (T1 (kx X Z) W (evE w (.op2 o ia ib))) := by
  refine PE.imp (pe_cmpR hop ha hb hm) fun σ H Q h => ?_
  obtain ⟨env, M, ρ, e, m, p⟩ := h
  simp only [evE] at p
  refine T1.go e m (p.bind.imp fun x M1 ρ1 H1 f1 m1 q _ e1 _ u ru => ?_)
  refine T1.go e1 m1 (q.bind.imp fun y M2 ρ2 H2 f2 m2 q2 _ e2 _ u2 ru2 => ?_)
  exact ⟨M2, ρ2, x, y, m2, ru.mono m1.own f2, ru2, Pv.of q2 fun _ _ => op2_noexc⟩
theorem s_idx (hs : PlainIx b) (ha : PE X a (T1 (kx X Z) W (evE w ia))) (hb : PE X b (T1 (kx X Z) W (evE w ib))) : PE X (.Subscript a b pos) (T1 (kx X Z) W (evE w (.op2 .idx ia ib))) := by
  refine PE.imp (pe_ix (ixr_idx (Z := Z)) ha hb hs) fun σ H Q h => ?_
  obtain ⟨env, M, ρ, e, m, p⟩ := h
  simp only [evE] at p
  refine T1.go e m (p.bind.imp fun x M1 ρ1 H1 f1 m1 q _ e1 _ u ru => ?_)
  refine T1.go e1 m1 (q.bind.imp fun y M2 ρ2 H2 f2 m2 q2 _ e2 _ u2 ru2 => ?_)
  exact ⟨M2, ρ2, x, y, m2, ru.mono m1.own f2, ru2, Pv.of q2 fun _ _ => op2_noexc⟩
theorem s_op1 {op : UnaryOp} {o : O1} (hop : UnR X (unaryOp op) (rG1 (kx X Z) o)) (ha : PE X a (T1 (kx X Z) W (evE w ia))) : PE X (.UnaryOp op a pos) (T1 (kx X Z) W (evE w (.op1 o ia))) := by
  refine PE.imp (pe_un hop ha) fun σ H Q h => ?_
  obtain ⟨env, M, ρ, e, m, p⟩ := h
  simp only [evE] at p
  refine T1.go e m (p.bind.imp fun x M1 ρ1 H1 f1 m1 q _ e1 _ u ru => ?_)
  exact ⟨M1, ρ1, x, m1, ru, Pv.of q fun _ _ => op1_noexc⟩
theorem s_not (ha : PE X a (T1 (kx X Z) W (evE w ia))) : PE X (.UnaryOp .Not a pos) (T1 (kx X Z) W (evE w (.nott ia))) := by
  refine PE.imp (pe_notT ha) fun σ H Q h => ?_
  obtain ⟨env, M, ρ, e, m, p⟩ := h
  simp only [evE] at p
  refine T1.go e m (p.bind.imp fun x M1 ρ1 H1 f1 m1 q _ e1 _ u ru => ?_)
  split at q
  · rename_i k hk
    exact ⟨k, tru_of m1 ru hk, q.here m1 _ vr_bl⟩
  · exact q.elim
theorem s_var {i : Nat} {x : Str} (hN : X.N[i]? = some x) (hv : Vis X.env.scope x) (hd : (x == ("__debug__" : Str)) = false) (hcd : (x == ("__classdict__" : Str)) = false) : PE X (.Name x pos) (T1 (kx X Z) W (evE w (.var i))) := by
  refine PE.imp (pe_var hN hv hd hcd) fun σ H Q h => ?_
  obtain ⟨env, M, ρ, e, m, p⟩ := h
  simp only [evE] at p
  split at p
  · rename_i v hv
    obtain ⟨u, e1, r⟩ := e.val i v hv
    exact ⟨u, e1, p.here m _ r⟩
  · exact p.elim
theorem s_int {i : Int} {j : Nat} : PE X (.Constant (.int i) j pos) (T1 (kx X Z) W (evE w (.lit (.int i)))) := by
  refine PE.imp pe_int fun σ H Q h => ?_
  obtain ⟨env, M, ρ, e, m, p⟩ := h
  simp only [evE] at p
  exact p.here m _ vr_int
theorem s_bl {i : Bool} {j : Nat} : PE X (.Constant (.bool i) j pos) (T1 (kx X Z) W (evE w (.lit (.bl i)))) := by
  refine PE.imp pe_bl fun σ H Q h => ?_
  obtain ⟨env, M, ρ, e, m, p⟩ := h
  simp only [evE] at p
  exact p.here m _ vr_bl
theorem s_non {j : Nat} : PE X (.Constant .none j pos) (T1 (kx X Z) W (evE w (.lit .non))) := by
  refine PE.imp pe_non fun σ H Q h => ?_
  obtain ⟨env, M, ρ, e, m, p⟩ := h
  simp only [evE] at p
  exact p.here m _ vr_non
theorem s_ty {x : Str} {T : Ty} (ht : x = tyS T) (hT : ∀ c, T ≠ .own c) (hg : Gl X x) (hm : X.mg x = none) (hv : bootBuiltins x = some (.type (tyS T))) (hn : x ≠ "__name__") (hd : (x == ("__debug__" : Str)) = false) : PE X (.Name x pos) (T1 (kx X Z) W (evE w (.lit (.ty T)))) := by
  refine PE.imp (pe_bltn (v := .ty (tyS T)) hg hm hv rfl hn hd) fun σ H Q h => ?_
  obtain ⟨env, M, ρ, e, m, p⟩ := h
  simp only [evE] at p
  refine p.here m _ ?_
  unfold VR
  cases T <;> first | rfl | exact absurd rfl (hT _)
theorem s_str {x : Str} {j : Nat} (hv : vstr x.cps.toList = true) : PE X (.Constant (.str x) j pos) (T1 (kx X Z) W (evE w (.lit (.str x.cps.toList)))) := by
  refine PE.imp pe_str fun σ H Q h => ?_
  obtain ⟨env, M, ρ, e, m, p⟩ := h
  simp only [evE] at p
  exact p.here m _ (vr_str rfl hv)
/-- a constant of the module -/
theorem s_glob {g : Nat} {x : Str} {v : PV} {u : V} {uv : Value} (hg : Gl X x) (hm : X.mg x = some uv) (r : RelV u uv) (hw : w.glob g = some v) (hv : ∀ ρ H, VR (kx X Z) ρ H v u) (hd : (x == ("__debug__" : Str)) = false) : PE X (.Name x pos) (T1 (kx X Z) W (evE w (.glob g))) := by
  refine PE.imp (pe_glob hg hm r hd) fun σ H Q h => ?_
  obtain ⟨env, M, ρ, e, m, p⟩ := h
  simp only [evE, hw] at p
  exact p.here m _ (hv ρ H)
theorem s_and {rest : List Expr} (ha : PE X a (T1 (kx X Z) W (evE w ia))) (hb : PE X (.BoolOp .And (b :: rest) pos) (T1 (kx X Z) W (evE w ib))) : PE X (.BoolOp .And (a :: b :: rest) pos) (T1 (kx X Z) W (evE w (.and ia ib))) := by
  refine PE.imp (pe_andT ha hb) fun σ H Q h => ?_
  obtain ⟨env, M, ρ, e, m, p⟩ := h
  simp only [evE] at p
  refine T1.go e m (p.bind.imp fun x M1 ρ1 H1 f1 m1 q _ e1 _ u ru => ?_)
  split at q
  · rename_i k hk
    refine ⟨k, tru_of m1 ru hk, ?_⟩
    cases k with
    | true => exact ⟨env, M1, ρ1, e1, m1, q⟩
    | false => exact q.here m1 _ ru
  · exact q.elim
theorem s_or {rest : List Expr} (ha : PE X a (T1 (kx X Z) W (evE w ia))) (hb : PE X (.BoolOp .Or (b :: rest) pos) (T1 (kx X Z) W (evE w ib))) : PE X (.BoolOp .Or (a :: b :: rest) pos) (T1 (kx X Z) W (evE w (.or ia ib))) := by
  refine PE.imp (pe_orT ha hb) fun σ H Q h => ?_
  obtain ⟨env, M, ρ, e, m, p⟩ := h
  simp only [evE] at p
  refine T1.go e m (p.bind.imp fun x M1 ρ1 H1 f1 m1 q _ e1 _ u ru => ?_)
  split at q
  · rename_i k hk
    refine ⟨k, tru_of m1 ru hk, ?_⟩
    cases k with
    | true => exact q.here m1 _ ru
    | false => exact ⟨env, M1, ρ1, e1, m1, q⟩
  · exact q.elim
theorem s_one {op : BoolOp} (ha : PE X a (T1 (kx X Z) W (evE w ia))) : PE X (.BoolOp op [a] pos) (T1 (kx X Z) W (evE w ia)) := pe_one ha
theorem s_chain {op op' : CmpOp} {o p : O2} (ho : OpR X (compareOp op) (rG (kx X Z) o)) (ho' : OpR X (compareOp op') (rG (kx X Z) p)) (hm : behindInMarks op' c = false) (ha : PE X a (T1 (kx X Z) W (evE w ia))) (hb : PE X b (T1 (kx X Z) W (evE w ib))) (hc : PE X c (T1 (kx X Z) W (evE w ic))) :
    PE X (.Compare a [op, op'] [b, c] pos) (T1 (kx X Z) W (evE w (.chain o p ia ib ic))) := by
  refine PE.imp (pe_chain ho ho' ha hb hc hm) fun σ H Q h => ?_
  obtain ⟨env, M, ρ, e, m, p⟩ := h
  simp only [evE] at p
  refine T1.go e m (p.bind.imp fun x M1 ρ1 H1 f1 m1 q _ e1 _ u ru => ?_)
  refine T1.go e1 m1 (q.bind.imp fun y M2 ρ2 H2 f2 m2 q2 _ e2 _ u2 ru2 => ?_)
  refine ⟨M2, ρ2, x, y, m2, ru.mono m1.own f2, ru2, Pv.of (q2.bind.imp fun r M3 ρ3 H3 f3 m3 q3 z rz => ?_) fun _ _ => op2_noexc⟩
  split at q3
  · rename_i k
    cases rz.bl_
    refine ⟨k, rfl, ?_⟩
    cases k with
    | true =>
      refine T1.go (e2.mono m2.own f3) m3 (q3.bind.imp fun z M4 ρ4 H4 f4 m4 q4 _ e4 _ u4 ru4 => ?_)
      exact ⟨M4, ρ4, y, z, m4, (ru2.mono m2.own f3).mono m3.own f4, ru4, Pv.of q4 fun _ _ => op2_noexc⟩
    | false => exact q3.here m3 _ vr_bl
  · exact q3.elim
theorem s_ife {t : T} {tst : Expr} (ht : PT X tst (Tb (kx X Z) W (evT w t))) (ha : PE X a (T1 (kx X Z) W (evE w ia))) (hb : PE X b (T1 (kx X Z) W (evE w ib))) : PE X (.IfExp tst a b pos) (T1 (kx X Z) W (evE w (.ife t ia ib))) := by
  refine PE.imp (pe_ifExp ht ha hb) fun σ H Q h => ?_
  obtain ⟨env, M, ρ, e, m, p⟩ := h
  simp only [evE] at p
  refine ⟨env, M, ρ, e, m, p.bind.imp fun k M1 ρ1 H1 f1 m1 q => ?_⟩
  cases k with
  | true => exact ⟨env, M1, ρ1, e.mono m.own f1, m1, q⟩
  | false => exact ⟨env, M1, ρ1, e.mono m.own f1, m1, q⟩
end

/-! ### lists of expressions -/
section
variable {X : Cx} {Z : Zx} {W : XW} {w : Wd} {a : Expr} {es : List Expr} {ia : E} {is : List E} {pos : Pos}
theorem sn_nil : PA X [] (Tn (kx X Z) W (evEs w [])) := by
  refine PA.imp pa_nil fun σ H Q h => ?_
  obtain ⟨env, M, ρ, e, m, p⟩ := h
  simp only [evEs] at p
  exact p.here m _ vrs_nil
theorem sn_cons (ha : PE X a (T1 (kx X Z) W (evE w ia))) (hs : PA X es (Tn (kx X Z) W (evEs w is))) (he : starEach (a :: es) X.env = (false, eval a X.env) :: starEach es X.env) : PA X (a :: es) (Tn (kx X Z) W (evEs w (ia :: is))) := by
  refine PA.imp (pa_cons ha hs he) fun σ H Q h => ?_
  obtain ⟨env, M, ρ, e, m, p⟩ := h
  simp only [evEs] at p
  refine T1.go e m (p.bind.imp fun x M1 ρ1 H1 f1 m1 q _ e1 _ u ru => ?_)
  refine ⟨env, M1, ρ1, e1, m1, q.bind.imp fun xs M2 ρ2 H2 f2 m2 q2 us rus => ?_⟩
  exact q2.here m2 _ (vrs_cons (ru.mono m1.own f2) rus)
theorem s_tup {k : Nat} (hs : PA X es (Tn (kx X Z) W (evEs w is))) : PE X (.Tuple es k pos) (T1 (kx X Z) W (evE w (.tup is))) := by
  refine PE.imp (pe_tup hs) fun σ H Q h => ?_
  obtain ⟨env, M, ρ, e, m, p⟩ := h
  simp only [evE] at p
  refine ⟨env, M, ρ, e, m, p.bind.imp fun xs M1 ρ1 H1 f1 m1 q us rus => ?_⟩
  split at q
  · rename_i hl
    refine ⟨by rw [rus.length]; exact Nat.le_trans hl lim_le, fun z hz => ?_⟩
    exact (Pv.of q fun _ _ z => nomatch z).tup m1 rus hz
  · exact q.elim
theorem s_lst (hs : PA X es (Tn (kx X Z) W (evEs w is))) : PE X (.List es pos) (T1 (kx X Z) W (evE w (.lst is))) := by
  refine PE.imp (pe_lst hs) fun σ H Q h => ?_
  obtain ⟨env, M, ρ, e, m, p⟩ := h
  simp only [evE] at p
  refine ⟨env, M, ρ, e, m, p.bind.imp fun xs M1 ρ1 H1 f1 m1 q us rus => ?_⟩
  split at q
  · rename_i hl
    refine ⟨by rw [rus.length]; exact Nat.le_trans hl lim_le, fun z hz => ?_⟩
    exact (Pv.of q fun _ _ z => nomatch z).lst m1 rus hz
  · exact q.elim
/-- a built-in function, a built-in class -/
theorem s_callB {x : Str} {p : Pos} {id : String} {o : On} (hc : CallR X (.builtin id) (rGn (kx X Z) o)) (hg : Gl X x) (hm : X.mg x = none) (hv : bootBuiltins x = some (.builtin id)) (hs : PA X (a :: es) (Tn (kx X Z) W (evEs w is))) (hn : x ≠ "__name__") (hdb : (x == ("__debug__" : Str)) = false)
    (he : starEach (a :: es) X.env = (false, eval a X.env) :: starEach es X.env) (hpl : (backTo pos (starEach es X.env)).any (·.1) = false) : PE X (.Call (.Name x p) (a :: es) [] pos) (T1 (kx X Z) W (evE w (.opn o is))) := by
  refine PE.imp (pe_callB hc hg hm hv hs hn hdb he hpl) fun σ H Q h => ?_
  obtain ⟨env, M, ρ, e, m, p⟩ := h
  simp only [evE] at p
  exact ⟨env, M, ρ, e, m, p.bind.imp fun xs M1 ρ1 H1 f1 m1 q us rus => ⟨M1, ρ1, xs, m1, rus, Pv.of q fun _ _ => opn_noexc⟩⟩
theorem s_callTy {x : Str} {p : Pos} {id : String} {o : On} (hc : CallR X (.type id) (rGn (kx X Z) o)) (hg : Gl X x) (hm : X.mg x = none) (hv : bootBuiltins x = some (.type id)) (hs : PA X (a :: es) (Tn (kx X Z) W (evEs w is))) (hn : x ≠ "__name__") (hdb : (x == ("__debug__" : Str)) = false)
    (he : starEach (a :: es) X.env = (false, eval a X.env) :: starEach es X.env) (hpl : (backTo pos (starEach es X.env)).any (·.1) = false) : PE X (.Call (.Name x p) (a :: es) [] pos) (T1 (kx X Z) W (evE w (.opn o is))) := by
  refine PE.imp (pe_callTy hc hg hm hv hs hn hdb he hpl) fun σ H Q h => ?_
  obtain ⟨env, M, ρ, e, m, p⟩ := h
  simp only [evE] at p
  exact ⟨env, M, ρ, e, m, p.bind.imp fun xs M1 ρ1 H1 f1 m1 q us rus => ⟨M1, ρ1, xs, m1, rus, Pv.of q fun _ _ => opn_noexc⟩⟩
end
end HP

set_option Elab.async false
set_option linter.all false
set_option autoImplicit false
set_option maxRecDepth 100000
set_option maxHeartbeats 4000000
/-! .. calls, tests, what a for walks, targets, statements, loops. -/
namespace HP
open PySem L2

/-! ### forms of the text -/
def isStar : Expr → Bool
  | .Starred .. => true
  | _ => false
def noStar : List Expr → Bool
  | [] => true
  | e :: es => !isStar e && noStar es
def plainBase : Expr → Bool
  | .Call (.Name _ _) [] [] _ => false
  | _ => true
def isComp : Expr → Bool
  | .ListComp .. => true
  | .SetComp .. => true
  | .DictComp .. => true
  | _ => false
theorem star_cons {e : Expr} {es : List Expr} {env : PySem.Env} (h : isStar e = false) : starEach (e :: es) env = (false, eval e env) :: starEach es env := by
  cases e <;> first | rfl | (cases h; done)
theorem star_flags {env : PySem.Env} : ∀ {es : List Expr}, noStar es = true → ∀ x ∈ starEach es env, x.1 = false
  | [], _, x, hx => by cases hx
  | e :: es, h, x, hx => by
    unfold noStar at h
    rw [Bool.and_eq_true] at h
    have h1 : isStar e = false := by simpa using h.1
    rw [star_cons h1] at hx
    rcases List.mem_cons.mp hx with rfl | hx
    · rfl
    · exact star_flags h.2 x hx
theorem back_any {env : PySem.Env} {es : List Expr} {pos : Pos} (h : noStar es = true) : (backTo pos (starEach es env)).any (·.1) = false := by
  unfold backTo
  rw [List.any_map, List.any_eq_false]
  intro x hx
  simp [star_flags h x hx]
theorem back_all {env : PySem.Env} {es : List Expr} {pos : Pos} (h : noStar es = true) : (backTo pos (starEach es env)).all (fun x => !x.1) = true := by
  unfold backTo
  rw [List.all_map, List.all_eq_true]
  intro x hx
  simp [star_flags h x hx]
theorem base_plain {o : Expr} {attr : Str} {env : PySem.Env} {whole : Sem Value} (h : plainBase o = true) : attributeBase o attr env whole = whole := by
  unfold attributeBase
  split
  · cases h
  · rfl
theorem swaps_plain {e : Expr} {t : Option Expr} {l : Nat} {env : PySem.Env} (h : isComp e = false) : swapsWith e t l env = pure false := by
  cases e <;> first | rfl | (cases h; done)

section
variable {X : Cx} {Z : Zx} {W : XW} {w : Wd} {a o : Expr} {es : List Expr} {ia io : E} {is : List E} {pos : Pos}
/-- a built-in's method -/
def mtS : MT → String
  | .list => "list" | .str => "str" | .dict => "dict"
def tyW (K : PySem.W.Frag) (w : World) (T : String) (x : V) (H : Hp) : Prop := tyV K T x H ∨ (T = "dict" ∧ ∃ p es n, x = .ref p ∧ KDict K w p es n)
theorem tyW_is {pins : List (Addr × Obj)} {σ : St} {H : Hp} {s : Shared} {T : String} {x : V} {v : Value} (I : Inv X pins σ H s) (r : RelV x v) (ty : tyW X.K X.w T x H) : s.TypeIs v T ∧ ∀ a, v = .ref a → ∃ ob, s.heap.get? a = some ob ∧ ob.dict = none := by
  rcases ty with ty | ⟨rfl, p, es, n, rfl, D⟩
  · exact tyV_is I r ty
  · obtain rfl : v = Value.ref p := r
    exact ⟨kd_type D I, fun a e => by cases e; exact ⟨_, I.kIn _ _ D.at_, rfl⟩⟩
def tBMw (K : PySem.W.Frag) (w : World) (T : String) (r : V → List V → Hp → VK → Prop) (to : TE) (t : TA) : TE := fun σ H Q => to σ H fun x H1 => tyW K w T x H1 ∧ t σ H1 fun vs H2 => r x vs H2 Q
theorem pe_bmW {T id : String} {name : Str} {r : V → List V → Hp → VK → Prop} {o e : Expr} {es : List Expr} {to : TE} {t : TA} {apos cpos : Pos} (pa : PlainAttrs T) (slot : Slot T name id) (hty : typeOf (.builtin id) = pure (.type "method_descriptor")) (hm : MtR X id r) (ho : PE X o to) (ha : PA X (e :: es) t)
    (hbase : attributeBase o name X.env (eval o X.env) = eval o X.env)
    (hfew : ((backTo cpos (starEach (e :: es) X.env)).all (fun x => !x.1) && (backToKw cpos (keywordEach [] X.env)).all (fun x => x.1.isSome)
      && decide ((e :: es).length + ([] : List Keyword).length + (if ([] : List Keyword).isEmpty then 0 else 1) < 30)) = true)
    (hline : (apos.endLine == cpos.line) = true) (hs : starEach (e :: es) X.env = (false, eval e X.env) :: starEach es X.env) (hplain : (backTo cpos (starEach es X.env)).any (·.1) = false) :
    PE X (.Call (.Attribute o name apos) (e :: es) [] cpos) (tBMw X.K X.w T r to t) := by
  refine ⟨fun pins s σ H Q I h => ?_⟩
  refine wpAny_Call_method_late hbase hfew hline rfl (thn (ho.run pins s σ H _ I h) fun v s1 ⟨x, H1, I1, r1, ty, q1⟩ => ?_)
  obtain ⟨h1, h2⟩ := tyW_is I1 r1 ty
  refine ⟨T, id, pa, slot, hty, h1, h2, ?_⟩
  have hA := ha.run cpos pins s1 σ H1 _ I1 q1
  rw [hs] at hA ⊢
  refine Calls.callWith_builtin (by show (false || (backTo cpos (starEach es X.env)).any (·.1)) = false; rw [hplain] <;> rfl) (Calls.evalArgs_plain ?_)
  exact thn hA fun us s2 ⟨vs, H2, I2, r2, q2⟩ => hm pins s2 σ H2 x vs v us Q I2 r1 r2 q2
theorem tyV_of {M : Mem} {ρ : List Addr} {H : Hp} {v : PV} {u : V} {k : MT} (m : MemR (kx X Z) M ρ H) (r : VR (kx X Z) ρ H v u) (h : tyM k v M = true) : tyW X.K X.w (mtS k) u H := by
  unfold tyM at h
  cases k with
  | list =>
    cases v <;> try (cases h; done)
    case ref n =>
    obtain ⟨p, rfl, e⟩ := r.ref_
    simp only at h
    split at h
    · rename_i xs hx
      obtain ⟨us, hu, _⟩ := m.lst hx e
      exact .inl (.inl ⟨rfl, us, SqL.of hu⟩)
    · cases h
  | str =>
    cases v <;> try (cases h; done)
    case str s =>
    obtain ⟨x, rfl, _⟩ := r.str_
    exact .inl rfl
  | dict =>
    cases v <;> try (cases h; done)
    case rod ks vs =>
    obtain ⟨p, us, rfl, ⟨es, n, D, _⟩, _⟩ := r.rod_
    exact .inr ⟨rfl, p, es, n, rfl, D⟩
theorem s_meth {name : Str} {id : String} {k : MT} {om : On} {apos : Pos} (pa : PlainAttrs (mtS k)) (slot : Slot (mtS k) name id) (hty : typeOf (.builtin id) = pure (.type "method_descriptor")) (hm : MtR X id (rGm (kx X Z) om))
    (hb : plainBase o = true) (hs : noStar (a :: es) = true) (hn : (a :: es).length < 29) (hline : (apos.endLine == pos.line) = true) (ho : PE X o (T1 (kx X Z) W (evE w io))) (ha : PA X (a :: es) (Tn (kx X Z) W (evEs w is))) : PE X (.Call (.Attribute o name apos) (a :: es) [] pos) (T1 (kx X Z) W (evE w (.meth k om io is))) := by
  have hs2 : noStar es = true := by unfold noStar at hs; exact (Bool.and_eq_true_iff.mp hs).2
  have hs1 : isStar a = false := by unfold noStar at hs; simpa using (Bool.and_eq_true_iff.mp hs).1
  refine PE.imp (pe_bmW pa slot hty hm ho ha (base_plain hb) ?_ hline (star_cons hs1) (back_any hs2)) fun σ H Q h => ?_
  · rw [back_all hs, Bool.true_and]
    simp [keywordEach, backToKw]
    simp at hn
    omega
  · obtain ⟨env, M, ρ, e, m, p⟩ := h
    simp only [evE] at p
    refine T1.go e m (p.bind.imp fun x M1 ρ1 H1 f1 m1 q _ e1 _ u ru => ?_)
    split at q
    · rename_i ht
      refine ⟨tyV_of m1 ru ht, env, M1, ρ1, e1, m1, q.bind.imp fun vs M2 ρ2 H2 f2 m2 q2 us rus => ?_⟩
      exact ⟨M2, ρ2, x, vs, m2, ru.mono m1.own f2, rus, Pv.of q2 fun _ _ => opn_noexc⟩
    · exact q.elim
/-! ### tests -/
theorem t_val {e : Expr} (he : ∀ whole, isTrue e X.env whole = (do let v ← whole; standAt e.pos; holding [v] (truthy v))) (h : PE X e (T1 (kx X Z) W (evE w ia))) : PT X e (Tb (kx X Z) W (evT w (.val ia))) := by
  refine PT.imp (pt_truth h he) fun σ H Q h => ?_
  obtain ⟨env, M, ρ, e, m, p⟩ := h
  simp only [evT] at p
  refine T1.go e m (p.bind.imp fun x M1 ρ1 H1 f1 m1 q _ e1 _ u ru => ?_)
  split at q
  · rename_i b hb
    exact ⟨b, tru_of m1 ru hb, q.here m1⟩
  · exact q.elim
theorem t_cmp {b : Expr} {ib : E} {op : CmpOp} {o : O2} (hop : OpR X (compareOp op) (rG (kx X Z) o)) (hm : behindInMarks op b = false) (ha : PE X a (T1 (kx X Z) W (evE w ia))) (hb : PE X b (T1 (kx X Z) W (evE w ib))) : PT X (.Compare a [op] [b] pos) (Tb (kx X Z) W (evT w (.cmp o ia ib))) := by
  refine PT.imp (pt_cmpR hop ha hb hm) fun σ H Q h => ?_
  obtain ⟨env, M, ρ, e, m, p⟩ := h
  simp only [evT] at p
  refine T1.go e m (p.bind.imp fun x M1 ρ1 H1 f1 m1 q _ e1 _ u ru => ?_)
  refine T1.go e1 m1 (q.bind.imp fun y M2 ρ2 H2 f2 m2 q2 _ e2 _ u2 ru2 => ?_)
  refine ⟨M2, ρ2, x, y, m2, ru.mono m1.own f2, ru2, Pv.of (q2.bind.imp fun r M3 ρ3 H3 f3 m3 q3 z rz => ?_) fun _ _ => op2_noexc⟩
  split at q3
  · rename_i k
    cases rz.bl_
    exact ⟨k, rfl, q3.here m3⟩
  · exact q3.elim
theorem t_chain {b c : Expr} {ib ic : E} {op op' : CmpOp} {o p : O2} (ho : OpR X (compareOp op) (rG (kx X Z) o)) (ho' : OpR X (compareOp op') (rG (kx X Z) p)) (hm : behindInMarks op' c = false) (ha : PE X a (T1 (kx X Z) W (evE w ia))) (hb : PE X b (T1 (kx X Z) W (evE w ib))) (hc : PE X c (T1 (kx X Z) W (evE w ic))) :
    PT X (.Compare a [op, op'] [b, c] pos) (Tb (kx X Z) W (evT w (.chain o p ia ib ic))) := by
  refine PT.imp (pt_chain ho ho' ha hb hc hm) fun σ H Q h => ?_
  obtain ⟨env, M, ρ, e, m, p⟩ := h
  simp only [evT] at p
  refine T1.go e m (p.bind.imp fun x M1 ρ1 H1 f1 m1 q _ e1 _ u ru => ?_)
  refine T1.go e1 m1 (q.bind.imp fun y M2 ρ2 H2 f2 m2 q2 _ e2 _ u2 ru2 => ?_)
  refine ⟨M2, ρ2, x, y, m2, ru.mono m1.own f2, ru2, Pv.of (q2.bind.imp fun r M3 ρ3 H3 f3 m3 q3 z rz => ?_) fun _ _ => op2_noexc⟩
  split at q3
  · rename_i k
    cases rz.bl_
    refine ⟨k, rfl, ?_⟩
    cases k with
    | true =>
      refine T1.go (e2.mono m2.own f3) m3 (q3.bind.imp fun z M4 ρ4 H4 f4 m4 q4 _ e4 _ u4 ru4 => ?_)
      refine ⟨M4, ρ4, y, z, m4, (ru2.mono m2.own f3).mono m3.own f4, ru4, Pv.of (q4.bind.imp fun r M5 ρ5 H5 f5 m5 q5 z5 rz5 => ?_) fun _ _ => op2_noexc⟩
      split at q5
      · rename_i k5
        cases rz5.bl_
        exact ⟨k5, rfl, q5.here m5⟩
      · exact q5.elim
    | false => exact ⟨false, rfl, q3.here m3⟩
  · exact q3.elim
theorem t_not {ta : T} (h : PT X a (Tb (kx X Z) W (evT w ta))) : PT X (.UnaryOp .Not a pos) (Tb (kx X Z) W (evT w (.not ta))) := by
  refine PT.imp (pt_not h) fun σ H Q h => ?_
  obtain ⟨env, M, ρ, e, m, p⟩ := h
  simp only [evT] at p
  exact ⟨env, M, ρ, e, m, p.bind.imp fun k M1 ρ1 H1 f1 m1 q => q.here m1⟩
theorem PW.imp {e : Expr} {t t' : TT} (h : PW X e t) (f : ∀ σ H Q, t' σ H Q → t σ H Q) : PW X e t' := ⟨fun wh pins s σ H Q I q => h.run wh pins s σ H Q I (f σ H Q q)⟩
theorem t_and {b : Expr} {rest : List Expr} {ta tb : T} (h : PT X a (Tb (kx X Z) W (evT w ta))) (hb : PW X (.BoolOp .And (b :: rest) pos) (Tb (kx X Z) W (evT w tb))) : PW X (.BoolOp .And (a :: b :: rest) pos) (Tb (kx X Z) W (evT w (.and ta tb))) := by
  refine PW.imp (pw_and h hb) fun σ H Q h => ?_
  obtain ⟨env, M, ρ, e, m, p⟩ := h
  simp only [evT] at p
  refine ⟨env, M, ρ, e, m, p.bind.imp fun k M1 ρ1 H1 f1 m1 q => ?_⟩
  cases k with
  | true => exact ⟨env, M1, ρ1, e.mono m.own f1, m1, q⟩
  | false => exact q.here m1
theorem t_or {b : Expr} {rest : List Expr} {ta tb : T} (h : PT X a (Tb (kx X Z) W (evT w ta))) (hb : PW X (.BoolOp .Or (b :: rest) pos) (Tb (kx X Z) W (evT w tb))) : PW X (.BoolOp .Or (a :: b :: rest) pos) (Tb (kx X Z) W (evT w (.or ta tb))) := by
  refine PW.imp (pw_or h hb) fun σ H Q h => ?_
  obtain ⟨env, M, ρ, e, m, p⟩ := h
  simp only [evT] at p
  refine ⟨env, M, ρ, e, m, p.bind.imp fun k M1 ρ1 H1 f1 m1 q => ?_⟩
  cases k with
  | true => exact q.here m1
  | false => exact ⟨env, M1, ρ1, e.mono m.own f1, m1, q⟩
end

/-! ### calls of defs of the text -/
/-- a def's promise: what its plain form comes to -/
def spF (K : Kx) (clsV : Nat → Value) (r : List PV → Mem → Res PV) (n : Nat) : Sp := fun vs H Q E => ∃ as M ρ, as.length = n ∧ MemR K M ρ H ∧ VRs K ρ H as vs ∧
  Ps K (fun c _ H' => E (clsV c) none H') [] ρ H (r as M) fun v _ ρ' H' => ∀ u, VR K ρ' H' v u → Q u H'
/-- what is wanted of exceptions, in the layer's words -/
def wx (clsV : Nat → Value) (W : XW) : WX := fun cls d σ H => ∃ c, cls = clsV c ∧ d = none ∧ W c σ H
theorem Ps.exc {K : Kx} {W W' : XW} {σ σ' : St} {ρ : List Addr} {H : Hp} {α : Type} {r : Res α} {k : α → Mem → List Addr → Hp → Prop} (h : Ps K W σ ρ H r k) (f : ∀ c H', W c σ H' → W' c σ' H') : Ps K W' σ' ρ H r k := by
  cases r with
  | ok a M => exact h
  | exc c M => exact fun ρ' H' fw m => f c H' (h ρ' H' fw m)
  | fail => exact h
section
variable {X : Cx} {Z : Zx} {W : XW} {w : Wd} {a : Expr} {es : List Expr} {ia : E} {is : List E} {pos p : Pos} {x : Str} {clsV : Nat → Value} {k : Nat} {f : Addr} {fd : FuncData} {ps : List Str} {fi n : Nat}
theorem s_call (F : FnOk X.prog X.w X.K X.mg X.base (L2.CX X.prog X.w) k f fd ps (spF (kx X Z) clsV (w.call fi) n)) (hr : Room k X.A) (hg : Gl X x) (hm : X.mg x = some (.ref f)) (hk : PySem.W.keepIn X.K (.ref f) = true) (hb : Binds X.K fd ps [])
    (tk : Takes X (wx clsV W)) (hdb : (x == ("__debug__" : Str)) = false) (hs : noStar (a :: es) = true) (hl : is.length = n) (ha : PA X (a :: es) (Tn (kx X Z) W (evEs w is))) (hlen : ∀ env M vs M', evEs w is env M = .ok vs M' → vs.length = is.length) :
    PE X (.Call (.Name x p) (a :: es) [] pos) (T1 (kx X Z) W (evE w (.call fi is))) := by
  have hs2 : noStar es = true := by unfold noStar at hs; exact (Bool.and_eq_true_iff.mp hs).2
  have hs1 : isStar a = false := by unfold noStar at hs; simpa using (Bool.and_eq_true_iff.mp hs).1
  refine PE.imp (pe_callS F hr hg hm hk hb (fun σ => passAt tk σ) ha hdb (star_cons hs1) (back_any hs2)) fun σ H Q h => ?_
  obtain ⟨env, M, ρ, e, m, p⟩ := h
  simp only [evE] at p
  have hv := hlen env M
  refine ⟨env, M, ρ, e, m, ?_⟩
  cases hr : evEs w is env M with
  | fail =>
    rw [hr] at p
    exact p
  | exc c M1 =>
    rw [hr] at p
    exact p
  | ok vs M1 =>
    rw [hr] at p
    have q : Ps (kx X Z) W σ ρ H (w.call fi vs M1) fun v _ ρ' H' => ∀ u, VR (kx X Z) ρ' H' v u → Q u H' := p
    intro ρ1 H1 f1 m1 us rus
    refine ⟨vs, M1, ρ1, ?_, m1, rus, ?_⟩
    · rw [hv vs M1 hr, hl]
    · exact (Ps.fw f1 q).exc fun c H' z => ⟨c, rfl, rfl, z⟩
theorem s_call0 (F : FnOk X.prog X.w X.K X.mg X.base (L2.CX X.prog X.w) k f fd ps (spF (kx X Z) clsV (w.call fi) 0)) (hr : Room k X.A) (hg : Gl X x) (hm : X.mg x = some (.ref f)) (hk : PySem.W.keepIn X.K (.ref f) = true) (hb : Binds X.K fd ps [])
    (tk : Takes X (wx clsV W)) (hdb : (x == ("__debug__" : Str)) = false) : PE X (.Call (.Name x p) [] [] pos) (T1 (kx X Z) W (evE w (.call fi []))) := by
  refine ⟨fun pins s σ H Q I h => ?_⟩
  refine wpAny_Call_Name_kw (ld_glob I hg hm ?_ hdb)
  refine PySem.W.callWith_K0 I.kIn hk (run_fnSD (us := []) (vs := []) (E := fun σ => fun cls d H => wx clsV W cls d σ H) F hr hb (dvs := []) .nil (passAt tk σ) I .nil ?_)
  obtain ⟨env, M, ρ, e, m, p⟩ := h
  simp only [evE, evEs, Res.bind_ok] at p
  exact ⟨[], M, ρ, rfl, m, vrs_nil, p.exc fun c H' z => ⟨c, rfl, rfl, z⟩⟩
end
theorem evEs_len {w : Wd} : ∀ (is : List E) (env : Env) (M : Mem) (vs : List PV) (M' : Mem), evEs w is env M = .ok vs M' → vs.length = is.length
  | [], env, M, vs, M', h => by
    simp only [evEs] at h
    cases h
    rfl
  | i :: is, env, M, vs, M', h => by
    simp only [evEs] at h
    cases h1 : evE w i env M with
    | fail => rw [h1] at h; cases h
    | exc c M1 => rw [h1] at h; cases h
    | ok v M1 =>
      rw [h1] at h
      simp only [Res.bind_ok] at h
      cases h2 : evEs w is env M1 with
      | fail => rw [h2] at h; cases h
      | exc c M1 => rw [h2] at h; cases h
      | ok vs2 M2 =>
        rw [h2] at h
        simp only [Res.bind_ok] at h
        cases h
        rw [List.length_cons, List.length_cons, evEs_len is env M1 vs2 _ h2]
end HP

set_option Elab.async false
set_option linter.all false
set_option autoImplicit false
set_option maxRecDepth 100000
set_option maxHeartbeats 4000000
/-! .. what a for walks, targets, statements, loops. -/
namespace HP
open PySem L2

/-! ### what a for walks -/
/-- the turns of a walk are those of the source -/
def ItOk (K : Kx) (J : It) (s : Src) (ρ0 : List Addr) (H0 : Hp) : Prop :=
  match s with
  | .items xs => ∀ (ρ : List Addr) (H : Hp) (M : Mem) (i : Nat), Fw ρ0 ρ H0 H → MemR K M ρ H → match xs[i]? with
    | none => J.stop i H
    | some v => J.go i H ∧ ∀ x H', J.yld i H x H' → Fw ρ ρ H H' ∧ MemR K M ρ H' ∧ VR K ρ H' v x
  | .mem n => ∀ (ρ : List Addr) (H : Hp) (M : Mem) (i : Nat) (xs : List PV), Fw ρ0 ρ H0 H → MemR K M ρ H → M[n]? = some (.lst xs) → match xs[i]? with
    | none => J.stop i H
    | some v => J.go i H ∧ ∀ x H', J.yld i H x H' → Fw ρ ρ H H' ∧ MemR K M ρ H' ∧ VR K ρ H' v x
def Tw (K : Kx) (W : XW) (m : Env → Mem → Res Src) : TI := fun σ H R => ∃ env M ρ, EnvR K ρ H env σ ∧ MemR K M ρ H ∧ Ps K W σ ρ H (m env M) fun s _ ρ' H' => ∀ J, ItOk K J s ρ' H' → R J H'
theorem PI.imp {X : Cx} {tg e : Expr} {t t' : TI} (h : PI X tg e t) (f : ∀ σ H R, t' σ H R → t σ H R) : PI X tg e t' := ⟨fun pins s σ H R I q => h.run pins s σ H R I (f σ H R q)⟩
/-- a list, a tuple, a text -/
def iSeq (K : PySem.W.Frag) (tl : TE) : TI := fun σ H R => tl σ H fun x H1 =>
  (∃ a, x = .ref a ∧ (∃ xs, SqL K H1 a xs) ∧ R (Itl K a) H1) ∨ (∃ a, x = .ref a ∧ (∃ xs, SqT K H1 a xs) ∧ R (Itt K a) H1) ∨ ∃ z, x = .str z ∧ R (Its z) H1
theorem pi_seq {X : Cx} {tg l : Expr} {tl : TE} (hl : PE X l tl) : PI X tg l (iSeq X.K tl) := by
  refine ⟨fun pins s σ H R I h => ?_⟩
  refine thn (hl.run pins s σ H _ I h) fun v s1 ⟨x, H1, I1, r1, q1⟩ => ?_
  rcases q1 with ⟨a, e, ⟨xs, hq⟩, q⟩ | ⟨a, e, ⟨xs, hq⟩, q⟩ | ⟨z, e, q⟩
  · subst e
    cases r1
    obtain ⟨its, rv, p, hz⟩ := I1.list hq
    refine wpAny_pyIter_list p.isList ?_
    refine ⟨s1.heap.objs.size, [s1.heap.objs.size], _, _, H1, rfl, I1.kept (t' := s1.toks) fun b o e => Heap.get?_push_of_some _ e, turn_list a _, ⟨_, Heap.get?_push_size _ rfl, rfl, rfl⟩, fun b hb => ?_, q⟩
    have e : b = s1.heap.objs.size := by simpa using hb
    subst e
    exact I1.fpOk (Nat.le_refl _) (I1.hok.fresh (Nat.le_refl _))
  · subst e
    cases r1
    obtain ⟨its, rv, p, hz⟩ := I1.tuple hq
    refine wpAny_pyIter_tuple (show s1.heap.IsTuple a its.toArray from p) ?_
    refine ⟨s1.heap.objs.size, [s1.heap.objs.size], _, _, H1, rfl, I1.kept (t' := s1.toks) fun b o e => Heap.get?_push_of_some _ e, turn_tuple a _, ⟨_, Heap.get?_push_size _ rfl, rfl, rfl⟩, fun b hb => ?_, q⟩
    have e : b = s1.heap.objs.size := by simpa using hb
    subst e
    exact I1.fpOk (Nat.le_refl _) (I1.hok.fresh (Nat.le_refl _))
  · subst e
    obtain ⟨t, rfl⟩ := r1
    cases ha : z.cps.all (· < 128)
    · exact wpAny_pyIter_wide ha (pi_one (tk := s1.toks) I1 _ (turn_str _ z t "str_iterator" (.inr rfl)) ⟨_, Heap.get?_push_size _ rfl, rfl, rfl⟩ q)
    · exact wpAny_pyIter_ascii ha (pi_one (tk := s1.toks) I1 _ (turn_str _ z t "str_ascii_iterator" (.inl rfl)) ⟨_, Heap.get?_push_size _ rfl, rfl, rfl⟩ q)
section
variable {K : Kx} {ρ0 : List Addr} {H0 : Hp}
theorem itok_tup {a : Addr} {us : List V} {xs : List PV} (w : Own ρ0 H0) (t : TR K H0 a us) (r : VRs K ρ0 H0 xs us) : ItOk K (Itt K.K a) (.items xs) ρ0 H0 := by
  intro ρ H M i f m
  have t' : TR K H a us := t.mono w f
  have r' := r.mono w f
  cases e : xs[i]? with
  | none => exact ⟨us, t'.sq, by rw [r'.length]; exact List.getElem?_eq_none_iff.mp e⟩
  | some v =>
    obtain ⟨u, hu, ru⟩ := r'.get e
    refine ⟨⟨us, u, t'.sq, hu⟩, fun x H' y => ?_⟩
    obtain ⟨rfl, y⟩ := y
    have := y us t'.sq
    rw [hu] at this
    cases this
    exact ⟨Fw.refl, m, ru⟩
theorem itok_rol {a : Addr} {us : List V} {xs : List PV} (w : Own ρ0 H0) (t : LR K H0 a us) (r : VRs K ρ0 H0 xs us) : ItOk K (Itl K.K a) (.items xs) ρ0 H0 := by
  intro ρ H M i f m
  have t' : LR K H a us := t.mono w f
  have r' := r.mono w f
  cases e : xs[i]? with
  | none => exact ⟨us, t'.sq, by rw [r'.length]; exact List.getElem?_eq_none_iff.mp e⟩
  | some v =>
    obtain ⟨u, hu, ru⟩ := r'.get e
    refine ⟨⟨us, u, t'.sq, hu⟩, fun x H' y => ?_⟩
    obtain ⟨rfl, y⟩ := y
    have := y us t'.sq
    rw [hu] at this
    cases this
    exact ⟨Fw.refl, m, ru⟩
theorem itok_mem {a : Addr} {n : Nat} (e : ρ0[n]? = some a) : ItOk K (Itl K.K a) (.mem n) ρ0 H0 := by
  intro ρ H M i xs f m hx
  have e' : ρ[n]? = some a := f.get e
  obtain ⟨us, hu, r⟩ := m.lst hx e'
  cases e : xs[i]? with
  | none => exact ⟨us, SqL.of hu, by rw [r.length]; exact List.getElem?_eq_none_iff.mp e⟩
  | some v =>
    obtain ⟨u, hu2, ru⟩ := r.get e
    refine ⟨⟨us, u, SqL.of hu, hu2⟩, fun x H' y => ?_⟩
    obtain ⟨rfl, y⟩ := y
    have := y us (SqL.of hu)
    rw [hu2] at this
    cases this
    exact ⟨Fw.refl, m, ru⟩
theorem itok_str {z : Str} {s : List Nat} (e : z.cps.toList = s) (hv : vstr s = true) : ItOk K (Its z) (.items (s.map fun c => .str [c])) ρ0 H0 := by
  subst e
  intro ρ H M i f m
  rw [List.getElem?_map, Array.getElem?_toList]
  cases e : z.cps[i]? with
  | none => exact Array.getElem?_eq_none_iff.mp e
  | some c =>
    refine ⟨(Array.getElem?_eq_some_iff.mp e).1, fun x H' y => ?_⟩
    obtain ⟨rfl, d, hd, rfl⟩ := y
    rw [e] at hd
    cases hd
    exact ⟨Fw.refl, m, vr_str rfl (vstr_mem hv (by rw [Array.getElem?_toList]; exact e))⟩
theorem itok_range {lo : Int} {n : Nat} : ItOk K (Itr lo n) (.items (rangeL lo n)) ρ0 H0 := by
  intro ρ H M i f m
  unfold rangeL
  rw [List.getElem?_map]
  by_cases h : i < n
  · rw [List.getElem?_eq_getElem (by simpa using h)]
    refine ⟨h, fun x H' y => ?_⟩
    obtain ⟨rfl, rfl⟩ := y
    refine ⟨Fw.refl, m, ?_⟩
    simp only [List.getElem_range]
    exact vr_int
  · rw [List.getElem?_eq_none (by simpa using h)]
    exact (by omega : n ≤ i)
end
section
variable {X : Cx} {Z : Zx} {W : XW} {w : Wd} {a tg : Expr} {es : List Expr} {ia : E} {is : List E} {pos p : Pos}
theorem i_val (ha : PE X a (T1 (kx X Z) W (evE w ia))) : PI X tg a (Tw (kx X Z) W (evI w (.val ia))) := by
  refine PI.imp (pi_seq ha) fun σ H R h => ?_
  obtain ⟨env, M, ρ, e, m, p⟩ := h
  simp only [evI] at p
  refine T1.go e m (p.bind.imp fun x M1 ρ1 H1 f1 m1 q _ e1 _ u ru => ?_)
  split at q
  · obtain ⟨b, us, rfl, t, rr⟩ := ru.tup_
    exact .inr (.inl ⟨b, rfl, ⟨us, t.sq⟩, q.here m1 _ (itok_tup m1.own t rr)⟩)
  · obtain ⟨b, us, rfl, t, rr⟩ := ru.rol_
    exact .inl ⟨b, rfl, ⟨us, t.sq⟩, q.here m1 _ (itok_rol m1.own t rr)⟩
  · have hv := ru.vs
    obtain ⟨z, rfl, hz⟩ := ru.str_
    exact .inr (.inr ⟨z, rfl, q.here m1 _ (itok_str hz hv)⟩)
  · obtain ⟨b, rfl, hb⟩ := ru.ref_
    split at q
    · rename_i xs hx
      obtain ⟨us, hu, _⟩ := m1.lst hx hb
      exact .inl ⟨b, rfl, ⟨us, SqL.of hu⟩, q.here m1 _ (itok_mem hb)⟩
    · exact q.elim
  · exact q.elim
theorem i_range1 {x : Str} (hx : x = "range") (hg : Gl X x) (hm : X.mg x = none) (hs : isStar a = false) (ha : PA X [a] (Tn (kx X Z) W (evEs w is))) (hl : is.length = 1) : PI X tg (.Call (.Name x p) [a] [] pos) (Tw (kx X Z) W (evI w (.range is))) := by
  subst hx
  refine PI.imp (pi_range1 hg hm ha (star_cons hs)) fun σ H R h => ?_
  obtain ⟨env, M, ρ, e, m, p⟩ := h
  simp only [evI] at p
  refine ⟨env, M, ρ, e, m, ?_⟩
  cases hr : evEs w is env M with
  | fail => rw [hr] at p; exact p
  | exc c M1 => rw [hr] at p; exact p
  | ok vs M1 =>
    rw [hr] at p
    simp only [Res.bind_ok] at p
    have hlen := evEs_len is env M vs M1 hr
    intro ρ1 H1 f1 m1 us rus
    have q := Ps.fw f1 p
    split at q
    · obtain ⟨u, rfl, ru⟩ := one_inv rus
      cases ru.int_
      split at q
      · rename_i hj
        exact ⟨_, rfl, hj.1, hj.2, q.here m1 _ itok_range⟩
      · exact q.elim
    · rw [hl] at hlen
      simp at hlen
    · exact q.elim
theorem i_range2 {b : Expr} {x : Str} (hx : x = "range") (hg : Gl X x) (hm : X.mg x = none) (hs : isStar a = false) (hs2 : isStar b = false) (ha : PA X [a, b] (Tn (kx X Z) W (evEs w is))) (hl : is.length = 2) : PI X tg (.Call (.Name x p) [a, b] [] pos) (Tw (kx X Z) W (evI w (.range is))) := by
  subst hx
  refine PI.imp (pi_range2 hg hm ha (by rw [star_cons hs, star_cons hs2] <;> rfl) (star_cons hs2)) fun σ H R h => ?_
  obtain ⟨env, M, ρ, e, m, p⟩ := h
  simp only [evI] at p
  refine ⟨env, M, ρ, e, m, ?_⟩
  cases hr : evEs w is env M with
  | fail => rw [hr] at p; exact p
  | exc c M1 => rw [hr] at p; exact p
  | ok vs M1 =>
    rw [hr] at p
    simp only [Res.bind_ok] at p
    have hlen := evEs_len is env M vs M1 hr
    intro ρ1 H1 f1 m1 us rus
    have q := Ps.fw f1 p
    split at q
    · rw [hl] at hlen
      simp at hlen
    · obtain ⟨u, v, rfl, ru, rv⟩ := two_inv rus
      cases ru.int_
      cases rv.int_
      split at q
      · rename_i hj
        exact ⟨_, _, rfl, hj, q.here m1 _ itok_range⟩
      · exact q.elim
    · exact q.elim
end

/-! ### targets -/
mutual
/-- the names that a target writes -/
def tgN : Tg → List Nat
  | .name i => [i]
  | .tup ts => tgNs ts
def tgNs : List Tg → List Nat
  | [] => []
  | t :: ts => tgN t ++ tgNs ts
end
theorem wipe_out {σ : St} {i : Nat} {x : Option V} : ∀ {vs : List Nat}, wipe (σ.set i x) vs = (wipe σ vs).set i (if i ∈ vs then none else x)
  | [] => by simp [wipe]
  | v :: vs => by
    unfold wipe
    rw [wipe_out]
    by_cases h : i = v
    · subst h
      simp
    · rw [List.set_comm _ _ h]
      by_cases h2 : i ∈ vs <;> simp [h, h2]
theorem wipe_none {σ : St} {i : Nat} : ∀ {vs : List Nat}, i ∈ vs → (wipe σ vs).set i none = wipe σ vs
  | v :: vs, h => by
    unfold wipe
    by_cases e : i = v
    · subst e
      simp
    · rw [List.set_comm _ _ (Ne.symm e), wipe_none (by simpa [e] using h)]
theorem wipe_set {σ : St} {i : Nat} {x : Option V} {vs : List Nat} (h : i ∈ vs) : wipe (σ.set i x) vs = wipe σ vs := by
  rw [wipe_out, if_pos h, wipe_none h]
def Tch (ns : List Nat) (σ σ' : St) : Prop := ∀ vs : List Nat, (∀ n ∈ ns, n ∈ vs) → wipe σ' vs = wipe σ vs
def Tg1 (K : Kx) (g : Tg) : TG := fun u σ H Q => ∃ env M ρ v, EnvR K ρ H env σ ∧ MemR K M ρ H ∧ VR K ρ H v u ∧ ∃ env', bindT g v env = some env' ∧ ∀ σ', EnvR K ρ H env' σ' → Tch (tgN g) σ σ' → Q σ' H
def Tgn (K : Kx) (gs : List Tg) : TGs := fun us σ H Q => ∃ env M ρ vs, EnvR K ρ H env σ ∧ MemR K M ρ H ∧ VRs K ρ H vs us ∧ ∃ env', bindTs gs vs env = some env' ∧ ∀ σ', EnvR K ρ H env' σ' → Tch (tgNs gs) σ σ' → Q σ' H
theorem PG.imp {X : Cx} {e : Expr} {t t' : TG} (h : PG X e t) (f : ∀ u σ H Q, t' u σ H Q → t u σ H Q) : PG X e t' := ⟨fun pins s σ H v u Q I r q => h.run pins s σ H v u Q I r (f v σ H Q q)⟩
theorem PGs.imp {X : Cx} {e : List Expr} {t t' : TGs} (h : PGs X e t) (f : ∀ u σ H Q, t' u σ H Q → t u σ H Q) : PGs X e t' := ⟨fun pins s σ H v u Q I r q => h.run pins s σ H v u Q I r (f v σ H Q q)⟩
section
variable {X : Cx} {Z : Zx} {pos : Pos}
theorem g_name {i : Nat} {x : Str} (hN : X.N.Nodup) (hi : X.N[i]? = some x) (hx : Loc X.env.scope x) (hf : X.fn x = true ∨ X.env.scope.names.lookup x = some .local) : PG X (.Name x pos) (Tg1 (kx X Z) (.name i)) := by
  refine PG.imp (pg_name hN hi hx hf) fun u σ H Q h => ?_
  obtain ⟨env, M, ρ, v, e, m, r, env', hb, q⟩ := h
  simp only [bindT] at hb
  split at hb
  · cases hb
    exact q _ (e.set r) fun vs hv => wipe_set (hv i (by simp [tgN]))
  · cases hb
theorem gs_nil : PGs X [] (Tgn (kx X Z) []) := by
  refine PGs.imp pgs_nil fun us σ H Q h => ?_
  obtain ⟨env, M, ρ, vs, e, m, r, env', hb, q⟩ := h
  cases vs with
  | nil =>
    simp only [bindTs] at hb
    cases hb
    exact ⟨r.nil, q _ e fun _ _ => rfl⟩
  | cons v vs =>
    simp only [bindTs] at hb
    cases hb
theorem gs_cons {e : Expr} {es : List Expr} {g : Tg} {gs : List Tg} (h1 : PG X e (Tg1 (kx X Z) g)) (h2 : PGs X es (Tgn (kx X Z) gs)) (hs : isStar e = false) : PGs X (e :: es) (Tgn (kx X Z) (g :: gs)) := by
  have h0 : (assignEach (e :: es) X.env).map (·.2) = assign e X.env :: (assignEach es X.env).map (·.2) := by
    cases e <;> first | rfl | (cases hs; done)
  refine PGs.imp (pgs_cons h1 h2 h0) fun us σ H Q h => ?_
  obtain ⟨env, M, ρ, vs, e, m, r, env', hb, q⟩ := h
  cases vs with
  | nil =>
    simp only [bindTs] at hb
    cases hb
  | cons v vs =>
    simp only [bindTs] at hb
    obtain ⟨u, ur, rfl, a, b⟩ := r.inv
    split at hb
    · rename_i env1 h1
      exact ⟨u, ur, rfl, env, M, ρ, v, e, m, a, env1, h1, fun σ1 e1 t1 => ⟨env1, M, ρ, vs, e1, m, b, env', hb, fun σ2 e2 t2 => q σ2 e2 fun vs hv => (t2 vs fun n hn => hv n (by simp [tgNs, hn])).trans (t1 vs fun n hn => hv n (by simp [tgNs, hn]))⟩⟩
    · cases hb
theorem assign_len {env : PySem.Env} : ∀ es : List Expr, (assignEach es env).length = es.length
  | [] => rfl
  | e :: es => by cases e <;> (show (assignEach es env).length + 1 = es.length + 1; rw [assign_len es])
theorem assign_nostar {env : PySem.Env} : ∀ {es : List Expr}, noStar es = true → (assignEach es env).findIdx? (·.1) = none
  | [], _ => rfl
  | e :: es, h => by
    unfold noStar at h
    rw [Bool.and_eq_true] at h
    have ih := assign_nostar (env := env) h.2
    have h1 : isStar e = false := by simpa using h.1
    have h0 : assignEach (e :: es) env = (false, assign e env) :: assignEach es env := by
      cases e <;> first | rfl | (cases h1; done)
    rw [h0, List.findIdx?_cons]
    simp [ih]
theorem bindTs_len : ∀ {gs : List Tg} {vs : List PV} {env env' : Env}, bindTs gs vs env = some env' → gs.length = vs.length
  | [], vs, env, env', h => by
    cases vs with
    | nil => rfl
    | cons => simp only [bindTs] at h; cases h
  | g :: gs, vs, env, env', h => by
    cases vs with
    | nil => simp only [bindTs] at h; cases h
    | cons v vs =>
      simp only [bindTs] at h
      split at h
      · rw [List.length_cons, List.length_cons, bindTs_len h]
      · cases h
theorem g_tup {es : List Expr} {k : Nat} {gs : List Tg} (hc : X.calm = true) (h : PGs X es (Tgn (kx X Z) gs)) (hl : gs.length = es.length) (hs : noStar es = true) : PG X (.Tuple es k pos) (Tg1 (kx X Z) (.tup gs)) := by
  refine PG.imp (pg_tup hc h (assign_len es) (assign_nostar hs)) fun u σ H Q h => ?_
  obtain ⟨env, M, ρ, v, e, m, r, env', hb, q⟩ := h
  simp only [bindT] at hb
  split at hb
  · rename_i vs
    obtain ⟨a, us, rfl, t, rr⟩ := r.tup_
    refine ⟨a, us, rfl, t.sq, ?_, env, M, ρ, vs, e, m, rr, env', hb, fun σ' e' t' => q σ' e' (by simpa [tgN] using t')⟩
    rw [rr.length, ← bindTs_len hb, hl]
  · cases hb
end

/-! ### statements -/
/-- a statement's outcome, and what is wanted behind it -/
def PC (K : Kx) (W : XW) (ρ : List Addr) (H : Hp) (c : Ctl) (D : Ends) : Prop :=
  match c with
  | .nxt env M' => ∀ ρ' H' σ', Fw ρ ρ' H H' → MemR K M' ρ' H' → EnvR K ρ' H' env σ' → D.nx σ' H'
  | .ret v M' => ∀ ρ' H' u, Fw ρ ρ' H H' → MemR K M' ρ' H' → VR K ρ' H' v u → D.rt u H'
  | .brk env M' => ∀ ρ' H' σ', Fw ρ ρ' H H' → MemR K M' ρ' H' → EnvR K ρ' H' env σ' → D.bk σ' H'
  | .cnt env M' => ∀ ρ' H' σ', Fw ρ ρ' H H' → MemR K M' ρ' H' → EnvR K ρ' H' env σ' → D.ct σ' H'
  | .exc c env M' => ∀ ρ' H' σ', Fw ρ ρ' H H' → MemR K M' ρ' H' → EnvR K ρ' H' env σ' → W c σ' H'
  | .fail => False
def TS1 (K : Kx) (W : XW) (m : Env → Mem → Ctl) : TS := fun D σ H => ∃ env M ρ, EnvR K ρ H env σ ∧ MemR K M ρ H ∧ PC K W ρ H (m env M) D
section
variable {K : Kx} {W : XW} {ρ ρ' : List Addr} {H H' : Hp} {c : Ctl} {D : Ends} {σ : St} {α : Type}
theorem PC.fw (f : Fw ρ ρ' H H') (h : PC K W ρ H c D) : PC K W ρ' H' c D := by
  cases c with
  | nxt env M => exact fun ρ2 H2 σ2 f2 m e => h ρ2 H2 σ2 (f.trans f2) m e
  | ret v M => exact fun ρ2 H2 u f2 m e => h ρ2 H2 u (f.trans f2) m e
  | brk env M => exact fun ρ2 H2 σ2 f2 m e => h ρ2 H2 σ2 (f.trans f2) m e
  | cnt env M => exact fun ρ2 H2 σ2 f2 m e => h ρ2 H2 σ2 (f.trans f2) m e
  | exc c env M => exact fun ρ2 H2 σ2 f2 m e => h ρ2 H2 σ2 (f.trans f2) m e
  | fail => exact h
theorem PC.thn {r : Res α} {env : Env} {M : Mem} {f : α → Mem → Ctl} (e : EnvR K ρ H env σ) (mm : MemR K M ρ H) (h : PC K W ρ H (r.thn env f) D) : Ps K W σ ρ H r fun a M1 ρ1 H1 => PC K W ρ1 H1 (f a M1) D := by
  cases r with
  | ok a M => exact fun ρ2 H2 f2 m => PC.fw f2 h
  | exc c M => exact fun ρ2 H2 f2 m => h ρ2 H2 σ f2 m (e.mono mm.own f2)
  | fail => exact h
theorem PC.nx {env : Env} {M : Mem} (h : PC K W ρ H (.nxt env M) D) (e : EnvR K ρ H env σ) (m : MemR K M ρ H) : D.nx σ H := h ρ H σ Fw.refl m e
end
theorem PS.imp {X : Cx} {st : Stmt} {t t' : TS} (h : PS X st t) (f : ∀ D σ H, t' D σ H → t D σ H) : PS X st t' := ⟨fun pins s σ H D I q => h.run pins s σ H D I (f D σ H q)⟩
theorem PSs.imp {X : Cx} {st : List Stmt} {t t' : TS} (h : PSs X st t) (f : ∀ D σ H, t' D σ H → t D σ H) : PSs X st t' := ⟨fun pins s σ H D I q => h.run pins s σ H D I (f D σ H q)⟩
section
variable {X : Cx} {Z : Zx} {W : XW} {w : Wd} {a b e : Expr} {ia ib ie : E} {pos pos2 : Pos}
theorem ss_nil : PSs X [] (TS1 (kx X Z) W (evSs w [])) := by
  refine PSs.imp pss_nil fun D σ H h => ?_
  obtain ⟨env, M, ρ, e, m, p⟩ := h
  simp only [evSs] at p
  exact p.nx e m
theorem ss_cons {st : Stmt} {sts : List Stmt} {s : S} {ss : List S} (h1 : PS X st (TS1 (kx X Z) W (evS w s))) (h2 : PSs X sts (TS1 (kx X Z) W (evSs w ss))) : PSs X (st :: sts) (TS1 (kx X Z) W (evSs w (s :: ss))) := by
  refine PSs.imp (pss_cons h1 h2) fun D σ H h => ?_
  obtain ⟨env, M, ρ, e, m, p⟩ := h
  simp only [evSs] at p
  refine ⟨env, M, ρ, e, m, ?_⟩
  cases hc : evS w s env M with
  | nxt env1 M1 =>
    rw [hc] at p
    exact fun ρ1 H1 σ1 f1 m1 e1 => ⟨env1, M1, ρ1, e1, m1, PC.fw f1 p⟩
  | ret v M1 => rw [hc] at p; exact p
  | brk v M1 => rw [hc] at p; exact p
  | cnt v M1 => rw [hc] at p; exact p
  | exc c v M1 => rw [hc] at p; exact p
  | fail => rw [hc] at p; exact p
theorem ss_pass : PS X (.Pass pos) (TS1 (kx X Z) W (evS w .pass)) := by
  refine PS.imp ps_pass fun D σ H h => ?_
  obtain ⟨env, M, ρ, e, m, p⟩ := h
  simp only [evS] at p
  exact p.nx e m
theorem ss_brk : PS X (.Break pos) (TS1 (kx X Z) W (evS w .brk)) := by
  refine PS.imp ps_break fun D σ H h => ?_
  obtain ⟨env, M, ρ, e, m, p⟩ := h
  simp only [evS] at p
  exact p ρ H σ Fw.refl m e
theorem ss_cnt : PS X (.Continue pos) (TS1 (kx X Z) W (evS w .cnt)) := by
  refine PS.imp ps_continue fun D σ H h => ?_
  obtain ⟨env, M, ρ, e, m, p⟩ := h
  simp only [evS] at p
  exact p ρ H σ Fw.refl m e
theorem ss_retN : PS X (.Return none pos) (TS1 (kx X Z) W (evS w .retN)) := by
  refine PS.imp ps_retN fun D σ H h => ?_
  obtain ⟨env, M, ρ, e, m, p⟩ := h
  simp only [evS] at p
  exact p ρ H _ Fw.refl m vr_non
theorem ss_ret (h : PE X e (T1 (kx X Z) W (evE w ie))) : PS X (.Return (some e) pos) (TS1 (kx X Z) W (evS w (.ret ie))) := by
  refine PS.imp (ps_ret h) fun D σ H h => ?_
  obtain ⟨env, M, ρ, e, m, p⟩ := h
  simp only [evS] at p
  refine T1.go e m ((p.thn e m).imp fun x M1 ρ1 H1 f1 m1 q _ e1 _ u ru => ?_)
  exact q ρ1 H1 u Fw.refl m1 ru
theorem ss_expr (h : PE X e (T1 (kx X Z) W (evE w ie))) (hs : isComp e = false) : PS X (.Expr e pos) (TS1 (kx X Z) W (evS w (.expr ie))) := by
  refine PS.imp (ps_expr h (swaps_plain hs)) fun D σ H h => ?_
  obtain ⟨env, M, ρ, e, m, p⟩ := h
  simp only [evS] at p
  refine T1.go e m ((p.thn e m).imp fun x M1 ρ1 H1 f1 m1 q _ e1 _ u ru => ?_)
  exact q.nx e1 m1
theorem ss_if {t : T} {sa sb : List Stmt} {pa pb : List S} (ht : PT X a (Tb (kx X Z) W (evT w t))) (h1 : PSs X sa (TS1 (kx X Z) W (evSs w pa))) (h2 : PSs X sb (TS1 (kx X Z) W (evSs w pb))) : PS X (.If a sa sb pos) (TS1 (kx X Z) W (evS w (.ifs t pa pb))) := by
  refine PS.imp (ps_if ht h1 h2) fun D σ H h => ?_
  obtain ⟨env, M, ρ, e, m, p⟩ := h
  simp only [evS] at p
  refine ⟨env, M, ρ, e, m, (p.thn e m).imp fun k M1 ρ1 H1 f1 m1 q => ?_⟩
  cases k with
  | true => exact ⟨env, M1, ρ1, e.mono m.own f1, m1, q⟩
  | false => exact ⟨env, M1, ρ1, e.mono m.own f1, m1, q⟩
/-- a target that is no tuple's display, or a value that is none -/
theorem ss_asg {t : Expr} {g : Tg} (h : PE X e (T1 (kx X Z) W (evE w ie))) (hg : PG X t (Tg1 (kx X Z) g)) (hs : isComp e = false) (hw : swappedStores [t] e X.env = pure none) (ht : isStar t = false) : PS X (.Assign [t] e pos) (TS1 (kx X Z) W (evS w (.asg g ie))) := by
  have h1 : (assignEach [t] X.env).map (·.2) = [assign t X.env] := by cases t <;> first | rfl | (cases ht; done)
  refine PS.imp (ps_asg h hg (swaps_plain hs) hw h1) fun D σ H h => ?_
  obtain ⟨env, M, ρ, e, m, p⟩ := h
  simp only [evS] at p
  refine T1.go e m ((p.thn e m).imp fun x M1 ρ1 H1 f1 m1 q _ e1 _ u ru => ?_)
  split at q
  · rename_i env' hb
    exact ⟨env, M1, ρ1, x, e1, m1, ru, env', hb, fun σ' e' _ => q.nx e' m1⟩
  · exact q.elim
def isSlice : Expr → Bool
  | .Slice .. => true
  | _ => false
theorem ss_setI (hsl : isSlice b = false) (ha : PE X a (T1 (kx X Z) W (evE w ia))) (hb : PE X b (T1 (kx X Z) W (evE w ib))) (he : PE X e (T1 (kx X Z) W (evE w ie))) (hs : isComp e = false) : PS X (.Assign [.Subscript a b pos2] e pos) (TS1 (kx X Z) W (evS w (.setI ia ib ie))) := by
  have hsub : PG X (.Subscript a b pos2) (gSub (T1 (kx X Z) W (evE w ia)) (T1 (kx X Z) W (evE w ib)) (sG (kx X Z))) := pg_sub ha hb (pset_lst (Z := Z)) (fun v => by cases b <;> first | rfl | (cases hsl; done))
  refine PS.imp (ps_asg he hsub (swaps_plain (t := some (.Subscript a b pos2)) (l := pos.line) (env := X.env) hs) rfl rfl) fun D σ H h => ?_
  obtain ⟨env, M, ρ, e, m, p⟩ := h
  simp only [evS] at p
  refine T1.go e m ((p.thn e m).imp fun x M1 ρ1 H1 f1 m1 q _ e1 _ u ru => ?_)
  refine T1.go e1 m1 ((q.thn e1 m1).imp fun y M2 ρ2 H2 f2 m2 q2 _ e2 _ u2 ru2 => ?_)
  refine T1.go e2 m2 ((q2.thn e2 m2).imp fun z M3 ρ3 H3 f3 m3 q3 _ e3 _ u3 ru3 => ?_)
  refine ⟨M3, ρ3, y, z, x, m3, ru2.mono m2.own f3, ru3, (ru.mono m1.own f2).mono m2.own f3, ?_⟩
  cases hset : setL y z x M3 with
  | none =>
    rw [hset] at q3
    exact q3
  | some M4 =>
    rw [hset] at q3
    exact fun H' f' m' => q3 ρ3 H' σ f' m' (e3.mono m3.own f')
theorem ss_aug {i : Nat} {x : Str} {op : Operator} {o : O2} (hop : OpR X (inplaceOp op) (rGi (kx X Z) o)) (hN : X.N.Nodup) (hi : X.N[i]? = some x) (hx : Loc X.env.scope x) (hf : X.fn x = true ∨ X.env.scope.names.lookup x = some .local) (he : PE X e (T1 (kx X Z) W (evE w ie))) :
    PS X (.AugAssign (.Name x pos2) op e pos) (TS1 (kx X Z) W (evS w (.aug i o ie))) := by
  refine PS.imp (ps_aug hN hi hx he (show PIp X op (rGi (kx X Z) o) from hop) hf) fun D σ H h => ?_
  obtain ⟨env, M, ρ, e, m, p⟩ := h
  simp only [evS] at p
  split at p
  · rename_i v hv
    obtain ⟨u0, hu0, r0⟩ := e.val i v hv
    refine ⟨u0, hu0, T1.go e m ((p.thn e m).imp fun y M1 ρ1 H1 f1 m1 q _ e1 _ u ru => ?_)⟩
    refine ⟨M1, ρ1, v, y, m1, r0.mono m.own f1, ru, Pv.of ((q.thn e1 m1).imp fun z M2 ρ2 H2 f2 m2 q2 u2 ru2 => ?_) fun _ _ => iop_noexc⟩
    exact q2.nx ((e1.mono m1.own f2).set ru2) m2
  · exact p.elim
theorem ss_augI {op : Operator} {o : O2} (hop : OpR X (inplaceOp op) (rGi (kx X Z) o)) (ha : PE X a (T1 (kx X Z) W (evE w ia))) (hb : PE X b (T1 (kx X Z) W (evE w ib))) (he : PE X e (T1 (kx X Z) W (evE w ie)))
    (haug : ∀ ov iv new, augStore b ov iv new = (do holding [new, ov, iv] (setItem ov iv new); release [new, ov, iv] []; pure .next)) : PS X (.AugAssign (.Subscript a b pos2) op e pos) (TS1 (kx X Z) W (evS w (.augI ia ib o ie))) := by
  refine PS.imp (ps_augS ha hb (pget_idx (Z := Z)) he (show PIp X op (rGi (kx X Z) o) from hop) (pset_lst (Z := Z)) haug) fun D σ H h => ?_
  obtain ⟨env, M, ρ, e, m, p⟩ := h
  simp only [evS] at p
  refine T1.go e m ((p.thn e m).imp fun v M1 ρ1 H1 f1 m1 q _ e1 _ u ru => ?_)
  refine T1.go e1 m1 ((q.thn e1 m1).imp fun j M2 ρ2 H2 f2 m2 q2 _ e2 _ u2 ru2 => ?_)
  cases v <;> try exact q2.elim
  case ref n =>
  refine ⟨M2, ρ2, n, j, m2, ru.mono m1.own f2, ru2, Pv.of ((q2.thn e2 m2).imp fun x M3 ρ3 H3 f3 m3 q3 u3 ru3 => ?_) fun _ _ => op2_noexc⟩
  have e3 := e2.mono m2.own f3
  refine T1.go e3 m3 ((q3.thn e3 m3).imp fun y M4 ρ4 H4 f4 m4 q4 _ e4 _ u4 ru4 => ?_)
  refine ⟨M4, ρ4, x, y, m4, ru3.mono m3.own f4, ru4, Pv.of ((q4.thn e4 m4).imp fun z M5 ρ5 H5 f5 m5 q5 u5 ru5 => ?_) fun _ _ => iop_noexc⟩
  refine ⟨M5, ρ5, .ref n, j, z, m5, (((ru.mono m1.own f2).mono m2.own f3).mono m3.own f4).mono m4.own f5, ((ru2.mono m2.own f3).mono m3.own f4).mono m4.own f5, ru5, ?_⟩
  cases hset : setL (.ref n) j z M5 with
  | none =>
    rw [hset] at q5
    exact q5
  | some M6 =>
    rw [hset] at q5
    exact fun H' f' m' => q5 ρ5 H' σ f' m' ((e4.mono m4.own f5).mono m5.own f')
/-- two names at once -/
theorem ss_par {i j : Nat} {x y : Str} {px py pt : Pos} {kt k2 : Nat} {pt2 : Pos} (hc : X.calm = true) (hN : X.N.Nodup) (hi : X.N[i]? = some x) (hj : X.N[j]? = some y) (hij : i ≠ j) (hx : X.env.scope.names.lookup x = some .local) (hy : X.env.scope.names.lookup y = some .local)
    (hsa : isStar a = false) (hsb : isStar b = false) (ha : PE X a (T1 (kx X Z) W (evE w ia))) (hb : PE X b (T1 (kx X Z) W (evE w ib))) (hw : swappedStores [.Tuple [.Name x px, .Name y py] kt pt] (.Tuple [a, b] k2 pt2) X.env = pure (some [x, y])) :
    PS X (.Assign [.Tuple [.Name x px, .Name y py] kt pt] (.Tuple [a, b] k2 pt2) pos) (TS1 (kx X Z) W (evS w (.par i j ia ib))) := by
  refine PS.imp (ps_par hc hN hi hj hij hx hy (pa_cons ha (pa_cons hb pa_nil (star_cons hsb)) (star_cons hsa)) hw rfl) fun D σ H h => ?_
  obtain ⟨env, M, ρ, e, m, p⟩ := h
  simp only [evS] at p
  refine T1.go e m ((p.thn e m).imp fun v M1 ρ1 H1 f1 m1 q _ e1 _ u ru => ?_)
  refine T1.go e1 m1 ((q.thn e1 m1).imp fun v2 M2 ρ2 H2 f2 m2 q2 _ e2 _ u2 ru2 => ?_)
  exact ⟨u, u2, rfl, q2.nx ((e2.set (ru.mono m1.own f2)).set ru2) m2⟩
theorem ss_par3 {c : Expr} {ic : E} {i j l : Nat} {x y z : Str} {px py pz pt : Pos} {kt k2 : Nat} {pt2 : Pos} (hc : X.calm = true) (hN : X.N.Nodup) (hi : X.N[i]? = some x) (hj : X.N[j]? = some y) (hl : X.N[l]? = some z) (hij : i ≠ j) (hil : i ≠ l) (hjl : j ≠ l)
    (hx : X.env.scope.names.lookup x = some .local) (hy : X.env.scope.names.lookup y = some .local) (hz : X.env.scope.names.lookup z = some .local)
    (hsa : isStar a = false) (hsb : isStar b = false) (hsc : isStar c = false) (ha : PE X a (T1 (kx X Z) W (evE w ia))) (hb : PE X b (T1 (kx X Z) W (evE w ib))) (hcc : PE X c (T1 (kx X Z) W (evE w ic)))
    (hw : swappedStores [.Tuple [.Name x px, .Name y py, .Name z pz] kt pt] (.Tuple [a, b, c] k2 pt2) X.env = pure (some [x, y, z])) :
    PS X (.Assign [.Tuple [.Name x px, .Name y py, .Name z pz] kt pt] (.Tuple [a, b, c] k2 pt2) pos) (TS1 (kx X Z) W (evS w (.par3 i j l ia ib ic))) := by
  refine PS.imp (ps_par3 hc hN hi hj hl hij hil hjl hx hy hz (pa_cons ha (pa_cons hb (pa_cons hcc pa_nil (star_cons hsc)) (star_cons hsb)) (star_cons hsa)) hw rfl) fun D σ H h => ?_
  obtain ⟨env, M, ρ, e, m, p⟩ := h
  simp only [evS] at p
  refine T1.go e m ((p.thn e m).imp fun v M1 ρ1 H1 f1 m1 q _ e1 _ u ru => ?_)
  refine T1.go e1 m1 ((q.thn e1 m1).imp fun v2 M2 ρ2 H2 f2 m2 q2 _ e2 _ u2 ru2 => ?_)
  refine T1.go e2 m2 ((q2.thn e2 m2).imp fun v3 M3 ρ3 H3 f3 m3 q3 _ e3 _ u3 ru3 => ?_)
  exact ⟨u, u2, u3, rfl, q3.nx (((e3.set ((ru.mono m1.own f2).mono m2.own f3)).set (ru2.mono m2.own f3)).set ru3) m3⟩

/-! ### loops -/
/-- behind a turn -/
theorem PC.turn {K : Kx} {ρ : List Addr} {H : Hp} {c : Ctl} {on : Env → Mem → Ctl} {D : Ends} {N : St → Hp → Prop} (h : PC K W ρ H (c.turn on .nxt) D)
    (hN : ∀ env M ρ' H' σ', Fw ρ ρ' H H' → MemR K M ρ' H' → EnvR K ρ' H' env σ' → PC K W ρ' H' (on env M) D → N σ' H') : PC K W ρ H c { D with nx := N, ct := N, bk := D.nx } := by
  cases c with
  | nxt env M => exact fun ρ' H' σ' f m e => hN env M ρ' H' σ' f m e (PC.fw f h)
  | cnt env M => exact fun ρ' H' σ' f m e => hN env M ρ' H' σ' f m e (PC.fw f h)
  | brk env M => exact h
  | ret v M => exact h
  | exc c env M => exact h
  | fail => exact h
theorem ss_while {t : T} {sb : List Stmt} {pb : List S} (hp : PassesOwn (model X.prog X.w) X.A X.env X.xe) (ht : PT X a (Tb (kx X Z) W (evT w t))) (hb : PSs X sb (TS1 (kx X Z) W (evSs w pb))) : PS X (.While a sb [] pos) (TS1 (kx X Z) W (evS w (.whil t pb))) := by
  refine PS.imp (ps_while hp ht hb) fun D σ H h => ?_
  obtain ⟨env, M, ρ, e, m, p⟩ := h
  simp only [evS] at p
  refine ⟨fun n σ H => ∃ env M ρ, EnvR (kx X Z) ρ H env σ ∧ MemR (kx X Z) M ρ H ∧ PC (kx X Z) W ρ H (loopW (evT w t) (fun env M => evSs w pb env M) n env M) D, ⟨w.fuel, env, M, ρ, e, m, p⟩, ?_⟩
  rintro n σ H ⟨env, M, ρ, e, m, p⟩
  cases n with
  | zero => exact p.elim
  | succ n =>
    simp only [loopW] at p
    refine ⟨env, M, ρ, e, m, (p.thn e m).imp fun k M1 ρ1 H1 f1 m1 q => ?_⟩
    have e1 := e.mono m.own f1
    cases k with
    | true =>
      refine ⟨fun σ' H' => ∃ env M ρ, EnvR (kx X Z) ρ H' env σ' ∧ MemR (kx X Z) M ρ H' ∧ PC (kx X Z) W ρ H' (loopW (evT w t) (fun env M => evSs w pb env M) n env M) D, fun σ' H' z => ⟨n, by omega, z⟩, env, M1, ρ1, e1, m1, ?_⟩
      exact PC.turn q fun env2 M2 ρ2 H2 σ2 f2 m2 e2 q2 => ⟨env2, M2, ρ2, e2, m2, q2⟩
    | false => exact q.nx e1 m1
theorem ss_for {tg it : Expr} {g : Tg} {ii : I} {sb : List Stmt} {pb : List S} (hp : PassesOwn (model X.prog X.w) X.A X.env X.xe) (hc : X.calm = true) (hi : PI X tg it (Tw (kx X Z) W (evI w ii))) (hg : PG X tg (Tg1 (kx X Z) g)) (hb : PSs X sb (TS1 (kx X Z) W (evSs w pb)))
    (hs : ∀ x, foldedSetIterable it X.env x = pure x) : PS X (.For tg it sb [] pos) (TS1 (kx X Z) W (evS w (.forr g ii pb))) := by
  refine PS.imp (ps_for hp hc hi hg hb hs) fun D σ H h => ?_
  obtain ⟨env, M, ρ, e, m, p⟩ := h
  simp only [evS] at p
  refine ⟨env, M, ρ, e, m, (p.thn e m).imp fun s M1 ρ1 H1 f1 m1 q J ok => ?_⟩
  have e1 := e.mono m.own f1
  cases s with
  | items xs =>
    have q : PC (kx X Z) W ρ1 H1 (loopX g (fun env M => evSs w pb env M) xs env M1) D := q
    refine ⟨fun i n σ H => ∃ env M ρ, Fw ρ1 ρ H1 H ∧ EnvR (kx X Z) ρ H env σ ∧ MemR (kx X Z) M ρ H ∧ n = xs.length - i ∧ PC (kx X Z) W ρ H (loopX g (fun env M => evSs w pb env M) (xs.drop i) env M) D,
      ⟨xs.length, env, M1, ρ1, Fw.refl, e1, m1, rfl, q⟩, ?_⟩
    rintro i n σ H ⟨env, M, ρ, f, e, m, rfl, p⟩
    have o := ok ρ H M i f m
    cases hx : xs[i]? with
    | none =>
      rw [hx] at o
      have hl : xs.length ≤ i := List.getElem?_eq_none_iff.mp hx
      rw [List.drop_eq_nil_of_le hl] at p
      exact .inl ⟨o, p.nx e m⟩
    | some v =>
      rw [hx] at o
      have hl : i < xs.length := (List.getElem?_eq_some_iff.mp hx).1
      have hd : xs.drop i = v :: xs.drop (i + 1) := by
        rw [List.drop_eq_getElem_cons hl, (List.getElem?_eq_some_iff.mp hx).2]
      rw [hd] at p
      simp only [loopX] at p
      refine .inr ⟨o.1, fun σ' H' => ∃ env M ρ, Fw ρ1 ρ H1 H' ∧ EnvR (kx X Z) ρ H' env σ' ∧ MemR (kx X Z) M ρ H' ∧ PC (kx X Z) W ρ H' (loopX g (fun env M => evSs w pb env M) (xs.drop (i + 1)) env M) D,
        fun σ' H' ⟨env, M, ρ, f, e, m, p⟩ => ⟨xs.length - (i + 1), by omega, env, M, ρ, f, e, m, rfl, p⟩, fun x H' y => ?_⟩
      obtain ⟨f2, m2, rv⟩ := o.2 x H' y
      have e2 := e.mono m.own f2
      split at p
      · exact p.elim
      · rename_i env' hb'
        refine ⟨env, M, ρ, v, e2, m2, rv, env', hb', fun σ' e3 _ => ⟨env', M, ρ, e3, m2, ?_⟩⟩
        exact PC.turn (PC.fw f2 p) fun env3 M3 ρ3 H3 σ3 f3 m3 e3 q3 => ⟨env3, M3, ρ3, (f.trans f2).trans f3, e3, m3, q3⟩
  | mem k =>
    have q : PC (kx X Z) W ρ1 H1 (loopM g (fun env M => evSs w pb env M) k w.fuel 0 env M1) D := q
    refine ⟨fun i n σ H => ∃ env M ρ, Fw ρ1 ρ H1 H ∧ EnvR (kx X Z) ρ H env σ ∧ MemR (kx X Z) M ρ H ∧ PC (kx X Z) W ρ H (loopM g (fun env M => evSs w pb env M) k n i env M) D,
      ⟨w.fuel, env, M1, ρ1, Fw.refl, e1, m1, q⟩, ?_⟩
    rintro i n σ H ⟨env, M, ρ, f, e, m, p⟩
    cases n with
    | zero => exact p.elim
    | succ n =>
      simp only [loopM] at p
      split at p
      · rename_i xs hM
        have o := ok ρ H M i xs f m hM
        split at p
        · rename_i hx
          rw [hx] at o
          exact .inl ⟨o, p.nx e m⟩
        · rename_i v hx
          rw [hx] at o
          refine .inr ⟨o.1, fun σ' H' => ∃ env M ρ, Fw ρ1 ρ H1 H' ∧ EnvR (kx X Z) ρ H' env σ' ∧ MemR (kx X Z) M ρ H' ∧ PC (kx X Z) W ρ H' (loopM g (fun env M => evSs w pb env M) k n (i + 1) env M) D,
            fun σ' H' z => ⟨n, by omega, z⟩, fun x H' y => ?_⟩
          obtain ⟨f2, m2, rv⟩ := o.2 x H' y
          have e2 := e.mono m.own f2
          split at p
          · exact p.elim
          · rename_i env' hb'
            refine ⟨env, M, ρ, v, e2, m2, rv, env', hb', fun σ' e3 _ => ⟨env', M, ρ, e3, m2, ?_⟩⟩
            exact PC.turn (PC.fw f2 p) fun env3 M3 ρ3 H3 σ3 f3 m3 e3 q3 => ⟨env3, M3, ρ3, (f.trans f2).trans f3, e3, m3, q3⟩
      · exact p.elim
end
end HP

set_option Elab.async false
set_option linter.all false
set_option autoImplicit false
set_option maxRecDepth 100000
set_option maxHeartbeats 4000000
/-! .. slices, list comprehensions. -/
namespace HP
open PySem L2

/-! ### slices -/
theorem cutIx_eq (n d : Nat) (o : Option Int) : HT.sIx n d o = cutIx n d o := by
  cases o <;> rfl
theorem cut_rel {K : Kx} {ρ : List Addr} {H : Hp} {xs : List PV} {us : List V} (r : VRs K ρ H xs us) (lo hi : Option Int) : VRs K ρ H (cut xs lo hi) (cutV us lo hi) := by
  unfold cut cutV
  rw [cutIx_eq, cutIx_eq, r.length]
  exact VRs.take _ (VRs.drop _ r)
theorem vstr_cut {s : List Nat} (h : vstr s = true) (a b : Nat) : vstr ((s.drop a).take b) = true := by
  unfold vstr at *
  rw [List.all_eq_true] at *
  exact fun c hc => h c (List.mem_of_mem_drop (List.mem_of_mem_take hc))
/-- what a slice comes to -/
def rSl (K : Kx) : V → Option Int → Option Int → Hp → VK → Prop := fun x lo hi H Q => ∃ M ρ a, MemR K M ρ H ∧ VR K ρ H a x ∧ Pv K ρ H (cutR a lo hi M) Q
section
variable {X : Cx} {Z : Zx} {W : XW} {w : Wd} {a b c : Expr} {ia ib ic : E} {pos : Pos}
theorem sl_any : SlR X (rSl (kx X Z)) := by
  intro pins s σ H x v vl vu lo hi sl Q I rx hs pl pu h
  obtain ⟨M, ρ, a, m, ra, h⟩ := h
  unfold cutR at h
  split at h
  · rename_i xs
    obtain ⟨p, us, rfl, t, rr⟩ := ra.tup_
    refine sl_tupA pins s σ H _ v vl vu lo hi sl Q I rx hs pl pu ⟨p, us, rfl, t.sq, fun hw => ?_, fun _ z hz => h.tup m (cut_rel rr lo hi) hz⟩
    have e : cut xs lo hi = xs := by
      unfold cut
      rw [← cutIx_eq, ← cutIx_eq, ← rr.length, hw.1, hw.2, rr.length]
      simp
    rw [e] at h
    exact h.val m (vr_tup t rr)
  · rename_i xs
    obtain ⟨p, us, rfl, t, rr⟩ := ra.rol_
    exact sl_list pins s σ H _ v vl vu lo hi sl Q I rx hs pl pu ⟨p, us, rfl, t.sq, fun z hz => h.lst m (cut_rel rr lo hi) hz⟩
  · rename_i k
    have hv := ra.vs
    obtain ⟨z, rfl, e⟩ := ra.str_
    subst e
    split at h
    · rename_i hl
      refine sl_str pins s σ H _ v vl vu lo hi sl Q I rx hs pl pu ⟨z, rfl, by rw [str_len rfl]; exact Nat.le_trans hl lim_le, h.val m (vr_str ?_ ?_)⟩
      · unfold cutS cut
        rw [cutIx_eq, cutIx_eq, str_len rfl]
      · unfold cut
        exact vstr_cut hv _ _
    · exact h.elim
  · rename_i n
    obtain ⟨p, rfl, e⟩ := ra.ref_
    split at h
    · rename_i xs hx
      obtain ⟨us, hu, rr⟩ := m.lst hx e
      exact sl_list pins s σ H _ v vl vu lo hi sl Q I rx hs pl pu ⟨p, us, rfl, SqL.of hu, fun z hz => h.lst m (cut_rel rr lo hi) hz⟩
    · exact h.elim
  · exact h.elim
/-- a slice's part -/
def To (K : Kx) (W : XW) (f : Bool) (m : Env → Mem → Res PV) : TO := fun σ H Q => ∃ env M ρ, EnvR K ρ H env σ ∧ MemR K M ρ H ∧ Ps K W σ ρ H (if f then m env M else .ok .non M) fun v _ ρ' H' => ∃ o, partV f v = some o ∧ Q o H'
theorem PO.imp {e : Option Expr} {t t' : TO} (h : PO X e t) (f : ∀ σ H Q, t' σ H Q → t σ H Q) : PO X e t' := ⟨fun pins s σ H Q I q => h.run pins s σ H Q I (f σ H Q q)⟩
theorem so_none {i : E} : PO X none (To (kx X Z) W false (evE w i)) := by
  refine PO.imp po_none fun σ H Q h => ?_
  obtain ⟨env, M, ρ, e, m, p⟩ := h
  obtain ⟨o, h1, h2⟩ := Ps.here p m
  cases h1
  exact h2
theorem so_some (h : PE X a (T1 (kx X Z) W (evE w ia))) : PO X (some a) (To (kx X Z) W true (evE w ia)) := by
  refine PO.imp (po_some h) fun σ H Q h => ?_
  obtain ⟨env, M, ρ, e, m, p⟩ := h
  refine ⟨env, M, ρ, e, m, p.imp fun v M1 ρ1 H1 f1 m1 q u ru => ?_⟩
  obtain ⟨o, h1, h2⟩ := q
  unfold partV at h1
  simp only [if_true] at h1
  split at h1
  · cases h1
    cases ru.int_
    exact ⟨_, rfl, h2⟩
  · cases h1
theorem s_cut {lo hi : Option Expr} {fl fh : Bool} {il ih : E} {p2 : Pos} (ha : PE X a (T1 (kx X Z) W (evE w ia))) (hl : PO X lo (To (kx X Z) W fl (evE w il))) (hh : PO X hi (To (kx X Z) W fh (evE w ih))) : PE X (.Subscript a (.Slice lo hi none p2) pos) (T1 (kx X Z) W (evE w (.cut fl fh ia il ih))) := by
  refine PE.imp (pe_slice (sl_any (Z := Z)) ha hl hh) fun σ H Q h => ?_
  obtain ⟨env, M, ρ, e, m, p⟩ := h
  simp only [evE] at p
  refine T1.go e m (p.bind.imp fun v M1 ρ1 H1 f1 m1 q _ e1 _ u ru => ?_)
  refine ⟨env, M1, ρ1, e1, m1, q.bind.imp fun l M2 ρ2 H2 f2 m2 q2 => ?_⟩
  have e2 := e1.mono m1.own f2
  have r2 := ru.mono m1.own f2
  cases hpl : partV fl l with
  | none =>
    simp only [hpl] at q2
    exact q2.elim
  | some pl =>
    simp only [hpl] at q2
    refine ⟨pl, rfl, env, M2, ρ2, e2, m2, q2.bind.imp fun h M3 ρ3 H3 f3 m3 q3 => ?_⟩
    split at q3
    · rename_i ph hph
      exact ⟨ph, hph, M3, ρ3, v, m3, r2.mono m2.own f3, Pv.of q3 fun c M' hc => by
        unfold cutR at hc
        split at hc <;> first | (cases hc; done) | (split at hc <;> cases hc)⟩
    · exact q3.elim
/-! ### a list comprehension -/
theorem wipe_wipe (σ : St) (vs : List Nat) : wipe (wipe σ vs) vs = wipe σ vs := by
  have : ∀ ws : List Nat, (∀ v ∈ ws, v ∈ vs) → wipe (wipe σ vs) ws = wipe σ vs := by
    intro ws
    induction ws with
    | nil => exact fun _ => rfl
    | cons v ws ih =>
      intro h
      show (wipe (wipe σ vs) ws).set v none = wipe σ vs
      rw [ih fun x hx => h x (List.mem_cons_of_mem _ hx), wipe_none (h v List.mem_cons_self)]
  exact this vs fun _ h => h
theorem wipe_env {K : Kx} {ρ : List Addr} {H : Hp} {env : Env} {σ : St} (e : EnvR K ρ H env σ) : ∀ vs : List Nat, EnvR K ρ H (wipeE env vs) (wipe σ vs)
  | [] => e
  | v :: vs => by
    have ih := wipe_env e vs
    unfold wipeE wipe
    refine ⟨by simp [ih.len], fun j x hx => ?_⟩
    by_cases hj : v = j
    · subst hj
      rw [List.getElem?_set] at hx
      simp at hx
    · rw [List.getElem?_set_ne hj] at hx
      obtain ⟨u, h1, h2⟩ := ih.val j x hx
      exact ⟨u, by rw [List.getElem?_set_ne hj]; exact h1, h2⟩
/-- nothing is raised here -/
def W0 : XW := fun _ _ _ => False
theorem only_bind {α β γ : Type} {r : Res α} {f : α → Mem → Res β} {g : β → Mem → Res γ} : (r.only f).bind g = r.only fun a M => (f a M).bind g := by cases r <;> rfl
theorem Ps.only {α β : Type} {K : Kx} {W : XW} {σ : St} {ρ : List Addr} {H : Hp} {r : Res α} {f : α → Mem → Res β} {k : β → Mem → List Addr → Hp → Prop} (h : Ps K W σ ρ H (r.only f) k) : ∃ a M, r = .ok a M ∧ Ps K W σ ρ H (f a M) k := by
  cases r with
  | ok a M => exact ⟨a, M, rfl, h⟩
  | exc c M => exact h.elim
  | fail => exact h.elim
theorem evTs_one {t : T} {env : Env} {M : Mem} : evTs w [t] env M = evT w t env M := by
  simp only [evTs]
  cases h : evT w t env M with
  | ok b M1 => cases b <;> rfl
  | exc c M1 => rfl
  | fail => rfl
/-- the tests of a clause -/
theorem sts_nil : PTs X [] (Tb (kx X Z) W (evTs w [])) := ⟨fun pins s σ H Q I h => pts_nil.run pins s σ H Q I (by
  obtain ⟨env, M, ρ, e, m, p⟩ := h
  simp only [evTs] at p
  exact p.here m)⟩
theorem sts_one {t : T} (h : PT X a (Tb (kx X Z) W (evT w t))) : PTs X [a] (Tb (kx X Z) W (evTs w [t])) := ⟨fun pins s σ H Q I hw => (pts_one h).run pins s σ H Q I (by
  obtain ⟨env, M, ρ, e, m, p⟩ := hw
  rw [evTs_one] at p
  exact ⟨env, M, ρ, e, m, p⟩)⟩
theorem lc_reads {own : List (Str × Nat)} {g : Tg} {ii : I} {ts : List T} {ie : E} (hns : ∀ n ∈ tgN g, n ∈ own.map (·.2)) (σ : St) (H : Hp) (Q : VK) (h : T1 (kx X Z) W (evE w (.lc g ii ts (own.map (·.2)) ie)) σ H Q) :
    tLc (Tw (kx X Z) W (evI w ii)) (Tg1 (kx X Z) g) (Tb (kx X Z) W0 (evTs w ts)) (T1 (kx X Z) W0 (evE w ie)) (own.map (·.2)) σ H Q := by
  obtain ⟨env, M, ρ, e, m, p⟩ := h
  simp only [evE] at p
  refine ⟨env, M, ρ, e, m, p.bind.imp fun s M1 ρ1 H1 f1 m1 q J okJ D hD => ?_⟩
  have e1 := e.mono m.own f1
  have hDr : D ∉ ρ1 := m1.fresh hD
  -- the turns over items, the list that is walked standing as c says
  have key : ∀ (xs : List PV) (c : Mem → Prop), xs.length ≤ lim → (∀ (ρ : List Addr) (H : Hp) (M : Mem) (i : Nat), Fw ρ1 ρ H1 H → MemR (kx X Z) M ρ H → c M → match xs[i]? with
      | none => J.stop i H
      | some v => J.go i H ∧ ∀ x H', J.yld i H x H' → Fw ρ ρ H H' ∧ MemR (kx X Z) M ρ H' ∧ VR (kx X Z) ρ H' v x) →
      Ps (kx X Z) W σ ρ1 H1 ((lcX g (fun env M => evTs w ts env M) (fun env M => evE w ie env M) (wipeE env (own.map (·.2))) c xs M1).bind fun vs M2 => .ok (.ref M2.length) (M2 ++ [.lst vs])) (fun v _ ρ' H' => ∀ u, VR (kx X Z) ρ' H' v u → Q u H') →
      ∃ Wn : Nat → Nat → Hp → Prop, (∃ m, Wn 0 m (upd H1 D (.lst []))) ∧ ∀ i m H, Wn i m H →
        (J.stop i H ∧ Q (.ref D) H) ∨ (J.go i H ∧ ∃ Nx : Hp → Prop, (∀ H', Nx H' → ∃ m', m' < m ∧ Wn (i + 1) m' H') ∧ ∀ x H', J.yld i H x H' → Tg1 (kx X Z) g x (wipe σ (own.map (·.2))) H' fun σ2 H2 => wipe σ2 (own.map (·.2)) = wipe σ (own.map (·.2)) ∧ Tb (kx X Z) W0 (evTs w ts) σ2 H2 fun b H3 =>
          if b = true then T1 (kx X Z) W0 (evE w ie) σ2 H3 fun y H4 => ∃ acc, H4 D = some (.lst acc) ∧ acc.length < sizeLine ∧ Nx (upd H4 D (.lst (acc ++ [y]))) else Nx H3) := by
    intro xs c hlen okc p
    refine ⟨fun i n H => ∃ M ρ acc us, Fw ρ1 ρ H1 H ∧ MemR (kx X Z) M ρ H ∧ D ∉ ρ ∧ H D = some (.lst us) ∧ VRs (kx X Z) ρ H acc us ∧ n = xs.length - i ∧ i ≤ xs.length ∧ acc.length ≤ i ∧
      Ps (kx X Z) W σ ρ1 H1 ((lcX g (fun env M => evTs w ts env M) (fun env M => evE w ie env M) (wipeE env (own.map (·.2))) c (xs.drop i) M).bind fun vs M2 => .ok (.ref M2.length) (M2 ++ [.lst (acc ++ vs)])) (fun v _ ρ' H' => ∀ u, VR (kx X Z) ρ' H' v u → Q u H'),
      ⟨xs.length, M1, ρ1, [], [], Fw.out Fw.refl hD, m1.side hD, hDr, upd_same, vrs_nil, rfl, Nat.zero_le _, Nat.le_refl _, by simpa using p⟩, ?_⟩
    rintro i n H ⟨M, ρ, acc, us, f, m, hn, hu, rr, rfl, hile, hal, p⟩
    have eE : EnvR (kx X Z) ρ H env σ := e1.mono m1.own f
    cases hx : xs[i]? with
    | none =>
      have hl : xs.length ≤ i := List.getElem?_eq_none_iff.mp hx
      rw [List.drop_eq_nil_of_le hl] at p
      unfold lcX at p
      split at p
      · rename_i hcM
        have o := okc ρ H M i f m hcM
        rw [hx] at o
        refine .inl ⟨o, ?_⟩
        simp only [Res.bind_ok, List.append_nil] at p
        refine p (ρ ++ [D]) H (f.adopt hD) (m.adopt hu hn rr) _ (vr_ref ?_)
        rw [List.getElem?_append_right (by rw [m.len]; exact Nat.le_refl _), m.len]
        simp
      · exact p.elim
    | some v =>
      have hl : i < xs.length := (List.getElem?_eq_some_iff.mp hx).1
      have hd : xs.drop i = v :: xs.drop (i + 1) := by
        rw [List.drop_eq_getElem_cons hl, (List.getElem?_eq_some_iff.mp hx).2]
      rw [hd] at p
      unfold lcX at p
      split at p
      rotate_left
      · exact p.elim
      rename_i hcM
      have o := okc ρ H M i f m hcM
      rw [hx] at o
      split at p
      · exact p.elim
      rename_i env' hb
      refine .inr ⟨o.1, fun H' => ∃ M ρ acc us, Fw ρ1 ρ H1 H' ∧ MemR (kx X Z) M ρ H' ∧ D ∉ ρ ∧ H' D = some (.lst us) ∧ VRs (kx X Z) ρ H' acc us ∧ acc.length ≤ i + 1 ∧
        Ps (kx X Z) W σ ρ1 H1 ((lcX g (fun env M => evTs w ts env M) (fun env M => evE w ie env M) (wipeE env (own.map (·.2))) c (xs.drop (i + 1)) M).bind fun vs M2 => .ok (.ref M2.length) (M2 ++ [.lst (acc ++ vs)])) (fun v _ ρ' H' => ∀ u, VR (kx X Z) ρ' H' v u → Q u H'),
        fun H' ⟨M, ρ, acc, us, z1, z2, z3, z4, z5, z6, z7⟩ => ⟨xs.length - (i + 1), by omega, M, ρ, acc, us, z1, z2, z3, z4, z5, rfl, hl, z6, z7⟩, fun x H' y => ?_⟩
      obtain ⟨f2, m2, rv⟩ := o.2 x H' y
      have eE2 := wipe_env (eE.mono m.own f2) (own.map (·.2))
      refine ⟨wipeE env (own.map (·.2)), M, ρ, v, eE2, m2, rv, env', hb, fun σ2 e3 t3 => ⟨?_, env', M, ρ, e3, m2, ?_⟩⟩
      · have z := t3 (own.map (·.2)) hns
        rw [z]
        exact wipe_wipe σ _
      -- D is kept while the turn runs
      have keepD : ∀ {ρ' H''}, Fw ρ ρ' H H'' → H'' D = some (.lst us) ∧ D ∉ ρ' := fun {ρ' H''} fw => ⟨fw.keep D _ hu hn, fun z => by
        rcases fw.new D z with q | q
        · exact hn q
        · rw [hu] at q; cases q⟩
      rw [only_bind] at p
      obtain ⟨b, Mb, hr, pb⟩ := p.only
      rw [hr]
      intro ρ2 H2 f3 m3
      have f23 : Fw ρ ρ2 H H2 := f2.trans f3
      cases b with
      | false =>
        simp only [Bool.false_eq_true, if_false] at pb ⊢
        exact ⟨Mb, ρ2, acc, us, f.trans f23, m3, (keepD f23).2, (keepD f23).1, rr.mono m.own f23, by omega, pb⟩
      | true =>
        simp only [if_true] at pb ⊢
        rw [only_bind] at pb
        obtain ⟨v', Mv, hv, pv⟩ := pb.only
        refine ⟨env', Mb, ρ2, e3.mono m2.own f3, m3, ?_⟩
        rw [hv]
        intro ρ4 H4 f4 m4 y ry
        have f24 : Fw ρ ρ4 H H4 := f23.trans f4
        obtain ⟨hD4, hn4⟩ := keepD f24
        have rr4 := rr.mono m.own f24
        rw [only_bind] at pv
        obtain ⟨vs, M3, hl3, pl⟩ := pv.only
        refine ⟨us, hD4, ?_, Mv, ρ4, acc ++ [v'], us ++ [y], Fw.out (f.trans f24) hD, m4.out hD4 hn4, hn4, upd_same, VRs.out hD4 _ _ (rr4.append (vrs_cons ry vrs_nil)), by rw [List.length_append, List.length_singleton]; omega, ?_⟩
        · rw [rr.length]
          exact lim_lt (by omega)
        · rw [hl3]
          simpa using pl
  have q : Ps (kx X Z) W σ ρ1 H1 ((lcS g (fun env M => evTs w ts env M) (fun env M => evE w ie env M) (wipeE env (own.map (·.2))) s M1).bind fun vs M2 => .ok (.ref M2.length) (M2 ++ [.lst vs])) fun v _ ρ' H' => ∀ u, VR (kx X Z) ρ' H' v u → Q u H' := q
  cases s with
  | items xs =>
    unfold lcS at q
    simp only at q
    split at q
    · rename_i hlen
      exact key xs (fun _ => True) hlen (fun ρ H M i f m _ => okJ ρ H M i f m) q
    · exact q.elim
  | mem n =>
    unfold lcS at q
    simp only at q
    split at q
    · rename_i xs hM
      split at q
      · rename_i hlen
        exact key xs (fun M => M[n]? = some (.lst xs)) hlen (fun ρ H M i f m hcM => okJ ρ H M i xs f m hcM) q
      · exact q.elim
    · exact q.elim
theorem s_lc {elt tg iter : Expr} {ifs : List Expr} {scope : Scope} {own : List (Str × Nat)} {g : Tg} {ii : I} {ts : List T} {ie : E} (hc : X.calm = true) (hN : X.N.Nodup) (hi : PI X tg iter (Tw (kx X Z) W (evI w ii))) (ok : BlkOk X.N X.env.scope scope own) (hns : ∀ n ∈ tgN g, n ∈ own.map (·.2))
    (hg : ∀ (s : Shared) (H : Hp) (C : Addr) (cl : List (Str × Addr)) (fp : List Addr), PG (X.blk s H scope (compEnvC scope cl C X.env) fp) tg (Tg1 (kx X Z) g)) (ht : ∀ (s : Shared) (H : Hp) (C : Addr) (cl : List (Str × Addr)) (fp : List Addr), PTs (X.blk s H scope (compEnvC scope cl C X.env) fp) ifs (Tb (kx X Z) W0 (evTs w ts)))
    (he : ∀ (s : Shared) (H : Hp) (C : Addr) (cl : List (Str × Addr)) (fp : List Addr), PE (X.blk s H scope (compEnvC scope cl C X.env) fp) elt (T1 (kx X Z) W0 (evE w ie))) (hs : ∀ x, foldedSetIterable iter X.env x = pure x) :
    PE X (.ListComp elt [⟨tg, iter, ifs, 0⟩] scope pos) (T1 (kx X Z) W (evE w (.lc g ii ts (own.map (·.2)) ie))) := by
  exact PE.imp (pe_lc hc hN hi ok hg ht he hs) (lc_reads hns)
/-- name = [..] on one line -/
theorem ss_setLc {i : Nat} {y : Str} {py spos : Pos} {elt tg iter : Expr} {ifs : List Expr} {scope : Scope} {own : List (Str × Nat)} {g : Tg} {ii : I} {ts : List T} {ie : E} (hc : X.calm = true) (hN : X.N.Nodup) (hy : X.N[i]? = some y) (hyl : X.env.scope.names.lookup y = some .local)
    (hk : X.env.scope.kind = .function) (hl : (py.line == pos.line) = true) (ha : (scope.names.any fun (n, k) => n == y && (k == .local || k == .cell)) = false) (hi : PI X tg iter (Tw (kx X Z) W (evI w ii))) (ok : BlkOk X.N X.env.scope scope own) (hns : ∀ n ∈ tgN g, n ∈ own.map (·.2))
    (hg : ∀ (s : Shared) (H : Hp) (C : Addr) (cl : List (Str × Addr)) (fp : List Addr), PG (X.blk s H scope (compEnvC scope cl C X.env) fp) tg (Tg1 (kx X Z) g)) (ht : ∀ (s : Shared) (H : Hp) (C : Addr) (cl : List (Str × Addr)) (fp : List Addr), PTs (X.blk s H scope (compEnvC scope cl C X.env) fp) ifs (Tb (kx X Z) W0 (evTs w ts)))
    (he : ∀ (s : Shared) (H : Hp) (C : Addr) (cl : List (Str × Addr)) (fp : List Addr), PE (X.blk s H scope (compEnvC scope cl C X.env) fp) elt (T1 (kx X Z) W0 (evE w ie))) (hs : ∀ x, foldedSetIterable iter X.env x = pure x) :
    PS X (.Assign [.Name y py] (.ListComp elt [⟨tg, iter, ifs, 0⟩] scope pos) spos) (TS1 (kx X Z) W (evS w (.asg (.name i) (.lc g ii ts (own.map (·.2)) ie)))) := by
  refine PS.imp (ps_setLc hc hN hy hyl (sw_true hk hyl hl ha) hi ok hg ht he hs) fun D σ H h => ?_
  obtain ⟨env, M, ρ, e, m, p⟩ := h
  simp only [evS] at p
  refine lc_reads hns σ H _ (T1.go e m ((p.thn e m).imp fun x M1 ρ1 H1 f1 m1 q _ e1 _ u ru => ?_))
  split at q
  · rename_i env' hb
    simp only [bindT] at hb
    split at hb
    · cases hb
      exact q.nx (e1.set ru) m1
    · cases hb
  · exact q.elim
end
end HP

set_option Elab.async false
set_option linter.all false
set_option autoImplicit false
set_option maxRecDepth 100000
set_option maxHeartbeats 4000000
/-! The text read into plain form. -/
namespace HP
open PySem L2

/-- what the names of the module stand for -/
structure Gt where
  fns : List (Str × Nat × Nat)
  cns : List (Str × Nat)
  cls : List (Str × Nat)
  free : List Str

def okName (x : Str) : Bool := !(x == ("__debug__" : Str)) && !(x == ("__classdict__" : Str)) && !(x == ("__name__" : Str))
def visB (sc : Scope) (x : Str) : Bool := match sc.names.lookup x with
  | some .local => true
  | some .cell => true
  | some .free => true
  | _ => false
def locB (sc : Scope) (x : Str) : Bool := match sc.names.lookup x with
  | some .local => true
  | some .cell => true
  | _ => false
def glB (sc : Scope) (x : Str) : Bool := match sc.names.lookup x with
  | some .globalImplicit => true
  | _ => false
def ixB (N : List Str) (x : Str) : Option Nat := N.findIdx? fun y => decide (y = x)
def varB (N : List Str) (sc : Scope) (x : Str) : Option Nat := if okName x && visB sc x then ixB N x else none
def binB : Operator → Option O2
  | .Add => some .add | .Sub => some .sub | .Mult => some .mul | .FloorDiv => some .fdiv | .Mod => some .mod | .Pow => some .pow
  | _ => none
def cmpB : CmpOp → Option O2
  | .Eq => some .eq | .NotEq => some .ne | .Lt => some .lt | .LtE => some .le | .Gt => some .gt | .GtE => some .ge | .Is => some .is | .IsNot => some .isnot | .In => some .mem | .NotIn => some .notin
def augB : Operator → Option O2
  | .Add => some .add | .Sub => some .sub
  | _ => none
/-- a built-in function or class by its name -/
def bltB (x : Str) : Option On :=
  if x = ("len" : Str) then some .len else if x = ("abs" : Str) then some .abs else if x = ("int" : Str) then some .int else if x = ("list" : Str) then some .list else if x = ("tuple" : Str) then some .tuple else if x = ("isinstance" : Str) then some .isi else if x = ("max" : Str) then some .max else if x = ("min" : Str) then some .min else if x = ("sum" : Str) then some .sum else if x = ("all" : Str) then some .all else if x = ("any" : Str) then some .any else none
def tyB (x : Str) : Option Ty :=
  if x = ("int" : Str) then some .int else if x = ("str" : Str) then some .str else if x = ("bool" : Str) then some .bool else if x = ("tuple" : Str) then some .tuple else if x = ("list" : Str) then some .list else if x = ("dict" : Str) then some .dict else none
/-- a built-in's method by its name -/
def metB (x : Str) : Option (MT × On) :=
  if x = ("append" : Str) then some (.list, .append) else if x = ("get" : Str) then some (.dict, .dget) else none
def andE : List E → Option E
  | [] => none
  | e :: es => match es with
    | [] => some e
    | _ :: _ => match andE es with
      | some r => some (.and e r)
      | none => none
def orE : List E → Option E
  | [] => none
  | e :: es => match es with
    | [] => some e
    | _ :: _ => match orE es with
      | some r => some (.or e r)
      | none => none
def andT : List T → Option T
  | [] => none
  | e :: es => match es with
    | [] => some e
    | _ :: _ => match andT es with
      | some r => some (.and e r)
      | none => none
def orT : List T → Option T
  | [] => none
  | e :: es => match es with
    | [] => some e
    | _ :: _ => match orT es with
      | some r => some (.or e r)
      | none => none
def constB : Const → Option PV
  | .int i => some (.int i)
  | .bool b => some (.bl b)
  | .none => some .non
  | .str x => if x.cps.toList.all fun c => decide (c < 1114112) then some (.str x.cps.toList) else none
  | _ => none
/-- a test that is its value's truth -/
def valB : Expr → Bool
  | .Name .. => true
  | .Call .. => true
  | .Subscript .. => true
  | .Constant .. => true
  | .BinOp .. => true
  | .Attribute .. => true
  | .List .. => true
  | .Tuple .. => true
  | _ => false

def cmpE (ops : List CmpOp) (bs : List Expr) (ia : E) (is : List E) : Option E :=
  match ops, bs, is with
  | [op], [b], [ib] => match cmpB op with
    | some o => if behindInMarks op b then none else some (.op2 o ia ib)
    | none => none
  | [op, op'], [_, c], [ib, ic] => match cmpB op, cmpB op' with
    | some o, some p => if behindInMarks op' c then none else some (.chain o p ia ib ic)
    | _, _ => none
  | _, _, _ => none
def cmpT (ops : List CmpOp) (bs : List Expr) (ia : E) (is : List E) : Option T :=
  match ops, bs, is with
  | [op], [b], [ib] => match cmpB op with
    | some o => if behindInMarks op b then none else some (.cmp o ia ib)
    | none => none
  | [op, op'], [_, c], [ib, ic] => match cmpB op, cmpB op' with
    | some o, some p => if behindInMarks op' c then none else some (.chain o p ia ib ic)
    | _, _ => none
  | _, _, _ => none
def orV (t : Option T) (v : Bool) (e : Option E) : Option T :=
  match t with
  | some t => some t
  | none => if v then e.map .val else none

mutual
def cG (N : List Str) (sc : Scope) : Expr → Option Tg
  | .Name x _ => if locB sc x then (ixB N x).map .name else none
  | .Tuple es _ _ => if noStar es then (cGs N sc es).map .tup else none
  | _ => none
def cGs (N : List Str) (sc : Scope) : List Expr → Option (List Tg)
  | [] => some []
  | e :: es => match cG N sc e, cGs N sc es with
    | some g, some gs => some (g :: gs)
    | _, _ => none
end
def isSetD : Expr → Bool
  | .Set .. => true
  | _ => false
/-- what is walked, from its parts -/
def mkI (G : Gt) (sc : Scope) (e : Expr) (ie : Option E) (as : Option (List E)) : Option I :=
  match e with
  | .Call (.Name x _) es kws _ => if x = ("range" : Str) then
      if glB sc x && G.free.contains x && noStar es && kws.isEmpty then match es with
        | [_] => as.map .range
        | [_, _] => as.map .range
        | _ => none
      else none
    else ie.map .val
  | e => if isSetD e then none else ie.map .val
/-- the slots of a block's own names -/
def ownB (N : List Str) (scope : Scope) : List (Str × Nat) := scope.names.filterMap fun y => match y.2 with
  | .local => (ixB N y.1).map fun i => (y.1, i)
  | .cell => (ixB N y.1).map fun i => (y.1, i)
  | _ => none
mutual
def cE (G : Gt) (N : List Str) (sc : Scope) : Expr → Option E
  | .Constant c _ _ => (constB c).map .lit
  | .Name x _ => match varB N sc x with
    | some i => some (.var i)
    | none => if okName x && glB sc x then match G.cns.lookup x with
        | some g => some (.glob g)
        | none => match G.cls.lookup x with
          | some c => some (.lit (.ty (.own c)))
          | none => if G.free.contains x then (tyB x).map fun T => .lit (.ty T) else none
      else none
  | .BinOp a op b _ => match binB op, cE G N sc a, cE G N sc b with
    | some o, some ia, some ib => some (.op2 o ia ib)
    | _, _, _ => none
  | .UnaryOp op a _ => match op, cE G N sc a with
    | .Not, some ia => some (.nott ia)
    | .USub, some ia => some (.op1 .neg ia)
    | _, _ => none
  | .BoolOp op es _ => match op, cEs G N sc es with
    | .And, some is => andE is
    | .Or, some is => orE is
    | _, none => none
  | .Compare a ops bs _ => match cE G N sc a, cEs G N sc bs with
    | some ia, some is => cmpE ops bs ia is
    | _, _ => none
  | .IfExp t a b _ => match orV (cT G N sc t) (valB t) (cE G N sc t), cE G N sc a, cE G N sc b with
    | some it, some ia, some ib => some (.ife it ia ib)
    | _, _, _ => none
  | .Tuple es _ _ => if noStar es then (cEs G N sc es).map .tup else none
  | .List es _ => if noStar es then (cEs G N sc es).map .lst else none
  | .Subscript a (.Slice lo hi none _) _ => match cE G N sc a, cO G N sc lo, cO G N sc hi with
    | some ia, some (fl, il), some (fh, ih) => some (.cut fl fh ia il ih)
    | _, _, _ => none
  | .Subscript a b _ => if isSlice b then none else match cE G N sc a, cE G N sc b with
    | some ia, some ib => some (.op2 .idx ia ib)
    | _, _ => none
  | .Attribute _ _ _ => some .bad
  | .ListComp elt [⟨tg, iter, ifs, isa⟩] scope _ =>
      if isa == 0 && !isSetD iter && blkC N sc scope (ownB N scope) then
        match cG N scope tg, mkI G sc iter (cE G N sc iter) (cArgs G N sc iter), cIfs G N (relS scope sc) ifs, cE G N (relS scope sc) elt with
        | some g, some ii, some ts, some ie => if (tgN g).all fun n => ((ownB N scope).map (·.2)).contains n then some (.lc g ii ts ((ownB N scope).map (·.2)) ie) else none
        | _, _, _, _ => none
      else none
  | .Call (.Name x _) [] [] _ => if okName x && glB sc x then match G.fns.lookup x with
      | some (fi, n) => if n == 0 then some (.call fi []) else none
      | none => none
    else none
  | .Call f es kws pos => if !kws.isEmpty || es.isEmpty || !noStar es then none else match f with
    | .Name x _ => if okName x && glB sc x then match G.fns.lookup x with
        | some (fi, n) => if es.length == n then (cEs G N sc es).map (.call fi) else none
        | none => if G.free.contains x then match bltB x with
            | some o => (cEs G N sc es).map (.opn o)
            | none => none
          else none
      else none
    | .Attribute o nm apos => match metB nm with
      | some (k, om) => if plainBase o && decide (es.length < 29) && apos.endLine == pos.line then match cE G N sc o, cEs G N sc es with
        | some io, some is => some (.meth k om io is)
        | _, _ => none
        else none
      | none => none
    | _ => none
  | _ => none
def cO (G : Gt) (N : List Str) (sc : Scope) : Option Expr → Option (Bool × E)
  | none => some (false, .bad)
  | some e => match cE G N sc e with
    | some i => some (true, i)
    | none => none
def cIfs (G : Gt) (N : List Str) (sc : Scope) : List Expr → Option (List T)
  | [] => some []
  | [e] => match orV (cT G N sc e) (valB e) (cE G N sc e) with
    | some t => some [t]
    | none => none
  | _ :: _ :: _ => none
def cArgs (G : Gt) (N : List Str) (sc : Scope) : Expr → Option (List E)
  | .Call _ es _ _ => cEs G N sc es
  | _ => none
def cEs (G : Gt) (N : List Str) (sc : Scope) : List Expr → Option (List E)
  | [] => some []
  | e :: es => match cE G N sc e, cEs G N sc es with
    | some i, some is => some (i :: is)
    | _, _ => none
def cT (G : Gt) (N : List Str) (sc : Scope) : Expr → Option T
  | .UnaryOp op a _ => match op, orV (cT G N sc a) (valB a) (cE G N sc a) with
    | .Not, some ia => some (.not ia)
    | _, _ => none
  | .BoolOp op es _ => match op, cTs G N sc es with
    | .And, some is => andT is
    | .Or, some is => orT is
    | _, none => none
  | .Compare a ops bs _ => match cE G N sc a, cEs G N sc bs with
    | some ia, some is => cmpT ops bs ia is
    | _, _ => none
  | _ => none
def cTs (G : Gt) (N : List Str) (sc : Scope) : List Expr → Option (List T)
  | [] => some []
  | e :: es => match orV (cT G N sc e) (valB e) (cE G N sc e), cTs G N sc es with
    | some i, some is => some (i :: is)
    | _, _ => none
end

def cI (G : Gt) (N : List Str) (sc : Scope) (e : Expr) : Option I := mkI G sc e (cE G N sc e) (cArgs G N sc e)
def isTupE : Expr → Bool
  | .Tuple .. => true
  | _ => false
def isTupOrList : Expr → Bool
  | .Tuple .. => true
  | .List .. => true
  | _ => false
def lclB (sc : Scope) (x : Str) : Bool := match sc.names.lookup x with
  | some .local => true
  | _ => false
mutual
def cS (G : Gt) (N : List Str) (sc : Scope) : Stmt → Option S
  | .Pass _ => some .pass
  | .Break _ => some .brk
  | .Continue _ => some .cnt
  | .Return e _ => match e with
    | none => some .retN
    | some e => (cE G N sc e).map .ret
  | .Expr e _ => match e with
    | .Constant c _ _ => match c with
      | .str _ => some .pass
      | _ => none
    | e => if isComp e then none else (cE G N sc e).map .expr
  | .If t a b _ => match orV (cT G N sc t) (valB t) (cE G N sc t), cSs G N sc a, cSs G N sc b with
    | some it, some ia, some ib => some (.ifs it ia ib)
    | _, _, _ => none
  | .While t b o _ => match o with
    | [] => match orV (cT G N sc t) (valB t) (cE G N sc t), cSs G N sc b with
      | some it, some ib => some (.whil it ib)
      | _, _ => none
    | _ => none
  | .For tg it b o _ => match o with
    | [] => if isSetD it then none else match cG N sc tg, cI G N sc it, cSs G N sc b with
      | some g, some ii, some ib => some (.forr g ii ib)
      | _, _, _ => none
    | _ => none
  | .Assign [.Name y py] (.ListComp elt [⟨tg, iter, ifs, isa⟩] scope pos) _ =>
      if (isa == 0 && !isSetD iter && blkC N sc scope (ownB N scope)) && (lclB sc y && py.line == pos.line && !(scope.names.any fun z => z.1 == y && (z.2 == .local || z.2 == .cell))) then
        match ixB N y, cG N scope tg, mkI G sc iter (cE G N sc iter) (cArgs G N sc iter), cIfs G N (relS scope sc) ifs, cE G N (relS scope sc) elt with
        | some i, some g, some ii, some ts, some ie => if (tgN g).all fun n => ((ownB N scope).map (·.2)).contains n then some (.asg (.name i) (.lc g ii ts ((ownB N scope).map (·.2)) ie)) else none
        | _, _, _, _, _ => none
      else none
  | .Assign ts e _ => if isComp e then none else match ts with
    | [t] => match t with
      | .Subscript a b _ => if isSlice b then none else match cE G N sc a, cE G N sc b, cE G N sc e with
        | some ia, some ib, some ie => some (.setI ia ib ie)
        | _, _, _ => none
      | .Tuple ns _ _ => match e with
        | .Tuple es _ _ => match ns, es with
          | [.Name x px, .Name y py], [a, b] => match ixB N x, ixB N y, cE G N sc a, cE G N sc b with
            | some i, some j, some ia, some ib => if i != j && lclB sc x && lclB sc y && !isStar a && !isStar b && px.line == py.line && !([a, b].all (foldedForSure 8)) && !([a, b].all (constantsAlone 8)) then some (.par i j ia ib) else none
            | _, _, _, _ => none
          | [.Name x px, .Name y py, .Name z pz], [a, b, c] => match ixB N x, ixB N y, ixB N z, cE G N sc a, cE G N sc b, cE G N sc c with
            | some i, some j, some l, some ia, some ib, some ic => if i != j && i != l && j != l && lclB sc x && lclB sc y && lclB sc z && !isStar a && !isStar b && !isStar c && px.line == py.line && px.line == pz.line && !([a, b, c].all (foldedForSure 8)) && !([a, b, c].all (constantsAlone 8)) then some (.par3 i j l ia ib ic) else none
            | _, _, _, _, _, _ => none
          | _, _ => none
        | e => match cG N sc t, cE G N sc e with
          | some g, some ie => some (.asg g ie)
          | _, _ => none
      | t => match cG N sc t, cE G N sc e with
        | some g, some ie => some (.asg g ie)
        | _, _ => none
    | _ => none
  | .AugAssign t op e _ => match t with
    | .Name x _ => match augB op, ixB N x, cE G N sc e with
      | some o, some i, some ie => if locB sc x then some (.aug i o ie) else none
      | _, _, _ => none
    | .Subscript a b _ => if isSlice b then none else match augB op, cE G N sc a, cE G N sc b, cE G N sc e with
      | some o, some ia, some ib, some ie => some (.augI ia ib o ie)
      | _, _, _, _ => none
    | _ => none
  | _ => none
def cSs (G : Gt) (N : List Str) (sc : Scope) : List Stmt → Option (List S)
  | [] => some []
  | s :: ss => match cSs G N sc ss with
    | some is => some ((cS G N sc s).getD .bad :: is)
    | none => none
end
end HP

set_option Elab.async false
set_option linter.all false
set_option autoImplicit false
set_option maxRecDepth 100000
set_option maxHeartbeats 8000000
/-! What is read is what the layer's judgements say. -/
namespace HP
open PySem L2

structure Good (G : Gt) (Z : Zx) (W : XW) (w : Wd) (k : Nat) (clsV : Nat → Value) (X : Cx) : Prop where
  nd : X.N.Nodup
  calm : X.calm = true
  room : Room k X.A
  cf : ClsF (kx X Z)
  cl : ∀ x c, G.cls.lookup x = some c → X.mg x = some (.ref (Z.cls c)) ∧ c < Z.nc
  tk : Takes X (wx clsV W)
  free : ∀ x, G.free.contains x = true → X.mg x = none
  fn : ∀ x fi n, G.fns.lookup x = some (fi, n) → ∃ f fd ps, FnOk X.prog X.w X.K X.mg X.base (L2.CX X.prog X.w) k f fd ps (spF (kx X Z) clsV (w.call fi) n) ∧ X.mg x = some (.ref f) ∧ PySem.W.keepIn X.K (.ref f) = true ∧ Binds X.K fd ps []
  cn : ∀ x g, G.cns.lookup x = some g → ∃ v u uv, w.glob g = some v ∧ X.mg x = some uv ∧ RelV u uv ∧ ∀ ρ H, VR (kx X Z) ρ H v u

/-- .. of a def's body -/
structure GoodD (G : Gt) (Z : Zx) (W : XW) (w : Wd) (k : Nat) (clsV : Nat → Value) (X : Cx) : Prop extends Good G Z W w k clsV X where
  kind : X.env.scope.kind = .function
  cell : ∀ x, X.env.scope.names.lookup x = some .cell → X.fn x = true
  own : PassesOwn (model X.prog X.w) X.A X.env X.xe
/-- .. in a comprehension's block -/
theorem Good.blk {G : Gt} {Z : Zx} {W : XW} {w : Wd} {k : Nat} {clsV : Nat → Value} {X : Cx} (g : Good G Z W w k clsV X) (s : Shared) (H : Hp) (scope : Scope) (cenv : PySem.Env) (fp : List Addr) : Good G Z W0 w k clsV (X.blk s H scope cenv fp) :=
  { nd := g.nd, calm := g.calm, room := g.room, cf := g.cf, cl := g.cl, free := g.free, fn := g.fn, cn := g.cn
    tk := fun u s' ⟨a, B, sI, pins, σ, H, cls, d, e, I, nb, up, sky, na, os, ag, z⟩ => by
      obtain ⟨c, e1, e2, q⟩ := z
      exact q.elim }
theorem ok_debug {x : Str} (h : okName x = true) : (x == ("__debug__" : Str)) = false := by
  unfold okName at h
  simp only [Bool.and_eq_true, Bool.not_eq_true'] at h
  exact h.1.1
theorem ok_classdict {x : Str} (h : okName x = true) : (x == ("__classdict__" : Str)) = false := by
  unfold okName at h
  simp only [Bool.and_eq_true, Bool.not_eq_true'] at h
  exact h.1.2
theorem ok_name {x : Str} (h : okName x = true) : x ≠ "__name__" := by
  unfold okName at h
  simp only [Bool.and_eq_true, Bool.not_eq_true'] at h
  intro e
  rw [e] at h
  simp at h
theorem visB_ok {sc : Scope} {x : Str} (h : visB sc x = true) : Vis sc x := by
  unfold visB at h
  split at h
  · exact .inl ‹_›
  · exact .inr (.inl ‹_›)
  · exact .inr (.inr ‹_›)
  · cases h
theorem locB_ok {sc : Scope} {x : Str} (h : locB sc x = true) : Loc sc x := by
  unfold locB at h
  split at h
  · exact .inl ‹_›
  · exact .inr ‹_›
  · cases h
theorem lclB_ok {sc : Scope} {x : Str} (h : lclB sc x = true) : sc.names.lookup x = some .local := by
  unfold lclB at h
  split at h
  · assumption
  · cases h
theorem glB_ok {X : Cx} {x : Str} (h : glB X.env.scope x = true) : Gl X x := by
  unfold glB at h
  split at h
  · assumption
  · cases h
theorem ixB_ok {N : List Str} {x : Str} {i : Nat} (h : ixB N x = some i) : N[i]? = some x := by
  unfold ixB at h
  rw [List.findIdx?_eq_some_iff_getElem] at h
  obtain ⟨hl, h1, _⟩ := h
  rw [List.getElem?_eq_getElem hl]
  simpa using h1
theorem and_inv {a b : Bool} (h : (a && b) = true) : a = true ∧ b = true := Bool.and_eq_true_iff.mp h

section
variable {G : Gt} {Z : Zx} {W : XW} {w : Wd} {k : Nat} {clsV : Nat → Value}
theorem or_of {X : Cx} (g : Good G Z W w k clsV X) {op : Operator} {o : O2} (h : binB op = some o) : OpR X (binaryOp op) (rG (kx X Z) o) := by
  cases op <;> simp [binB] at h <;> subst h
  · exact or_add
  · exact or_sub
  · exact or_mul
  · exact or_mod
  · exact or_pow
  · exact or_fdiv
theorem oc_of {X : Cx} (g : Good G Z W w k clsV X) {op : CmpOp} {o : O2} (h : cmpB op = some o) : OpR X (compareOp op) (rG (kx X Z) o) := by
  have hu := g.room.units
  cases op <;> simp [cmpB] at h <;> subst h
  · exact or_eq hu
  · exact or_ne hu
  · exact or_lt
  · exact or_le
  · exact or_gt
  · exact or_ge
  · exact or_is
  · exact or_isnot
  · exact or_mem (by have := g.room.un; omega)
  · exact or_notin (by have := g.room.un; omega)
theorem oi_of {X : Cx} {op : Operator} {o : O2} (h : augB op = some o) : OpR X (inplaceOp op) (rGi (kx X Z) o) := by
  cases op <;> simp [augB] at h <;> subst h
  · exact ior_add
  · exact ior_sub
theorem plainIx {b : Expr} (h : isSlice b = false) : PlainIx b := by
  intro o i
  cases b <;> first | rfl | (cases h; done)
theorem valB_ok {e : Expr} {env : PySem.Env} (h : valB e = true) : ∀ whole, isTrue e env whole = (do let v ← whole; standAt e.pos; holding [v] (truthy v)) := by
  cases e <;> first | (intro _; rfl) | (cases h; done)
theorem constB_ok {X : Cx} {c : Const} {v : PV} {j : Nat} {pos : Pos} (h : constB c = some v) : PE X (.Constant c j pos) (T1 (kx X Z) W (evE w (.lit v))) := by
  cases c <;> simp only [constB] at h <;> first | (cases h; done) | skip
  all_goals first
    | (cases h; first | exact s_int | exact s_bl | exact s_non)
    | (split at h
       · rename_i hv
         cases h
         exact s_str hv
       · cases h)
theorem andE_ok {X : Cx} {pos : Pos} : ∀ {es : List Expr} {is : List E} {i : E}, (∀ (j : Nat) (e : Expr) (i : E), es[j]? = some e → is[j]? = some i → PE X e (T1 (kx X Z) W (evE w i))) → es.length = is.length → andE is = some i → PE X (.BoolOp .And es pos) (T1 (kx X Z) W (evE w i))
  | [], [], i, _, _, h => by cases h
  | [e], [i0], i, hp, _, h => by
    cases h
    exact s_one (hp 0 e i0 rfl rfl)
  | e :: e2 :: es, i0 :: i1 :: is, i, hp, hl, h => by
    unfold andE at h
    simp only at h
    split at h
    · rename_i r hr
      cases h
      refine s_and (hp 0 e i0 rfl rfl) (andE_ok (fun j e i h1 h2 => hp (j + 1) e i h1 h2) (by simpa using hl) hr)
    · cases h
  | [], _ :: _, _, _, hl, _ => by cases hl
  | _ :: _, [], _, _, hl, _ => by cases hl
  | [_], _ :: _ :: _, _, _, hl, _ => by simp at hl
  | _ :: _ :: _, [_], _, _, hl, _ => by simp at hl
theorem orE_ok {X : Cx} {pos : Pos} : ∀ {es : List Expr} {is : List E} {i : E}, (∀ (j : Nat) (e : Expr) (i : E), es[j]? = some e → is[j]? = some i → PE X e (T1 (kx X Z) W (evE w i))) → es.length = is.length → orE is = some i → PE X (.BoolOp .Or es pos) (T1 (kx X Z) W (evE w i))
  | [], [], i, _, _, h => by cases h
  | [e], [i0], i, hp, _, h => by
    cases h
    exact s_one (hp 0 e i0 rfl rfl)
  | e :: e2 :: es, i0 :: i1 :: is, i, hp, hl, h => by
    unfold orE at h
    simp only at h
    split at h
    · rename_i r hr
      cases h
      refine s_or (hp 0 e i0 rfl rfl) (orE_ok (fun j e i h1 h2 => hp (j + 1) e i h1 h2) (by simpa using hl) hr)
    · cases h
  | [], _ :: _, _, _, hl, _ => by cases hl
  | _ :: _, [], _, _, hl, _ => by cases hl
  | [_], _ :: _ :: _, _, _, hl, _ => by simp at hl
  | _ :: _ :: _, [_], _, _, hl, _ => by simp at hl
theorem andT_ok {X : Cx} {pos : Pos} : ∀ {es : List Expr} {is : List T} {i : T}, (∀ (j : Nat) (e : Expr) (i : T), es[j]? = some e → is[j]? = some i → PT X e (Tb (kx X Z) W (evT w i))) → es.length = is.length → andT is = some i → PW X (.BoolOp .And es pos) (Tb (kx X Z) W (evT w i))
  | [], [], i, _, _, h => by cases h
  | [e], [i0], i, hp, _, h => by
    cases h
    exact pw_and1 (hp 0 e i0 rfl rfl)
  | e :: e2 :: es, i0 :: i1 :: is, i, hp, hl, h => by
    unfold andT at h
    simp only at h
    split at h
    · rename_i r hr
      cases h
      refine t_and (hp 0 e i0 rfl rfl) (andT_ok (fun j e i h1 h2 => hp (j + 1) e i h1 h2) (by simpa using hl) hr)
    · cases h
  | [], _ :: _, _, _, hl, _ => by cases hl
  | _ :: _, [], _, _, hl, _ => by cases hl
  | [_], _ :: _ :: _, _, _, hl, _ => by simp at hl
  | _ :: _ :: _, [_], _, _, hl, _ => by simp at hl
theorem orT_ok {X : Cx} {pos : Pos} : ∀ {es : List Expr} {is : List T} {i : T}, (∀ (j : Nat) (e : Expr) (i : T), es[j]? = some e → is[j]? = some i → PT X e (Tb (kx X Z) W (evT w i))) → es.length = is.length → orT is = some i → PW X (.BoolOp .Or es pos) (Tb (kx X Z) W (evT w i))
  | [], [], i, _, _, h => by cases h
  | [e], [i0], i, hp, _, h => by
    cases h
    exact pw_or1 (hp 0 e i0 rfl rfl)
  | e :: e2 :: es, i0 :: i1 :: is, i, hp, hl, h => by
    unfold orT at h
    simp only at h
    split at h
    · rename_i r hr
      cases h
      refine t_or (hp 0 e i0 rfl rfl) (orT_ok (fun j e i h1 h2 => hp (j + 1) e i h1 h2) (by simpa using hl) hr)
    · cases h
  | [], _ :: _, _, _, hl, _ => by cases hl
  | _ :: _, [], _, _, hl, _ => by cases hl
  | [_], _ :: _ :: _, _, _, hl, _ => by simp at hl
  | _ :: _ :: _, [_], _, _, hl, _ => by simp at hl
theorem pw_pt {X : Cx} {e : Expr} {t : TT} (h : PW X e t) : PT X e t := h.pt
theorem orV_ok {X : Cx} {e : Expr} {t : Option T} {i : Option E} {r : T} (h : orV t (valB e) i = some r) (h1 : ∀ t', t = some t' → PT X e (Tb (kx X Z) W (evT w t'))) (h2 : ∀ i', i = some i' → PE X e (T1 (kx X Z) W (evE w i'))) : PT X e (Tb (kx X Z) W (evT w r)) := by
  unfold orV at h
  split at h
  · cases h
    exact h1 _ rfl
  · split at h
    · rename_i hv
      cases hi : i with
      | none => rw [hi] at h; cases h
      | some i' =>
        rw [hi] at h
        cases h
        exact t_val (valB_ok hv) (h2 i' hi)
    · cases h
theorem blt_ok {X : Cx} (g : Good G Z W w k clsV X) {x : Str} {o : On} {a : Expr} {es : List Expr} {is : List E} {p pos : Pos} (h : bltB x = some o) (hg : Gl X x) (hm : X.mg x = none) (hn : x ≠ "__name__") (hd : (x == ("__debug__" : Str)) = false) (hs : noStar (a :: es) = true)
    (ha : PA X (a :: es) (Tn (kx X Z) W (evEs w is))) : PE X (.Call (.Name x p) (a :: es) [] pos) (T1 (kx X Z) W (evE w (.opn o is))) := by
  have hs2 : noStar es = true := by unfold noStar at hs; exact (Bool.and_eq_true_iff.mp hs).2
  have hs1 : isStar a = false := by unfold noStar at hs; simpa using (Bool.and_eq_true_iff.mp hs).1
  unfold bltB at h
  split at h
  · rename_i e; subst e; cases h
    exact s_callB cr_len hg hm (by decide +kernel) ha hn hd (star_cons hs1) (back_any hs2)
  split at h
  · rename_i e; subst e; cases h
    exact s_callB cr_abs hg hm (by decide +kernel) ha hn hd (star_cons hs1) (back_any hs2)
  split at h
  · rename_i e; subst e; cases h
    exact s_callTy cr_int hg hm (by decide +kernel) ha hn hd (star_cons hs1) (back_any hs2)
  split at h
  · rename_i e; subst e; cases h
    exact s_callTy cr_list hg hm (by decide +kernel) ha hn hd (star_cons hs1) (back_any hs2)
  split at h
  · rename_i e; subst e; cases h
    exact s_callTy cr_tuple hg hm (by decide +kernel) ha hn hd (star_cons hs1) (back_any hs2)
  split at h
  · rename_i e; subst e; cases h
    exact s_callB (cr_isi g.cf) hg hm (by decide +kernel) ha hn hd (star_cons hs1) (back_any hs2)
  split at h
  · rename_i e; subst e; cases h
    exact s_callB (cr_max_ g.calm) hg hm (by decide +kernel) ha hn hd (star_cons hs1) (back_any hs2)
  split at h
  · rename_i e; subst e; cases h
    exact s_callB (cr_min_ g.calm) hg hm (by decide +kernel) ha hn hd (star_cons hs1) (back_any hs2)
  split at h
  · rename_i e; subst e; cases h
    exact s_callB (cr_sum_ g.calm) hg hm (by decide +kernel) ha hn hd (star_cons hs1) (back_any hs2)
  split at h
  · rename_i e; subst e; cases h
    exact s_callB (cr_all_ g.calm) hg hm (by decide +kernel) ha hn hd (star_cons hs1) (back_any hs2)
  split at h
  · rename_i e; subst e; cases h
    exact s_callB (cr_any_ g.calm) hg hm (by decide +kernel) ha hn hd (star_cons hs1) (back_any hs2)
  · cases h
theorem met_ok {X : Cx} {x : Str} {kk : MT} {om : On} {o a : Expr} {es : List Expr} {io : E} {is : List E} {apos pos : Pos} (h : metB x = some (kk, om)) (hb : plainBase o = true) (hs : noStar (a :: es) = true) (hn : (a :: es).length < 29) (hline : (apos.endLine == pos.line) = true)
    (ho : PE X o (T1 (kx X Z) W (evE w io))) (ha : PA X (a :: es) (Tn (kx X Z) W (evEs w is))) : PE X (.Call (.Attribute o x apos) (a :: es) [] pos) (T1 (kx X Z) W (evE w (.meth kk om io is))) := by
  unfold metB at h
  split at h
  · rename_i e; subst e; cases h
    exact s_meth (k := .list) PySem.F.plainAttrs_list PySem.F.slot_list_append PySem.F.type_list_append (fun pins s σ H x xs v us Q I r1 r2 h => mr_append pins s σ H x xs v us Q I r1 r2 h) hb hs hn hline ho ha
  split at h
  · rename_i e; subst e; cases h
    exact s_meth (k := .dict) PySem.F.plainAttrs_dict PySem.F.slot_dict_get PySem.F.type_dict_get mr_dget hb hs hn hline ho ha
  · cases h
theorem ty_ok {x : Str} {T : Ty} (h : tyB x = some T) : x = tyS T ∧ bootBuiltins x = some (.type (tyS T)) ∧ ∀ c, T ≠ .own c := by
  unfold tyB at h
  split at h
  · rename_i e; subst e; cases h; exact ⟨rfl, by decide +kernel, fun _ z => nomatch z⟩
  split at h
  · rename_i e; subst e; cases h; exact ⟨rfl, by decide +kernel, fun _ z => nomatch z⟩
  split at h
  · rename_i e; subst e; cases h; exact ⟨rfl, by decide +kernel, fun _ z => nomatch z⟩
  split at h
  · rename_i e; subst e; cases h; exact ⟨rfl, by decide +kernel, fun _ z => nomatch z⟩
  split at h
  · rename_i e; subst e; cases h; exact ⟨rfl, by decide +kernel, fun _ z => nomatch z⟩
  split at h
  · rename_i e; subst e; cases h; exact ⟨rfl, by decide +kernel, fun _ z => nomatch z⟩
  · cases h

/-- the parts of a list, one by one -/
def EsOk (X : Cx) (Z : Zx) (W : XW) (w : Wd) (es : List Expr) (is : List E) : Prop := es.length = is.length ∧ (∀ (j : Nat) (e : Expr) (i : E), es[j]? = some e → is[j]? = some i → PE X e (T1 (kx X Z) W (evE w i))) ∧ (noStar es = true → PA X es (Tn (kx X Z) W (evEs w is)))
def TsOk (X : Cx) (Z : Zx) (W : XW) (w : Wd) (es : List Expr) (is : List T) : Prop := es.length = is.length ∧ ∀ (j : Nat) (e : Expr) (i : T), es[j]? = some e → is[j]? = some i → PT X e (Tb (kx X Z) W (evT w i))

theorem cmpE_ok {X : Cx} (g : Good G Z W w k clsV X) {a : Expr} {ops : List CmpOp} {bs : List Expr} {pos : Pos} {ia : E} {is : List E} {i : E} (ha : PE X a (T1 (kx X Z) W (evE w ia))) (hs : EsOk X Z W w bs is) (h : cmpE ops bs ia is = some i) : PE X (.Compare a ops bs pos) (T1 (kx X Z) W (evE w i)) := by
  obtain ⟨h1, h2, _⟩ := hs
  unfold cmpE at h
  split at h
  · rename_i op b ib
    split at h
    · rename_i o ho
      split at h
      · cases h
      · rename_i hm
        cases h
        exact s_cmp (oc_of g ho) (by simpa using hm) ha (h2 0 _ _ rfl rfl)
    · cases h
  · rename_i op op' b c ib ic
    split at h
    · rename_i o p ho hp
      split at h
      · cases h
      · rename_i hm
        cases h
        exact s_chain (oc_of g ho) (oc_of g hp) (by simpa [lastMarks] using hm) ha (h2 0 _ _ rfl rfl) (h2 1 _ _ rfl rfl)
    · cases h
  · cases h
theorem cmpT_ok {X : Cx} (g : Good G Z W w k clsV X) {a : Expr} {ops : List CmpOp} {bs : List Expr} {pos : Pos} {ia : E} {is : List E} {i : T} (ha : PE X a (T1 (kx X Z) W (evE w ia))) (hs : EsOk X Z W w bs is) (h : cmpT ops bs ia is = some i) : PT X (.Compare a ops bs pos) (Tb (kx X Z) W (evT w i)) := by
  obtain ⟨h1, h2, _⟩ := hs
  unfold cmpT at h
  split at h
  · rename_i op b ib
    split at h
    · rename_i o ho
      split at h
      · cases h
      · rename_i hm
        cases h
        exact t_cmp (oc_of g ho) (by simpa using hm) ha (h2 0 _ _ rfl rfl)
    · cases h
  · rename_i op op' b c ib ic
    split at h
    · rename_i o p ho hp
      split at h
      · cases h
      · rename_i hm
        cases h
        exact t_chain (oc_of g ho) (oc_of g hp) (by simpa [lastMarks] using hm) ha (h2 0 _ _ rfl rfl) (h2 1 _ _ rfl rfl)
    · cases h
  · cases h

mutual
theorem cG_ok {X : Cx} {sc : Scope} (hn : X.N.Nodup) (hc : X.calm = true) (hl : ∀ x, locB sc x = true → Loc X.env.scope x ∧ (X.fn x = true ∨ X.env.scope.names.lookup x = some .local)) : ∀ (e : Expr) (t : Tg), cG X.N sc e = some t → PG X e (Tg1 (kx X Z) t)
  | .Name x pos, t, h => by
    simp only [cG] at h
    split at h
    · rename_i hlo
      cases hi : ixB X.N x with
      | none => rw [hi] at h; cases h
      | some i =>
        rw [hi] at h
        cases h
        exact g_name hn (ixB_ok hi) (hl _ hlo).1 (hl _ hlo).2
    · cases h
  | .Tuple es j pos, t, h => by
    simp only [cG] at h
    split at h
    · rename_i hs
      cases hcs : cGs X.N sc es with
      | none => rw [hcs] at h; cases h
      | some ts =>
        rw [hcs] at h
        cases h
        obtain ⟨h1, h2⟩ := cGs_ok hn hc hl es ts hcs
        exact g_tup hc (h2 hs) h1 hs
    · cases h
  | .BoolOp _ _ _, t, h => by simp only [cG] at h; cases h
  | .NamedExpr _ _ _, t, h => by simp only [cG] at h; cases h
  | .BinOp _ _ _ _, t, h => by simp only [cG] at h; cases h
  | .UnaryOp _ _ _, t, h => by simp only [cG] at h; cases h
  | .Lambda _ _ _ _, t, h => by simp only [cG] at h; cases h
  | .IfExp _ _ _ _, t, h => by simp only [cG] at h; cases h
  | .Dict _ _ _, t, h => by simp only [cG] at h; cases h
  | .Set _ _ _, t, h => by simp only [cG] at h; cases h
  | .ListComp _ _ _ _, t, h => by simp only [cG] at h; cases h
  | .SetComp _ _ _ _, t, h => by simp only [cG] at h; cases h
  | .DictComp _ _ _ _ _, t, h => by simp only [cG] at h; cases h
  | .GeneratorExp _ _ _ _, t, h => by simp only [cG] at h; cases h
  | .Await _ _, t, h => by simp only [cG] at h; cases h
  | .Yield _ _, t, h => by simp only [cG] at h; cases h
  | .YieldFrom _ _, t, h => by simp only [cG] at h; cases h
  | .Compare _ _ _ _, t, h => by simp only [cG] at h; cases h
  | .Call _ _ _ _, t, h => by simp only [cG] at h; cases h
  | .FormattedValue _ _ _ _, t, h => by simp only [cG] at h; cases h
  | .JoinedStr _ _, t, h => by simp only [cG] at h; cases h
  | .Constant _ _ _, t, h => by simp only [cG] at h; cases h
  | .Attribute _ _ _, t, h => by simp only [cG] at h; cases h
  | .Subscript _ _ _, t, h => by simp only [cG] at h; cases h
  | .Starred _ _, t, h => by simp only [cG] at h; cases h
  | .List _ _, t, h => by simp only [cG] at h; cases h
  | .Slice _ _ _ _, t, h => by simp only [cG] at h; cases h
termination_by e => sizeOf e
theorem cGs_ok {X : Cx} {sc : Scope} (hn : X.N.Nodup) (hc : X.calm = true) (hl : ∀ x, locB sc x = true → Loc X.env.scope x ∧ (X.fn x = true ∨ X.env.scope.names.lookup x = some .local)) : ∀ (es : List Expr) (ts : List Tg), cGs X.N sc es = some ts → ts.length = es.length ∧ (noStar es = true → PGs X es (Tgn (kx X Z) ts))
  | [], ts, h => by
    simp only [cGs] at h
    cases h
    exact ⟨rfl, fun _ => gs_nil⟩
  | e :: es, ts, h => by
    simp only [cGs] at h
    split at h
    · rename_i t ts' h1 h2
      cases h
      have p1 := cG_ok hn hc hl e t h1
      obtain ⟨q1, q2⟩ := cGs_ok hn hc hl es ts' h2
      refine ⟨by simp [q1], fun hs => ?_⟩
      unfold noStar at hs
      obtain ⟨s1, s2⟩ := and_inv hs
      exact gs_cons p1 (q2 s2) (by simpa using s1)
    · cases h
termination_by es => sizeOf es
end
theorem set_plain {e : Expr} {env : PySem.Env} (h : isSetD e = false) : ∀ x, foldedSetIterable e env x = pure x := by
  intro x
  cases e <;> first | rfl | (cases h; done)
/-- what a comprehension's own names are to the block -/
theorem blk_loc {X : Cx} {s : Shared} {H : Hp} {scope : Scope} {cl : List (Str × Addr)} {C : Addr} {fp : List Addr} {x : Str} (h : locB scope x = true) : Loc (X.blk s H scope (compEnvC scope cl C X.env) fp).env.scope x ∧ ((X.blk s H scope (compEnvC scope cl C X.env) fp).fn x = true ∨ (X.blk s H scope (compEnvC scope cl C X.env) fp).env.scope.names.lookup x = some .local) := by
  rcases locB_ok h with q | q
  · have := lookup_relS_keep (sc := X.env.scope) (k := .local) (by decide) q
    exact ⟨.inl this, .inr this⟩
  · have := lookup_relS_keep (sc := X.env.scope) (k := .cell) (by decide) q
    refine ⟨.inr this, .inl ?_⟩
    show (scope.names.lookup x == some .cell) = true
    rw [q]
    rfl
theorem mkI_ok {X : Cx} (g : Good G Z W w k clsV X) {tg e : Expr} {ie : Option E} {as : Option (List E)} {i : I} (h : mkI G X.env.scope e ie as = some i) (h1 : ∀ i', ie = some i' → PE X e (T1 (kx X Z) W (evE w i')))
    (h2 : ∀ is, as = some is → ∀ f es kws pos, e = .Call f es kws pos → EsOk X Z W w es is) : PI X tg e (Tw (kx X Z) W (evI w i)) := by
  unfold mkI at h
  split at h
  · rename_i x p es kws pos
    split at h
    · rename_i hx
      split at h
      · rename_i hq
        obtain ⟨hq, q4⟩ := and_inv hq
        obtain ⟨hq, q3⟩ := and_inv hq
        obtain ⟨q1, q2⟩ := and_inv hq
        obtain rfl : kws = [] := by simpa using q4
        split at h
        · rename_i a
          cases hc : as with
          | none => rw [hc] at h; cases h
          | some is =>
            rw [hc] at h
            cases h
            obtain ⟨z1, _, z2⟩ := h2 is hc _ _ _ _ rfl
            exact i_range1 hx (glB_ok q1) (g.free x (by simpa using q2)) (by unfold noStar at q3; simpa using (and_inv q3).1) (z2 q3) z1.symm
        · rename_i a b
          cases hc : as with
          | none => rw [hc] at h; cases h
          | some is =>
            rw [hc] at h
            cases h
            obtain ⟨z1, _, z2⟩ := h2 is hc _ _ _ _ rfl
            have hs := q3
            unfold noStar at hs
            have hs2 := (and_inv hs).2
            unfold noStar at hs2
            exact i_range2 hx (glB_ok q1) (g.free x (by simpa using q2)) (by simpa using (and_inv hs).1) (by simpa using (and_inv hs2).1) (z2 q3) z1.symm
        · cases h
      · cases h
    · cases hc : ie with
      | none => rw [hc] at h; cases h
      | some i' =>
        rw [hc] at h
        cases h
        exact i_val (h1 _ hc)
  · split at h
    · cases h
    · cases hc : ie with
      | none => rw [hc] at h; cases h
      | some i' =>
        rw [hc] at h
        cases h
        exact i_val (h1 _ hc)
theorem s_bad {X : Cx} {e : Expr} : PE X e (T1 (kx X Z) W (evE w .bad)) := ⟨fun pins s σ H Q I h => by
  obtain ⟨env, M, ρ, e, m, p⟩ := h
  simp only [evE] at p
  exact p.elim⟩
theorem s_cls {X : Cx} {x : Str} {c : Nat} {pos : Pos} (hg : Gl X x) (hm : X.mg x = some (.ref (Z.cls c))) (hc : c < Z.nc) (hd : (x == ("__debug__" : Str)) = false) : PE X (.Name x pos) (T1 (kx X Z) W (evE w (.lit (.ty (.own c))))) := by
  refine PE.imp (pe_glob (v := V.ref (Z.cls c)) hg hm rfl hd) fun σ H Q h => ?_
  obtain ⟨env, M, ρ, e, m, p⟩ := h
  simp only [evE] at p
  refine p.here m _ ?_
  unfold VR
  exact ⟨rfl, hc⟩
mutual
theorem cE_ok {W : XW} {X : Cx} (g : Good G Z W w k clsV X) : ∀ (e : Expr) (i : E), cE G X.N X.env.scope e = some i → PE X e (T1 (kx X Z) W (evE w i))
  | .Constant c j pos, i, h => by
    simp only [cE] at h
    cases hc : constB c with
    | none => rw [hc] at h; cases h
    | some v =>
      rw [hc] at h
      cases h
      exact constB_ok hc
  | .Name x pos, i, h => by
    simp only [cE] at h
    split at h
    · rename_i j hj
      cases h
      unfold varB at hj
      split at hj
      · rename_i hv
        obtain ⟨h1, h2⟩ := and_inv hv
        exact s_var (ixB_ok hj) (visB_ok h2) (ok_debug h1) (ok_classdict h1)
      · cases hj
    · split at h
      · rename_i hv
        obtain ⟨h1, h2⟩ := and_inv hv
        split at h
        · rename_i gi hc
          cases h
          obtain ⟨v, u, uv, q1, q2, q3, q4⟩ := g.cn x gi hc
          exact s_glob (glB_ok h2) q2 q3 q1 q4 (ok_debug h1)
        · split at h
          · rename_i c hc
            cases h
            obtain ⟨q1, q2⟩ := g.cl x c hc
            exact s_cls (glB_ok h2) q1 q2 (ok_debug h1)
          split at h
          · rename_i hf
            cases hT : tyB x with
            | none => rw [hT] at h; cases h
            | some T =>
              rw [hT] at h
              cases h
              obtain ⟨e1, e2, e3⟩ := ty_ok hT
              exact s_ty e1 e3 (glB_ok h2) (g.free x hf) e2 (ok_name h1) (ok_debug h1)
          · cases h
      · cases h
  | .BinOp a op b pos, i, h => by
    simp only [cE] at h
    split at h
    · rename_i o ia ib ho ha hb
      cases h
      exact s_op2 (or_of g ho) (cE_ok g a ia ha) (cE_ok g b ib hb)
    · cases h
  | .UnaryOp op a pos, i, h => by
    simp only [cE] at h
    split at h
    · rename_i ia ha
      cases h
      exact s_not (cE_ok g a ia ha)
    · rename_i ia ha
      cases h
      exact s_op1 ur_neg (cE_ok g a ia ha)
    · cases h
  | .BoolOp op es pos, i, h => by
    simp only [cE] at h
    split at h
    · rename_i is hs
      obtain ⟨h1, h2, _⟩ := cEs_ok g es is hs
      exact andE_ok h2 h1 h
    · rename_i is hs
      obtain ⟨h1, h2, _⟩ := cEs_ok g es is hs
      exact orE_ok h2 h1 h
    · cases h
  | .Compare a ops bs pos, i, h => by
    simp only [cE] at h
    split at h
    · rename_i ia is ha hs
      exact cmpE_ok g (cE_ok g a ia ha) (cEs_ok g bs is hs) h
    · cases h
  | .IfExp t a b pos, i, h => by
    simp only [cE] at h
    split at h
    · rename_i it ia ib ht ha hb
      cases h
      exact s_ife (orV_ok ht (fun t' h' => cT_ok g t t' h') (fun i' h' => cE_ok g t i' h')) (cE_ok g a ia ha) (cE_ok g b ib hb)
    · cases h
  | .Tuple es kk pos, i, h => by
    simp only [cE] at h
    split at h
    · rename_i hs
      cases hc : cEs G X.N X.env.scope es with
      | none => rw [hc] at h; cases h
      | some is =>
        rw [hc] at h
        cases h
        exact s_tup ((cEs_ok g es is hc).2.2 hs)
    · cases h
  | .List es pos, i, h => by
    simp only [cE] at h
    split at h
    · rename_i hs
      cases hc : cEs G X.N X.env.scope es with
      | none => rw [hc] at h; cases h
      | some is =>
        rw [hc] at h
        cases h
        exact s_lst ((cEs_ok g es is hc).2.2 hs)
    · cases h
  | .Subscript a (.Slice lo hi none sp) pos, i, h => by
    simp only [cE] at h
    split at h
    · rename_i ia fl il fh ih h1 h2 h3
      cases h
      exact s_cut (cE_ok g a ia h1) (cO_ok g lo fl il h2) (cO_ok g hi fh ih h3)
    · cases h
  | .Subscript a (.Slice lo hi (some st) sp) pos, i, h => by
    simp only [cE, isSlice, if_true] at h
    cases h
  | .Subscript a (.BoolOp x0 x1 x2) pos, i, h => by
    simp only [cE, isSlice, Bool.false_eq_true, if_false] at h
    split at h
    · rename_i ia ib ha hb
      cases h
      exact s_idx (plainIx rfl) (cE_ok g a ia ha) (cE_ok g _ ib hb)
    · cases h
  | .Subscript a (.NamedExpr x0 x1 x2) pos, i, h => by
    simp only [cE, isSlice, Bool.false_eq_true, if_false] at h
    split at h
    · rename_i ia ib ha hb
      cases h
      exact s_idx (plainIx rfl) (cE_ok g a ia ha) (cE_ok g _ ib hb)
    · cases h
  | .Subscript a (.BinOp x0 x1 x2 x3) pos, i, h => by
    simp only [cE, isSlice, Bool.false_eq_true, if_false] at h
    split at h
    · rename_i ia ib ha hb
      cases h
      exact s_idx (plainIx rfl) (cE_ok g a ia ha) (cE_ok g _ ib hb)
    · cases h
  | .Subscript a (.UnaryOp x0 x1 x2) pos, i, h => by
    simp only [cE, isSlice, Bool.false_eq_true, if_false] at h
    split at h
    · rename_i ia ib ha hb
      cases h
      exact s_idx (plainIx rfl) (cE_ok g a ia ha) (cE_ok g _ ib hb)
    · cases h
  | .Subscript a (.Lambda x0 x1 x2 x3) pos, i, h => by
    simp only [cE, isSlice, Bool.false_eq_true, if_false] at h
    split at h
    · rename_i ia ib ha hb
      cases h
      exact s_idx (plainIx rfl) (cE_ok g a ia ha) (cE_ok g _ ib hb)
    · cases h
  | .Subscript a (.IfExp x0 x1 x2 x3) pos, i, h => by
    simp only [cE, isSlice, Bool.false_eq_true, if_false] at h
    split at h
    · rename_i ia ib ha hb
      cases h
      exact s_idx (plainIx rfl) (cE_ok g a ia ha) (cE_ok g _ ib hb)
    · cases h
  | .Subscript a (.Dict x0 x1 x2) pos, i, h => by
    simp only [cE, isSlice, Bool.false_eq_true, if_false] at h
    split at h
    · rename_i ia ib ha hb
      cases h
      exact s_idx (plainIx rfl) (cE_ok g a ia ha) (cE_ok g _ ib hb)
    · cases h
  | .Subscript a (.Set x0 x1 x2) pos, i, h => by
    simp only [cE, isSlice, Bool.false_eq_true, if_false] at h
    split at h
    · rename_i ia ib ha hb
      cases h
      exact s_idx (plainIx rfl) (cE_ok g a ia ha) (cE_ok g _ ib hb)
    · cases h
  | .Subscript a (.ListComp x0 x1 x2 x3) pos, i, h => by
    simp only [cE, isSlice, Bool.false_eq_true, if_false] at h
    split at h
    · rename_i ia ib ha hb
      cases h
      exact s_idx (plainIx rfl) (cE_ok g a ia ha) (cE_ok g _ ib hb)
    · cases h
  | .Subscript a (.SetComp x0 x1 x2 x3) pos, i, h => by
    simp only [cE, isSlice, Bool.false_eq_true, if_false] at h
    split at h
    · rename_i ia ib ha hb
      cases h
      exact s_idx (plainIx rfl) (cE_ok g a ia ha) (cE_ok g _ ib hb)
    · cases h
  | .Subscript a (.DictComp x0 x1 x2 x3 x4) pos, i, h => by
    simp only [cE, isSlice, Bool.false_eq_true, if_false] at h
    split at h
    · rename_i ia ib ha hb
      cases h
      exact s_idx (plainIx rfl) (cE_ok g a ia ha) (cE_ok g _ ib hb)
    · cases h
  | .Subscript a (.GeneratorExp x0 x1 x2 x3) pos, i, h => by
    simp only [cE, isSlice, Bool.false_eq_true, if_false] at h
    split at h
    · rename_i ia ib ha hb
      cases h
      exact s_idx (plainIx rfl) (cE_ok g a ia ha) (cE_ok g _ ib hb)
    · cases h
  | .Subscript a (.Await x0 x1) pos, i, h => by
    simp only [cE, isSlice, Bool.false_eq_true, if_false] at h
    split at h
    · rename_i ia ib ha hb
      cases h
      exact s_idx (plainIx rfl) (cE_ok g a ia ha) (cE_ok g _ ib hb)
    · cases h
  | .Subscript a (.Yield x0 x1) pos, i, h => by
    simp only [cE, isSlice, Bool.false_eq_true, if_false] at h
    split at h
    · rename_i ia ib ha hb
      cases h
      exact s_idx (plainIx rfl) (cE_ok g a ia ha) (cE_ok g _ ib hb)
    · cases h
  | .Subscript a (.YieldFrom x0 x1) pos, i, h => by
    simp only [cE, isSlice, Bool.false_eq_true, if_false] at h
    split at h
    · rename_i ia ib ha hb
      cases h
      exact s_idx (plainIx rfl) (cE_ok g a ia ha) (cE_ok g _ ib hb)
    · cases h
  | .Subscript a (.Compare x0 x1 x2 x3) pos, i, h => by
    simp only [cE, isSlice, Bool.false_eq_true, if_false] at h
    split at h
    · rename_i ia ib ha hb
      cases h
      exact s_idx (plainIx rfl) (cE_ok g a ia ha) (cE_ok g _ ib hb)
    · cases h
  | .Subscript a (.Call x0 x1 x2 x3) pos, i, h => by
    simp only [cE, isSlice, Bool.false_eq_true, if_false] at h
    split at h
    · rename_i ia ib ha hb
      cases h
      exact s_idx (plainIx rfl) (cE_ok g a ia ha) (cE_ok g _ ib hb)
    · cases h
  | .Subscript a (.FormattedValue x0 x1 x2 x3) pos, i, h => by
    simp only [cE, isSlice, Bool.false_eq_true, if_false] at h
    split at h
    · rename_i ia ib ha hb
      cases h
      exact s_idx (plainIx rfl) (cE_ok g a ia ha) (cE_ok g _ ib hb)
    · cases h
  | .Subscript a (.JoinedStr x0 x1) pos, i, h => by
    simp only [cE, isSlice, Bool.false_eq_true, if_false] at h
    split at h
    · rename_i ia ib ha hb
      cases h
      exact s_idx (plainIx rfl) (cE_ok g a ia ha) (cE_ok g _ ib hb)
    · cases h
  | .Subscript a (.Constant x0 x1 x2) pos, i, h => by
    simp only [cE, isSlice, Bool.false_eq_true, if_false] at h
    split at h
    · rename_i ia ib ha hb
      cases h
      exact s_idx (plainIx rfl) (cE_ok g a ia ha) (cE_ok g _ ib hb)
    · cases h
  | .Subscript a (.Attribute x0 x1 x2) pos, i, h => by
    simp only [cE, isSlice, Bool.false_eq_true, if_false] at h
    split at h
    · rename_i ia ib ha hb
      cases h
      exact s_idx (plainIx rfl) (cE_ok g a ia ha) (cE_ok g _ ib hb)
    · cases h
  | .Subscript a (.Subscript x0 x1 x2) pos, i, h => by
    simp only [cE, isSlice, Bool.false_eq_true, if_false] at h
    split at h
    · rename_i ia ib ha hb
      cases h
      exact s_idx (plainIx rfl) (cE_ok g a ia ha) (cE_ok g _ ib hb)
    · cases h
  | .Subscript a (.Starred x0 x1) pos, i, h => by
    simp only [cE, isSlice, Bool.false_eq_true, if_false] at h
    split at h
    · rename_i ia ib ha hb
      cases h
      exact s_idx (plainIx rfl) (cE_ok g a ia ha) (cE_ok g _ ib hb)
    · cases h
  | .Subscript a (.Name x0 x1) pos, i, h => by
    simp only [cE, isSlice, Bool.false_eq_true, if_false] at h
    split at h
    · rename_i ia ib ha hb
      cases h
      exact s_idx (plainIx rfl) (cE_ok g a ia ha) (cE_ok g _ ib hb)
    · cases h
  | .Subscript a (.List x0 x1) pos, i, h => by
    simp only [cE, isSlice, Bool.false_eq_true, if_false] at h
    split at h
    · rename_i ia ib ha hb
      cases h
      exact s_idx (plainIx rfl) (cE_ok g a ia ha) (cE_ok g _ ib hb)
    · cases h
  | .Subscript a (.Tuple x0 x1 x2) pos, i, h => by
    simp only [cE, isSlice, Bool.false_eq_true, if_false] at h
    split at h
    · rename_i ia ib ha hb
      cases h
      exact s_idx (plainIx rfl) (cE_ok g a ia ha) (cE_ok g _ ib hb)
    · cases h
  | .ListComp elt [] scope pos, i, h => by simp only [cE] at h; cases h
  | .ListComp elt (_ :: _ :: _) scope pos, i, h => by simp only [cE] at h; cases h
  | .ListComp elt [⟨tg, iter, ifs, isa⟩] scope pos, i, h => by
    simp only [cE] at h
    split at h
    · rename_i hq
      obtain ⟨hq, q3⟩ := and_inv hq
      obtain ⟨q1, q2⟩ := and_inv hq
      obtain rfl : isa = 0 := eq_of_beq q1
      split at h
      · rename_i gg ii ts ie h1 h2 h3 h4
        split at h
        · rename_i hn
          cases h
          rw [List.all_eq_true] at hn
          refine s_lc g.calm g.nd (mkI_ok g h2 (fun i' h' => cE_ok g iter i' h') (fun is h' => cArgs_ok g iter is h')) (blkOk_by q3) (fun n hn' => by simpa using hn n hn') (fun s H C cl fp => ?_) (fun s H C cl fp => ?_) (fun s H C cl fp => ?_) (set_plain (by simpa using q2))
          · exact cG_ok (X := X.blk s H scope (compEnvC scope cl C X.env) fp) g.nd g.calm (fun x hx => blk_loc hx) tg gg h1
          · exact cIfs_ok (X := X.blk s H scope (compEnvC scope cl C X.env) fp) (g.blk s H scope (compEnvC scope cl C X.env) fp) ifs ts h3
          · exact cE_ok (X := X.blk s H scope (compEnvC scope cl C X.env) fp) (g.blk s H scope (compEnvC scope cl C X.env) fp) elt ie h4
        · cases h
      · cases h
    · cases h
  | .Call (.Name x p) [] [] pos, i, h => by
    simp only [cE] at h
    split at h
    · rename_i hv
      obtain ⟨h1, h2⟩ := and_inv hv
      split at h
      · rename_i fi n hf
        split at h
        · rename_i hn
          cases h
          obtain rfl : n = 0 := eq_of_beq hn
          obtain ⟨fa, fd, ps, F, hm, hk, hb⟩ := g.fn x fi 0 hf
          exact s_call0 F g.room (glB_ok h2) hm hk hb g.tk (ok_debug h1)
        · cases h
      · cases h
    · cases h
  | .Call (.Name x p) [] (kw0 :: kws0) pos, i, h => by
    simp only [cE] at h
    split at h
    · cases h
    · rename_i hn
      simp at hn
  | .Call (.Name x p) (e0 :: es0) kws pos, i, h => by
    simp only [cE] at h
    generalize hes : e0 :: es0 = es at h
    split at h
    · cases h
    · rename_i hn
      simp only [Bool.or_eq_true, Bool.not_eq_true', not_or, Bool.not_eq_false, Bool.not_eq_true] at hn
      obtain ⟨⟨hk, he⟩, hs⟩ := hn
      obtain rfl : kws = [] := by simpa using hk
      subst hes
      split at h
      · rename_i hv
        obtain ⟨h1, h2⟩ := and_inv hv
        split at h
        · rename_i fi n hf
          split at h
          · rename_i h4
            cases hc : cEs G X.N X.env.scope (e0 :: es0) with
            | none => rw [hc] at h; cases h
            | some is =>
              rw [hc] at h
              cases h
              obtain ⟨q1, q2, q3⟩ := cEs_ok g (e0 :: es0) is hc
              obtain ⟨fa, fd, ps, F, hm, hk, hb⟩ := g.fn x fi n hf
              refine s_call F g.room (glB_ok h2) hm hk hb g.tk (ok_debug h1) hs ?_ (q3 hs) (evEs_len is)
              rw [← q1]
              simpa using h4
          · cases h
        · split at h
          · rename_i hfr
            split at h
            · rename_i o ho
              cases hc : cEs G X.N X.env.scope (e0 :: es0) with
              | none => rw [hc] at h; cases h
              | some is =>
                rw [hc] at h
                cases h
                exact blt_ok g ho (glB_ok h2) (g.free x hfr) (ok_name h1) (ok_debug h1) hs ((cEs_ok g (e0 :: es0) is hc).2.2 hs)
            · cases h
          · cases h
      · cases h
  | .Call (.Attribute o nm apos) es kws pos, i, h => by
    simp only [cE] at h
    split at h
    · cases h
    · rename_i hn
      simp only [Bool.or_eq_true, Bool.not_eq_true', not_or, Bool.not_eq_false, Bool.not_eq_true] at hn
      obtain ⟨⟨hk, he⟩, hs⟩ := hn
      obtain rfl : kws = [] := by simpa using hk
      obtain ⟨a, es', rfl⟩ : ∃ a es', es = a :: es' := by
        cases es with
        | nil => cases he
        | cons a es' => exact ⟨a, es', rfl⟩
      split at h
      · rename_i kk om hm
        split at h
        · rename_i hq
          obtain ⟨hq, q4⟩ := and_inv hq
          obtain ⟨q1, q3⟩ := and_inv hq
          split at h
          · rename_i io is ho hss
            cases h
            exact met_ok hm q1 hs (by simpa using q3) q4 (cE_ok g o io ho) ((cEs_ok g (a :: es') is hss).2.2 hs)
          · cases h
        · cases h
      · cases h
  | .Call (.BoolOp _ _ _) es kws pos, i, h => by simp only [cE] at h; split at h <;> cases h
  | .Call (.NamedExpr _ _ _) es kws pos, i, h => by simp only [cE] at h; split at h <;> cases h
  | .Call (.BinOp _ _ _ _) es kws pos, i, h => by simp only [cE] at h; split at h <;> cases h
  | .Call (.UnaryOp _ _ _) es kws pos, i, h => by simp only [cE] at h; split at h <;> cases h
  | .Call (.Lambda _ _ _ _) es kws pos, i, h => by simp only [cE] at h; split at h <;> cases h
  | .Call (.IfExp _ _ _ _) es kws pos, i, h => by simp only [cE] at h; split at h <;> cases h
  | .Call (.Dict _ _ _) es kws pos, i, h => by simp only [cE] at h; split at h <;> cases h
  | .Call (.Set _ _ _) es kws pos, i, h => by simp only [cE] at h; split at h <;> cases h
  | .Call (.ListComp _ _ _ _) es kws pos, i, h => by simp only [cE] at h; split at h <;> cases h
  | .Call (.SetComp _ _ _ _) es kws pos, i, h => by simp only [cE] at h; split at h <;> cases h
  | .Call (.DictComp _ _ _ _ _) es kws pos, i, h => by simp only [cE] at h; split at h <;> cases h
  | .Call (.GeneratorExp _ _ _ _) es kws pos, i, h => by simp only [cE] at h; split at h <;> cases h
  | .Call (.Await _ _) es kws pos, i, h => by simp only [cE] at h; split at h <;> cases h
  | .Call (.Yield _ _) es kws pos, i, h => by simp only [cE] at h; split at h <;> cases h
  | .Call (.YieldFrom _ _) es kws pos, i, h => by simp only [cE] at h; split at h <;> cases h
  | .Call (.Compare _ _ _ _) es kws pos, i, h => by simp only [cE] at h; split at h <;> cases h
  | .Call (.Call _ _ _ _) es kws pos, i, h => by simp only [cE] at h; split at h <;> cases h
  | .Call (.FormattedValue _ _ _ _) es kws pos, i, h => by simp only [cE] at h; split at h <;> cases h
  | .Call (.JoinedStr _ _) es kws pos, i, h => by simp only [cE] at h; split at h <;> cases h
  | .Call (.Constant _ _ _) es kws pos, i, h => by simp only [cE] at h; split at h <;> cases h
  | .Call (.Subscript _ _ _) es kws pos, i, h => by simp only [cE] at h; split at h <;> cases h
  | .Call (.Starred _ _) es kws pos, i, h => by simp only [cE] at h; split at h <;> cases h
  | .Call (.List _ _) es kws pos, i, h => by simp only [cE] at h; split at h <;> cases h
  | .Call (.Tuple _ _ _) es kws pos, i, h => by simp only [cE] at h; split at h <;> cases h
  | .Call (.Slice _ _ _ _) es kws pos, i, h => by simp only [cE] at h; split at h <;> cases h
  | .NamedExpr _ _ _, i, h => by simp only [cE] at h; cases h
  | .Lambda _ _ _ _, i, h => by simp only [cE] at h; cases h
  | .Dict _ _ _, i, h => by simp only [cE] at h; cases h
  | .Set _ _ _, i, h => by simp only [cE] at h; cases h
  | .SetComp _ _ _ _, i, h => by simp only [cE] at h; cases h
  | .DictComp _ _ _ _ _, i, h => by simp only [cE] at h; cases h
  | .GeneratorExp _ _ _ _, i, h => by simp only [cE] at h; cases h
  | .Await _ _, i, h => by simp only [cE] at h; cases h
  | .Yield _ _, i, h => by simp only [cE] at h; cases h
  | .YieldFrom _ _, i, h => by simp only [cE] at h; cases h
  | .FormattedValue _ _ _ _, i, h => by simp only [cE] at h; cases h
  | .JoinedStr _ _, i, h => by simp only [cE] at h; cases h
  | .Attribute _ _ _, i, h => by simp only [cE] at h; cases h; exact s_bad
  | .Starred _ _, i, h => by simp only [cE] at h; cases h
  | .Slice _ _ _ _, i, h => by simp only [cE] at h; cases h
termination_by e => sizeOf e
theorem cO_ok {W : XW} {X : Cx} (g : Good G Z W w k clsV X) : ∀ (o : Option Expr) (f : Bool) (i : E), cO G X.N X.env.scope o = some (f, i) → PO X o (To (kx X Z) W f (evE w i))
  | none, f, i, h => by
    simp only [cO] at h
    cases h
    exact so_none
  | some e, f, i, h => by
    simp only [cO] at h
    split at h
    · rename_i i' h'
      cases h
      exact so_some (cE_ok g e _ h')
    · cases h
termination_by o => sizeOf o
theorem cIfs_ok {W : XW} {X : Cx} (g : Good G Z W w k clsV X) : ∀ (es : List Expr) (ts : List T), cIfs G X.N X.env.scope es = some ts → PTs X es (Tb (kx X Z) W (evTs w ts))
  | [], ts, h => by
    simp only [cIfs] at h
    cases h
    exact sts_nil
  | [e], ts, h => by
    simp only [cIfs] at h
    split at h
    · rename_i t h'
      cases h
      exact sts_one (orV_ok h' (fun t' h' => cT_ok g e t' h') (fun i' h' => cE_ok g e i' h'))
    · cases h
  | _ :: _ :: _, ts, h => by
    simp only [cIfs] at h
    cases h
termination_by es => sizeOf es
theorem cArgs_ok {W : XW} {X : Cx} (g : Good G Z W w k clsV X) : ∀ (e : Expr) (is : List E), cArgs G X.N X.env.scope e = some is → ∀ f es kws pos, e = .Call f es kws pos → EsOk X Z W w es is
  | .Call f0 es0 kws0 pos0, is, h => fun f es kws pos he => by
    cases he
    simp only [cArgs] at h
    exact cEs_ok g es0 is h
  | .BoolOp _ _ _, is, h => fun f es kws pos he => nomatch he
  | .NamedExpr _ _ _, is, h => fun f es kws pos he => nomatch he
  | .BinOp _ _ _ _, is, h => fun f es kws pos he => nomatch he
  | .UnaryOp _ _ _, is, h => fun f es kws pos he => nomatch he
  | .Lambda _ _ _ _, is, h => fun f es kws pos he => nomatch he
  | .IfExp _ _ _ _, is, h => fun f es kws pos he => nomatch he
  | .Dict _ _ _, is, h => fun f es kws pos he => nomatch he
  | .Set _ _ _, is, h => fun f es kws pos he => nomatch he
  | .ListComp _ _ _ _, is, h => fun f es kws pos he => nomatch he
  | .SetComp _ _ _ _, is, h => fun f es kws pos he => nomatch he
  | .DictComp _ _ _ _ _, is, h => fun f es kws pos he => nomatch he
  | .GeneratorExp _ _ _ _, is, h => fun f es kws pos he => nomatch he
  | .Await _ _, is, h => fun f es kws pos he => nomatch he
  | .Yield _ _, is, h => fun f es kws pos he => nomatch he
  | .YieldFrom _ _, is, h => fun f es kws pos he => nomatch he
  | .Compare _ _ _ _, is, h => fun f es kws pos he => nomatch he
  | .FormattedValue _ _ _ _, is, h => fun f es kws pos he => nomatch he
  | .JoinedStr _ _, is, h => fun f es kws pos he => nomatch he
  | .Constant _ _ _, is, h => fun f es kws pos he => nomatch he
  | .Attribute _ _ _, is, h => fun f es kws pos he => nomatch he
  | .Subscript _ _ _, is, h => fun f es kws pos he => nomatch he
  | .Starred _ _, is, h => fun f es kws pos he => nomatch he
  | .Name _ _, is, h => fun f es kws pos he => nomatch he
  | .List _ _, is, h => fun f es kws pos he => nomatch he
  | .Tuple _ _ _, is, h => fun f es kws pos he => nomatch he
  | .Slice _ _ _ _, is, h => fun f es kws pos he => nomatch he
termination_by e => sizeOf e
theorem cEs_ok {W : XW} {X : Cx} (g : Good G Z W w k clsV X) : ∀ (es : List Expr) (is : List E), cEs G X.N X.env.scope es = some is → EsOk X Z W w es is
  | [], is, h => by
    simp only [cEs] at h
    cases h
    exact ⟨rfl, fun j e i h1 _ => by simp at h1, fun _ => sn_nil⟩
  | e :: es, is, h => by
    simp only [cEs] at h
    split at h
    · rename_i i is' h1 h2
      cases h
      have p1 := cE_ok g e i h1
      obtain ⟨q1, q2, q3⟩ := cEs_ok g es is' h2
      refine ⟨by simp [q1], fun j e' i' e1 e2 => ?_, fun hs => ?_⟩
      · cases j with
        | zero =>
          simp at e1 e2
          subst e1 e2
          exact p1
        | succ j => exact q2 j e' i' (by simpa using e1) (by simpa using e2)
      · unfold noStar at hs
        obtain ⟨s1, s2⟩ := and_inv hs
        exact sn_cons p1 (q3 s2) (star_cons (by simpa using s1))
    · cases h
termination_by es => sizeOf es
theorem cT_ok {W : XW} {X : Cx} (g : Good G Z W w k clsV X) : ∀ (e : Expr) (i : T), cT G X.N X.env.scope e = some i → PT X e (Tb (kx X Z) W (evT w i))
  | .UnaryOp op a pos, i, h => by
    simp only [cT] at h
    split at h
    · rename_i ia ha
      cases h
      exact t_not (orV_ok ha (fun t' h' => cT_ok g a t' h') (fun i' h' => cE_ok g a i' h'))
    · cases h
  | .BoolOp op es pos, i, h => by
    simp only [cT] at h
    split at h
    · rename_i is hs
      obtain ⟨h1, h2⟩ := cTs_ok g es is hs
      exact (andT_ok h2 h1 h).pt
    · rename_i is hs
      obtain ⟨h1, h2⟩ := cTs_ok g es is hs
      exact (orT_ok h2 h1 h).pt
    · cases h
  | .Compare a ops bs pos, i, h => by
    simp only [cT] at h
    split at h
    · rename_i ia is ha hs
      exact cmpT_ok g (cE_ok g a ia ha) (cEs_ok g bs is hs) h
    · cases h
  | .Constant _ _ _, i, h => by simp only [cT] at h; cases h
  | .Name _ _, i, h => by simp only [cT] at h; cases h
  | .BinOp _ _ _ _, i, h => by simp only [cT] at h; cases h
  | .IfExp _ _ _ _, i, h => by simp only [cT] at h; cases h
  | .Tuple _ _ _, i, h => by simp only [cT] at h; cases h
  | .List _ _, i, h => by simp only [cT] at h; cases h
  | .Subscript _ _ _, i, h => by simp only [cT] at h; cases h
  | .Call _ _ _ _, i, h => by simp only [cT] at h; cases h
  | .NamedExpr _ _ _, i, h => by simp only [cT] at h; cases h
  | .Lambda _ _ _ _, i, h => by simp only [cT] at h; cases h
  | .Dict _ _ _, i, h => by simp only [cT] at h; cases h
  | .Set _ _ _, i, h => by simp only [cT] at h; cases h
  | .ListComp _ _ _ _, i, h => by simp only [cT] at h; cases h
  | .SetComp _ _ _ _, i, h => by simp only [cT] at h; cases h
  | .DictComp _ _ _ _ _, i, h => by simp only [cT] at h; cases h
  | .GeneratorExp _ _ _ _, i, h => by simp only [cT] at h; cases h
  | .Await _ _, i, h => by simp only [cT] at h; cases h
  | .Yield _ _, i, h => by simp only [cT] at h; cases h
  | .YieldFrom _ _, i, h => by simp only [cT] at h; cases h
  | .FormattedValue _ _ _ _, i, h => by simp only [cT] at h; cases h
  | .JoinedStr _ _, i, h => by simp only [cT] at h; cases h
  | .Attribute _ _ _, i, h => by simp only [cT] at h; cases h
  | .Starred _ _, i, h => by simp only [cT] at h; cases h
  | .Slice _ _ _ _, i, h => by simp only [cT] at h; cases h
termination_by e => sizeOf e
theorem cTs_ok {W : XW} {X : Cx} (g : Good G Z W w k clsV X) : ∀ (es : List Expr) (is : List T), cTs G X.N X.env.scope es = some is → TsOk X Z W w es is
  | [], is, h => by
    simp only [cTs] at h
    cases h
    exact ⟨rfl, fun j e i h1 _ => by simp at h1⟩
  | e :: es, is, h => by
    simp only [cTs] at h
    split at h
    · rename_i i is' h1 h2
      cases h
      have p1 : PT X e (Tb (kx X Z) W (evT w i)) := orV_ok h1 (fun t' h' => cT_ok g e t' h') (fun i' h' => cE_ok g e i' h')
      obtain ⟨q1, q2⟩ := cTs_ok g es is' h2
      refine ⟨by simp [q1], fun j e' i' e1 e2 => ?_⟩
      cases j with
      | zero =>
        simp at e1 e2
        subst e1 e2
        exact p1
      | succ j => exact q2 j e' i' (by simpa using e1) (by simpa using e2)
    · cases h
termination_by es => sizeOf es
end
end
end HP

set_option Elab.async false
set_option linter.all false
set_option autoImplicit false
set_option maxRecDepth 100000
set_option maxHeartbeats 8000000
/-! .. of statements; of defs. -/
namespace HP
open PySem L2
section
variable {G : Gt} {Z : Zx} {W : XW} {w : Wd} {k : Nat} {clsV : Nat → Value}
theorem ss_bad {X : Cx} {s : Stmt} : PS X s (TS1 (kx X Z) W (evS w .bad)) := ⟨fun pins s σ H D I h => by
  obtain ⟨env, M, ρ, e, m, p⟩ := h
  simp only [evS] at p
  exact p.elim⟩
theorem loc_fn {X : Cx} (g : GoodD G Z W w k clsV X) {x : Str} (h : locB X.env.scope x = true) : X.fn x = true ∨ X.env.scope.names.lookup x = some .local := by
  rcases locB_ok h with q | q
  · exact .inr q
  · exact .inl (g.cell x q)
theorem block_fun {env : PySem.Env} (h : env.scope.kind = .function) : env.blockKind = .function := by
  unfold PySem.Env.blockKind
  rw [h]
  rfl
theorem swap2 {env : PySem.Env} {x y : Str} {px py pt pt2 : Pos} {kt k2 : Nat} {a b : Expr} (hk : env.scope.kind = .function) (hx : env.scope.names.lookup x = some .local) (hy : env.scope.names.lookup y = some .local) (hne : x ≠ y) (hl : (px.line == py.line) = true)
    (ha : isStar a = false) (hb : isStar b = false) (h1 : [a, b].all (foldedForSure 8) = false) (h2 : [a, b].all (constantsAlone 8) = false) : swappedStores [.Tuple [.Name x px, .Name y py] kt pt] (.Tuple [a, b] k2 pt2) env = pure (some [x, y]) := by
  have kx : env.kindOf x = some .local := hx
  have ky : env.kindOf y = some .local := hy
  have hbk := block_fun hk
  have hl' : py.line = px.line := (beq_iff_eq.mp hl).symm
  have e : ([x, y].eraseDups) = [x, y] := by
    rw [List.eraseDups_cons]
    have : List.filter (fun b => !b == x) [y] = [y] := by simp [hne.symm]
    rw [this]
    rfl
  have p1 : (Expr.Name x px).pos = px := rfl
  unfold swappedStores
  dsimp only
  rw [if_neg (by rw [hbk]; simp)]
  rw [if_neg ?hs]
  case hs =>
    intro hh
    rw [List.any_eq_true] at hh
    obtain ⟨e, he, hm⟩ := hh
    split at hm
    · simp only [List.mem_cons, List.not_mem_nil, or_false] at he
      rcases he with rfl | rfl
      · cases ha
      · cases hb
    · cases hm
  simp [List.filterMap_cons, kx, ky, hl', p1, e, h1, h2]
theorem swap3 {env : PySem.Env} {x y z : Str} {px py pz pt pt2 : Pos} {kt k2 : Nat} {a b c : Expr} (hk : env.scope.kind = .function) (hx : env.scope.names.lookup x = some .local) (hy : env.scope.names.lookup y = some .local) (hz : env.scope.names.lookup z = some .local) (hxy : x ≠ y) (hxz : x ≠ z) (hyz : y ≠ z)
    (hl : (px.line == py.line) = true) (hl2 : (px.line == pz.line) = true)
    (ha : isStar a = false) (hb : isStar b = false) (hc : isStar c = false) (h1 : [a, b, c].all (foldedForSure 8) = false) (h2 : [a, b, c].all (constantsAlone 8) = false) : swappedStores [.Tuple [.Name x px, .Name y py, .Name z pz] kt pt] (.Tuple [a, b, c] k2 pt2) env = pure (some [x, y, z]) := by
  have kx : env.kindOf x = some .local := hx
  have ky : env.kindOf y = some .local := hy
  have kz : env.kindOf z = some .local := hz
  have hbk := block_fun hk
  have hl' : py.line = px.line := (beq_iff_eq.mp hl).symm
  have hl2' : pz.line = px.line := (beq_iff_eq.mp hl2).symm
  have e : ([x, y, z].eraseDups) = [x, y, z] := by
    rw [List.eraseDups_cons]
    have : List.filter (fun b => !b == x) [y, z] = [y, z] := by simp [hxy.symm, hxz.symm]
    rw [this, List.eraseDups_cons]
    have : List.filter (fun b => !b == y) [z] = [z] := by simp [hyz.symm]
    rw [this]
    rfl
  have p1 : (Expr.Name x px).pos = px := rfl
  unfold swappedStores
  dsimp only
  rw [if_neg (by rw [hbk]; simp)]
  rw [if_neg ?hs]
  case hs =>
    intro hh
    rw [List.any_eq_true] at hh
    obtain ⟨e, he, hm⟩ := hh
    split at hm
    · simp only [List.mem_cons, List.not_mem_nil, or_false] at he
      rcases he with rfl | rfl | rfl
      · cases ha
      · cases hb
      · cases hc
    · cases hm
  simp [List.filterMap_cons, kx, ky, kz, hl', hl2', p1, e, h1, h2]
theorem augPlain {b : Expr} (h : isSlice b = false) (ov iv new : Value) : augStore b ov iv new = (do holding [new, ov, iv] (setItem ov iv new); release [new, ov, iv] []; pure .next) := by
  cases b <;> first | rfl | (cases h; done)
theorem ne_of_ix {N : List Str} {x y : Str} {i j : Nat} (hx : ixB N x = some i) (hy : ixB N y = some j) (h : (i != j) = true) : x ≠ y := fun e => by
  subst e
  rw [hx] at hy
  cases hy
  simp at h
theorem plain_swap {t e : Expr} {env : PySem.Env} (h : isTupE t = false ∨ isTupE e = false) (ht : ∀ es p, t ≠ .List es p) : swappedStores [t] e env = pure none := by
  rcases h with h | h
  · cases t <;> first | rfl | (cases h; done) | exact absurd rfl (ht _ _)
  · cases e <;> first | (cases h; done) | (cases t <;> rfl)

theorem lcAsg_ok {X : Cx} (g : GoodD G Z W w k clsV X) {y : Str} {py p2 pos : Pos} {elt tg iter : Expr} {ifs : List Expr} {isa : Int} {scope : Scope} {i : S}
    (h : (if (isa == 0 && !isSetD iter && blkC X.N X.env.scope scope (ownB X.N scope)) && (lclB X.env.scope y && py.line == p2.line && !(scope.names.any fun z => z.1 == y && (z.2 == .local || z.2 == .cell))) then
        match ixB X.N y, cG X.N scope tg, mkI G X.env.scope iter (cE G X.N X.env.scope iter) (cArgs G X.N X.env.scope iter), cIfs G X.N (relS scope X.env.scope) ifs, cE G X.N (relS scope X.env.scope) elt with
        | some i, some g, some ii, some ts, some ie => if (tgN g).all fun n => ((ownB X.N scope).map (·.2)).contains n then some (S.asg (.name i) (.lc g ii ts ((ownB X.N scope).map (·.2)) ie)) else none
        | _, _, _, _, _ => none
      else none) = some i) : PS X (.Assign [.Name y py] (.ListComp elt [⟨tg, iter, ifs, isa⟩] scope p2) pos) (TS1 (kx X Z) W (evS w i)) := by
  split at h
  · rename_i hq
    obtain ⟨hq, hr⟩ := and_inv hq
    obtain ⟨hq, q3⟩ := and_inv hq
    obtain ⟨q1, q2⟩ := and_inv hq
    obtain ⟨hr, r3⟩ := and_inv hr
    obtain ⟨r1, r2⟩ := and_inv hr
    obtain rfl : isa = 0 := eq_of_beq q1
    split at h
    · rename_i j gg ii ts ie h0 h1 h2 h3 h4
      split at h
      · rename_i hn
        cases h
        rw [List.all_eq_true] at hn
        have gg0 := g.toGood
        refine ss_setLc g.calm g.nd (ixB_ok h0) (lclB_ok r1) g.kind r2 (by simpa using r3) (mkI_ok gg0 h2 (fun i' h' => cE_ok gg0 iter i' h') (fun is h' => cArgs_ok gg0 iter is h')) (blkOk_by q3) (fun n hn' => by simpa using hn n hn') (fun s H C cl fp => ?_) (fun s H C cl fp => ?_) (fun s H C cl fp => ?_) (set_plain (by simpa using q2))
        · exact cG_ok (X := X.blk s H scope (compEnvC scope cl C X.env) fp) g.nd g.calm (fun x hx => blk_loc hx) tg gg h1
        · exact cIfs_ok (X := X.blk s H scope (compEnvC scope cl C X.env) fp) (gg0.blk s H scope (compEnvC scope cl C X.env) fp) ifs ts h3
        · exact cE_ok (X := X.blk s H scope (compEnvC scope cl C X.env) fp) (gg0.blk s H scope (compEnvC scope cl C X.env) fp) elt ie h4
      · cases h
    · cases h
  · cases h
mutual
theorem cS_ok {X : Cx} (g : GoodD G Z W w k clsV X) : ∀ (s : Stmt) (i : S), cS G X.N X.env.scope s = some i → PS X s (TS1 (kx X Z) W (evS w i))
  | .Pass pos, i, h => by
    simp only [cS] at h
    cases h
    exact ss_pass
  | .Break pos, i, h => by
    simp only [cS] at h
    cases h
    exact ss_brk
  | .Continue pos, i, h => by
    simp only [cS] at h
    cases h
    exact ss_cnt
  | .Return none pos, i, h => by
    simp only [cS] at h
    cases h
    exact ss_retN
  | .Return (some e) pos, i, h => by
    simp only [cS] at h
    cases hc : cE G X.N X.env.scope e with
    | none => rw [hc] at h; cases h
    | some ie =>
      rw [hc] at h
      cases h
      exact ss_ret (cE_ok g.toGood e ie hc)
  | .Expr e pos, i, h => by
    unfold cS at h
    split at h
    · split at h
      · cases h
        refine PS.imp ps_doc fun D σ H h => ?_
        obtain ⟨env, M, ρ, e, m, p⟩ := h
        simp only [evS] at p
        exact p.nx e m
      · cases h
    · split at h
      · cases h
      · rename_i hq
        cases hc : cE G X.N X.env.scope e with
        | none => rw [hc] at h; cases h
        | some ie =>
          rw [hc] at h
          cases h
          exact ss_expr (cE_ok g.toGood e ie hc) (by simpa using hq)
  | .If t a b pos, i, h => by
    simp only [cS] at h
    split at h
    · rename_i it ia ib ht ha hb
      cases h
      exact ss_if (orV_ok ht (fun t' h' => cT_ok g.toGood t t' h') (fun i' h' => cE_ok g.toGood t i' h')) (cSs_ok g a ia ha) (cSs_ok g b ib hb)
    · cases h
  | .While t b o pos, i, h => by
    simp only [cS] at h
    split at h
    · split at h
      · rename_i it ib ht hb
        cases h
        exact ss_while g.own (orV_ok ht (fun t' h' => cT_ok g.toGood t t' h') (fun i' h' => cE_ok g.toGood t i' h')) (cSs_ok g b ib hb)
      · cases h
    · cases h
  | .For tg it b o pos, i, h => by
    simp only [cS] at h
    split at h
    · split at h
      · cases h
      · rename_i hq
        split at h
        · rename_i gg ii ib hg hi hb
          cases h
          exact ss_for g.own g.calm (mkI_ok g.toGood hi (fun i' h' => cE_ok g.toGood it i' h') (fun is h' => cArgs_ok g.toGood it is h')) (cG_ok g.nd g.calm (fun x hx => ⟨locB_ok hx, loc_fn g hx⟩) tg gg hg) (cSs_ok g b ib hb) (set_plain (by simpa using hq))
        · cases h
    · cases h
  | .Assign ts e pos, i, h => by
    unfold cS at h
    split at h <;> rename_i heq <;> (first | (cases heq; done) | (cases h; done) | skip)
    · cases heq
      exact lcAsg_ok g h
    cases heq
    rename ∀ (y : Str) (py : Pos) (elt tg iter : Expr) (ifs : List Expr) (isa : Int) (scope : Scope) (pos : Pos), _ = _ → _ = _ → False => hno
    clear hno
    split at h
    · cases h
    · rename_i hq
      have hcp : isComp e = false := by simpa using hq
      split at h
      · rename_i t
        split at h
        · rename_i a b p2
          split at h
          · cases h
          · rename_i hsl
            split at h
            · rename_i ia ib ie ha hb he
              cases h
              exact ss_setI (by simpa using hsl) (cE_ok g.toGood a ia ha) (cE_ok g.toGood b ib hb) (cE_ok g.toGood e ie he) hcp
            · cases h
        · rename_i ns kt pt
          split at h
          · rename_i es k2 pt2
            split at h
            · rename_i x px y py a b
              split at h
              · rename_i i1 j1 ia ib hi hj ha hb
                split at h
                · rename_i hc
                  cases h
                  simp only [Bool.and_eq_true, Bool.not_eq_true'] at hc
                  obtain ⟨⟨⟨⟨⟨⟨⟨c1, c2⟩, c3⟩, c4⟩, c5⟩, c6⟩, c7⟩, c8⟩ := hc
                  exact ss_par g.calm g.nd (ixB_ok hi) (ixB_ok hj) (by simpa using c1) (lclB_ok c2) (lclB_ok c3) c4 c5 (cE_ok g.toGood a ia ha) (cE_ok g.toGood b ib hb) (swap2 g.kind (lclB_ok c2) (lclB_ok c3) (ne_of_ix hi hj c1) c6 c4 c5 c7 c8)
                · cases h
              · cases h
            · rename_i x px y py z pz a b c
              split at h
              · rename_i i1 j1 l1 ia ib ic hi hj hl ha hb hcc
                split at h
                · rename_i hc
                  cases h
                  simp only [Bool.and_eq_true, Bool.not_eq_true'] at hc
                  obtain ⟨⟨⟨⟨⟨⟨⟨⟨⟨⟨⟨⟨c1, c2⟩, c3⟩, c4⟩, c5⟩, c6⟩, c7⟩, c8⟩, c9⟩, c10⟩, c11⟩, c12⟩, c13⟩ := hc
                  exact ss_par3 g.calm g.nd (ixB_ok hi) (ixB_ok hj) (ixB_ok hl) (by simpa using c1) (by simpa using c2) (by simpa using c3) (lclB_ok c4) (lclB_ok c5) (lclB_ok c6) c7 c8 c9 (cE_ok g.toGood a ia ha) (cE_ok g.toGood b ib hb) (cE_ok g.toGood c ic hcc)
                    (swap3 g.kind (lclB_ok c4) (lclB_ok c5) (lclB_ok c6) (ne_of_ix hi hj c1) (ne_of_ix hi hl c2) (ne_of_ix hj hl c3) c10 c11 c7 c8 c9 c12 c13)
                · cases h
              · cases h
            · cases h
          · rename_i e' hne
            split at h
            · rename_i gg ie hg he
              cases h
              refine ss_asg (cE_ok g.toGood e ie he) (cG_ok g.nd g.calm (fun x hx => ⟨locB_ok hx, loc_fn g hx⟩) _ gg hg) hcp (plain_swap (.inr ?_) (fun _ _ z => nomatch z)) rfl
              cases e <;> first | rfl | exact absurd rfl (hne _ _ _)
            · cases h
        · rename_i t' hn1 hn2
          split at h
          · rename_i gg ie hg he
            cases h
            have h3 : isTupE t = false := by cases t <;> first | rfl | exact absurd rfl (hn2 _ _ _)
            have h4 : ∀ es p, t ≠ .List es p := fun es p z => by subst z; simp only [cG] at hg; cases hg
            have h5 : isStar t = false := by cases t <;> first | rfl | (simp only [cG] at hg; cases hg)
            exact ss_asg (cE_ok g.toGood e ie he) (cG_ok g.nd g.calm (fun x hx => ⟨locB_ok hx, loc_fn g hx⟩) t gg hg) hcp (plain_swap (.inl h3) h4) h5
          · cases h
      · cases h
  | .AugAssign t op e pos, i, h => by
    unfold cS at h
    split at h
    · rename_i x p2
      split at h
      · rename_i o j ie ho hj he
        split at h
        · rename_i hl
          cases h
          exact ss_aug (oi_of ho) g.nd (ixB_ok hj) (locB_ok hl) (loc_fn g hl) (cE_ok g.toGood e ie he)
        · cases h
      · cases h
    · rename_i a b p2
      split at h
      · cases h
      · rename_i hsl
        split at h
        · rename_i o ia ib ie ho ha hb he
          cases h
          exact ss_augI (oi_of ho) (cE_ok g.toGood a ia ha) (cE_ok g.toGood b ib hb) (cE_ok g.toGood e ie he) (augPlain (by simpa using hsl))
        · cases h
    · cases h
  | .FunctionDef _ _ _ _ _ _ _ _ _ _, i, h => by simp only [cS] at h; cases h
  | .AsyncFunctionDef _ _ _ _ _ _ _ _ _ _, i, h => by simp only [cS] at h; cases h
  | .ClassDef _ _ _ _ _ _ _ _ _ _ _, i, h => by simp only [cS] at h; cases h
  | .Delete _ _, i, h => by simp only [cS] at h; cases h
  | .TypeAlias _ _ _ _ _ _ _, i, h => by simp only [cS] at h; cases h
  | .AnnAssign _ _ _ _ _, i, h => by simp only [cS] at h; cases h
  | .AsyncFor _ _ _ _ _, i, h => by simp only [cS] at h; cases h
  | .With _ _ _, i, h => by simp only [cS] at h; cases h
  | .AsyncWith _ _ _, i, h => by simp only [cS] at h; cases h
  | .Match _ _ _, i, h => by simp only [cS] at h; cases h
  | .Raise _ _ _, i, h => by simp only [cS] at h; cases h
  | .Try _ _ _ _ _, i, h => by simp only [cS] at h; cases h
  | .TryStar _ _ _ _ _, i, h => by simp only [cS] at h; cases h
  | .Assert _ _ _, i, h => by simp only [cS] at h; cases h
  | .Import _ _, i, h => by simp only [cS] at h; cases h
  | .ImportFrom _ _ _ _, i, h => by simp only [cS] at h; cases h
  | .Global _ _, i, h => by simp only [cS] at h; cases h
  | .Nonlocal _ _, i, h => by simp only [cS] at h; cases h
termination_by s => sizeOf s
theorem cSs_ok {X : Cx} (g : GoodD G Z W w k clsV X) : ∀ (ss : List Stmt) (is : List S), cSs G X.N X.env.scope ss = some is → PSs X ss (TS1 (kx X Z) W (evSs w is))
  | [], is, h => by
    simp only [cSs] at h
    cases h
    exact ss_nil
  | s :: ss, is, h => by
    simp only [cSs] at h
    split at h
    · rename_i is' h2
      cases h
      refine ss_cons ?_ (cSs_ok g ss is' h2)
      cases hc : cS G X.N X.env.scope s with
      | none => exact ss_bad
      | some i => exact cS_ok g s i hc
    · cases h
termination_by ss => sizeOf ss
end
end
end HP

set_option Elab.async false
set_option linter.all false
set_option autoImplicit false
set_option maxRecDepth 100000
set_option maxHeartbeats 8000000
/-! The defs of a text, all at once; the law's end. -/
namespace HP
open PySem L2

/-- a def as it is read: where it stands, its names (parameters first), its plain form -/
structure Df where
  x : Str
  d : He.DefD
  N : List Str
  ps : List Str
  fn : Fn
def fscB (N P : List Str) (sc : Scope) : Bool :=
  (match sc.kind with | .function => true | _ => false) && !sc.isCoroutine && !sc.isGenerator && decide N.Nodup && decide (N.take P.length = P) &&
    (P.all fun x => locB sc x) && (sc.names.all fun y => !(match y.2 with | .free => true | _ => false))
theorem fscB_ok {N P : List Str} {sc : Scope} (h : fscB N P sc = true) : FnScope N P sc := by
  unfold fscB at h
  simp only [Bool.and_eq_true, Bool.not_eq_true', decide_eq_true_eq, List.all_eq_true] at h
  obtain ⟨⟨⟨⟨⟨⟨h1, h2⟩, h3⟩, h4⟩, h5⟩, h6⟩, h7⟩ := h
  refine ⟨?_, h2, h3, h4, h5, fun x hx => locB_ok (h6 x hx), fun y hy e => ?_⟩
  · split at h1
    · assumption
    · cases h1
  · have := h7 y hy
    rw [e] at this
    cases this
structure DfOk (G : Gt) (D : Df) : Prop where
  sc : fscB D.N D.ps D.d.scope = true
  rd : cSs G D.N D.d.scope D.d.body = some D.fn.body
  pn : D.fn.params = D.ps.length
  nn : D.fn.names = D.N.length
  bd : ∀ (kV doc pm : Value) (an : Option Addr) (cdv ct : Value) (us : List Value), us.length = D.ps.length → bindArgs (PySem.W.fnOf D.d.name D.d.qual D.d.params D.d.body D.d.scope .none kV doc pm an cdv ct) ⟨us, []⟩ = pure (D.ps.zip us)
  nd : D.d.dfl = []
  nk : D.d.kwd = []

theorem EnvR.start {K : Kx} {ρ : List Addr} {H : Hp} {as : List PV} {vs : List V} {N : List Str} (r : VRs K ρ H as vs) (hl : as.length ≤ N.length) : EnvR K ρ H (as.map some ++ List.replicate (N.length - as.length) none) (start N vs) := by
  have hv := r.length
  refine ⟨by simp [L2.start, hv], fun i v e => ?_⟩
  by_cases hi : i < as.length
  · rw [List.getElem?_append_left (by simpa using hi), List.getElem?_map] at e
    cases h : as[i]? with
    | none => rw [h] at e; cases e
    | some a =>
      rw [h] at e
      simp at e
      subst e
      obtain ⟨u, hu, ru⟩ := r.get h
      refine ⟨u, ?_, ru⟩
      unfold L2.start
      rw [List.getElem?_append_left (by simp [hv, hi]), List.getElem?_map, hu]
      rfl
  · rw [List.getElem?_append_right (by simpa using hi)] at e
    rw [List.getElem?_replicate] at e
    split at e <;> cases e
theorem PC.of_out {K : Kx} {W : XW} {ρ : List Addr} {H : Hp} {c : Ctl} {M0 : Mem} {k : PV → Mem → List Addr → Hp → Prop} {Q : VK} (m0 : MemR K M0 ρ H) (h : Ps K W [] ρ H (c.out.trim M0) k) (hk : ∀ v M ρ' H', k v M ρ' H' → ∀ u, VR K ρ' H' v u → Q u H') (hW : ∀ c σ H', W c [] H' → W c σ H') : PC K W ρ H c { nx := fun _ H' => Q .non H', rt := Q } := by
  cases c with
  | nxt env M =>
    intro ρ' H' σ' f m e
    obtain ⟨ρ2, f2, m2, v2⟩ := m0.trim (v := .non) f m
    exact hk _ _ _ _ (h ρ2 H' f2 m2) _ vr_non
  | ret v M =>
    intro ρ' H' u f m r
    obtain ⟨ρ2, f2, m2, v2⟩ := m0.trim (v := v) f m
    exact hk _ _ _ _ (h ρ2 H' f2 m2) _ (v2 u r)
  | brk env M => exact h.elim
  | cnt env M => exact h.elim
  | exc c env M =>
    intro ρ' H' σ' f m e
    obtain ⟨ρ2, f2, m2, v2⟩ := m0.trim (v := .non) f m
    exact hW c σ' H' (h ρ2 H' f2 m2)
  | fail => exact h.elim

section
variable {P : Program} {w : World} {K : PySem.W.Frag} {mg : Str → Option Value} {base : Heap} {Z : Zx} {G : Gt} {fs : List Fn} {glob : Nat → Option PV} {fuel : Nat} {clsV : Nat → Value}
/-- a def keeps what its plain form says, if those that it calls do one level lower -/
theorem df_ok {k : Nat} {D : Df} {f : Addr} {fd : FuncData} {fi : Nat} (F : FunD K D.d.name D.d.qual D.d.params D.d.body D.d.scope [] [] f fd) (o : DfOk G D) (hf : fs[fi]? = some D.fn)
    (free : ∀ x, G.free.contains x = true → mg x = none)
    (fn : ∀ x fi n, G.fns.lookup x = some (fi, n) → ∃ f fd ps, FnOk P w K mg base (L2.CX P w) k f fd ps (spF ⟨K, w, Z⟩ clsV (run fs glob fuel k fi) n) ∧ mg x = some (.ref f) ∧ PySem.W.keepIn K (.ref f) = true ∧ Binds K fd ps [])
    (cn : ∀ x g, G.cns.lookup x = some g → ∃ v u uv, glob g = some v ∧ mg x = some uv ∧ RelV u uv ∧ ∀ ρ H, VR ⟨K, w, Z⟩ ρ H v u) (cf : ClsF ⟨K, w, Z⟩) (cl : ∀ x c, G.cls.lookup x = some c → mg x = some (.ref (Z.cls c)) ∧ c < Z.nc) :
    FnOk P w K mg base (L2.CX P w) (k + 1) f fd D.ps (spF ⟨K, w, Z⟩ clsV (run fs glob fuel (k + 1) fi) D.ps.length) := by
  have S := fscB_ok o.sc
  refine F.ok S (fun vs H Q E h => ?_) (fun cdv A outer s H vs Q E hr h => ?_)
  · obtain ⟨as, M, ρ, hl, _, r, _⟩ := h
    rw [r.length, hl]
  · obtain ⟨as, M, ρ, hl, m, r, p⟩ := h
    refine ⟨_, cSs_ok (G := G) (Z := Z) (W := fun c _ H' => E (clsV c) none H') (w := ⟨run fs glob fuel k, glob, fuel⟩) (k := k) (clsV := clsV) ?_ _ _ o.rd, ?_⟩
    · exact { nd := S.nd, calm := rfl, room := hr, kind := S.kind, cell := fun _ _ => rfl
              tk := Takes.imp (takes_of rfl rfl rfl rfl) fun cls d σ H ⟨c, e1, e2, z⟩ => by
                subst e1 e2
                exact z
              own := passes_of rfl
              free := free, fn := fn, cn := cn, cf := cf, cl := cl }
    · have hle : as.length ≤ D.N.length := by
        have := congrArg List.length S.pre
        rw [List.length_take] at this
        omega
      refine ⟨as.map some ++ List.replicate (D.N.length - as.length) none, M, ρ, EnvR.start r hle, m, ?_⟩
      unfold run at p
      rw [hf] at p
      simp only at p
      rw [if_pos ⟨by rw [hl, o.pn], by rw [o.pn, o.nn, ← hl]; exact hle⟩, o.nn] at p
      exact PC.of_out m p (fun v M ρ' H' z => z) (fun c σ H' z => z)
/-- all defs, at every level -/
theorem fns_ok {DS : List Df} (hD : ∀ D ∈ DS, DfOk G D) (hF : ∀ D ∈ DS, ∃ f fd, FunD K D.d.name D.d.qual D.d.params D.d.body D.d.scope [] [] f fd ∧ mg D.x = some (.ref f))
    (hG : ∀ x fi n, G.fns.lookup x = some (fi, n) → ∃ D ∈ DS, D.x = x ∧ fs[fi]? = some D.fn ∧ n = D.ps.length)
    (free : ∀ x, G.free.contains x = true → mg x = none)
    (cn : ∀ x g, G.cns.lookup x = some g → ∃ v u uv, glob g = some v ∧ mg x = some uv ∧ RelV u uv ∧ ∀ ρ H, VR ⟨K, w, Z⟩ ρ H v u) (cf : ClsF ⟨K, w, Z⟩) (cl : ∀ x c, G.cls.lookup x = some c → mg x = some (.ref (Z.cls c)) ∧ c < Z.nc) :
    ∀ (k : Nat) (x : Str) (fi n : Nat), G.fns.lookup x = some (fi, n) → ∃ f fd ps, FnOk P w K mg base (L2.CX P w) k f fd ps (spF ⟨K, w, Z⟩ clsV (run fs glob fuel k fi) n) ∧ mg x = some (.ref f) ∧ PySem.W.keepIn K (.ref f) = true ∧ Binds K fd ps []
  | 0, x, fi, n, h => by
    obtain ⟨D, hm, hx, hf, hn⟩ := hG x fi n h
    obtain ⟨f, fd, F, hmg⟩ := hF D hm
    refine ⟨f, fd, D.ps, ⟨fun vs H Q E h => ?_, fun A outer s H args us vs Q E _ _ _ _ h => ?_⟩, hx ▸ hmg, F.kp, F.bindsN (hD D hm).bd⟩
    · obtain ⟨as, M, ρ, _, _, _, p⟩ := h
      exact p.elim
    · obtain ⟨as, M, ρ, _, _, _, p⟩ := h
      exact p.elim
  | k + 1, x, fi, n, h => by
    obtain ⟨D, hm, hx, hf, hn⟩ := hG x fi n h
    obtain ⟨f, fd, F, hmg⟩ := hF D hm
    subst hn
    exact ⟨f, fd, D.ps, df_ok F (hD D hm) hf free (fns_ok hD hF hG free cn cf cl k) cn cf cl, hx ▸ hmg, F.kp, F.bindsN (hD D hm).bd⟩
end
theorem vrs_ints {K : Kx} {ρ : List Addr} {H : Hp} : ∀ ns : List Int, VRs K ρ H (ns.map PV.int) (ns.map V.int)
  | [] => vrs_nil
  | n :: ns => vrs_cons vr_int (vrs_ints ns)
/-- the law's promise, from what its plain form comes to -/
def spLaw (K : PySem.W.Frag) : Sp := fun vs H Q _ => ∃ (a : Addr) (ns : List Int), vs = [.ref a] ∧ ns.length ≤ 63 ∧ Only H ∧ SqL K H a (ns.map V.int) ∧ ∀ H', Q (.bl true) H'
theorem law_imp {P : Program} {w : World} {K : PySem.W.Frag} {mg : Str → Option Value} {base : Heap} {Z : Zx} {clsV : Nat → Value} {k : Nat} {f : Addr} {fd : FuncData} {ps : List Str} {r : List PV → Mem → Res PV}
    (F : FnOk P w K mg base (L2.CX P w) k f fd ps (spF ⟨K, w, Z⟩ clsV r 1)) (h : ∀ ns : List Int, ns.length ≤ 63 → ∃ M, r [scriptV ns] [] = .ok (.bl true) M) : FnOk P w K mg base (L2.CX P w) k f fd ps (spLaw K) := by
  refine F.imp fun vs H Q E hs => ?_
  obtain ⟨a, ns, rfl, hl, ho, hq, q⟩ := hs
  obtain ⟨M, hr⟩ := h ns hl
  have hL : LR ⟨K, w, Z⟩ H a (ns.map V.int) := by
    rcases hq with (z | ⟨o, z⟩) | z
    · rcases ho a with y | ⟨o, xs, y⟩
      · rw [y] at z; cases z
      · rw [y] at z; cases z
    · exact .inl ⟨o, z⟩
    · exact .inr fun H' => .inr z
  refine ⟨[scriptV ns], [], [], rfl, ⟨rfl, List.nodup_nil, fun n c a e => by simp at e⟩, vrs_cons (vr_rol hL (vrs_ints ns)) vrs_nil, ?_⟩
  rw [hr]
  exact fun ρ' H' f m u ru => by
    cases ru.bl_
    exact q H'
end HP

set_option Elab.async false
set_option linter.all false
set_option autoImplicit false
set_option maxRecDepth 100000
set_option maxHeartbeats 8000000
/-! What the top leaves, read by one look; the law's end. -/
namespace HP
open PySem L2

/-! ### the module's constants -/
mutual
/-- a plain value, as the written part has it -/
def pvB (K : PySem.W.Frag) : PV → Value → Bool
  | .non, u => (match u with | .none => true | _ => false)
  | .bl b, u => (match u with | .bool c => b == c | _ => false)
  | .int i, u => (match u with | .int j _ => decide (i = j) | _ => false)
  | .str s, u => (match u with | .str y _ => decide (y.cps.toList = s) && vstr s | _ => false)
  | .tup vs, u => (match u with
    | .ref a => (match K.lookup a with
      | some ⟨.type c, _, .seq its _, _⟩ => decide (c = "tuple") && decide (its.size ≤ sizeLine) && pvsB K vs its.toList
      | _ => false)
    | _ => false)
  | .rol _, _ => false
  | .ref _, _ => false
  | .obj _ _ _, _ => false
  | .rod _ _, _ => false
  | .ty _, _ => false
def pvsB (K : PySem.W.Frag) : List PV → List Value → Bool
  | [], us => us.isEmpty
  | v :: vs, us => (match us with
    | [] => false
    | u :: ur => pvB K v u && pvsB K vs ur)
end
mutual
theorem pvB_ok {K : PySem.W.Frag} {w : World} {Z : Zx} : ∀ (v : PV) (uv : Value), pvB K v uv = true → ∃ u, RelV u uv ∧ ∀ ρ H, VR ⟨K, w, Z⟩ ρ H v u
  | .non, uv, h => by
    simp only [pvB] at h
    split at h
    · exact ⟨.non, rfl, fun _ _ => vr_non⟩
    · cases h
  | .bl b, uv, h => by
    simp only [pvB] at h
    split at h
    · have e := eq_of_beq h
      subst e
      exact ⟨.bl b, rfl, fun _ _ => vr_bl⟩
    · cases h
  | .int i, uv, h => by
    simp only [pvB] at h
    split at h
    · have e := of_decide_eq_true h
      subst e
      exact ⟨.int i, ⟨_, rfl⟩, fun _ _ => vr_int⟩
    · cases h
  | .str s, uv, h => by
    simp only [pvB] at h
    split at h
    · rename_i y _
      obtain ⟨h, hv⟩ := and_inv h
      have e := of_decide_eq_true h
      exact ⟨.str y, ⟨_, rfl⟩, fun _ _ => vr_str e hv⟩
    · cases h
  | .tup vs, uv, h => by
    simp only [pvB] at h
    split at h
    · rename_i a
      split at h
      · rename_i c od its n sl hk
        simp only [Bool.and_eq_true, decide_eq_true_eq] at h
        obtain ⟨⟨h1, h2⟩, h3⟩ := h
        subst h1
        obtain ⟨us, r, q⟩ := pvsB_ok (w := w) (Z := Z) vs its.toList h3
        refine ⟨.ref a, rfl, fun ρ H => vr_tup (.inr (.inr fun H' => .inr ⟨_, its, n, hk, rfl, rfl, h2, r⟩)) (q ρ H)⟩
      · cases h
    · cases h
  | .rol _, uv, h => by simp only [pvB] at h; cases h
  | .ref _, uv, h => by simp only [pvB] at h; cases h
  | .obj _ _ _, uv, h => by simp only [pvB] at h; cases h
  | .rod _ _, uv, h => by simp only [pvB] at h; cases h
  | .ty _, uv, h => by simp only [pvB] at h; cases h
theorem pvsB_ok {K : PySem.W.Frag} {w : World} {Z : Zx} : ∀ (vs : List PV) (uvs : List Value), pvsB K vs uvs = true → ∃ us, Vals us uvs ∧ ∀ ρ H, VRs ⟨K, w, Z⟩ ρ H vs us
  | [], uvs, h => by
    simp only [pvsB] at h
    have e := List.isEmpty_iff.mp h
    subst e
    exact ⟨[], .nil, fun _ _ => vrs_nil⟩
  | v :: vs, uvs, h => by
    simp only [pvsB] at h
    split at h
    · cases h
    · rename_i u ur
      obtain ⟨h1, h2⟩ := and_inv h
      obtain ⟨w1, r, q⟩ := pvB_ok (w := w) (Z := Z) v u h1
      obtain ⟨ws, rs, qs⟩ := pvsB_ok (w := w) (Z := Z) vs ur h2
      exact ⟨w1 :: ws, .cons r rs, fun ρ H => vrs_cons (q ρ H) (qs ρ H)⟩
end
/-! a dict of the module -/
def strOf : PV → Str
  | .str s => ⟨s.toArray⟩
  | _ => Str.empty
def keyB (k : PV) (e : DictEntry) : Bool := match k with
  | .str s => (match e.key with
    | .str x _ => decide (x.cps.toList = s)
    | _ => false)
  | _ => false
def keysB : List PV → List DictEntry → Bool
  | [], es => es.isEmpty
  | k :: ks, es => (match es with
    | [] => false
    | e :: es => keyB k e && keysB ks es)
theorem keyB_ok {k : PV} {e : DictEntry} (h : keyB k e = true) : ∃ x t, k = .str x.cps.toList ∧ e.key = .str x t := by
  unfold keyB at h
  split at h
  · split at h
    · rename_i x t hk
      have := of_decide_eq_true h
      subst this
      exact ⟨x, t, rfl, hk⟩
    · cases h
  · cases h
theorem isStr_str {x z : Str} {t : Tok} : (Value.str x t).isStr z = decide (x = z) := by
  show (x == z) = _
  rw [Bool.eq_iff_iff]
  simp
theorem find_keys {z : Str} : ∀ {ks : List PV} {es : List DictEntry}, keysB ks es = true → (es.any (·.refKey) = false) ∧ (match keyIx z.cps.toList ks with
    | none => es.find? (·.key.isStr z) = none
    | some j => ∃ e, es[j]? = some e ∧ es.find? (·.key.isStr z) = some e)
  | [], es, h => by
    unfold keysB at h
    have e := List.isEmpty_iff.mp h
    subst e
    exact ⟨rfl, rfl⟩
  | k :: ks, es, h => by
    unfold keysB at h
    cases es with
    | nil => cases h
    | cons e es =>
      obtain ⟨h1, h2⟩ := and_inv h
      obtain ⟨x, t, rfl, hk⟩ := keyB_ok h1
      obtain ⟨i1, i2⟩ := find_keys (z := z) h2
      have hr : e.refKey = false := by
        unfold DictEntry.refKey
        rw [hk]
      refine ⟨by rw [List.any_cons, hr, i1]; rfl, ?_⟩
      unfold keyIx
      rw [List.find?_cons, hk, isStr_str]
      by_cases hx : x = z
      · subst hx
        simp
      · have hne : ¬ x.cps.toList = z.cps.toList := fun q => hx (str_eq q)
        simp only [hne, if_false, decide_eq_false hx]
        cases hi : keyIx z.cps.toList ks with
        | none =>
          rw [hi] at i2
          simpa using i2
        | some j =>
          rw [hi] at i2
          obtain ⟨e', q1, q2⟩ := i2
          exact ⟨e', by simpa using q1, q2⟩
def rodB (K : PySem.W.Frag) (x : Str) (ks vs : List PV) : Bool := match PySem.W.nsIn K mainGlobals x with
  | some (some (.ref a)) => decide (a = He.ga K x) && (match K.lookup a with
    | some ⟨_, _, .dict es _, _⟩ => keysB ks es.toList && pvsB K vs (es.toList.map (·.val))
    | _ => false)
  | _ => false
def conB (K : PySem.W.Frag) (c : Str × PV) : Bool := match c.2 with
  | .rod ks vs => rodB K c.1 ks vs
  | v => match PySem.W.nsIn K mainGlobals c.1 with
    | some (some u) => pvB K v u
    | _ => false
/-- the tables among the constants -/
def tabsOf (CS : List (Str × PV)) : List He.Tab := CS.filterMap fun c => match c.2 with
  | .rod ks _ => some ((fun K => He.ga K c.1), ks.map strOf)
  | _ => none
theorem Vals.val {us : List V} {uvs : List Value} (h : Vals us uvs) {j : Nat} {uv : Value} (e : uvs[j]? = some uv) : ∃ u, us[j]? = some u ∧ RelV u uv := by
  have hl := h.length
  have hj := (List.getElem?_eq_some_iff.mp e).1
  have h1 : us[j]? = some us[j] := List.getElem?_eq_getElem (by omega)
  obtain ⟨w, q1, q2⟩ := h.get h1
  rw [e] at q1
  cases q1
  exact ⟨_, h1, q2⟩
theorem conB_ok {K : PySem.W.Frag} {w : World} {Z : Zx} {h : Heap} {mg : Str → Option Value} (X : K.In h) (G : h.Ns mainGlobals mg) {c : Str × PV} (b : conB K c = true) (ht : ∀ ks vs, c.2 = .rod ks vs → ∃ es n, KDict K w (He.ga K c.1) es n) : ∃ u uv, mg c.1 = some uv ∧ RelV u uv ∧ ∀ ρ H, VR ⟨K, w, Z⟩ ρ H c.2 u := by
  unfold conB at b
  split at b
  · rename_i ks vs hv
    obtain ⟨es2, n, D⟩ := ht ks vs hv
    rw [hv]
    unfold rodB at b
    split at b
    · rename_i a e
      obtain ⟨b1, b2⟩ := and_inv b
      have ea := of_decide_eq_true b1
      split at b2
      · rename_i oc od es en sl hk
        obtain ⟨b3, b4⟩ := and_inv b2
        obtain ⟨us, q1, q2⟩ := pvsB_ok (w := w) (Z := Z) vs _ b4
        rw [← ea] at D
        have heq := D.at_
        rw [hk] at heq
        cases heq
        refine ⟨.ref a, .ref a, PySem.W.mg_of X G e, rfl, fun ρ H => ?_⟩
        unfold VR
        refine ⟨a, us, rfl, ⟨_, _, D, fun z => ?_⟩, q2 ρ H⟩
        obtain ⟨i1, i2⟩ := find_keys (z := z) b3
        cases hi : keyIx z.cps.toList ks with
        | none =>
          rw [hi] at i2
          simp only
          unfold PySem.W.nsIn
          rw [hk]
          simp only [i2, i1]
          rfl
        | some j =>
          rw [hi] at i2
          obtain ⟨e', z1, z2⟩ := i2
          obtain ⟨u, q3, q4⟩ := Vals.val q1 (j := j) (uv := e'.val) (by rw [List.getElem?_map, z1]; rfl)
          refine ⟨u, e'.val, q3, ?_, q4⟩
          unfold PySem.W.nsIn
          rw [hk]
          simp only [z2]
      · cases b2
    · cases b
  · split at b
    · rename_i u e
      obtain ⟨w', r, q⟩ := pvB_ok (w := w) (Z := Z) c.2 u b
      exact ⟨w', u, PySem.W.mg_of X G e, r, q⟩
    · cases b
/-- what is asked of the classes -/
def clsB (K : PySem.W.Frag) (CL : List Str) : Bool := CL.all fun x => (["NoneType", "bool", "int", "str", "tuple", "list", "dict"] : List String).all fun T => decide (PySem.W.kitOne K (.type T) (.ref (He.ga K x)) = some false)
def zOf (K : PySem.W.Frag) (CL : List Str) : Zx := ⟨CL.length, fun c => He.ga K (CL.getD c Str.empty), fun _ => Str.empty⟩
theorem clsB_ok {K : PySem.W.Frag} {w : World} {CL : List Str} (h : clsB K CL = true) : ClsF ⟨K, w, zOf K CL⟩ := ⟨fun c T hc hT => by
  have hc : c < CL.length := hc
  have h1 := List.all_eq_true.mp h CL[c] (List.getElem_mem hc)
  have h2 := List.all_eq_true.mp h1 T hT
  have h3 := of_decide_eq_true h2
  show PySem.W.kitOne K (.type T) (.ref (He.ga K (CL.getD c Str.empty))) = some false
  rw [List.getD_eq_getElem?_getD, List.getElem?_eq_getElem hc]
  exact h3⟩

/-! ### the text's table -/
def localsOf (ps : List Str) (sc : Scope) : List Str := sc.names.filterMap fun y => match y.2 with
  | .local => if ps.contains y.1 then none else some y.1
  | .cell => if ps.contains y.1 then none else some y.1
  | _ => none
/-- a def of the top -/
def mkDf (x : Str) (st : Stmt) (fn : Fn) (more : List Str) : Df :=
  let ps := (defArgs st).args.map (·.arg)
  { x := x, d := { at_ := (x, none), name := x, qual := x, params := defArgs st, body := defBody st, scope := defScope st }, N := ps ++ localsOf ps (defScope st) ++ more, ps := ps, fn := fn }
def mkG (DS : List Df) (CS : List (Str × PV)) (CL : List Str) (FR : List Str) : Gt :=
  { fns := DS.zipIdx.map fun p => (p.1.x, p.2, p.1.ps.length), cns := CS.zipIdx.map fun p => (p.1.1, p.2), cls := CL.zipIdx.map fun p => (p.1, p.2), free := FR }
def globOf (CS : List (Str × PV)) (i : Nat) : Option PV := CS[i]?.map (·.2)
theorem globOf_glv {CS : List (Str × PV)} {vs : List PV} (h : CS.map (·.2) = vs) : glv vs = globOf CS := by
  subst h
  funext i
  unfold glv globOf
  rw [List.getElem?_map]
theorem lookup_mem {α β : Type} [BEq α] [LawfulBEq α] : ∀ {l : List (α × β)} {a : α} {b : β}, l.lookup a = some b → (a, b) ∈ l
  | [], a, b, h => by cases h
  | (c, d) :: r, a, b, h => by
    rw [List.lookup_cons] at h
    split at h
    · rename_i e
      cases h
      rw [eq_of_beq e]
      exact List.mem_cons_self
    · exact List.mem_cons_of_mem _ (lookup_mem h)
theorem mkG_fns {DS : List Df} {CS : List (Str × PV)} {CL FR : List Str} {x : Str} {fi n : Nat} (h : (mkG DS CS CL FR).fns.lookup x = some (fi, n)) : ∃ D ∈ DS, D.x = x ∧ (DS.map (·.fn))[fi]? = some D.fn ∧ n = D.ps.length := by
  have hm := lookup_mem h
  obtain ⟨⟨D, i⟩, hD, e⟩ := List.mem_map.mp hm
  simp only [Prod.mk.injEq] at e
  obtain ⟨e1, e2, e3⟩ := e
  subst e2
  have hi := List.mem_zipIdx_iff_getElem?.mp hD
  refine ⟨D, List.mem_of_getElem? hi, e1, ?_, e3.symm⟩
  rw [List.getElem?_map, hi]
  rfl
theorem mkG_cns {DS : List Df} {CS : List (Str × PV)} {CL FR : List Str} {x : Str} {g : Nat} (h : (mkG DS CS CL FR).cns.lookup x = some g) : ∃ v, (x, v) ∈ CS ∧ globOf CS g = some v := by
  have hm := lookup_mem h
  obtain ⟨⟨c, i⟩, hD, e⟩ := List.mem_map.mp hm
  simp only [Prod.mk.injEq] at e
  obtain ⟨e1, e2⟩ := e
  subst e1 e2
  have hi := List.mem_zipIdx_iff_getElem?.mp hD
  refine ⟨c.2, List.mem_of_getElem? hi, ?_⟩
  unfold globOf
  rw [hi]
  rfl

theorem mkG_cls {DS : List Df} {CS : List (Str × PV)} {CL FR : List Str} {x : Str} {c : Nat} (h : (mkG DS CS CL FR).cls.lookup x = some c) : x ∈ CL ∧ CL[c]? = some x := by
  have hm := lookup_mem h
  obtain ⟨⟨y, i⟩, hD, e⟩ := List.mem_map.mp hm
  simp only [Prod.mk.injEq] at e
  obtain ⟨e1, e2⟩ := e
  subst e1 e2
  have hi := List.mem_zipIdx_iff_getElem?.mp hD
  exact ⟨List.mem_of_getElem? hi, hi⟩

/-! ### the look -/
def hookP (n : Nat) (fa : List He.Fa) (fn : List He.DefD) (cs : List (Str × PV)) (cl : List Str) : PySem.W.Hook where
  α := He.AlT × Bool
  obs := fun s => (He.obsTG n fa fn (tabsOf cs) s.heap.get?, (cs.all fun c => conB (He.frG s.heap.get? (He.asD s.heap.get? n)) c) && clsB (He.frG s.heap.get? (He.asD s.heap.get? n)) cl)
  val := fun w => (He.valT fn (tabsOf cs) w, true)
  says := fun w h => ∃ K : PySem.W.Frag, K.In h ∧ He.SaysT fa fn (tabsOf cs) w K ∧ (cs.all (fun c => conB K c) && clsB K cl) = true
  of := fun _ _ e => ⟨_, He.frG_in, congrArg Prod.fst e, congrArg Prod.snd e⟩
  keeps := fun _ _ _ ⟨K, hK, c⟩ k => ⟨K, PySem.W.Frag.In.keeps hK k, c⟩
def obP (n : Nat) (fa : List He.Fa) (fn : List He.DefD) (cs : List (Str × PV)) (cl : List Str) (s : PySem.W.SharedT) : He.AlT × Bool :=
  (He.obsTG n fa fn (tabsOf cs) (HandSHeadRun.getT s), (cs.all fun c => conB (He.frG (HandSHeadRun.getT s) (He.asD (HandSHeadRun.getT s) n)) c) && clsB (He.frG (HandSHeadRun.getT s) (He.asD (HandSHeadRun.getT s) n)) cl)
theorem obP_eq {n : Nat} {fa : List He.Fa} {fn : List He.DefD} {cs : List (Str × PV)} {cl : List Str} (s : PySem.W.SharedT) : obP n fa fn cs cl s = (hookP n fa fn cs cl).obs s.abs := by
  have e : HandSHeadRun.getT s = s.abs.heap.get? := funext (HandSHeadRun.getT_eq s)
  show (He.obsTG n fa fn (tabsOf cs) (HandSHeadRun.getT s), _) = (He.obsTG n fa fn (tabsOf cs) s.abs.heap.get?, _)
  rw [e]

/-- no exception leaves a def whose promise does not speak of them -/
theorem FnOk.cx0 {P : Program} {w : World} {K : PySem.W.Frag} {mg : Str → Option Value} {base : Heap} {k : Nat} {f : Addr} {fd : FuncData} {ps : List Str} {sp : Sp} (F : FnOk P w K mg base (L2.CX P w) k f fd ps sp) (h : ∀ vs H Q E E', sp vs H Q E → sp vs H Q E') : FnOk P w K mg base CX0 k f fd ps sp := by
  refine ⟨F.len, fun A outer s H args us vs Q E hr e0 hb r hs => ?_⟩
  refine codeAny_mono (F.run A outer s H args us vs Q E0 hr e0 hb r (h _ _ _ _ _ hs)) fun r s' q => ?_
  cases r with
  | error e =>
    obtain ⟨_, _, _, _, _, _, _, _, _, _, _, _, z⟩ := (show L2.CX P w outer H s E0 e s' from q)
    exact z.elim
  | ok fl =>
    cases fl with
    | ret u => exact q
    | next => exact False.elim q
    | brk => exact False.elim q
    | cont => exact False.elim q

/-- the law's end: the facts of the head, the readings, what the plain form comes to -/
theorem law_end {P : Program} {w : World} {K : PySem.W.Frag} {h : Heap} {mg : Str → Option Value} {fa : Addr} {DS : List Df} {CS : List (Str × PV)} {CL FR : List Str} {k fuel li : Nat} {L : Df}
    (hDS : ∀ D ∈ DS, DfOk (mkG DS CS CL FR) D) (hL : DS[li]? = some L) (hps : L.ps = [("script" : Str)]) (hat : ∀ D ∈ DS, D.d.at_ = (D.x, none))
    (plain : ∀ ns : List Int, ns.length ≤ 63 → ∃ M, run (DS.map (·.fn)) (globOf CS) fuel (k + 1) li [scriptV ns] [] = .ok (.bl true) M)
    (X : K.In h) (G : h.Ns mainGlobals mg) (hfa : mg L.x = some (.ref fa)) (c : He.SaysT (FR.map He.Fa.free ++ (CL.map He.Fa.glo ++ DS.map fun D => He.Fa.glo D.x)) (DS.map (·.d)) (tabsOf CS) w K) (cc : (CS.all (fun c => conB K c) && clsB K CL) = true) :
    ∃ fd : FuncData, (∀ (s : Shared) (v : Value), BindsTo s fd ⟨[v], []⟩ [("script", v)]) ∧ ∀ base : Heap, K.In base → base.Ns mainGlobals mg → FnOk P w K mg base CX0 (k + 1) fa fd ["script"] (spLaw K) := by
  have c1 := (He.ba (show (((FR.map He.Fa.free ++ (CL.map He.Fa.glo ++ DS.map fun D => He.Fa.glo D.x)).all fun f => f.ok K) && (DS.map (·.d)).all fun d => d.ok K) = true from congrArg (fun z : He.AlD => z.1) c.d)).1
  obtain ⟨cc, ccl⟩ := and_inv cc
  have free : ∀ x, (mkG DS CS CL FR).free.contains x = true → mg x = none := fun x hx => by
    have hm : x ∈ FR := by simpa [mkG] using hx
    exact He.free_ok X G (List.all_eq_true.mp c1 _ (List.mem_append_left _ (List.mem_map_of_mem hm)))
  have glo : ∀ D ∈ DS, mg D.x = some (.ref (He.ga K D.x)) := fun D hm =>
    He.glo_ok X G (List.all_eq_true.mp c1 _ (List.mem_append_right _ (List.mem_append_right _ (List.mem_map_of_mem (f := fun D => He.Fa.glo D.x) hm))))
  have hF : ∀ D ∈ DS, ∃ f fd, FunD K D.d.name D.d.qual D.d.params D.d.body D.d.scope [] [] f fd ∧ mg D.x = some (.ref f) := fun D hm => by
    obtain ⟨i, hi⟩ := List.mem_iff_getElem?.mp hm
    obtain ⟨fd, F⟩ := c.d.def_ i (d := D.d) (by rw [List.getElem?_map, hi]; rfl)
    have o := hDS D hm
    unfold He.DefD.dvs He.DefD.kws at F
    rw [o.nd, o.nk] at F
    refine ⟨_, fd, F, ?_⟩
    rw [hat D hm]
    exact glo D hm
  have cn : ∀ x g, (mkG DS CS CL FR).cns.lookup x = some g → ∃ v u uv, globOf CS g = some v ∧ mg x = some uv ∧ RelV u uv ∧ ∀ ρ H, VR ⟨K, w, zOf K CL⟩ ρ H v u := fun x g hx => by
    obtain ⟨v, hm, hv⟩ := mkG_cns hx
    obtain ⟨u, uv, q1, q2, q3⟩ := conB_ok (w := w) (Z := zOf K CL) X G (List.all_eq_true.mp cc _ hm) fun ks vs e => by
      have hT : ((fun K => He.ga K x), ks.map strOf) ∈ tabsOf CS := by
        unfold tabsOf
        rw [List.mem_filterMap]
        exact ⟨(x, v), hm, by simp only at e; rw [e]⟩
      obtain ⟨i, hi⟩ := List.mem_iff_getElem?.mp hT
      exact c.tab i hi
    exact ⟨v, u, uv, hv, q1, q2, q3⟩
  have cf : ClsF ⟨K, w, zOf K CL⟩ := clsB_ok ccl
  have cl : ∀ x c, (mkG DS CS CL FR).cls.lookup x = some c → mg x = some (.ref ((zOf K CL).cls c)) ∧ c < (zOf K CL).nc := fun x c hx => by
    obtain ⟨h1, h2⟩ := mkG_cls hx
    refine ⟨?_, (List.getElem?_eq_some_iff.mp h2).1⟩
    show mg x = some (.ref (He.ga K (CL.getD c Str.empty)))
    rw [List.getD_eq_getElem?_getD, h2]
    exact He.glo_ok X G (List.all_eq_true.mp c1 _ (List.mem_append_right _ (List.mem_append_left _ (List.mem_map_of_mem h1))))
  obtain ⟨f, fd, F, hmg⟩ := hF L (List.mem_of_getElem? hL)
  have hf : f = fa := by
    rw [hfa] at hmg
    cases hmg
    rfl
  subst hf
  refine ⟨fd, fun s v => ?_, fun base KX hB => ?_⟩
  · have b := F.bindsA (hDS L (List.mem_of_getElem? hL)).bd s [v] (by rw [hps]; rfl)
    rw [hps] at b
    exact b
  · have all := fns_ok (P := P) (w := w) (K := K) (mg := mg) (base := base) (Z := zOf K CL) (fs := DS.map (·.fn)) (glob := globOf CS) (fuel := fuel) (clsV := fun _ => Value.none) hDS hF (fun x fi n hx => mkG_fns hx) free cn cf cl
    have F' := df_ok F (hDS L (List.mem_of_getElem? hL)) (fs := DS.map (·.fn)) (fi := li) (by rw [List.getElem?_map, hL]; rfl) free (all k) cn cf cl
    rw [hps] at F'
    exact FnOk.cx0 (law_imp F' plain) fun vs H Q E E' h => h
end HP

set_option Elab.async false
set_option linter.all false
set_option autoImplicit false
set_option maxRecDepth 100000
set_option maxHeartbeats 4000000
/-! Rows for plain proofs: what each operation comes to on values that are known. -/
noncomputable section
namespace HP
section
variable {M : Mem} {i j : Int} {x y s : List Nat} {xs ys : List PV} {b c : Bool} {v w : PV} {n m : Nat}
@[simp] theorem op2_add_i : op2 .add (.int i) (.int j) M = .ok (.int (i + j)) M := rfl
@[simp] theorem op2_add_s : op2 .add (.str x) (.str y) M = if x.length + y.length ≤ lim then .ok (.str (x ++ y)) M else .fail := rfl
@[simp] theorem op2_add_t : op2 .add (.tup xs) (.tup ys) M = if xs.length + ys.length ≤ lim then .ok (.tup (xs ++ ys)) M else .fail := rfl
@[simp] theorem op2_sub_i : op2 .sub (.int i) (.int j) M = .ok (.int (i - j)) M := rfl
@[simp] theorem op2_mul_i : op2 .mul (.int i) (.int j) M = if small i || small j then .ok (.int (i * j)) M else .fail := rfl
@[simp] theorem op2_fdiv_i : op2 .fdiv (.int i) (.int j) M = if 0 < j ∧ j < 2 ^ 64 then .ok (.int (i / j)) M else .fail := rfl
@[simp] theorem op2_mod_i : op2 .mod (.int i) (.int j) M = if 0 < j then .ok (.int (i % j)) M else .fail := rfl
@[simp] theorem op2_pow_i : op2 .pow (.int i) (.int j) M = if 0 ≤ j ∧ j ≤ 1000000 ∧ i.natAbs < 2 ^ 64 then .ok (.int (i ^ j.toNat)) M else .fail := rfl
@[simp] theorem op2_lt_i : op2 .lt (.int i) (.int j) M = .ok (.bl (decide (i < j))) M := rfl
@[simp] theorem op2_le_i : op2 .le (.int i) (.int j) M = .ok (.bl (decide (i ≤ j))) M := rfl
@[simp] theorem op2_gt_i : op2 .gt (.int i) (.int j) M = .ok (.bl (decide (j < i))) M := rfl
@[simp] theorem op2_ge_i : op2 .ge (.int i) (.int j) M = .ok (.bl (decide (j ≤ i))) M := rfl
@[simp] theorem op2_lt_s : op2 .lt (.str x) (.str y) M = .ok (.bl (ltL x y)) M := rfl
@[simp] theorem op2_le_s : op2 .le (.str x) (.str y) M = .ok (.bl (!ltL y x)) M := rfl
@[simp] theorem op2_gt_s : op2 .gt (.str x) (.str y) M = .ok (.bl (ltL y x)) M := rfl
@[simp] theorem op2_ge_s : op2 .ge (.str x) (.str y) M = .ok (.bl (!ltL x y)) M := rfl
def eqRes (r : Option Bool) (M : Mem) : Res PV := match r with | some r => .ok (.bl r) M | none => .fail
def neRes (r : Option Bool) (M : Mem) : Res PV := match r with | some r => .ok (.bl (!r)) M | none => .fail
@[simp] theorem eqRes_some : eqRes (some b) M = .ok (.bl b) M := rfl
@[simp] theorem neRes_some : neRes (some b) M = .ok (.bl (!b)) M := rfl
@[simp] theorem op2_eq : op2 .eq v w M = eqRes (eqPV M v w) M := rfl
@[simp] theorem op2_ne : op2 .ne v w M = neRes (eqPV M v w) M := rfl
@[simp] theorem eqPV_ii : eqPV M (.int i) (.int j) = some (decide (i = j)) := rfl
@[simp] theorem eqPV_bb : eqPV M (.bl b) (.bl c) = some (b == c) := rfl
@[simp] theorem eqPV_ss : eqPV M (.str x) (.str y) = some (decide (x = y)) := by
  show some (x == y) = _
  rw [Option.some.injEq, Bool.eq_iff_iff]
  simp
@[simp] theorem eqPV_nn : eqPV M .non .non = some true := rfl
@[simp] theorem eqPV_ni : eqPV M .non (.int i) = some false := rfl
@[simp] theorem eqPV_in : eqPV M (.int i) .non = some false := rfl
@[simp] theorem eqPV_nb : eqPV M .non (.bl b) = some false := rfl
@[simp] theorem eqPV_bn : eqPV M (.bl b) .non = some false := rfl
@[simp] theorem eqPV_ns : eqPV M .non (.str s) = some false := rfl
@[simp] theorem eqPV_sn : eqPV M (.str s) .non = some false := rfl
@[simp] theorem eqPV_is : eqPV M (.int i) (.str s) = some false := rfl
@[simp] theorem eqPV_si : eqPV M (.str s) (.int i) = some false := rfl
@[simp] theorem eqPV_bs : eqPV M (.bl b) (.str s) = some false := rfl
@[simp] theorem eqPV_sb : eqPV M (.str s) (.bl b) = some false := rfl
@[simp] theorem eqPV_bi : eqPV M (.bl b) (.int i) = some (decide ((if b then 1 else 0 : Int) = i)) := rfl
@[simp] theorem eqPV_ib : eqPV M (.int i) (.bl b) = some (decide (i = (if b then 1 else 0 : Int))) := rfl
/-- == where one side is a scalar, by the data -/
theorem eqPV_data (h : eqS v w = none) {d e : PD} (h1 : toD M 60 v = some d) (h2 : toD M 60 w = some e) : eqPV M v w = some (eqD d e) := by
  unfold eqPV
  rw [h, h1, h2]
def isN : PV → Bool | .non => true | _ => false
@[simp] theorem op2_mul_t : op2 .mul (.tup xs) (.int j) M = if xs ≠ [] ∧ 2 ≤ j ∧ j ≤ 1000 ∧ xs.length ≤ 1000 then .ok (.tup (List.replicate j.toNat xs).flatten) M else .fail := rfl
def isBl (b : Bool) : PV → Bool | .bl c => decide (c = b) | _ => false
@[simp] theorem isBl_bl : isBl b (.bl c) = decide (c = b) := rfl
@[simp] theorem op2_isB : op2 .is v (.bl b) M = .ok (.bl (isBl b v)) M := by cases v <;> rfl
@[simp] theorem op2_isnotB : op2 .isnot v (.bl b) M = .ok (.bl (!isBl b v)) M := by cases v <;> rfl
def memRes (r : Option Bool) (M : Mem) : Res PV := match r with | some r => .ok (.bl r) M | none => .fail
def ninRes (r : Option Bool) (M : Mem) : Res PV := match r with | some r => .ok (.bl (!r)) M | none => .fail
@[simp] theorem memRes_ : memRes (some b) M = .ok (.bl b) M := rfl
@[simp] theorem ninRes_ : ninRes (some b) M = .ok (.bl (!b)) M := rfl
@[simp] theorem op2_mem : op2 .mem v w M = memRes (inPV M v w) M := rfl
@[simp] theorem op2_notin : op2 .notin v w M = ninRes (inPV M v w) M := rfl
@[simp] theorem inPV_rod {ks vs : List PV} : inPV M (.str s) (.rod ks vs) = some (keyIx s ks).isSome := rfl
def ixK (r : Option Nat) (vs : List PV) (M : Mem) : Res PV := match r with | some j => (match vs[j]? with | some v => .ok v M | none => .fail) | none => .fail
def gtK (r : Option Nat) (vs : List PV) (M : Mem) : Res PV := match r with | some j => (match vs[j]? with | some v => .ok v M | none => .fail) | none => .ok .non M
@[simp] theorem op2_idx_k {ks vs : List PV} : op2 .idx (.rod ks vs) (.str s) M = ixK (keyIx s ks) vs M := rfl
@[simp] theorem opn_dget {ks vs : List PV} : opn .dget [.rod ks vs, .str s] M = gtK (keyIx s ks) vs M := rfl
@[simp] theorem tyM_rod {ks vs : List PV} : tyM .dict (.rod ks vs) M = true := rfl
@[simp] theorem op2_is : op2 .is v .non M = .ok (.bl (isN v)) M := by cases v <;> rfl
@[simp] theorem op2_isnot : op2 .isnot v .non M = .ok (.bl (!isN v)) M := by cases v <;> rfl
@[simp] theorem isN_non : isN .non = true := rfl
@[simp] theorem isN_bl : isN (.bl b) = false := rfl
@[simp] theorem isN_int : isN (.int i) = false := rfl
@[simp] theorem isN_str : isN (.str x) = false := rfl
@[simp] theorem isN_tup : isN (.tup xs) = false := rfl
@[simp] theorem isN_rol : isN (.rol xs) = false := rfl
@[simp] theorem isN_ref : isN (.ref n) = false := rfl
/-- what an optional value comes to -/
def opRes (r : Option PV) (M : Mem) : Res PV := match r with | some v => .ok v M | none => .fail
@[simp] theorem opRes_some : opRes (some v) M = .ok v M := rfl
@[simp] theorem op2_idx_t : op2 .idx (.tup xs) (.int i) M = opRes (getI xs i) M := rfl
@[simp] theorem op2_idx_r : op2 .idx (.rol xs) (.int i) M = opRes (getI xs i) M := rfl
theorem op2_idx_l (h : M[n]? = some (.lst xs)) : op2 .idx (.ref n) (.int i) M = opRes (getI xs i) M := by
  show (match M[n]? with | some (Cell.lst xs) => _ | _ => _) = _
  rw [h]
  rfl
theorem getI_nat (xs : List PV) (k : Nat) : getI xs (k : Int) = xs[k]? := by
  unfold getI ixP
  rw [if_pos (Int.natCast_nonneg k)]
  by_cases h : k < xs.length
  · rw [if_pos (by omega)]
    simp
  · rw [if_neg (by omega)]
    exact (List.getElem?_eq_none (by omega)).symm
theorem getI_int {xs : List PV} {i : Int} (h : 0 ≤ i) : getI xs i = xs[i.toNat]? := by
  have := getI_nat xs i.toNat
  rwa [Int.toNat_of_nonneg h] at this
@[simp] theorem getI_0 : getI (v :: xs) 0 = some v := getI_nat (v :: xs) 0
@[simp] theorem getI_0n : getI [] 0 = none := getI_nat [] 0
@[simp] theorem getI_1 : getI xs 1 = xs[1]? := getI_nat xs 1
@[simp] theorem getI_2 : getI xs 2 = xs[2]? := getI_nat xs 2
@[simp] theorem getI_3 : getI xs 3 = xs[3]? := getI_nat xs 3
@[simp] theorem getI_4 : getI xs 4 = xs[4]? := getI_nat xs 4
@[simp] theorem getI_5 : getI xs 5 = xs[5]? := getI_nat xs 5
@[simp] theorem getI_6 : getI xs 6 = xs[6]? := getI_nat xs 6
@[simp] theorem getI_7 : getI xs 7 = xs[7]? := getI_nat xs 7
@[simp] theorem op1_neg : op1 .neg (.int i) M = .ok (.int (-i)) M := rfl
@[simp] theorem kd_non : kd .non M = some .non := rfl
@[simp] theorem kd_bl : kd (.bl b) M = some .bl := rfl
@[simp] theorem kd_int : kd (.int i) M = some .int := rfl
@[simp] theorem kd_str : kd (.str s) M = some .str := rfl
@[simp] theorem kd_tup : kd (.tup xs) M = some .tup := rfl
@[simp] theorem kd_rod {ks vs : List PV} : kd (.rod ks vs) M = some .dic := rfl
@[simp] theorem kd_rol : kd (.rol xs) M = some .lst := rfl
theorem kd_lst (h : M[n]? = some (.lst xs)) : kd (.ref n) M = some .lst := by
  show (match M[n]? with | some (Cell.lst xs) => some Kd.lst | _ => none) = _
  rw [h]
def isiRes (r : Option Kd) (T : Ty) (M : Mem) : Res PV := match r with | some k => (match isK k T with | some b => .ok (.bl b) M | none => .fail) | none => .fail
@[simp] theorem opn_isi {T : Ty} : opn .isi [v, .ty T] M = isiRes (kd v M) T M := by
  show (match isi v M T with | some b => _ | none => _) = _
  unfold isi isiRes
  cases kd v M <;> rfl
@[simp] theorem isiRes_int {k : Kd} : isiRes (some k) .int M = .ok (.bl (k = Kd.int || k = Kd.bl)) M := by cases k <;> rfl
@[simp] theorem isiRes_bool {k : Kd} : isiRes (some k) .bool M = .ok (.bl (k = Kd.bl)) M := by cases k <;> rfl
@[simp] theorem isiRes_str {k : Kd} : isiRes (some k) .str M = .ok (.bl (k = Kd.str)) M := by cases k <;> rfl
@[simp] theorem isiRes_tuple {k : Kd} : isiRes (some k) .tuple M = .ok (.bl (k = Kd.tup)) M := by cases k <;> rfl
@[simp] theorem isiRes_list {k : Kd} : isiRes (some k) .list M = .ok (.bl (k = Kd.lst)) M := by cases k <;> rfl
def isOwn : Kd → Bool | .own _ => true | _ => false
theorem isiRes_own {k : Kd} {c : Nat} (h : isOwn k = false) : isiRes (some k) (.own c) M = .ok (.bl false) M := by cases k <;> first | rfl | cases h
@[simp] theorem isiRes_own_non {c : Nat} : isiRes (some .non) (.own c) M = .ok (.bl false) M := rfl
@[simp] theorem isiRes_own_bl {c : Nat} : isiRes (some .bl) (.own c) M = .ok (.bl false) M := rfl
@[simp] theorem isiRes_own_int {c : Nat} : isiRes (some .int) (.own c) M = .ok (.bl false) M := rfl
@[simp] theorem isiRes_own_str {c : Nat} : isiRes (some .str) (.own c) M = .ok (.bl false) M := rfl
@[simp] theorem isiRes_own_tup {c : Nat} : isiRes (some .tup) (.own c) M = .ok (.bl false) M := rfl
@[simp] theorem isiRes_own_lst {c : Nat} : isiRes (some .lst) (.own c) M = .ok (.bl false) M := rfl
@[simp] theorem opn_len_t : opn .len [.tup xs] M = .ok (.int xs.length) M := rfl
@[simp] theorem opn_len_r : opn .len [.rol xs] M = .ok (.int xs.length) M := rfl
@[simp] theorem opn_len_s : opn .len [.str s] M = if s.length ≤ lim then .ok (.int s.length) M else .fail := rfl
theorem opn_len_l (h : M[n]? = some (.lst xs)) : opn .len [.ref n] M = .ok (.int xs.length) M := by
  show (match M[n]? with | some (Cell.lst xs) => Res.ok (PV.int xs.length) M | _ => _) = _
  rw [h]
@[simp] theorem opn_abs : opn .abs [.int i] M = .ok (.int (if i < 0 then -i else i)) M := rfl
@[simp] theorem opn_int_i : opn .int [.int i] M = .ok (.int i) M := rfl
@[simp] theorem opn_int_b : opn .int [.bl b] M = .ok (.int (if b then 1 else 0)) M := rfl
@[simp] theorem opn_list_t : opn .list [.tup xs] M = .ok (.ref M.length) (M ++ [.lst xs]) := rfl
@[simp] theorem opn_list_r : opn .list [.rol xs] M = .ok (.ref M.length) (M ++ [.lst xs]) := rfl
theorem op2_add_l {ys : List PV} (h : M[n]? = some (.lst xs)) (h2 : M[m]? = some (.lst ys)) (hl : xs.length + ys.length ≤ lim) : op2 .add (.ref n) (.ref m) M = .ok (.ref M.length) (M ++ [.lst (xs ++ ys)]) := by
  unfold op2
  simp only [h, h2]
  rw [if_pos hl]
theorem opn_list_l (h : M[n]? = some (.lst xs)) : opn .list [.ref n] M = .ok (.ref M.length) (M ++ [.lst xs]) := by
  show (match M[n]? with | some (Cell.lst xs) => Res.ok (PV.ref M.length) (M ++ [Cell.lst xs]) | _ => _) = _
  rw [h]
@[simp] theorem opn_tuple_t : opn .tuple [.tup xs] M = .ok (.tup xs) M := rfl
@[simp] theorem opn_tuple_r : opn .tuple [.rol xs] M = .ok (.tup xs) M := rfl
theorem opn_tuple_l (h : M[n]? = some (.lst xs)) : opn .tuple [.ref n] M = .ok (.tup xs) M := by
  show (match M[n]? with | some (Cell.lst xs) => Res.ok (PV.tup xs) M | _ => _) = _
  rw [h]
theorem opn_append_l (h : M[n]? = some (.lst xs)) : opn .append [.ref n, v] M = if xs.length < lim then .ok .non (M.set n (.lst (xs ++ [v]))) else .fail := by
  show (match M[n]? with | some (Cell.lst xs) => _ | _ => _) = _
  rw [h]
theorem tyM_list (h : M[n]? = some (.lst xs)) : tyM .list (.ref n) M = true := by
  show (match M[n]? with | some (Cell.lst xs) => true | _ => _) = _
  rw [h]
@[simp] theorem tru_non : tru .non M = some false := rfl
@[simp] theorem tru_bl : tru (.bl b) M = some b := rfl
@[simp] theorem tru_int : tru (.int i) M = some (decide (i ≠ 0)) := by
  show some (i != 0) = _
  rw [Option.some.injEq, Bool.eq_iff_iff]
  simp
@[simp] theorem tru_str : tru (.str s) M = if s.length ≤ lim then some (!s.isEmpty) else none := rfl
@[simp] theorem tru_tup : tru (.tup xs) M = some (!xs.isEmpty) := rfl
@[simp] theorem tru_rol : tru (.rol xs) M = some (!xs.isEmpty) := rfl
@[simp] theorem iop_add_i : iop .add (.int i) (.int j) M = .ok (.int (i + j)) M := rfl
@[simp] theorem iop_sub_i : iop .sub (.int i) (.int j) M = .ok (.int (i - j)) M := rfl
@[simp] theorem iop_add_s : iop .add (.str x) (.str y) M = if x.length + y.length ≤ lim then .ok (.str (x ++ y)) M else .fail := rfl
theorem setL_l (h : M[n]? = some (.lst xs)) {k : Nat} (hk : k < xs.length) : setL (.ref n) (.int k) v M = some (M.set n (.lst (xs.set k v))) := by
  unfold setL ixP
  simp only [h]
  rw [if_pos (Int.natCast_nonneg k), if_pos (by omega)]
  simp
@[simp] theorem bind_ite {α β : Type} {p : Prop} [Decidable p] {a b : Res α} {f : α → Mem → Res β} : Res.bind (if p then a else b) f = if p then a.bind f else b.bind f := by split <;> rfl
@[simp] theorem thn_ite {α : Type} {p : Prop} [Decidable p] {a b : Res α} {env : Env} {f : α → Mem → Ctl} : Res.thn (if p then a else b) env f = if p then a.thn env f else b.thn env f := by split <;> rfl
@[simp] theorem seq_ite {p : Prop} [Decidable p] {a b : Ctl} {f : Env → Mem → Ctl} : Ctl.seq (if p then a else b) f = if p then a.seq f else b.seq f := by split <;> rfl
@[simp] theorem trim_ite {p : Prop} [Decidable p] {a b : Res PV} : Res.trim M (if p then a else b) = if p then a.trim M else b.trim M := by split <;> rfl
@[simp] theorem out_ite {p : Prop} [Decidable p] {a b : Ctl} : Ctl.out (if p then a else b) = if p then a.out else b.out := by split <;> rfl
@[simp] theorem turn_ite {p : Prop} [Decidable p] {a b : Ctl} {f g : Env → Mem → Ctl} : Ctl.turn (if p then a else b) f g = if p then a.turn f g else b.turn f g := by split <;> rfl
end
section
variable {env : Env} {M : Mem} {v : PV} {c : Nat} {f g : Env → Mem → Ctl}
@[simp] theorem seq_nxt : Ctl.seq (.nxt env M) f = f env M := rfl
@[simp] theorem seq_ret : Ctl.seq (.ret v M) f = .ret v M := rfl
@[simp] theorem seq_brk : Ctl.seq (.brk env M) f = .brk env M := rfl
@[simp] theorem seq_cnt : Ctl.seq (.cnt env M) f = .cnt env M := rfl
@[simp] theorem seq_exc : Ctl.seq (.exc c env M) f = .exc c env M := rfl
@[simp] theorem seq_fail : Ctl.seq .fail f = .fail := rfl
@[simp] theorem turn_nxt : Ctl.turn (.nxt env M) f g = f env M := rfl
@[simp] theorem turn_ret : Ctl.turn (.ret v M) f g = .ret v M := rfl
@[simp] theorem turn_brk : Ctl.turn (.brk env M) f g = g env M := rfl
@[simp] theorem turn_cnt : Ctl.turn (.cnt env M) f g = f env M := rfl
@[simp] theorem turn_exc : Ctl.turn (.exc c env M) f g = .exc c env M := rfl
@[simp] theorem turn_fail : Ctl.turn .fail f g = .fail := rfl
@[simp] theorem out_nxt : Ctl.out (.nxt env M) = .ok .non M := rfl
@[simp] theorem out_ret : Ctl.out (.ret v M) = .ok v M := rfl
@[simp] theorem out_exc : Ctl.out (.exc c env M) = .exc c M := rfl
@[simp] theorem out_fail : Ctl.out .fail = .fail := rfl
end
section
variable {M : Mem} {k : Nat}
@[simp] theorem toD_non : toD M (k + 1) .non = some .non := rfl
@[simp] theorem toD_bl {b : Bool} : toD M (k + 1) (.bl b) = some (.bl b) := rfl
@[simp] theorem toD_int {i : Int} : toD M (k + 1) (.int i) = some (.int i) := rfl
@[simp] theorem toD_str {s : List Nat} : toD M (k + 1) (.str s) = some (.str s) := rfl
def tupO (r : Option (List PD)) : Option PD := match r with | some ds => some (.tup ds) | none => none
def lstO (r : Option (List PD)) : Option PD := match r with | some ds => some (.lst ds) | none => none
@[simp] theorem tupO_some {ds : List PD} : tupO (some ds) = some (.tup ds) := rfl
@[simp] theorem lstO_some {ds : List PD} : lstO (some ds) = some (.lst ds) := rfl
@[simp] theorem toD_tup {vs : List PV} : toD M (k + 1) (.tup vs) = tupO (allD (toD M k) vs) := rfl
@[simp] theorem toD_rol {vs : List PV} : toD M (k + 1) (.rol vs) = lstO (allD (toD M k) vs) := rfl
theorem toD_lst {n : Nat} {xs : List PV} (h : M[n]? = some (.lst xs)) : toD M (k + 1) (.ref n) = lstO (allD (toD M k) xs) := by
  unfold toD
  simp only [h]
  rfl
@[simp] theorem allD_nil {f : PV → Option PD} : allD f [] = some [] := rfl
theorem allD_cons {f : PV → Option PD} {x : PV} {xs : List PV} {d : PD} {ds : List PD} (h1 : f x = some d) (h2 : allD f xs = some ds) : allD f (x :: xs) = some (d :: ds) := by
  unfold allD
  rw [h1, h2]
end
/-- an item at a place that there is -/
theorem getI_mem {xs : List PV} {i : Int} (h0 : 0 ≤ i) (h1 : i < xs.length) : ∃ x, x ∈ xs ∧ getI xs i = some x := by
  rw [getI_int h0, List.getElem?_eq_getElem (by omega)]
  exact ⟨_, List.getElem_mem _, rfl⟩
theorem rangeL_get {lo : Int} {n j : Nat} {x : PV} (h : (rangeL lo n)[j]? = some x) : j < n ∧ x = .int (lo + j) := by
  unfold rangeL at h
  rw [List.getElem?_map] at h
  by_cases hj : j < n
  · rw [List.getElem?_eq_getElem (by simpa using hj)] at h
    simp at h
    exact ⟨hj, h.symm⟩
  · rw [List.getElem?_eq_none (by simpa using hj)] at h
    cases h
@[simp] theorem rangeL_len {lo : Int} {n : Nat} : (rangeL lo n).length = n := by simp [rangeL]
/-- a loop over items that runs to its end -/
theorem loopX_inv {g : Tg} {body : Env → Mem → Ctl} {P : Nat → Env → Mem → Prop} : ∀ (xs : List PV) (i : Nat) (env : Env) (M : Mem), P i env M →
    (∀ j x env M, xs[j]? = some x → P (i + j) env M → ∃ e1 env' M', bindT g x env = some e1 ∧ (body e1 M = .nxt env' M' ∨ body e1 M = .cnt env' M') ∧ P (i + j + 1) env' M') →
    ∃ env' M', loopX g body xs env M = .nxt env' M' ∧ P (i + xs.length) env' M'
  | [], i, env, M, h, _ => ⟨env, M, rfl, h⟩
  | x :: xs, i, env, M, h, hs => by
    obtain ⟨e1, env', M', h1, h2, h3⟩ := hs 0 x env M rfl h
    obtain ⟨env2, M2, q1, q2⟩ := loopX_inv (P := P) xs (i + 1) env' M' h3 fun j y e m hy hp => by
      have := hs (j + 1) y e m hy (by rw [show i + (j + 1) = i + 1 + j by omega]; exact hp)
      rwa [show i + (j + 1) + 1 = i + 1 + j + 1 by omega] at this
    refine ⟨env2, M2, ?_, by rw [List.length_cons, show i + (xs.length + 1) = i + 1 + xs.length by omega]; exact q2⟩
    unfold loopX
    rw [h1]
    simp only
    rcases h2 with h2 | h2 <;> rw [h2] <;> exact q1
theorem evSs_cons {w : Wd} {s : S} {ss : List S} {env : Env} {M : Mem} : evSs w (s :: ss) env M = (evS w s env M).seq fun env' M' => evSs w ss env' M' := by rw [evSs]
/-- for g in range(n) that runs to its end -/
theorem for_range {w : Wd} {g : Tg} {b : List S} {e : E} {n : Int} {env : Env} {M M1 : Mem} (P : Nat → Env → Mem → Prop) (he : evE w e env M = .ok (.int n) M1) (hn : -(2 ^ 62) ≤ n ∧ n < 2 ^ 62) (h0 : P 0 env M1)
    (hs : ∀ (j : Nat) env M, (j : Int) < n → P j env M → ∃ e1 env' M', bindT g (.int j) env = some e1 ∧ (evSs w b e1 M = .nxt env' M' ∨ evSs w b e1 M = .cnt env' M') ∧ P (j + 1) env' M') :
    ∃ env' M', evS w (.forr g (.range [e]) b) env M = .nxt env' M' ∧ P n.toNat env' M' := by
  obtain ⟨env', M', h1, h2⟩ := loopX_inv (g := g) (body := fun env M => evSs w b env M) (P := P) (rangeL 0 n.toNat) 0 env M1 h0 (by
    intro j x env M hx hp
    obtain ⟨hj, rfl⟩ := rangeL_get hx
    rw [Nat.zero_add] at hp ⊢
    rw [Int.zero_add]
    exact hs j env M (by omega) hp)
  refine ⟨env', M', ?_, by simpa using h2⟩
  simp only [evS, evI, evEs, he, Res.bind_ok, if_pos hn, Res.thn_ok]
  exact h1
@[simp] theorem glv_0 {v : PV} {vs : List PV} : glv (v :: vs) 0 = some v := rfl
@[simp] theorem glv_s {v : PV} {vs : List PV} {n : Nat} : glv (v :: vs) (n + 1) = glv vs n := rfl
/-! the head first: what comes after stands as a name with its arguments -/
section
variable (w : Wd) (env : Env)
def kOp1 (o : O1) (x : PV) (M : Mem) : Res PV := op1 o x M
def kOp2b (o : O2) (x y : PV) (M : Mem) : Res PV := op2 o x y M
def kOp2 (o : O2) (b : E) (x : PV) (M : Mem) : Res PV := (evE w b env M).bind (kOp2b o x)
def notRes (r : Option Bool) (M : Mem) : Res PV := match r with | some b => .ok (.bl (!b)) M | none => .fail
def kNot (v : PV) (M : Mem) : Res PV := notRes (tru v M) M
def andRes (r : Option Bool) (b : E) (x : PV) (M : Mem) : Res PV := match r with | some c => if c then evE w b env M else .ok x M | none => .fail
def orRes (r : Option Bool) (b : E) (x : PV) (M : Mem) : Res PV := match r with | some c => if c then .ok x M else evE w b env M | none => .fail
def kAnd (b : E) (x : PV) (M : Mem) : Res PV := andRes w env (tru x M) b x M
def kOr (b : E) (x : PV) (M : Mem) : Res PV := orRes w env (tru x M) b x M
def chRes (p : O2) (y : PV) (c : E) (r : PV) (M : Mem) : Res PV := match r with | .bl k => if k then (evE w c env M).bind (kOp2b p y) else .ok (.bl false) M | _ => .fail
def kCh1 (o p : O2) (c : E) (x y : PV) (M : Mem) : Res PV := (op2 o x y M).bind (chRes w env p y c)
def kCh (o p : O2) (b c : E) (x : PV) (M : Mem) : Res PV := (evE w b env M).bind (kCh1 w env o p c x)
def kIfe (a b : E) (c : Bool) (M : Mem) : Res PV := if c then evE w a env M else evE w b env M
def kTup (vs : List PV) (M : Mem) : Res PV := if vs.length ≤ lim then .ok (.tup vs) M else .fail
def kLst (vs : List PV) (M : Mem) : Res PV := if vs.length ≤ lim then .ok (.ref M.length) (M ++ [.lst vs]) else .fail
def kMeth1 (o : On) (v : PV) (vs : List PV) (M : Mem) : Res PV := opn o (v :: vs) M
def kMeth (k : MT) (o : On) (es : List E) (v : PV) (M : Mem) : Res PV := if tyM k v M then (evEs w es env M).bind (kMeth1 o v) else .fail
def kEs1 (v : PV) (vs : List PV) (M : Mem) : Res (List PV) := .ok (v :: vs) M
def kEs (es : List E) (v : PV) (M : Mem) : Res (List PV) := (evEs w es env M).bind (kEs1 v)
def kT (v : PV) (M : Mem) : Res Bool := match tru v M with | some b => .ok b M | none => .fail
def kBl (r : PV) (M : Mem) : Res Bool := match r with | .bl k => .ok k M | _ => .fail
def kCmp1 (o : O2) (x y : PV) (M : Mem) : Res Bool := (op2 o x y M).bind kBl
def kCmp (o : O2) (b : E) (x : PV) (M : Mem) : Res Bool := (evE w b env M).bind (kCmp1 o x)
def kTCh2 (p : O2) (y : PV) (c : E) (r : PV) (M : Mem) : Res Bool := match r with | .bl k => if k then (evE w c env M).bind (kCmp1 p y) else .ok false M | _ => .fail
def kTCh1 (o p : O2) (c : E) (x y : PV) (M : Mem) : Res Bool := (op2 o x y M).bind (kTCh2 w env p y c)
def kTCh (o p : O2) (b c : E) (x : PV) (M : Mem) : Res Bool := (evE w b env M).bind (kTCh1 w env o p c x)
def kTAnd (b : T) (c : Bool) (M : Mem) : Res Bool := if c then evT w b env M else .ok false M
def kTOr (b : T) (c : Bool) (M : Mem) : Res Bool := if c then .ok true M else evT w b env M
def kTNot (c : Bool) (M : Mem) : Res Bool := .ok (!c) M
def nxtO (r : Option Env) (M : Mem) : Ctl := match r with | some env' => .nxt env' M | none => .fail
def kAsg (g : Tg) (v : PV) (M : Mem) : Ctl := nxtO (bindT g v env) M
def kPar1 (i j : Nat) (x y : PV) (M : Mem) : Ctl := .nxt ((env.set i (some x)).set j (some y)) M
def kPar (i j : Nat) (b : E) (x : PV) (M : Mem) : Ctl := (evE w b env M).thn env (kPar1 env i j x)
def kP32 (i j l : Nat) (x y z : PV) (M : Mem) : Ctl := .nxt (((env.set i (some x)).set j (some y)).set l (some z)) M
def kP31 (i j l : Nat) (c : E) (x y : PV) (M : Mem) : Ctl := (evE w c env M).thn env (kP32 env i j l x y)
def kP3 (i j l : Nat) (b c : E) (x : PV) (M : Mem) : Ctl := (evE w b env M).thn env (kP31 w env i j l c x)
def stO (r : Option Mem) : Ctl := match r with | some M => .nxt env M | none => .fail
def kSet2 (x v j : PV) (M : Mem) : Ctl := stO env (setL v j x M)
def kSet1 (i : E) (x v : PV) (M : Mem) : Ctl := (evE w i env M).thn env (kSet2 env x v)
def kSet (a i : E) (x : PV) (M : Mem) : Ctl := (evE w a env M).thn env (kSet1 w env i x)
def kAug1 (i : Nat) (z : PV) (M : Mem) : Ctl := .nxt (env.set i (some z)) M
def kAug (i : Nat) (o : O2) (x y : PV) (M : Mem) : Ctl := (iop o x y M).thn env (kAug1 env i)
def augO (r : Option (Option PV)) (i : Nat) (o : O2) (e : E) (M : Mem) : Ctl := match r with | some (some x) => (evE w e env M).thn env (kAug env i o x) | _ => .fail
def kAgI4 (n : Nat) (j z : PV) (M : Mem) : Ctl := stO env (setL (.ref n) j z M)
def kAgI3 (o : O2) (n : Nat) (j x y : PV) (M : Mem) : Ctl := (iop o x y M).thn env (kAgI4 env n j)
def kAgI2 (o : O2) (e : E) (n : Nat) (j x : PV) (M : Mem) : Ctl := (evE w e env M).thn env (kAgI3 env o n j x)
def kAgI1 (o : O2) (e : E) (v j : PV) (M : Mem) : Ctl := match v with | .ref n => (op2 .idx (.ref n) j M).thn env (kAgI2 w env o e n j) | _ => .fail
def kAgI (i : E) (o : O2) (e : E) (v : PV) (M : Mem) : Ctl := (evE w i env M).thn env (kAgI1 w env o e v)
def kExp (v : PV) (M : Mem) : Ctl := .nxt env M
def kRet (v : PV) (M : Mem) : Ctl := .ret v M
def kIf (a b : List S) (c : Bool) (M : Mem) : Ctl := if c then evSs w a env M else evSs w b env M
def kFor (g : Tg) (b : List S) (s : Src) (M : Mem) : Ctl := match s with
  | .mem n => loopM g (fun env M => evSs w b env M) n w.fuel 0 env M
  | .items xs => loopX g (fun env M => evSs w b env M) xs env M
def kItV (v : PV) (M : Mem) : Res Src := match v with
    | .tup xs => .ok (.items xs) M
    | .rol xs => .ok (.items xs) M
    | .str s => .ok (.items (s.map fun c => .str [c])) M
    | .ref n => match M[n]? with
      | some (.lst _) => .ok (.mem n) M
      | _ => .fail
    | _ => .fail
end
section
variable {w : Wd} {env : Env} {M : Mem}
def varRes (r : Option (Option PV)) (M : Mem) : Res PV := match r with | some (some v) => .ok v M | _ => .fail
@[simp] theorem varRes_some {v : PV} : varRes (some (some v)) M = .ok v M := rfl
@[simp] theorem evE_var {i : Nat} : evE w (.var i) env M = varRes env[i]? M := by rw [evE]; rfl
@[simp] theorem evE_lit {v : PV} : evE w (.lit v) env M = .ok v M := by rw [evE]
@[simp] theorem evE_glob {g : Nat} : evE w (.glob g) env M = opRes (w.glob g) M := by rw [evE]; rfl
@[simp] theorem evE_op1 {o : O1} {a : E} : evE w (.op1 o a) env M = (evE w a env M).bind (kOp1 o) := by rw [evE]; rfl
@[simp] theorem evE_op2 {o : O2} {a b : E} : evE w (.op2 o a b) env M = (evE w a env M).bind (kOp2 w env o b) := by rw [evE]; rfl
@[simp] theorem evE_nott {a : E} : evE w (.nott a) env M = (evE w a env M).bind kNot := by rw [evE]; rfl
@[simp] theorem evE_and {a b : E} : evE w (.and a b) env M = (evE w a env M).bind (kAnd w env b) := by rw [evE]; rfl
@[simp] theorem evE_or {a b : E} : evE w (.or a b) env M = (evE w a env M).bind (kOr w env b) := by rw [evE]; rfl
@[simp] theorem evE_chain {o p : O2} {a b c : E} : evE w (.chain o p a b c) env M = (evE w a env M).bind (kCh w env o p b c) := by rw [evE]; rfl
@[simp] theorem evE_ife {t : T} {a b : E} : evE w (.ife t a b) env M = (evT w t env M).bind (kIfe w env a b) := by rw [evE]; rfl
@[simp] theorem evE_tup {es : List E} : evE w (.tup es) env M = (evEs w es env M).bind kTup := by rw [evE]; rfl
@[simp] theorem evE_lst {es : List E} : evE w (.lst es) env M = (evEs w es env M).bind kLst := by rw [evE]; rfl
@[simp] theorem evE_call {f : Nat} {es : List E} : evE w (.call f es) env M = (evEs w es env M).bind (w.call f) := by rw [evE]
@[simp] theorem evE_opn {o : On} {es : List E} : evE w (.opn o es) env M = (evEs w es env M).bind (opn o) := by rw [evE]
@[simp] theorem evE_meth {k : MT} {o : On} {a : E} {es : List E} : evE w (.meth k o a es) env M = (evE w a env M).bind (kMeth w env k o es) := by rw [evE]; rfl
@[simp] theorem evEs_nil : evEs w [] env M = .ok [] M := by rw [evEs]
@[simp] theorem evEs_cons {e : E} {es : List E} : evEs w (e :: es) env M = (evE w e env M).bind (kEs w env es) := by rw [evEs]; rfl
@[simp] theorem evT_val {e : E} : evT w (.val e) env M = (evE w e env M).bind kT := by rw [evT]; rfl
@[simp] theorem evT_cmp {o : O2} {a b : E} : evT w (.cmp o a b) env M = (evE w a env M).bind (kCmp w env o b) := by rw [evT]; rfl
@[simp] theorem evT_chain {o p : O2} {a b c : E} : evT w (.chain o p a b c) env M = (evE w a env M).bind (kTCh w env o p b c) := by rw [evT]; rfl
@[simp] theorem evT_and {a b : T} : evT w (.and a b) env M = (evT w a env M).bind (kTAnd w env b) := by rw [evT]; rfl
@[simp] theorem evT_or {a b : T} : evT w (.or a b) env M = (evT w a env M).bind (kTOr w env b) := by rw [evT]; rfl
@[simp] theorem evT_not {a : T} : evT w (.not a) env M = (evT w a env M).bind kTNot := by rw [evT]; rfl
@[simp] theorem kOp1_ {o : O1} {x : PV} : kOp1 o x M = op1 o x M := rfl
@[simp] theorem kOp2b_ {o : O2} {x y : PV} : kOp2b o x y M = op2 o x y M := rfl
@[simp] theorem kOp2_ {o : O2} {b : E} {x : PV} : kOp2 w env o b x M = (evE w b env M).bind (kOp2b o x) := rfl
@[simp] theorem notRes_ {b : Bool} : notRes (some b) M = .ok (.bl (!b)) M := rfl
@[simp] theorem kNot_ {v : PV} : kNot v M = notRes (tru v M) M := rfl
@[simp] theorem andRes_ {b : E} {x : PV} {c : Bool} : andRes w env (some c) b x M = if c then evE w b env M else .ok x M := rfl
@[simp] theorem orRes_ {b : E} {x : PV} {c : Bool} : orRes w env (some c) b x M = if c then .ok x M else evE w b env M := rfl
@[simp] theorem kAnd_ {b : E} {x : PV} : kAnd w env b x M = andRes w env (tru x M) b x M := rfl
@[simp] theorem kOr_ {b : E} {x : PV} : kOr w env b x M = orRes w env (tru x M) b x M := rfl
@[simp] theorem chRes_ {p : O2} {y : PV} {c : E} {k : Bool} : chRes w env p y c (.bl k) M = if k then (evE w c env M).bind (kOp2b p y) else .ok (.bl false) M := rfl
@[simp] theorem kCh1_ {o p : O2} {c : E} {x y : PV} : kCh1 w env o p c x y M = (op2 o x y M).bind (chRes w env p y c) := rfl
@[simp] theorem kCh_ {o p : O2} {b c : E} {x : PV} : kCh w env o p b c x M = (evE w b env M).bind (kCh1 w env o p c x) := rfl
@[simp] theorem kIfe_ {a b : E} {c : Bool} : kIfe w env a b c M = if c then evE w a env M else evE w b env M := rfl
@[simp] theorem kTup_ {vs : List PV} : kTup vs M = if vs.length ≤ lim then .ok (.tup vs) M else .fail := rfl
@[simp] theorem kLst_ {vs : List PV} : kLst vs M = if vs.length ≤ lim then .ok (.ref M.length) (M ++ [.lst vs]) else .fail := rfl
@[simp] theorem kMeth1_ {o : On} {v : PV} {vs : List PV} : kMeth1 o v vs M = opn o (v :: vs) M := rfl
@[simp] theorem kMeth_ {k : MT} {o : On} {es : List E} {v : PV} : kMeth w env k o es v M = if tyM k v M then (evEs w es env M).bind (kMeth1 o v) else .fail := rfl
@[simp] theorem kEs1_ {v : PV} {vs : List PV} : kEs1 v vs M = .ok (v :: vs) M := rfl
@[simp] theorem kEs_ {es : List E} {v : PV} : kEs w env es v M = (evEs w es env M).bind (kEs1 v) := rfl
def okO (r : Option Bool) (M : Mem) : Res Bool := match r with | some b => .ok b M | none => .fail
@[simp] theorem okO_ {b : Bool} : okO (some b) M = .ok b M := rfl
@[simp] theorem kT_ {v : PV} : kT v M = okO (tru v M) M := rfl
@[simp] theorem kBl_ {k : Bool} : kBl (.bl k) M = .ok k M := rfl
@[simp] theorem kCmp1_ {o : O2} {x y : PV} : kCmp1 o x y M = (op2 o x y M).bind kBl := rfl
@[simp] theorem kCmp_ {o : O2} {b : E} {x : PV} : kCmp w env o b x M = (evE w b env M).bind (kCmp1 o x) := rfl
@[simp] theorem kTCh2_ {p : O2} {y : PV} {c : E} {k : Bool} : kTCh2 w env p y c (.bl k) M = if k then (evE w c env M).bind (kCmp1 p y) else .ok false M := rfl
@[simp] theorem kTCh1_ {o p : O2} {c : E} {x y : PV} : kTCh1 w env o p c x y M = (op2 o x y M).bind (kTCh2 w env p y c) := rfl
@[simp] theorem kTCh_ {o p : O2} {b c : E} {x : PV} : kTCh w env o p b c x M = (evE w b env M).bind (kTCh1 w env o p c x) := rfl
@[simp] theorem kTAnd_ {b : T} {c : Bool} : kTAnd w env b c M = if c then evT w b env M else .ok false M := rfl
@[simp] theorem kTOr_ {b : T} {c : Bool} : kTOr w env b c M = if c then .ok true M else evT w b env M := rfl
@[simp] theorem kTNot_ {c : Bool} : kTNot c M = .ok (!c) M := rfl
@[simp] theorem nxtO_ {e : Env} : nxtO (some e) M = .nxt e M := rfl
@[simp] theorem kAsg_ {g : Tg} {v : PV} : kAsg env g v M = nxtO (bindT g v env) M := rfl
@[simp] theorem kPar1_ {i j : Nat} {x y : PV} : kPar1 env i j x y M = .nxt ((env.set i (some x)).set j (some y)) M := rfl
@[simp] theorem kPar_ {i j : Nat} {b : E} {x : PV} : kPar w env i j b x M = (evE w b env M).thn env (kPar1 env i j x) := rfl
@[simp] theorem kP32_ {i j l : Nat} {x y z : PV} : kP32 env i j l x y z M = .nxt (((env.set i (some x)).set j (some y)).set l (some z)) M := rfl
@[simp] theorem kP31_ {i j l : Nat} {c : E} {x y : PV} : kP31 w env i j l c x y M = (evE w c env M).thn env (kP32 env i j l x y) := rfl
@[simp] theorem kP3_ {i j l : Nat} {b c : E} {x : PV} : kP3 w env i j l b c x M = (evE w b env M).thn env (kP31 w env i j l c x) := rfl
@[simp] theorem stO_ {M : Mem} : stO env (some M) = .nxt env M := rfl
@[simp] theorem kSet2_ {x v j : PV} : kSet2 env x v j M = stO env (setL v j x M) := rfl
@[simp] theorem kSet1_ {i : E} {x v : PV} : kSet1 w env i x v M = (evE w i env M).thn env (kSet2 env x v) := rfl
@[simp] theorem kSet_ {a i : E} {x : PV} : kSet w env a i x M = (evE w a env M).thn env (kSet1 w env i x) := rfl
@[simp] theorem kAug1_ {i : Nat} {z : PV} : kAug1 env i z M = .nxt (env.set i (some z)) M := rfl
@[simp] theorem kAug_ {i : Nat} {o : O2} {x y : PV} : kAug env i o x y M = (iop o x y M).thn env (kAug1 env i) := rfl
@[simp] theorem augO_ {i : Nat} {o : O2} {e : E} {x : PV} : augO w env (some (some x)) i o e M = (evE w e env M).thn env (kAug env i o x) := rfl
@[simp] theorem kAgI4_ {n : Nat} {j z : PV} : kAgI4 env n j z M = stO env (setL (.ref n) j z M) := rfl
@[simp] theorem kAgI3_ {o : O2} {n : Nat} {j x y : PV} : kAgI3 env o n j x y M = (iop o x y M).thn env (kAgI4 env n j) := rfl
@[simp] theorem kAgI2_ {o : O2} {e : E} {n : Nat} {j x : PV} : kAgI2 w env o e n j x M = (evE w e env M).thn env (kAgI3 env o n j x) := rfl
@[simp] theorem kAgI1_ {o : O2} {e : E} {n : Nat} {j : PV} : kAgI1 w env o e (.ref n) j M = (op2 .idx (.ref n) j M).thn env (kAgI2 w env o e n j) := rfl
@[simp] theorem kAgI_ {i : E} {o : O2} {e : E} {v : PV} : kAgI w env i o e v M = (evE w i env M).thn env (kAgI1 w env o e v) := rfl
@[simp] theorem kExp_ {v : PV} : kExp env v M = .nxt env M := rfl
@[simp] theorem kRet_ {v : PV} : kRet v M = .ret v M := rfl
@[simp] theorem kIf_ {a b : List S} {c : Bool} : kIf w env a b c M = if c then evSs w a env M else evSs w b env M := rfl
@[simp] theorem evSs_nil : evSs w [] env M = .nxt env M := by rw [evSs]
@[simp] theorem evSs_c {s : S} {ss : List S} : evSs w (s :: ss) env M = (evS w s env M).seq (evSs w ss) := by rw [evSs]
@[simp] theorem evS_asg {g : Tg} {e : E} : evS w (.asg g e) env M = (evE w e env M).thn env (kAsg env g) := by rw [evS]; rfl
@[simp] theorem evS_par {i j : Nat} {a b : E} : evS w (.par i j a b) env M = (evE w a env M).thn env (kPar w env i j b) := by rw [evS]; rfl
@[simp] theorem evS_par3 {i j l : Nat} {a b c : E} : evS w (.par3 i j l a b c) env M = (evE w a env M).thn env (kP3 w env i j l b c) := by rw [evS]; rfl
@[simp] theorem evS_setI {a i e : E} : evS w (.setI a i e) env M = (evE w e env M).thn env (kSet w env a i) := by rw [evS]; rfl
@[simp] theorem evS_aug {i : Nat} {o : O2} {e : E} : evS w (.aug i o e) env M = augO w env env[i]? i o e M := by
  rw [evS]
  rfl
@[simp] theorem evS_augI {a i : E} {o : O2} {e : E} : evS w (.augI a i o e) env M = (evE w a env M).thn env (kAgI w env i o e) := by rw [evS]; rfl
@[simp] theorem evS_expr {e : E} : evS w (.expr e) env M = (evE w e env M).thn env (kExp env) := by rw [evS]; rfl
@[simp] theorem evS_ret {e : E} : evS w (.ret e) env M = (evE w e env M).thn env kRet := by rw [evS]; rfl
@[simp] theorem evS_retN : evS w .retN env M = .ret .non M := by rw [evS]
@[simp] theorem evS_ifs {t : T} {a b : List S} : evS w (.ifs t a b) env M = (evT w t env M).thn env (kIf w env a b) := by rw [evS]; rfl
/-! comprehensions, slices -/
def cutO (r : Option (Option Int)) (v : PV) (pl : Option Int) (M : Mem) : Res PV := match r with | some ph => cutR v pl ph M | none => .fail
def kCut2 (fh : Bool) (v : PV) (pl : Option Int) (h : PV) (M : Mem) : Res PV := cutO (partV fh h) v pl M
def cutL (w : Wd) (env : Env) (r : Option (Option Int)) (fh : Bool) (hi : E) (v : PV) (M : Mem) : Res PV := match r with | some pl => (if fh then evE w hi env M else .ok .non M).bind (kCut2 fh v pl) | none => .fail
def kCut1 (w : Wd) (env : Env) (fl fh : Bool) (hi : E) (v l : PV) (M : Mem) : Res PV := cutL w env (partV fl l) fh hi v M
def kCut (w : Wd) (env : Env) (fl fh : Bool) (lo hi : E) (v : PV) (M : Mem) : Res PV := (if fl then evE w lo env M else .ok .non M).bind (kCut1 w env fl fh hi v)
@[simp] theorem evE_cut {fl fh : Bool} {a lo hi : E} : evE w (.cut fl fh a lo hi) env M = (evE w a env M).bind (kCut w env fl fh lo hi) := by rw [evE]; rfl
@[simp] theorem kCut_ {fl fh : Bool} {lo hi : E} {v : PV} : kCut w env fl fh lo hi v M = (if fl then evE w lo env M else .ok .non M).bind (kCut1 w env fl fh hi v) := rfl
@[simp] theorem kCut1_ {fl fh : Bool} {hi : E} {v l : PV} : kCut1 w env fl fh hi v l M = cutL w env (partV fl l) fh hi v M := rfl
@[simp] theorem cutL_ {pl : Option Int} {fh : Bool} {hi : E} {v : PV} : cutL w env (some pl) fh hi v M = (if fh then evE w hi env M else .ok .non M).bind (kCut2 fh v pl) := rfl
@[simp] theorem kCut2_ {fh : Bool} {v h : PV} {pl : Option Int} : kCut2 fh v pl h M = cutO (partV fh h) v pl M := rfl
@[simp] theorem cutO_ {v : PV} {pl ph : Option Int} : cutO (some ph) v pl M = cutR v pl ph M := rfl
@[simp] theorem partV_t {i : Int} : partV true (.int i) = some (some i) := rfl
@[simp] theorem partV_f {v : PV} : partV false v = some none := rfl
@[simp] theorem cutR_t {xs : List PV} {lo hi : Option Int} : cutR (.tup xs) lo hi M = .ok (.tup (cut xs lo hi)) M := rfl
theorem cutR_l {n : Nat} {xs : List PV} {lo hi : Option Int} (h : M[n]? = some (.lst xs)) : cutR (.ref n) lo hi M = .ok (.ref M.length) (M ++ [.lst (cut xs lo hi)]) := by
  unfold cutR
  simp only [h]
theorem evE_lc {g : Tg} {it : I} {ts : List T} {vs : List Nat} {elt : E} : evE w (.lc g it ts vs elt) env M = (evI w it env M).bind fun s M1 => (lcS g (fun env M => evTs w ts env M) (fun env M => evE w elt env M) (wipeE env vs) s M1).bind fun vs M2 => .ok (.ref M2.length) (M2 ++ [.lst vs]) := by rw [evE]
@[simp] theorem evTs_nil : evTs w [] env M = .ok true M := by rw [evTs]
@[simp] theorem evTs_1 {t : T} : evTs w [t] env M = evT w t env M := by
  simp only [evTs]
  cases h : evT w t env M with
  | ok b M1 => cases b <;> rfl
  | exc c M1 => rfl
  | fail => rfl
theorem evS_for {g : Tg} {it : I} {b : List S} : evS w (.forr g it b) env M = (evI w it env M).thn env (kFor w env g b) := by rw [evS]; rfl
theorem kFor_mem {g : Tg} {b : List S} {n : Nat} : kFor w env g b (.mem n) M = loopM g (fun env M => evSs w b env M) n w.fuel 0 env M := rfl
theorem kFor_items {g : Tg} {b : List S} {xs : List PV} : kFor w env g b (.items xs) M = loopX g (fun env M => evSs w b env M) xs env M := rfl
@[simp] theorem evS_pass : evS w .pass env M = .nxt env M := by rw [evS]
@[simp] theorem evS_brk : evS w .brk env M = .brk env M := by rw [evS]
@[simp] theorem evS_cnt : evS w .cnt env M = .cnt env M := by rw [evS]
@[simp] theorem bindT_name {i : Nat} {v : PV} : bindT (.name i) v env = if i < env.length then some (env.set i (some v)) else none := by rw [bindT]
@[simp] theorem bindT_tup {ts : List Tg} {vs : List PV} : bindT (.tup ts) (.tup vs) env = bindTs ts vs env := by rw [bindT]
@[simp] theorem bindTs_nil : bindTs [] [] env = some env := by rw [bindTs]
def bindO (r : Option Env) (ts : List Tg) (vs : List PV) : Option Env := match r with | some env => bindTs ts vs env | none => none
@[simp] theorem bindO_ {e : Env} {ts : List Tg} {vs : List PV} : bindO (some e) ts vs = bindTs ts vs e := rfl
@[simp] theorem bindTs_cons {t : Tg} {ts : List Tg} {v : PV} {vs : List PV} : bindTs (t :: ts) (v :: vs) env = bindO (bindT t v env) ts vs := by rw [bindTs]; rfl
end
theorem cut_to {α : Type} {xs : List α} {p : Int} (h : 0 ≤ p) : cut xs none (some p) = xs.take p.toNat := by
  unfold cut cutIx
  simp only [List.drop_zero, Nat.sub_zero, if_neg (show ¬ p < 0 by omega)]
  rw [List.take_eq_take_iff]
  omega
theorem cut_from {α : Type} {xs : List α} {p : Int} (h : 0 ≤ p) : cut xs (some p) none = xs.drop p.toNat := by
  unfold cut cutIx
  simp only [if_neg (show ¬ p < 0 by omega)]
  by_cases hl : p.toNat ≤ xs.length
  · rw [Nat.min_eq_left hl, List.take_of_length_le (by simp)]
  · rw [Nat.min_eq_right (by omega), List.drop_eq_nil_of_le (by omega), List.drop_eq_nil_of_le (by omega)]
    simp
theorem cut_last {α : Type} {xs : List α} : cut xs none (some (-1)) = xs.take (xs.length - 1) := by
  unfold cut cutIx
  simp only [List.drop_zero, Nat.sub_zero, if_pos (show (-1 : Int) < 0 by decide)]
  congr 1
  omega
/-! what is new is left out behind a call -/
theorem trimM_eq {M M' : Mem} {v : PV} (h : M'.length = M.length) : trimM M M' v = M' := by
  unfold trimM
  split
  · rw [← h, List.take_length]
  · rfl
@[simp] theorem trimM_self {M : Mem} {v : PV} : trimM M M v = M := trimM_eq rfl
theorem trimM_app {M A G : Mem} {v : PV} (hl : A.length = M.length) (hv : low M.length v = true) (h : ∀ (i : Nat) (c : Cell), A[i]? = some c → M[i]? = some c ∨ lowC M.length c = true) : trimM M (A ++ G) v = A := by
  unfold trimM
  rw [if_pos]
  · rw [← hl]; simp
  · refine ⟨hv, fun i c hi e => h i c ?_⟩
    rw [List.getElem?_append_left (by omega)] at e
    exact e
theorem trimM_hi {M M' : Mem} {v : PV} (h : low M.length v = false) : trimM M M' v = M' := by
  unfold trimM
  rw [if_neg]
  intro t
  rw [t.1] at h
  cases h
theorem trimM_push {M G : Mem} {v : PV} (hv : low M.length v = true) : trimM M (M ++ G) v = M := trimM_app rfl hv fun i c e => .inl e
/-- a call's start -/
theorem run_fn {fs : List Fn} {glob : Nat → Option PV} {fuel k f : Nat} {d : Fn} {vs : List PV} {M : Mem} (h : fs[f]? = some d) (h1 : vs.length = d.params) (h2 : d.params ≤ d.names) :
    run fs glob fuel (k + 1) f vs M = (evSs ⟨run fs glob fuel k, glob, fuel⟩ d.body (vs.map some ++ List.replicate (d.names - vs.length) none) M).out.trim M := by
  unfold run
  rw [h]
  simp only
  rw [if_pos ⟨h1, h2⟩]
end HP
end

set_option Elab.async false
set_option linter.all false
set_option autoImplicit false
set_option maxRecDepth 100000
set_option maxHeartbeats 4000000
/-! The tape of the laws: a list of a list of ints and three ints. -/
namespace HP
def nextFn : Fn := ⟨2, 4, [.asg (.name 2) (.op2 .idx (.var 0) (.lit (.int (2)))),
    .ifs (.cmp .gt (.var 2) (.lit (.int (0)))) [.setI (.var 0) (.lit (.int (2))) (.op2 .fdiv (.var 2) (.var 1)), .ret (.op2 .mod (.opn .int [(.var 2)]) (.var 1))] [],
    .asg (.name 3) (.lit (.int (0))),
    .ifs (.cmp .lt (.op2 .idx (.var 0) (.lit (.int (1)))) (.opn .len [(.op2 .idx (.var 0) (.lit (.int (0))))])) [.asg (.name 3) (.opn .abs [(.op2 .idx (.op2 .idx (.var 0) (.lit (.int (0)))) (.op2 .idx (.var 0) (.lit (.int (1)))))]), .augI (.var 0) (.lit (.int (1))) .add (.lit (.int (1)))] [],
    .ifs (.cmp .ge (.var 3) (.op2 .pow (.lit (.int (10))) (.lit (.int (18))))) [.setI (.var 0) (.lit (.int (2))) (.op2 .fdiv (.var 3) (.var 1)), .ret (.op2 .mod (.opn .int [(.var 3)]) (.var 1))] [],
    .setI (.var 0) (.lit (.int (3))) (.op2 .mod (.opn .int [(.op2 .add (.op2 .add (.op2 .mul (.op2 .idx (.var 0) (.lit (.int (3)))) (.lit (.int (48271)))) (.op2 .mul (.var 3) (.lit (.int (69621))))) (.lit (.int (11))))]) (.lit (.int (2147483647)))),
    .ret (.op2 .mod (.opn .int [(.op2 .fdiv (.op2 .mod (.op2 .mul (.op2 .idx (.var 0) (.lit (.int (3)))) (.lit (.int (16807)))) (.lit (.int (2147483647)))) (.lit (.int (7))))]) (.var 1))]⟩
/-- the tape stands at t -/
structure Tape (t l : Nat) (M : Mem) : Prop where
  ex : ∃ (i r s : Int) (ns : List Int), M[t]? = some (.lst [.ref l, .int i, .int r, .int s]) ∧ M[l]? = some (.lst (ns.map PV.int)) ∧ l ≠ t ∧ 0 ≤ i ∧ 0 ≤ r
/-- what was there, but the tape, is kept -/
structure Go (t l : Nat) (M M' : Mem) : Prop where
  tape : Tape t l M'
  len : M.length ≤ M'.length
  keep : ∀ n, n < M.length → n ≠ t → M'[n]? = M[n]?
theorem Go.refl {t l : Nat} {M : Mem} (h : Tape t l M) : Go t l M M := ⟨h, Nat.le_refl _, fun _ _ _ => rfl⟩
theorem Go.trans {t l : Nat} {M M1 M2 : Mem} (a : Go t l M M1) (b : Go t l M1 M2) : Go t l M M2 :=
  ⟨b.tape, Nat.le_trans a.len b.len, fun n h k => by rw [b.keep n (Nat.lt_of_lt_of_le h a.len) k, a.keep n h k]⟩
theorem Go.get {t l n : Nat} {M M1 : Mem} {c : Cell} (a : Go t l M M1) (h : M[n]? = some c) (k : n ≠ t) : M1[n]? = some c := by
  rw [a.keep n (List.getElem?_eq_some_iff.mp h).1 k, h]
/-- a new cell -/
theorem Tape.lt {t l : Nat} {M : Mem} (h : Tape t l M) : t < M.length ∧ l < M.length := by
  obtain ⟨i, r, s, ns, h1, h2, h3⟩ := h.ex
  exact ⟨(List.getElem?_eq_some_iff.mp h1).1, (List.getElem?_eq_some_iff.mp h2).1⟩
/-- a store in a cell that is younger -/
theorem Go.write {t l p : Nat} {M M1 : Mem} {c : Cell} (T : Tape t l M) (a : Go t l M M1) (hp : M.length ≤ p) : Go t l M (M1.set p c) := by
  obtain ⟨i, r, s, ns, h1, h2, h3⟩ := a.tape.ex
  have hl := T.lt
  refine ⟨⟨i, r, s, ns, ?_, ?_, h3⟩, by simpa using a.len, fun n hn k => ?_⟩
  · rw [List.getElem?_set_ne (by omega), h1]
  · rw [List.getElem?_set_ne (by omega), h2]
  · rw [List.getElem?_set_ne (by omega), a.keep n hn k]
theorem Go.push {t l : Nat} {M : Mem} (h : Tape t l M) (cs : List Cell) : Go t l M (M ++ cs) := by
  obtain ⟨i, r, s, ns, h1, h2, h3⟩ := h.ex
  refine ⟨⟨i, r, s, ns, ?_, ?_, h3⟩, by simp, fun n hn _ => List.getElem?_append_left hn⟩
  · rw [List.getElem?_append_left (List.getElem?_eq_some_iff.mp h1).1, h1]
  · rw [List.getElem?_append_left (List.getElem?_eq_some_iff.mp h2).1, h2]
theorem small_lit {i : Int} (h : -(2 ^ 64) < i) (k : i < 2 ^ 64) : small i = true := by unfold small; simp only [h, k, decide_true, Bool.and_self]
theorem tape_set {M : Mem} {t l : Nat} {i r s i' r' s' : Int} {ns : List Int} (h1 : M[t]? = some (.lst [.ref l, .int i, .int r, .int s])) (h2 : M[l]? = some (.lst (ns.map PV.int))) (h3 : l ≠ t) (h4 : 0 ≤ i') (h5 : 0 ≤ r') : Go t l M (M.set t (.lst [.ref l, .int i', .int r', .int s'])) := by
  have ht := (List.getElem?_eq_some_iff.mp h1).1
  refine ⟨⟨i', r', s', ns, ?_, ?_, h3, h4, h5⟩, by simp, fun n hn k => ?_⟩
  · simp [ht]
  · rw [List.getElem?_set_ne (Ne.symm h3), h2]
  · rw [List.getElem?_set_ne (Ne.symm k)]
structure TF (M : Mem) (t : Nat) (u : PV) (i r s : Int) : Prop where
  x0 : op2 .idx (.ref t) (.int 0) M = .ok u M
  x1 : op2 .idx (.ref t) (.int 1) M = .ok (.int i) M
  x2 : op2 .idx (.ref t) (.int 2) M = .ok (.int r) M
  x3 : op2 .idx (.ref t) (.int 3) M = .ok (.int s) M
  s1 : ∀ v, setL (.ref t) (.int 1) v M = some (M.set t (.lst [u, v, .int r, .int s]))
  s2 : ∀ v, setL (.ref t) (.int 2) v M = some (M.set t (.lst [u, .int i, v, .int s]))
  s3 : ∀ v, setL (.ref t) (.int 3) v M = some (M.set t (.lst [u, .int i, .int r, v]))
theorem tape_facts {M : Mem} {t : Nat} {u : PV} {i r s : Int} (h : M[t]? = some (.lst [u, .int i, .int r, .int s])) : TF M t u i r s :=
  have st : ∀ (k : Nat) v, k < 4 → setL (.ref t) (.int k) v M = some (M.set t (.lst ([u, .int i, .int r, .int s].set k v))) := fun k v hk => setL_l h hk
  ⟨op2_idx_l (i := 0) h, op2_idx_l (i := 1) h, op2_idx_l (i := 2) h, op2_idx_l (i := 3) h, fun v => st 1 v (by decide), fun v => st 2 v (by decide), fun v => st 3 v (by decide)⟩
theorem next_ok {fs : List Fn} {glob : Nat → Option PV} {fuel k f t l : Nat} {M : Mem} {many : Int} (hf : fs[f]? = some nextFn) (T : Tape t l M) (h0 : 0 < many) (h1 : many < 2 ^ 62) :
    ∃ v M', run fs glob fuel (k + 1) f [.ref t, .int many] M = .ok (.int v) M' ∧ 0 ≤ v ∧ v < many ∧ Go t l M M' ∧ M'.length = M.length := by
  obtain ⟨i, r, s, ns, e1, e2, e3, hi, hr⟩ := T.ex
  have ht := (List.getElem?_eq_some_iff.mp e1).1
  have hm : ∀ x : Int, 0 ≤ x % many ∧ x % many < many := fun x => ⟨Int.emod_nonneg _ (by omega), Int.emod_lt_of_pos _ h0⟩
  have hd : ∀ x : Int, 0 ≤ x → 0 ≤ x / many := fun x hx => Int.ediv_nonneg hx (by omega)
  have pw : (10 : Int) ^ (18 : Int).toNat = 1000000000000000000 := by decide
  have l1 := small_lit (i := 48271) (by decide) (by decide)
  have l2 := small_lit (i := 69621) (by decide) (by decide)
  have l3 := small_lit (i := 16807) (by decide) (by decide)
  obtain ⟨x0, x1, x2, x3, s1, s2, s3⟩ := tape_facts e1
  have ln := opn_len_l e2
  have lb : many < 18446744073709551616 := by omega
  rw [run_fn hf rfl (by decide)]
  have trs : ∀ c v, trimM M (M.set t c) v = M.set t c := fun c v => trimM_eq (by simp)
  have trs2 : ∀ c d v, trimM M ((M.set t c).set t d) v = M.set t d := fun c d v => by rw [trimM_eq (by simp), List.set_set]
  by_cases c1 : 0 < r
  · simp [nextFn, x2, c1, h0, lb, s2, trs]
    exact ⟨_, _, ⟨rfl, rfl⟩, (hm r).1, (hm r).2, tape_set e1 e2 e3 hi (hd r hr), by simp⟩
  · by_cases c2 : i < ns.length
    · have e4 : (M.set t (.lst [.ref l, .int (i + 1), .int r, .int s]))[t]? = some (.lst [.ref l, .int (i + 1), .int r, .int s]) := by simp [ht]
      obtain ⟨y0, y1, y2, y3, z1, z2, z3⟩ := tape_facts e4
      have gi : getI (ns.map PV.int) i = some (.int (ns[i.toNat]'(by omega))) := by
        rw [getI_int hi, List.getElem?_map, List.getElem?_eq_getElem (by omega)]
        rfl
      have xl := op2_idx_l (i := i) e2
      rw [gi] at xl
      generalize (ns[i.toNat]'(by omega)) = n at xl
      by_cases c3 : 1000000000000000000 ≤ (if n < 0 then -n else n)
      · simp [nextFn, x0, x1, x2, c1, h0, lb, s1, z2, ln, c2, xl, c3, pw, trs, trs2]
        refine ⟨_, _, ⟨rfl, rfl⟩, (hm _).1, (hm _).2, ?_, by simp⟩
        exact tape_set e1 e2 e3 (by omega) (hd _ (by omega))
      · have e5 : ∀ v, ((M.set t (.lst [.ref l, .int (i + 1), .int r, .int s])).set t (.lst [.ref l, .int (i + 1), .int r, .int v]))[t]? = some (.lst [.ref l, .int (i + 1), .int r, .int v]) := by simp [ht]
        have f3 : ∀ v, op2 .idx (.ref t) (.int 3) (M.set t (.lst [.ref l, .int (i + 1), .int r, .int v])) = .ok (.int v) (M.set t (.lst [.ref l, .int (i + 1), .int r, .int v])) := fun v => (tape_facts (u := .ref l) (i := i + 1) (r := r) (by simp [ht])).x3
        simp [nextFn, x0, x1, x2, y3, c1, h0, lb, s1, z3, ln, c2, xl, c3, pw, l1, l2, l3, f3, trs, trs2]
        refine ⟨_, _, ⟨rfl, rfl⟩, (hm _).1, (hm _).2, ?_, by simp⟩
        exact tape_set e1 e2 e3 (by omega) hr
    · have f3 : ∀ v, op2 .idx (.ref t) (.int 3) (M.set t (.lst [.ref l, .int i, .int r, .int v])) = .ok (.int v) (M.set t (.lst [.ref l, .int i, .int r, .int v])) := fun v => (tape_facts (u := .ref l) (i := i) (r := r) (by simp [ht])).x3
      simp [nextFn, x0, x1, x2, x3, c1, h0, lb, s1, s3, ln, c2, pw, l1, l2, l3, f3, trs, trs2]
      refine ⟨_, _, ⟨rfl, rfl⟩, (hm _).1, (hm _).2, ?_, by simp⟩
      exact tape_set e1 e2 e3 hi hr
/-- behind a call that only drew: what is new is left out -/
theorem trim_go {t l : Nat} {M M' : Mem} {v : PV} (T : Tape t l M) (g : Go t l M M') (hv : low M.length v = true) : ∃ M'', trimM M M' v = M'' ∧ Go t l M M'' ∧ M''.length = M.length := by
  have hl := T.lt
  obtain ⟨i, r, s, ns, h1, h2, h3⟩ := g.tape.ex
  have tr : Trims M M' v := ⟨hv, fun n c hn e => by
    by_cases ht : n = t
    · subst ht
      rw [h1] at e
      cases e
      right
      simp [lowC, lows, low, hl.2]
    · left
      rw [← e, g.keep n hn ht]⟩
  refine ⟨M'.take M.length, by unfold trimM; rw [if_pos tr], ⟨⟨i, r, s, ns, ?_, ?_, h3⟩, ?_, fun n hn k => ?_⟩, ?_⟩
  · rw [List.getElem?_take_of_lt hl.1, h1]
  · rw [List.getElem?_take_of_lt hl.2, h2]
  · rw [List.length_take]; have := g.len; omega
  · rw [List.getElem?_take_of_lt hn, g.keep n hn k]
  · rw [List.length_take]; have := g.len; omega
end HP

set_option Elab.async false
set_option linter.all false
set_option autoImplicit false
set_option maxRecDepth 100000
set_option maxHeartbeats 4000000
/-! Rows for comprehensions and loops whose turns leave the memory as it is. -/
noncomputable section
namespace HP
section
variable {w : Wd} {g : Tg} {ts : Env → Mem → Res Bool} {elt : Env → Mem → Res PV} {env : Env} {c : Mem → Prop} {M : Mem}
theorem lcX_pure {p : PV → Bool} {f : PV → PV} (hc : c M) : ∀ (xs : List PV), (∀ x ∈ xs, ∃ env', bindT g x env = some env' ∧ ts env' M = .ok (p x) M ∧ (p x = true → elt env' M = .ok (f x) M)) → lcX g ts elt env c xs M = .ok ((xs.filter p).map f) M
  | [], _ => by unfold lcX; rw [if_pos hc]; rfl
  | x :: xs, h => by
    obtain ⟨env', h1, h2, h3⟩ := h x List.mem_cons_self
    have ih := lcX_pure hc xs fun y hy => h y (List.mem_cons_of_mem _ hy)
    unfold lcX
    rw [if_pos hc, h1]
    simp only [h2, Res.only_ok]
    cases hp : p x with
    | true => simp [h3 hp, ih, hp]
    | false => simp [ih, hp]
end
section
variable {w : Wd} {g : Tg} {it : I} {ts : List T} {vs : List Nat} {elt : E} {env : Env} {M M1 : Mem}
/-- over items -/
theorem lc_items {xs : List PV} {p : PV → Bool} {f : PV → PV} (hI : evI w it env M = .ok (.items xs) M1) (hl : xs.length ≤ lim)
    (h : ∀ x ∈ xs, ∃ env', bindT g x (wipeE env vs) = some env' ∧ evTs w ts env' M1 = .ok (p x) M1 ∧ (p x = true → evE w elt env' M1 = .ok (f x) M1)) :
    evE w (.lc g it ts vs elt) env M = .ok (.ref M1.length) (M1 ++ [.lst ((xs.filter p).map f)]) := by
  rw [evE_lc, hI]
  simp only [Res.bind_ok, lcS]
  rw [if_pos hl, lcX_pure trivial xs h]
  rfl
/-- .. without a test -/
theorem lc_items0 {xs : List PV} {f : PV → PV} (hI : evI w it env M = .ok (.items xs) M1) (hl : xs.length ≤ lim)
    (h : ∀ x ∈ xs, ∃ env', bindT g x (wipeE env vs) = some env' ∧ evE w elt env' M1 = .ok (f x) M1) :
    evE w (.lc g it [] vs elt) env M = .ok (.ref M1.length) (M1 ++ [.lst (xs.map f)]) := by
  have := lc_items (p := fun _ => true) (f := f) hI hl (ts := []) (elt := elt) (vs := vs) (g := g) fun x hx => by
    obtain ⟨e, h1, h2⟩ := h x hx
    exact ⟨e, h1, by simp, fun _ => h2⟩
  rw [List.filter_eq_self.mpr (fun _ _ => rfl)] at this
  exact this
/-- over a list of the memory -/
theorem lc_mem {n : Nat} {xs : List PV} {p : PV → Bool} {f : PV → PV} (hI : evI w it env M = .ok (.mem n) M1) (hM : M1[n]? = some (.lst xs)) (hl : xs.length ≤ lim)
    (h : ∀ x ∈ xs, ∃ env', bindT g x (wipeE env vs) = some env' ∧ evTs w ts env' M1 = .ok (p x) M1 ∧ (p x = true → evE w elt env' M1 = .ok (f x) M1)) :
    evE w (.lc g it ts vs elt) env M = .ok (.ref M1.length) (M1 ++ [.lst ((xs.filter p).map f)]) := by
  rw [evE_lc, hI]
  simp only [Res.bind_ok, lcS, hM]
  rw [if_pos hl, lcX_pure hM xs h]
  rfl
end
theorem evI_rangeI {w : Wd} {env : Env} {M M1 : Mem} {e : E} {i : Int} (h : evE w e env M = .ok (.int i) M1) (h2 : -(2 ^ 62) ≤ i ∧ i < 2 ^ 62) : evI w (.range [e]) env M = .ok (.items (rangeL 0 i.toNat)) M1 := by
  simp only [evI, evEs, h, Res.bind_ok, if_pos h2]
theorem evI_rangeN {w : Wd} {env : Env} {M M1 : Mem} {e : E} {n : Nat} (h : evE w e env M = .ok (.int n) M1) (hn : n ≤ 1000) : evI w (.range [e]) env M = .ok (.items (rangeL 0 n)) M1 := by
  have := evI_rangeI h (by omega)
  rwa [Int.toNat_natCast] at this
theorem blsV_map {α : Type} (q : α → Bool) : ∀ xs : List α, blsV (xs.map fun x => PV.bl (q x)) = some (xs.map q)
  | [] => rfl
  | x :: xs => by
    rw [List.map_cons]
    unfold blsV
    rw [blsV_map q xs]
    rfl
theorem get_new {M : Mem} {c : Cell} : (M ++ [c])[M.length]? = some c := by simp
theorem opn_all_new {α : Type} {M : Mem} {xs : List α} {q : α → Bool} : opn .all [.ref M.length] (M ++ [.lst (xs.map fun x => PV.bl (q x))]) = .ok (.bl (xs.all q)) (M ++ [.lst (xs.map fun x => PV.bl (q x))]) := by
  unfold opn
  simp only [get_new, blsV_map]
  simp [List.all_map, Function.comp_def]
theorem opn_any_new {α : Type} {M : Mem} {xs : List α} {q : α → Bool} : opn .any [.ref M.length] (M ++ [.lst (xs.map fun x => PV.bl (q x))]) = .ok (.bl (xs.any q)) (M ++ [.lst (xs.map fun x => PV.bl (q x))]) := by
  unfold opn
  simp only [get_new, blsV_map]
  simp [List.any_map, Function.comp_def]
theorem opn_len_new {M : Mem} {xs : List PV} : opn .len [.ref M.length] (M ++ [.lst xs]) = .ok (.int xs.length) (M ++ [.lst xs]) := opn_len_l get_new
theorem opn_tuple_new {M : Mem} {xs : List PV} : opn .tuple [.ref M.length] (M ++ [.lst xs]) = .ok (.tup xs) (M ++ [.lst xs]) := opn_tuple_l get_new
/-- a walk over a list that stays as it is; P is kept of the names -/
theorem loopM_pure {g : Tg} {body : Env → Mem → Ctl} {n : Nat} {xs : List PV} {M : Mem} (P : Env → Prop) (hM : M[n]? = some (.lst xs)) (hb : ∀ env x e1, P env → x ∈ xs → bindT g x env = some e1 → match body e1 M with | .nxt e2 M' => M' = M ∧ P e2 | .cnt e2 M' => M' = M ∧ P e2 | _ => True) :
    ∀ (k i : Nat) (env : Env), P env → xs.length - i < k → loopM g body n k i env M = loopX g body (xs.drop i) env M
  | 0, i, env, _, h => by omega
  | k + 1, i, env, hp, h => by
    unfold loopM
    simp only [hM]
    cases hx : xs[i]? with
    | none =>
      have := List.getElem?_eq_none_iff.mp hx
      rw [List.drop_eq_nil_of_le this]
      rfl
    | some x =>
      have hl := (List.getElem?_eq_some_iff.mp hx).1
      have hd : xs.drop i = x :: xs.drop (i + 1) := by
        rw [List.drop_eq_getElem_cons hl, (List.getElem?_eq_some_iff.mp hx).2]
      rw [hd]
      simp only [loopX]
      cases hbd : bindT g x env with
      | none => rfl
      | some e1 =>
        simp only
        have q := hb env x e1 hp (List.mem_of_getElem? hx) hbd
        have ih := fun e he => loopM_pure (g := g) P hM hb k (i + 1) e he (by omega)
        cases hc : body e1 M with
        | nxt e2 M2 =>
          rw [hc] at q
          simp only at q
          obtain ⟨q1, q2⟩ := q
          subst q1
          simp [ih e2 q2]
        | cnt e2 M2 =>
          rw [hc] at q
          simp only at q
          obtain ⟨q1, q2⟩ := q
          subst q1
          simp [ih e2 q2]
        | ret v M2 => rfl
        | brk e2 M2 => rfl
        | exc a b c => rfl
        | fail => rfl
/-- a comprehension whose turns change the memory: Q is kept of it, R holds of each value -/
theorem lcX_inv {g : Tg} {ts : Env → Mem → Res Bool} {elt : Env → Mem → Res PV} {env : Env} {c : Mem → Prop} {Q : Mem → Prop} {R : Nat → PV → Prop} (hc : ∀ M, Q M → c M) : ∀ (xs : List PV) (i : Nat) (M : Mem), Q M →
    (∀ j x M, xs[j]? = some x → Q M → ∃ env' v M', bindT g x env = some env' ∧ ts env' M = .ok true M ∧ elt env' M = .ok v M' ∧ Q M' ∧ R (i + j) v) →
    ∃ vs M', lcX g ts elt env c xs M = .ok vs M' ∧ Q M' ∧ vs.length = xs.length ∧ ∀ (j : Nat) (v : PV), vs[j]? = some v → R (i + j) v
  | [], i, M, hq, _ => ⟨[], M, by unfold lcX; rw [if_pos (hc M hq)], hq, rfl, fun j v e => by simp at e⟩
  | x :: xs, i, M, hq, hs => by
    obtain ⟨env', v, M', h1, h2, h3, h4, h5⟩ := hs 0 x M rfl hq
    obtain ⟨vs, M2, q1, q2, q3, q4⟩ := lcX_inv hc xs (i + 1) M' h4 fun j y m hy hm => by
      have := hs (j + 1) y m hy hm
      rwa [show i + (j + 1) = i + 1 + j by omega] at this
    refine ⟨v :: vs, M2, ?_, q2, by simp [q3], fun j w e => ?_⟩
    · unfold lcX
      rw [if_pos (hc M hq), h1]
      simp [h2, h3, q1]
    · cases j with
      | zero => simp at e; subst e; exact h5
      | succ j =>
        have := q4 j w (by simpa using e)
        rwa [show i + 1 + j = i + (j + 1) by omega] at this
end HP
end

set_option maxRecDepth 100000
namespace Lk23
open HP
/-- 0 is_number([value]) names [value] -/
def f_is_number : Fn := ⟨1, 1, [.ret (.and (.opn .isi [(.var 0), (.lit (.ty .int))]) (.and (.nott (.opn .isi [(.var 0), (.lit (.ty .bool))])) (.chain .le .le (.glob 0) (.var 0) (.glob 1))))]⟩
/-- 1 is_text([value]) names [value, char] -/
def f_is_text : Fn := ⟨1, 2, [.ifs (.or (.not (.val (.opn .isi [(.var 0), (.lit (.ty .str))]))) (.cmp .gt (.opn .len [(.var 0)]) (.glob 2))) [.ret (.lit (.bl false))] [],
    .ret (.opn .all [(.lc (.name 1) (.val (.var 0)) [] [1] (.chain .le .le (.lit (.str [32])) (.var 1) (.lit (.str [126]))))])]⟩
/-- 2 fits_depth([value, room]) names [value, room, part] -/
def f_fits_depth : Fn := ⟨2, 3, [.ifs (.or (.cmp .is (.var 0) (.lit .non)) (.or (.val (.call 0 [(.var 0)])) (.or (.val (.call 1 [(.var 0)])) (.val (.opn .isi [(.var 0), (.lit (.ty (.own 2)))]))))) [.ret (.lit (.bl true))] [],
    .ifs (.or (.not (.val (.opn .isi [(.var 0), (.lit (.ty .tuple))]))) (.cmp .eq (.var 1) (.lit (.int (0))))) [.ret (.lit (.bl false))] [],
    .ret (.opn .all [(.lc (.name 2) (.val (.var 0)) [] [2] (.call 2 [(.var 2), (.op2 .sub (.var 1) (.lit (.int (1))))]))])]⟩
/-- 3 is_host_word([value]) names [value] -/
def f_is_host_word : Fn := ⟨1, 1, [.ret (.and (.call 2 [(.var 0), (.glob 4)]) (.op2 .le (.call 6 [(.var 0)]) (.glob 6)))]⟩
def b1_gather : List S := [.expr (.call 4 [(.var 2), (.var 1)])]
/-- 4 gather([word, found]) names [word, found, part] -/
def f_gather : Fn := ⟨2, 3, [.ifs (.val (.opn .isi [(.var 0), (.lit (.ty (.own 2)))])) [.ifs (.cmp .notin (.var 0) (.var 1)) [.expr (.meth .list .append (.var 1) [(.var 0)])] []] [.ifs (.val (.opn .isi [(.var 0), (.lit (.ty .tuple))])) [.forr (.name 2) (.val (.var 0)) b1_gather] []]]⟩
/-- 5 atoms_in([value]) names [value, found] -/
def f_atoms_in : Fn := ⟨1, 2, [.asg (.name 1) (.lst []),
    .expr (.call 4 [(.var 0), (.var 1)]),
    .ret (.var 1)]⟩
/-- 6 rank_of([word]) names [word, atom] -/
def f_rank_of : Fn := ⟨1, 2, [.ret (.opn .max [(.op2 .add (.lst [(.lit (.int (0)))]) (.lc (.name 1) (.val (.call 5 [(.var 0)])) [] [1] .bad))])]⟩
/-- 7 is_integer([value]) names [value] -/
def f_is_integer : Fn := ⟨1, 1, [.ret (.and (.opn .isi [(.var 0), (.lit (.ty .int))]) (.nott (.opn .isi [(.var 0), (.lit (.ty .bool))])))]⟩
/-- 8 is_below([value, bound]) names [value, bound] -/
def f_is_below : Fn := ⟨2, 2, [.ret (.and (.call 7 [(.var 0)]) (.chain .le .lt (.lit (.int (0))) (.var 0) (.var 1)))]⟩
/-- 9 wrapped([number]) names [number] -/
def f_wrapped : Fn := ⟨1, 1, [.ret (.op2 .add (.op2 .mod (.opn .int [(.op2 .sub (.var 0) (.glob 11))]) (.glob 12)) (.glob 11))]⟩
/-- 10 form_of([kind]) names [kind] -/
def f_form_of : Fn := ⟨1, 1, [.ifs (.not (.val (.opn .isi [(.var 0), (.lit (.ty .str))]))) [.ret (.lit .non)] [],
    .ifs (.cmp .mem (.var 0) (.glob 13)) [.ret (.op2 .idx (.glob 13) (.var 0))] [],
    .ret (.meth .dict .dget (.glob 14) [(.var 0)])]⟩
/-- 11 is_part([value, sort, many]) names [value, sort, many] -/
def f_is_part : Fn := ⟨3, 3, [.ifs (.cmp .eq (.var 1) (.lit (.str [114]))) [.ret (.call 8 [(.var 0), (.glob 10)])] [],
    .ifs (.cmp .eq (.var 1) (.lit (.str [116]))) [.ret (.call 8 [(.var 0), (.var 2)])] [],
    .ret (.and (.call 7 [(.var 0)]) (.chain .le .lt (.glob 11) (.var 0) (.op2 .add (.glob 11) (.glob 12))))]⟩
/-- 12 is_instruction([value, many]) names [value, many, form, index] -/
def f_is_instruction : Fn := ⟨2, 4, [.ifs (.or (.not (.val (.opn .isi [(.var 0), (.lit (.ty .tuple))]))) (.cmp .eq (.opn .len [(.var 0)]) (.lit (.int (0))))) [.ret (.lit (.bl false))] [],
    .asg (.name 2) (.call 10 [(.op2 .idx (.var 0) (.lit (.int (0))))]),
    .ifs (.or (.cmp .is (.var 2) (.lit .non)) (.cmp .ne (.opn .len [(.var 0)]) (.op2 .add (.opn .len [(.var 2)]) (.lit (.int (1)))))) [.ret (.lit (.bl false))] [],
    .ret (.opn .all [(.lc (.name 3) (.range [(.opn .len [(.var 2)])]) [] [3] (.call 11 [(.op2 .idx (.var 0) (.op2 .add (.var 3) (.lit (.int (1))))), (.op2 .idx (.var 2) (.var 3)), (.var 1)]))])]⟩
/-- 13 is_program([value]) names [value, row] -/
def f_is_program : Fn := ⟨1, 2, [.ifs (.or (.not (.val (.opn .isi [(.var 0), (.lit (.ty .tuple))]))) (.not (.chain .le .le (.lit (.int (1))) (.opn .len [(.var 0)]) (.glob 9)))) [.ret (.lit (.bl false))] [],
    .ifs (.not (.val (.opn .all [(.lc (.name 1) (.val (.var 0)) [] [1] (.call 12 [(.var 1), (.opn .len [(.var 0)])]))]))) [.ret (.lit (.bl false))] [],
    .ret (.or (.op2 .eq (.op2 .idx (.op2 .idx (.var 0) (.op1 .neg (.lit (.int (1))))) (.lit (.int (0)))) (.lit (.str [106, 117, 109, 112]))) (.op2 .eq (.op2 .idx (.op2 .idx (.var 0) (.op1 .neg (.lit (.int (1))))) (.lit (.int (0)))) (.lit (.str [101, 110, 100]))))]⟩
/-- 14 is_registers([value]) names [value, word] -/
def f_is_registers : Fn := ⟨1, 2, [.ret (.and (.opn .isi [(.var 0), (.lit (.ty .tuple))]) (.and (.op2 .eq (.opn .len [(.var 0)]) (.glob 10)) (.opn .all [(.lc (.name 1) (.val (.var 0)) [] [1] (.call 3 [(.var 1)]))])))]⟩
/-- 15 _law_next([tape, many]) names [tape, many, rest, cell] -/
def f__law_next : Fn := ⟨2, 4, [.asg (.name 2) (.op2 .idx (.var 0) (.lit (.int (2)))),
    .ifs (.cmp .gt (.var 2) (.lit (.int (0)))) [.setI (.var 0) (.lit (.int (2))) (.op2 .fdiv (.var 2) (.var 1)), .ret (.op2 .mod (.opn .int [(.var 2)]) (.var 1))] [],
    .asg (.name 3) (.lit (.int (0))),
    .ifs (.cmp .lt (.op2 .idx (.var 0) (.lit (.int (1)))) (.opn .len [(.op2 .idx (.var 0) (.lit (.int (0))))])) [.asg (.name 3) (.opn .abs [(.op2 .idx (.op2 .idx (.var 0) (.lit (.int (0)))) (.op2 .idx (.var 0) (.lit (.int (1)))))]), .augI (.var 0) (.lit (.int (1))) .add (.lit (.int (1)))] [],
    .ifs (.cmp .ge (.var 3) (.op2 .pow (.lit (.int (10))) (.lit (.int (18))))) [.setI (.var 0) (.lit (.int (2))) (.op2 .fdiv (.var 3) (.var 1)), .ret (.op2 .mod (.opn .int [(.var 3)]) (.var 1))] [],
    .setI (.var 0) (.lit (.int (3))) (.op2 .mod (.opn .int [(.op2 .add (.op2 .add (.op2 .mul (.op2 .idx (.var 0) (.lit (.int (3)))) (.lit (.int (48271)))) (.op2 .mul (.var 3) (.lit (.int (69621))))) (.lit (.int (11))))]) (.lit (.int (2147483647)))),
    .ret (.op2 .mod (.opn .int [(.op2 .fdiv (.op2 .mod (.op2 .mul (.op2 .idx (.var 0) (.lit (.int (3)))) (.lit (.int (16807)))) (.lit (.int (2147483647)))) (.lit (.int (7))))]) (.var 1))]⟩
/-- 16 _law_forms([]) names [rows] -/
def f__law_forms : Fn := ⟨0, 1, [.asg (.name 0) (.lst [(.tup [(.lit (.str [115, 101, 116])), (.lit (.str [114, 110]))]), (.tup [(.lit (.str [99, 111, 112, 121])), (.lit (.str [114, 114]))]), (.tup [(.lit (.str [97, 100, 100])), (.lit (.str [114, 114, 114]))]), (.tup [(.lit (.str [108, 101, 115, 115])), (.lit (.str [114, 114, 114]))]), (.tup [(.lit (.str [115, 97, 109, 101])), (.lit (.str [114, 114, 114]))]), (.tup [(.lit (.str [122, 101, 114, 111])), (.lit (.str [114, 116]))]), (.tup [(.lit (.str [106, 117, 109, 112])), (.lit (.str [116]))])]),
    .ret (.op2 .add (.var 0) (.lst [(.tup [(.lit (.str [108, 111, 97, 100])), (.lit (.str [114, 114, 114]))]), (.tup [(.lit (.str [115, 116, 111, 114, 101])), (.lit (.str [114, 114, 114]))]), (.tup [(.lit (.str [116, 101, 108, 108])), (.lit (.str [114, 114]))]), (.tup [(.lit (.str [116, 111, 107, 101, 110])), (.lit (.str [114, 114]))]), (.tup [(.lit (.str [101, 110, 100])), (.lit (.str []))])]))]⟩
/-- 17 _law_part([tape, sort, many]) names [tape, sort, many] -/
def f__law_part : Fn := ⟨3, 3, [.ifs (.cmp .eq (.var 1) (.lit (.str [114]))) [.ret (.call 15 [(.var 0), (.lit (.int (4)))])] [],
    .ifs (.cmp .eq (.var 1) (.lit (.str [116]))) [.ret (.call 15 [(.var 0), (.var 2)])] [],
    .ret (.op2 .sub (.call 15 [(.var 0), (.op2 .pow (.lit (.int (2))) (.lit (.int (32))))]) (.op2 .pow (.lit (.int (2))) (.lit (.int (31)))))]⟩
/-- 18 _law_row([tape, many, last]) names [tape, many, last, kind, form, sort] -/
def f__law_row : Fn := ⟨3, 6, [.asg (.tup [(.name 3), (.name 4)]) (.op2 .idx (.call 16 []) (.op2 .idx (.tup [(.call 15 [(.var 0), (.lit (.int (12)))]), (.op2 .idx (.tup [(.lit (.int (6))), (.lit (.int (11)))]) (.call 15 [(.var 0), (.lit (.int (2)))]))]) (.opn .int [(.var 2)]))),
    .ret (.op2 .add (.tup [(.var 3)]) (.opn .tuple [(.lc (.name 5) (.val (.var 4)) [] [5] (.call 17 [(.var 0), (.var 5), (.var 1)]))]))]⟩
/-- 19 _law_bent([tape, rows]) names [tape, rows, place, row, odd, way] -/
def f__law_bent : Fn := ⟨2, 6, [.asg (.name 2) (.call 15 [(.var 0), (.opn .len [(.var 1)])]),
    .asg (.name 3) (.opn .list [(.op2 .idx (.var 1) (.var 2))]),
    .asg (.name 4) (.op2 .idx (.tup [(.op1 .neg (.lit (.int (1)))), (.lit (.int (4))), (.lit (.int (24))), (.op2 .pow (.lit (.int (2))) (.lit (.int (31)))), (.op2 .sub (.op1 .neg (.op2 .pow (.lit (.int (2))) (.lit (.int (31))))) (.lit (.int (1)))), (.lit (.bl true)), (.lit .non), (.lit (.str [114])), (.tup [(.lit (.int (1)))])]) (.call 15 [(.var 0), (.lit (.int (9)))])),
    .asg (.name 5) (.call 15 [(.var 0), (.lit (.int (6)))]),
    .ifs (.and (.cmp .eq (.var 5) (.lit (.int (0)))) (.cmp .ne (.var 3) (.lst []))) [.setI (.var 3) (.call 15 [(.var 0), (.opn .len [(.var 3)])]) (.var 4)] [.ifs (.cmp .eq (.var 5) (.lit (.int (1)))) [.expr (.meth .list .append (.var 3) [(.var 4)])] [.ifs (.cmp .eq (.var 5) (.lit (.int (2)))) [.asg (.name 3) (.cut false true (.var 3) .bad (.op1 .neg (.lit (.int (1)))))] [.ifs (.cmp .eq (.var 5) (.lit (.int (3)))) [.ret (.op2 .add (.var 1) (.lst [(.tup [(.lit (.str [115, 101, 116])), (.lit (.int (0))), (.lit (.int (1)))])]))] [.ifs (.cmp .eq (.var 5) (.lit (.int (4)))) [.ret (.op2 .add (.cut false true (.var 1) .bad (.var 2)) (.cut true false (.var 1) (.op2 .add (.var 2) (.lit (.int (1)))) .bad))] [.ret (.op2 .add (.op2 .add (.cut false true (.var 1) .bad (.var 2)) (.lst [(.var 3)])) (.cut true false (.var 1) (.op2 .add (.var 2) (.lit (.int (1)))) .bad))]]]]],
    .ret (.op2 .add (.op2 .add (.cut false true (.var 1) .bad (.var 2)) (.lst [(.opn .tuple [(.var 3)])])) (.cut true false (.var 1) (.op2 .add (.var 2) (.lit (.int (1)))) .bad))]⟩
/-- 20 _law_number([value, low, high]) names [value, low, high] -/
def f__law_number : Fn := ⟨3, 3, [.ret (.and (.opn .isi [(.var 0), (.lit (.ty .int))]) (.and (.nott (.opn .isi [(.var 0), (.lit (.ty .bool))])) (.chain .le .lt (.var 1) (.var 0) (.var 2))))]⟩
/-- 21 _law_fits([value, sort, many]) names [value, sort, many] -/
def f__law_fits : Fn := ⟨3, 3, [.ifs (.cmp .eq (.var 1) (.lit (.str [114]))) [.ret (.call 20 [(.var 0), (.lit (.int (0))), (.lit (.int (4)))])] [],
    .ifs (.cmp .eq (.var 1) (.lit (.str [116]))) [.ret (.call 20 [(.var 0), (.lit (.int (0))), (.var 2)])] [],
    .ret (.call 20 [(.var 0), (.op1 .neg (.op2 .pow (.lit (.int (2))) (.lit (.int (31))))), (.op2 .pow (.lit (.int (2))) (.lit (.int (31))))])]⟩
def b1__law_is_row : List S := [.ifs (.cmp .eq (.op2 .idx (.var 0) (.lit (.int (0)))) (.var 2)) [.ifs (.cmp .ne (.opn .len [(.var 0)]) (.op2 .add (.opn .len [(.var 3)]) (.lit (.int (1))))) [.ret (.lit (.bl false))] [], .ret (.op2 .eq (.opn .len [(.lc (.name 4) (.range [(.opn .len [(.var 3)])]) [(.not (.val (.call 21 [(.op2 .idx (.var 0) (.op2 .add (.var 4) (.lit (.int (1))))), (.op2 .idx (.var 3) (.var 4)), (.var 1)])))] [4] (.var 4))]) (.lit (.int (0))))] []]
/-- 22 _law_is_row([row, many]) names [row, many, kind, form, k] -/
def f__law_is_row : Fn := ⟨2, 5, [.ifs (.or (.not (.val (.opn .isi [(.var 0), (.lit (.ty .tuple))]))) (.or (.cmp .eq (.var 0) (.tup [])) (.not (.val (.opn .isi [(.op2 .idx (.var 0) (.lit (.int (0)))), (.lit (.ty .str))]))))) [.ret (.lit (.bl false))] [],
    .forr (.tup [(.name 2), (.name 3)]) (.val (.call 16 [])) b1__law_is_row,
    .ret (.lit (.bl false))]⟩
/-- 23 _law_due([rows]) names [rows, row] -/
def f__law_due : Fn := ⟨1, 2, [.ifs (.or (.not (.chain .le .le (.lit (.int (1))) (.opn .len [(.var 0)]) (.lit (.int (24))))) (.cmp .gt (.opn .len [(.lc (.name 1) (.val (.var 0)) [(.not (.val (.call 22 [(.var 1), (.opn .len [(.var 0)])])))] [1] (.var 1))]) (.lit (.int (0))))) [.ret (.lit (.bl false))] [],
    .ret (.op2 .mem (.op2 .idx (.op2 .idx (.var 0) (.op1 .neg (.lit (.int (1))))) (.lit (.int (0)))) (.tup [(.lit (.str [106, 117, 109, 112])), (.lit (.str [101, 110, 100]))]))]⟩
def b2_law : List S := [.ifs (.cmp .ne (.var 6) (.lst [])) [.asg (.name 6) (.call 19 [(.var 1), (.var 6)])] []]
def b1_law : List S := [.asg (.name 6) (.var 4), .forr (.name 3) (.range [(.op2 .add (.lit (.int (1))) (.call 15 [(.var 1), (.lit (.int (2)))]))]) b2_law, .asg (.name 7) (.call 13 [(.opn .tuple [(.var 6)])]), .ifs (.or (.not (.val (.opn .isi [(.var 7), (.lit (.ty .bool))]))) (.cmp .ne (.var 7) (.call 23 [(.var 6)]))) [.ret (.lit (.bl false))] [], .asg (.name 8) (.op2 .mul (.op2 .sub (.call 15 [(.var 1), (.op2 .pow (.lit (.int (2))) (.lit (.int (34))))]) (.op2 .pow (.lit (.int (2))) (.lit (.int (33))))) (.op2 .idx (.tup [(.lit (.int (1))), (.lit (.int (1))), (.op2 .pow (.lit (.int (10))) (.lit (.int (12))))]) (.call 15 [(.var 1), (.lit (.int (3)))]))), .asg (.name 7) (.call 9 [(.var 8)]), .ifs (.or (.not (.chain .le .lt (.op1 .neg (.op2 .pow (.lit (.int (2))) (.lit (.int (31))))) (.var 7) (.op2 .pow (.lit (.int (2))) (.lit (.int (31)))))) (.cmp .ne (.op2 .mod (.opn .int [(.op2 .sub (.var 7) (.var 8))]) (.op2 .pow (.lit (.int (2))) (.lit (.int (32))))) (.lit (.int (0))))) [.ret (.lit (.bl false))] []]
def b3_law : List S := [.ifs (.cmp .isnot (.call 13 [(.var 9)]) (.lit (.bl false))) [.ret (.lit (.bl false))] []]
/-- 24 law([script]) names [script, tape, many, k, rows, turn, bent, told, number, value] -/
def f_law : Fn := ⟨1, 10, [.asg (.name 1) (.lst [(.opn .list [(.var 0)]), (.lit (.int (0))), (.lit (.int (0))), (.lit (.int (5)))]),
    .asg (.name 2) (.op2 .idx (.tup [(.lit (.int (1))), (.lit (.int (3))), (.lit (.int (9))), (.lit (.int (24)))]) (.call 15 [(.var 1), (.lit (.int (4)))])),
    .asg (.name 4) (.lc (.name 3) (.range [(.var 2)]) [] [3] (.call 18 [(.var 1), (.var 2), (.op2 .eq (.var 3) (.op2 .sub (.var 2) (.lit (.int (1)))))])),
    .ifs (.or (.cmp .isnot (.call 13 [(.opn .tuple [(.var 4)])]) (.lit (.bl true))) (.val (.call 13 [(.var 4)]))) [.ret (.lit (.bl false))] [],
    .forr (.name 5) (.range [(.lit (.int (6)))]) b1_law,
    .forr (.name 9) (.val (.tup [(.lit .non), (.tup []), (.lit (.str [])), (.lit (.int (5))), (.tup [(.tup [])]), (.lst [(.tup [(.lit (.str [101, 110, 100]))])])])) b3_law,
    .ret (.and (.op2 .is (.call 14 [(.tup [(.lit (.int (0))), (.lit (.str [97])), (.tup [(.lit (.int (1))), (.lit (.str [98]))]), (.op1 .neg (.lit (.int (5))))])]) (.lit (.bl true))) (.and (.nott (.call 14 [(.lst [(.lit (.int (0))), (.lit (.int (0))), (.lit (.int (0))), (.lit (.int (0)))])])) (.nott (.call 14 [(.tup [(.lit (.int (0))), (.lit (.int (0))), (.lit (.int (0)))])]))))]⟩
def fns : List Fn := [f_is_number, f_is_text, f_fits_depth, f_is_host_word, f_gather, f_atoms_in, f_rank_of, f_is_integer, f_is_below, f_wrapped, f_form_of, f_is_part, f_is_instruction, f_is_program, f_is_registers, f__law_next, f__law_forms, f__law_part, f__law_row, f__law_bent, f__law_number, f__law_fits, f__law_is_row, f__law_due, f_law]
end Lk23

set_option Elab.async false
set_option linter.all false
set_option autoImplicit false
set_option maxRecDepth 100000
set_option maxHeartbeats 4000000
noncomputable section
namespace Lk23
open HP
abbrev gl : Nat → Option PV := glv [(.int (-2147483648)), (.int (2147483647)), (.int (24)), (.int (40)), (.int (10)), (.int (40)), (.int (36)), (.rod [(.str [116, 111, 107, 101, 110]), (.str [99, 104, 97, 108, 108, 101, 110, 103, 101]), (.str [115, 101, 97, 108]), (.str [116, 105, 99, 107, 101, 116]), (.str [112, 97, 103, 101])] [(.int (3)), (.int (2)), (.int (4)), (.int (6)), (.int (4))]), (.tup [(.str [115, 101, 97, 108]), (.str [112, 97, 103, 101])]), (.int (24)), (.int (4)), (.int (-2147483648)), (.int (4294967296)), (.rod [(.str [115, 101, 116]), (.str [99, 111, 112, 121]), (.str [97, 100, 100]), (.str [108, 101, 115, 115]), (.str [115, 97, 109, 101]), (.str [122, 101, 114, 111]), (.str [106, 117, 109, 112])] [(.str [114, 110]), (.str [114, 114]), (.str [114, 114, 114]), (.str [114, 114, 114]), (.str [114, 114, 114]), (.str [114, 116]), (.str [116])]), (.rod [(.str [108, 111, 97, 100]), (.str [115, 116, 111, 114, 101]), (.str [116, 101, 108, 108]), (.str [116, 111, 107, 101, 110]), (.str [101, 110, 100])] [(.str [114, 114, 114]), (.str [114, 114, 114]), (.str [114, 114]), (.str [114, 114]), (.str [])])]
def fuel : Nat := 100
def depth : Nat := 60
abbrev rn (k f : Nat) (vs : List PV) (M : Mem) : Res PV := run fns gl fuel k f vs M
abbrev wd (k : Nat) : Wd := ⟨run fns gl fuel k, gl, fuel⟩
def Kn (M : Mem) (v : PV) : Prop := ∃ K, kd v M = some K
def isInt : PV → Bool | .int _ => true | _ => false
def inR (v : PV) (lo hi : Int) : Bool := match v with | .int i => decide (lo ≤ i) && decide (i < hi) | _ => false
section
variable {k : Nat} {M : Mem} {v : PV} {lo hi many : Int}
theorem kd_int_iff {K : Kd} (h : kd v M = some K) : (K = .int ↔ isInt v = true) ∧ (K = .bl → isInt v = false) := by
  cases v <;> simp [kd, isInt] at h ⊢ <;> try (subst h; simp)
  split at h <;> cases h; simp
theorem m_integer (h : Kn M v) : run fns gl fuel (k + 1) 7 [v] M = .ok (.bl (isInt v)) M := by
  obtain ⟨K, h⟩ := h
  have := kd_int_iff h
  rw [run_fn rfl rfl (by decide)]
  simp [f_is_integer, h]
  cases K <;> simp_all
theorem m_below (h : Kn M v) : run fns gl fuel (k + 2) 8 [v, .int hi] M = .ok (.bl (inR v 0 hi)) M := by
  rw [run_fn rfl rfl (by decide)]
  simp [f_is_below, m_integer h]
  cases hv : isInt v with
  | false => cases v <;> simp_all [isInt, inR]
  | true =>
    cases v <;> simp [isInt] at hv
    rename_i i
    simp [inR]
    by_cases c : 0 ≤ i <;> simp [c]
/-- what a part of a row is to be -/
def part (c : Nat) (many : Int) (v : PV) : Bool := if c = 114 then inR v 0 4 else if c = 116 then inR v 0 many else inR v (-2147483648) 2147483648
theorem m_part {c : Nat} (h : Kn M v) : run fns gl fuel (k + 3) 11 [v, .str [c], .int many] M = .ok (.bl (part c many v)) M := by
  rw [run_fn rfl rfl (by decide)]
  by_cases c1 : c = 114
  · simp [f_is_part, c1, m_below h, part]
  · by_cases c2 : c = 116
    · simp [f_is_part, c1, c2, m_below h, part]
    · simp [f_is_part, c1, c2, m_integer h, part]
      cases hv : isInt v with
      | false => cases v <;> simp_all [isInt, inR]
      | true =>
        cases v <;> simp [isInt] at hv
        rename_i i
        simp [inR]
        by_cases c : -2147483648 ≤ i <;> simp [c]
theorem m_lnum (h : Kn M v) : run fns gl fuel (k + 1) 20 [v, .int lo, .int hi] M = .ok (.bl (inR v lo hi)) M := by
  obtain ⟨K, h⟩ := h
  have := kd_int_iff h
  rw [run_fn rfl rfl (by decide)]
  simp [f__law_number, h]
  cases hv : isInt v with
  | false =>
    have e : inR v lo hi = false := by cases v <;> simp_all [isInt, inR]
    rw [e]
    cases K <;> simp_all
  | true =>
    cases v <;> simp [isInt] at hv
    rename_i i
    simp at h
    subst h
    simp [inR]
    by_cases c : lo ≤ i <;> simp [c]
theorem p32 : (2 : Int) ^ (32 : Int).toNat = 4294967296 := by decide
theorem p31 : (2 : Int) ^ (31 : Int).toNat = 2147483648 := by decide
theorem m_lfits {c : Nat} (h : Kn M v) : run fns gl fuel (k + 2) 21 [v, .str [c], .int many] M = .ok (.bl (part c many v)) M := by
  rw [run_fn rfl rfl (by decide)]
  by_cases c1 : c = 114
  · simp [f__law_fits, c1, m_lnum h, part]
  · by_cases c2 : c = 116
    · simp [f__law_fits, c1, c2, m_lnum h, part]
    · simp [f__law_fits, c1, c2, m_lnum h, part, p31]
end
/-- the rows' forms -/
def allForms : List (List Nat × List Nat) := [([115, 101, 116], [114, 110]), ([99, 111, 112, 121], [114, 114]), ([97, 100, 100], [114, 114, 114]), ([108, 101, 115, 115], [114, 114, 114]), ([115, 97, 109, 101], [114, 114, 114]), ([122, 101, 114, 111], [114, 116]), ([106, 117, 109, 112], [116]),
  ([108, 111, 97, 100], [114, 114, 114]), ([115, 116, 111, 114, 101], [114, 114, 114]), ([116, 101, 108, 108], [114, 114]), ([116, 111, 107, 101, 110], [114, 114]), ([101, 110, 100], [])]
def lkF (s : List Nat) : List (List Nat × List Nat) → Option (List Nat)
  | [] => none
  | p :: r => if s = p.1 then some p.2 else lkF s r
def formOf (s : List Nat) : Option (List Nat) := lkF s allForms
def formV (v : PV) : PV := match v with
  | .str s => (match formOf s with | some f => .str f | none => .non)
  | _ => .non
def Sc : PV → Prop | .non => True | .bl _ => True | .int _ => True | .str _ => True | .tup xs => ∃ i, xs = [.int i] | _ => False
theorem Sc.kn {M : Mem} {v : PV} (h : Sc v) : Kn M v := by cases v <;> first | exact h.elim | exact ⟨_, rfl⟩
section
variable {k : Nat} {M : Mem} {v : PV} {many : Int}
theorem m_form (h : Sc v) : run fns gl fuel (k + 1) 10 [v] M = .ok (formV v) M := by
  rw [run_fn rfl rfl (by decide)]
  cases v <;> first | exact h.elim | simp [f_form_of, formV] | skip
  rename_i s
  by_cases hs : s ∈ allForms.map (·.1)
  · simp only [allForms, List.map_cons, List.map_nil, List.mem_cons, List.not_mem_nil, or_false] at hs
    rcases hs with rfl | rfl | rfl | rfl | rfl | rfl | rfl | rfl | rfl | rfl | rfl | rfl <;> simp [f_form_of, formV, formOf, lkF, allForms, keyIx, ixK, gtK]
  · simp only [allForms, List.map_cons, List.map_nil, List.mem_cons, List.not_mem_nil, or_false, not_or] at hs
    obtain ⟨h1, h2, h3, h4, h5, h6, h7, h8, h9, h10, h11, h12⟩ := hs
    simp [f_form_of, formV, formOf, lkF, allForms, keyIx, ixK, gtK, h1, h2, h3, h4, h5, h6, h7, h8, h9, h10, h11, h12, Ne.symm h1, Ne.symm h2, Ne.symm h3, Ne.symm h4, Ne.symm h5, Ne.symm h6, Ne.symm h7, Ne.symm h8, Ne.symm h9, Ne.symm h10, Ne.symm h11, Ne.symm h12]
def nth (xs : List PV) (j : Nat) : PV := xs.getD j .non
def nthS (f : List Nat) (j : Nat) : Nat := f.getD j 0
theorem nth_s {x : PV} {xs : List PV} {j : Nat} : nth (x :: xs) (j + 1) = nth xs j := rfl
def okParts (f : List Nat) (xs : List PV) (many : Int) : Bool := (List.range f.length).all fun j => part (nthS f j) many (nth xs j)
def rowOk (f : List Nat) (xs : List PV) (many : Int) : Bool := decide (xs.length = f.length) && okParts f xs many
def isRow (many : Int) (v : PV) : Bool := match v with
  | .tup (.str s :: xs) => (match formOf s with | some f => rowOk f xs many | none => false)
  | _ => false
/-- a row: a tuple of simple items, or a list -/
inductive Rw (M : Mem) (b : Nat) : PV → Prop
  | tp {xs} (h : ∀ x ∈ xs, Sc x) (hl : xs.length ≤ b) : Rw M b (.tup xs)
  | rf {n xs} (h : M[n]? = some (.lst xs)) (hs : ∀ x ∈ xs, Sc x) (hl : xs.length ≤ b) : Rw M b (.ref n)
theorem lkF_mem {s f : List Nat} : ∀ {t : List (List Nat × List Nat)}, lkF s t = some f → (s, f) ∈ t
  | p :: r, h => by
    unfold lkF at h
    split at h
    · rename_i e
      cases h
      subst e
      exact List.mem_cons_self
    · exact List.mem_cons_of_mem _ (lkF_mem h)
theorem form_short {s f : List Nat} (h : formOf s = some f) : f.length ≤ 3 := by
  have := lkF_mem h
  simp only [allForms, List.mem_cons, List.not_mem_nil, or_false, Prod.mk.injEq] at this
  rcases this with ⟨_, rfl⟩ | ⟨_, rfl⟩ | ⟨_, rfl⟩ | ⟨_, rfl⟩ | ⟨_, rfl⟩ | ⟨_, rfl⟩ | ⟨_, rfl⟩ | ⟨_, rfl⟩ | ⟨_, rfl⟩ | ⟨_, rfl⟩ | ⟨_, rfl⟩ | ⟨_, rfl⟩ <;> decide
theorem idx_s {s : List Nat} {j : Nat} (hj : j < s.length) (hl : s.length ≤ lim) : op2 .idx (.str s) (.int j) M = .ok (.str [nthS s j]) M := by
  have h : ixP s.length (j : Int) = some j := by
    unfold ixP
    rw [if_pos (by omega), if_pos (by omega)]
    simp
  unfold op2
  simp only [if_pos hl, h, List.getElem?_eq_getElem hj]
  simp [nth, nthS, List.getD_eq_getElem?_getD, List.getElem?_eq_getElem hj]
theorem idx_t {xs : List PV} {j : Nat} (hj : j < xs.length) : op2 .idx (.tup xs) (.int j) M = .ok (nth xs j) M := by
  rw [op2_idx_t, getI_nat, List.getElem?_eq_getElem hj]
  simp [nth, nthS, List.getD_eq_getElem?_getD, List.getElem?_eq_getElem hj]
theorem parts_lc {f : List Nat} {s : List Nat} {xs : List PV} (h : ∀ x ∈ xs, Sc x) (hfs : f.length ≤ 3) (hc : xs.length = f.length) : evE (wd (k + 3)) (.lc (.name 3) (.range [.opn .len [.var 2]]) [] [3] (.call 11 [.op2 .idx (.var 0) (.op2 .add (.var 3) (.lit (.int 1))), .op2 .idx (.var 2) (.var 3), .var 1])) [some (.tup (.str s :: xs)), some (.int many), some (.str f), none] M =
    .ok (.ref M.length) (M ++ [.lst ((List.range f.length).map fun j => PV.bl (part (nthS f j) many (nth xs j)))]) := by
  have hlm : f.length ≤ lim := Nat.le_trans hfs (by decide)
  have lc := lc_items0 (w := wd (k + 3)) (g := .name 3) (vs := [3]) (it := .range [.opn .len [.var 2]]) (elt := .call 11 [.op2 .idx (.var 0) (.op2 .add (.var 3) (.lit (.int 1))), .op2 .idx (.var 2) (.var 3), .var 1]) (env := [some (.tup (.str s :: xs)), some (.int many), some (.str f), none]) (M := M) (M1 := M) (xs := rangeL 0 f.length)
    (f := fun x => match x with | .int j => .bl (part (nthS f j.toNat) many (nth xs j.toNat)) | _ => .non) (evI_rangeN (by simp [hlm]) (by omega)) (by rw [rangeL_len]; exact hlm) (by
      intro x hx
      obtain ⟨j, hj⟩ := List.getElem?_of_mem hx
      obtain ⟨hj1, rfl⟩ := rangeL_get hj
      refine ⟨[some (.tup (.str s :: xs)), some (.int many), some (.str f), some (.int (0 + (j : Int)))], by simp [wipeE], ?_⟩
      have e1 : op2 .idx (.tup (.str s :: xs)) (.int ((j : Int) + 1)) M = .ok (nth xs j) M := by
        have := idx_t (M := M) (xs := .str s :: xs) (j := j + 1) (by simp; omega)
        simpa [nth_s] using this
      have e2 := idx_s (M := M) hj1 hlm
      have hk : Sc (nth xs j) := by
        rw [nth, List.getD_eq_getElem?_getD, List.getElem?_eq_getElem (by omega)]
        exact h _ (by simp)
      simp [wipeE, e1, e2, m_part hk.kn])
  rw [lc]
  unfold rangeL
  rw [List.map_map]
  have e0 : ((fun x => match x with | PV.int j => PV.bl (part (nthS f j.toNat) many (nth xs j.toNat)) | _ => PV.non) ∘ fun k : Nat => PV.int (0 + (k : Int))) = fun j : Nat => PV.bl (part (nthS f j) many (nth xs j)) := by
    funext j
    simp
  rw [e0]
theorem m_instr {b : Nat} (h : Rw M b v) : run fns gl fuel (k + 4) 12 [v, .int many] M = .ok (.bl (isRow many v)) M := by
  rw [run_fn rfl rfl (by decide)]
  cases h with
  | rf h => simp [f_is_instruction, kd_lst h, isRow]
  | @tp xs h hl =>
    cases xs with
    | nil => simp [f_is_instruction, isRow]
    | cons a xs =>
      have ha := h a (by simp)
      have hz : ¬ ((xs.length : Int) + 1 = 0) := by omega
      have hf := m_form (k := k + 2) (M := M) ha
      cases a <;> first | exact ha.elim | (simp [f_is_instruction, hz, hf, formV, isRow]; done) | skip
      rename_i s
      have ho : formOf s = none ∨ ∃ f, formOf s = some f := by cases formOf s <;> simp
      rcases ho with ho | ⟨f, ho⟩
      · simp [f_is_instruction, hz, hf, formV, isRow, ho]
      · have hfs := form_short ho
        have hlm : f.length ≤ lim := by unfold lim; omega
        have hz2 : ¬ ((f.length : Int) + 1 = 0) := by omega
        by_cases hc : xs.length = f.length
        · have hc2 : ((xs.length : Int) + 1 = f.length + 1) := by omega
          have lc := parts_lc (k := k) (M := M) (many := many) (s := s) (fun x hx => h x (List.mem_cons_of_mem _ hx)) hfs hc
          have al := opn_all_new (M := M) (xs := List.range f.length) (q := fun j => part (nthS f j) many (nth xs j))
          simp [f_is_instruction, hz, hz2, hf, formV, isRow, ho, hlm, hc2, lc, al]
          rw [trimM_push (by simp [low])]
          simp [rowOk, okParts, hc]
        · have hc2 : ¬ ((xs.length : Int) + 1 = f.length + 1) := by omega
          have hc3 : ¬ ((xs.length : Int) = f.length) := by omega
          simp [f_is_instruction, hz, hf, formV, isRow, ho, hlm, hc2, hc3, rowOk, hc]
/-! ### the law's rows -/
theorem lparts_lc {f s kd0 : List Nat} {xs : List PV} (h : ∀ x ∈ xs, Sc x) (hfs : f.length ≤ 3) (hc : xs.length = f.length) {z : Option PV} : evE (wd (k + 2)) (.lc (.name 4) (.range [(.opn .len [(.var 3)])]) [(.not (.val (.call 21 [(.op2 .idx (.var 0) (.op2 .add (.var 4) (.lit (.int (1))))), (.op2 .idx (.var 3) (.var 4)), (.var 1)])))] [4] (.var 4)) [some (.tup (.str s :: xs)), some (.int many), some (.str kd0), some (.str f), z] M =
    .ok (.ref M.length) (M ++ [.lst ((((List.range f.length).filter fun j => !part (nthS f j) many (nth xs j))).map fun j : Nat => PV.int j)]) := by
  have hlm : f.length ≤ lim := Nat.le_trans hfs (by decide)
  have lc := lc_items (w := wd (k + 2)) (g := .name 4) (vs := [4]) (it := .range [.opn .len [.var 3]]) (ts := [(.not (.val (.call 21 [(.op2 .idx (.var 0) (.op2 .add (.var 4) (.lit (.int (1))))), (.op2 .idx (.var 3) (.var 4)), (.var 1)])))]) (elt := .var 4) (env := [some (.tup (.str s :: xs)), some (.int many), some (.str kd0), some (.str f), z]) (M := M) (M1 := M) (xs := rangeL 0 f.length)
    (p := fun x => match x with | .int j => !part (nthS f j.toNat) many (nth xs j.toNat) | _ => false) (f := fun x => x) (evI_rangeN (by simp [hlm]) (by omega)) (by rw [rangeL_len]; exact hlm) (by
      intro x hx
      obtain ⟨j, hj⟩ := List.getElem?_of_mem hx
      obtain ⟨hj1, rfl⟩ := rangeL_get hj
      refine ⟨[some (.tup (.str s :: xs)), some (.int many), some (.str kd0), some (.str f), some (.int (0 + (j : Int)))], by simp [wipeE], ?_, fun _ => by simp⟩
      have e1 : op2 .idx (.tup (.str s :: xs)) (.int ((j : Int) + 1)) M = .ok (nth xs j) M := by
        have := idx_t (M := M) (xs := .str s :: xs) (j := j + 1) (by simp; omega)
        simpa [nth_s] using this
      have e2 := idx_s (M := M) hj1 hlm
      have hk : Sc (nth xs j) := by
        rw [nth, List.getD_eq_getElem?_getD, List.getElem?_eq_getElem (by omega)]
        exact h _ (by simp)
      simp [e1, e2, m_lfits hk.kn])
  rw [lc]
  unfold rangeL
  rw [List.map_id', List.filter_map]
  have e0 : ((fun x => match x with | PV.int j => !part (nthS f j.toNat) many (nth xs j.toNat) | _ => false) ∘ fun k : Nat => PV.int (0 + (k : Int))) = fun j : Nat => !part (nthS f j) many (nth xs j) := by
    funext j
    simp
  rw [e0]
  have e1 : (fun k : Nat => PV.int (0 + (k : Int))) = fun j : Nat => PV.int j := by
    funext j
    simp
  rw [e1]
theorem ok_filter {f : List Nat} {xs : List PV} : (((List.range f.length).filter fun j => !part (nthS f j) many (nth xs j)).length = 0) ↔ okParts f xs many = true := by
  unfold okParts
  rw [List.length_eq_zero_iff, List.filter_eq_nil_iff, List.all_eq_true]
  simp
/-- the walk over the forms -/
theorem forms_loop {s : List Nat} {xs : List PV} (h : ∀ x ∈ xs, Sc x) (z : Option PV) : ∀ (t : List (List Nat × List Nat)), (∀ p ∈ t, p.2.length ≤ 3) → ∀ (a b : Option PV), ∃ G e,
    loopX (.tup [.name 2, .name 3]) (fun env M => evSs (wd (k + 2)) b1__law_is_row env M) (t.map fun p => .tup [.str p.1, .str p.2]) [some (.tup (.str s :: xs)), some (.int many), a, b, z] M =
      match lkF s t with
      | some f => .ret (.bl (rowOk f xs many)) (M ++ G)
      | none => .nxt e M
  | [], _, a, b => ⟨[], _, rfl⟩
  | p :: t, ht, a, b => by
    have hp := ht p List.mem_cons_self
    have hlm : p.2.length ≤ lim := Nat.le_trans hp (by decide)
    obtain ⟨G, e, ih⟩ := forms_loop h z t (fun q hq => ht q (List.mem_cons_of_mem _ hq)) (some (.str p.1)) (some (.str p.2))
    rw [List.map_cons]
    unfold loopX lkF
    by_cases hs : s = p.1
    · rw [if_pos hs]
      by_cases hc : xs.length = p.2.length
      · have hc2 : ((xs.length : Int) + 1 = p.2.length + 1) := by omega
        have lc := lparts_lc (k := k) (M := M) (many := many) (s := s) (kd0 := p.1) (z := z) h hp hc
        have ln := opn_len_new (M := M) (xs := ((((List.range p.2.length).filter fun j => !part (nthS p.2 j) many (nth xs j))).map fun j : Nat => PV.int j))
        refine ⟨[.lst ((((List.range p.2.length).filter fun j => !part (nthS p.2 j) many (nth xs j))).map fun j : Nat => PV.int j)], [], ?_⟩
        rw [hs] at lc
        simp [b1__law_is_row, hs, hlm, hc2, lc, ln]
        rw [Bool.eq_iff_iff]
        simp [rowOk, okParts, hc]
      · have hc2 : ¬ ((xs.length : Int) + 1 = p.2.length + 1) := by omega
        have hc3 : ¬ ((xs.length : Int) = p.2.length) := by omega
        refine ⟨[], [], ?_⟩
        simp [b1__law_is_row, ← hs, hlm, hc2, hc3, rowOk, hc]
    · rw [if_neg hs]
      refine ⟨G, e, ?_⟩
      rw [← ih]
      simp [b1__law_is_row, hs]
def formsV : List PV := allForms.map fun p => .tup [.str p.1, .str p.2]
theorem m_forms : ∃ G n, run fns gl fuel (k + 1) 16 [] M = .ok (.ref n) (M ++ G) ∧ (M ++ G)[n]? = some (.lst formsV) := by
  rw [run_fn rfl rfl (by decide)]
  have ad := fun (xs ys : List PV) (hl : xs.length + ys.length ≤ lim) => op2_add_l (M := M ++ [.lst xs, .lst ys]) (n := M.length) (m := M.length + 1) (xs := xs) (ys := ys) (by simp) (by simp) hl
  simp only [List.length_append, List.length_cons, List.length_nil, List.append_assoc, List.cons_append, List.nil_append] at ad
  simp [f__law_forms, lim]
  rw [ad _ _ (by decide)]
  simp
  rw [trimM_hi (by simp [low])]
  refine ⟨_, _, ⟨rfl, rfl⟩, ?_⟩
  simp [formsV, allForms]
theorem toD_sc {x : PV} {j : Nat} (h : Sc x) : ∃ d, toD M (j + 2) x = some d := by
  cases x <;> first | exact h.elim | exact ⟨_, rfl⟩ | skip
  obtain ⟨i, rfl⟩ := h
  exact ⟨_, rfl⟩
theorem allD_sc {j : Nat} : ∀ {xs : List PV}, (∀ x ∈ xs, Sc x) → ∃ ds, allD (toD M (j + 2)) xs = some ds ∧ ds.length = xs.length
  | [], _ => ⟨[], rfl, rfl⟩
  | x :: xs, h => by
    obtain ⟨d, h1⟩ := toD_sc (M := M) (j := j) (h x List.mem_cons_self)
    obtain ⟨ds, h2, h3⟩ := allD_sc (j := j) (xs := xs) fun y hy => h y (List.mem_cons_of_mem _ hy)
    exact ⟨d :: ds, allD_cons h1 h2, by simp [h3]⟩
theorem eq_nil {xs : List PV} (h : ∀ x ∈ xs, Sc x) : eqPV M (.tup xs) (.tup []) = some xs.isEmpty := by
  obtain ⟨ds, h1, h2⟩ := allD_sc (M := M) (j := 57) h
  rw [eqPV_data (d := .tup ds) (e := .tup []) rfl (by rw [toD_tup, h1]; rfl) rfl]
  cases xs <;> cases ds <;> simp at h2 <;> rfl
theorem m_lrow {b : Nat} (h : Rw M b v) : run fns gl fuel (k + 4) 22 [v, .int many] M = .ok (.bl (isRow many v)) M := by
  rw [run_fn rfl rfl (by decide)]
  cases h with
  | rf h => simp [f__law_is_row, kd_lst h, isRow]
  | @tp xs h hl =>
    have e0 := eq_nil (M := M) h
    cases xs with
    | nil => simp [f__law_is_row, isRow, e0]
    | cons a xs =>
      have ha := h a (by simp)
      cases a <;> first | exact ha.elim | (simp [f__law_is_row, e0, isRow]; done) | skip
      rename_i s
      obtain ⟨G, n, q1, q2⟩ := m_forms (k := k + 2) (M := M)
      have hsc : ∀ x ∈ xs, Sc x := fun x hx => h x (List.mem_cons_of_mem _ hx)
      have lp := loopM_pure (g := .tup [.name 2, .name 3]) (body := fun env M => evSs (wd (k + 3)) b1__law_is_row env M) (n := n) (xs := formsV) (M := M ++ G) (fun env => ∃ a b, env = [some (.tup (.str s :: xs)), some (.int many), a, b, none]) q2 (by
        intro env x e1 hp hx hbd
        obtain ⟨a, b, rfl⟩ := hp
        obtain ⟨p, hpm, rfl⟩ := List.mem_map.mp hx
        have hps : ∀ p ∈ allForms, p.2.length ≤ 3 := by decide
        have : e1 = [some (.tup (.str s :: xs)), some (.int many), some (.str p.1), some (.str p.2), none] := by
          simp at hbd
          exact hbd.symm
        subst this
        obtain ⟨p1, p2⟩ := p
        by_cases hs : s = p1
        · subst hs
          obtain ⟨G3, e3, l3⟩ := forms_loop (k := k + 1) (M := M ++ G) (many := many) (s := s) (xs := xs) hsc none [(s, p2)] (fun q hq => by rw [List.mem_singleton.mp hq]; exact hps (s, p2) hpm) a b
          simp only [lkF, if_true, List.map_cons, List.map_nil, loopX] at l3
          simp only [bindT_tup, bindTs_cons, bindT_name] at l3
          simp at l3
          cases hbo : evSs (wd (k + 3)) b1__law_is_row [some (.tup (.str s :: xs)), some (.int many), some (.str s), some (.str p2), none] (M ++ G) with
          | nxt e2 M2 => rw [hbo] at l3; simp [loopX] at l3
          | cnt e2 M2 => rw [hbo] at l3; simp [loopX] at l3
          | ret v M2 => trivial
          | brk e2 M2 => trivial
          | exc a b c => trivial
          | fail => trivial
        · simp [b1__law_is_row, hs])
      obtain ⟨G2, e, lq⟩ := forms_loop (k := k + 1) (M := M ++ G) (many := many) (s := s) (xs := xs) hsc none allForms (by decide) none none
      have lp0 := lp fuel 0 [some (.tup (.str s :: xs)), some (.int many), none, none, none] ⟨_, _, rfl⟩ (by decide)
      rw [List.drop_zero, show formsV = allForms.map fun p => PV.tup [.str p.1, .str p.2] from rfl, lq] at lp0
      simp [f__law_is_row, e0]
      rw [evS_for]
      simp [evI, q1, q2]
      rw [kFor_mem, lp0]
      have ho : formOf s = none ∨ ∃ f, formOf s = some f := by cases formOf s <;> simp
      rcases ho with ho | ⟨f, ho⟩
      · have ho' : lkF s allForms = none := ho
        rw [ho']
        simp [isRow, ho]
        exact trimM_push (by simp [low])
      · have ho' : lkF s allForms = some f := ho
        rw [ho']
        simp [isRow, ho]
        first | exact trimM_push (by simp [low]) | (rw [List.append_assoc]; exact trimM_push (by simp [low]))
/-! ### programs -/
def isS (a : PV) (s : List Nat) : Bool := match a with | .str x => decide (x = s) | _ => false
def headV (v : PV) : PV := match v with | .tup (a :: _) => a | _ => .non
def endsOk (rows : List PV) : Bool := match rows.getLast? with
  | some r => isS (headV r) [106, 117, 109, 112] || isS (headV r) [101, 110, 100]
  | none => false
def prog (rows : List PV) : Bool := (decide (1 ≤ rows.length) && decide (rows.length ≤ 24)) && (rows.all (isRow rows.length) && endsOk rows)
theorem getI_last {xs : List PV} (h : 1 ≤ xs.length) : ∃ x, x ∈ xs ∧ xs.getLast? = some x ∧ getI xs (-1) = some x := by
  have hx : xs[xs.length - 1]? = some xs[xs.length - 1] := List.getElem?_eq_getElem (by omega)
  refine ⟨xs[xs.length - 1], List.getElem_mem _, by rw [List.getLast?_eq_getElem?, hx], ?_⟩
  unfold getI ixP
  rw [if_neg (by omega), if_pos (by omega)]
  simp only
  rw [show (-1 + (xs.length : Int)).toNat = xs.length - 1 by omega]
  exact hx
theorem row_head {r : PV} (h : isRow many r = true) : ∃ s xs, r = .tup (.str s :: xs) := by
  unfold isRow at h
  split at h
  · exact ⟨_, _, rfl⟩
  · cases h
theorem m_prog_ref {n : Nat} {xs : List PV} (h : M[n]? = some (.lst xs)) : run fns gl fuel (k + 1) 13 [.ref n] M = .ok (.bl false) M := by
  rw [run_fn rfl rfl (by decide)]
  simp [f_is_program, kd_lst h]
theorem m_prog {rows : List PV} {b : Nat} (h : ∀ r ∈ rows, Rw M b r) : run fns gl fuel (k + 5) 13 [.tup rows] M = .ok (.bl (prog rows)) M := by
  rw [run_fn rfl rfl (by decide)]
  by_cases c1 : 1 ≤ rows.length
  · by_cases c2 : rows.length ≤ 24
    · have c1' : (1 : Int) ≤ rows.length := by omega
      have c2' : (rows.length : Int) ≤ 24 := by omega
      have lc := lc_items0 (w := wd (k + 4)) (g := .name 1) (vs := [1]) (it := .val (.var 0)) (elt := .call 12 [(.var 1), (.opn .len [(.var 0)])]) (env := [some (.tup rows), none]) (M := M) (M1 := M) (xs := rows) (f := fun x => .bl (isRow rows.length x)) (by simp [evI]) (by unfold lim; omega) (by
        intro x hx
        refine ⟨[some (.tup rows), some x], by simp [wipeE], ?_⟩
        simp [m_instr (h x hx)])
      have al := opn_all_new (M := M) (xs := rows) (q := isRow rows.length)
      cases ha : rows.all (isRow rows.length) with
      | false =>
        simp [f_is_program, c1', c2', lc, al, ha, prog, c1, c2]
        exact trimM_push (by simp [low])
      | true =>
        obtain ⟨r, hr, e1, e2⟩ := getI_last c1
        obtain ⟨s, xs, rfl⟩ := row_head (List.all_eq_true.mp ha r hr)
        simp [f_is_program, c1', c2', lc, al, ha, prog, c1, c2, e2, endsOk, e1, headV, isS]
        by_cases d1 : s = [106, 117, 109, 112] <;> by_cases d2 : s = [101, 110, 100] <;> simp [d1, d2]
        all_goals exact trimM_push (by simp [low])
    · have c2' : ¬ (rows.length : Int) ≤ 24 := by omega
      simp [f_is_program, c2', prog, c2]
  · have c1' : ¬ (1 : Int) ≤ rows.length := by omega
    simp [f_is_program, c1', prog, c1]
theorem inPV_ss {s a b : List Nat} : inPV M (.str s) (.tup [.str a, .str b]) = some (decide (s = a) || decide (s = b)) := by
  have e : allD (toD M 60) [PV.str a, .str b] = some [.str a, .str b] := allD_cons (toD_str (k := 59)) (allD_cons (toD_str (k := 59)) allD_nil)
  have e1 : toD M 60 (.str s) = some (.str s) := toD_str (k := 59)
  unfold inPV
  simp only [e, e1]
  show some ((a == s) || ((b == s) || false)) = _
  rw [Option.some.injEq, Bool.eq_iff_iff]
  simp only [Bool.or_eq_true, beq_iff_eq, Bool.or_false, decide_eq_true_eq]
  exact ⟨fun h => h.imp Eq.symm Eq.symm, fun h => h.imp Eq.symm Eq.symm⟩
theorem m_due {n : Nat} {rows : List PV} {b : Nat} (hM : M[n]? = some (.lst rows)) (h : ∀ r ∈ rows, Rw M b r) : run fns gl fuel (k + 5) 23 [.ref n] M = .ok (.bl (prog rows)) M := by
  rw [run_fn rfl rfl (by decide)]
  have ln := opn_len_l hM
  by_cases c1 : 1 ≤ rows.length
  · by_cases c2 : rows.length ≤ 24
    · have c1' : (1 : Int) ≤ rows.length := by omega
      have c2' : (rows.length : Int) ≤ 24 := by omega
      have lc := lc_mem (w := wd (k + 4)) (g := .name 1) (vs := [1]) (it := .val (.var 0)) (ts := [(.not (.val (.call 22 [(.var 1), (.opn .len [(.var 0)])])))]) (elt := .var 1) (env := [some (.ref n), none]) (M := M) (M1 := M) (n := n) (xs := rows) (p := fun x => !isRow rows.length x) (f := fun x => x) (by simp [evI, hM]) hM (by unfold lim; omega) (by
        intro x hx
        refine ⟨[some (.ref n), some x], by simp [wipeE], ?_, fun _ => by simp⟩
        simp [m_lrow (h x hx), ln])
      have l2 := opn_len_new (M := M) (xs := rows.filter fun x => !isRow rows.length x)
      have hM2 : (M ++ [Cell.lst (rows.filter fun x => !isRow rows.length x)])[n]? = some (.lst rows) := by
        rw [List.getElem?_append_left (List.getElem?_eq_some_iff.mp hM).1, hM]
      have fl : (rows.filter fun x => !isRow rows.length x) = [] ↔ rows.all (isRow rows.length) = true := by
        rw [List.filter_eq_nil_iff, List.all_eq_true]
        simp
      cases ha : rows.all (isRow rows.length) with
      | false =>
        have hpos : 0 < (rows.filter fun x => !isRow rows.length x).length := by
          rw [List.length_pos_iff]
          intro z
          rw [fl, ha] at z
          cases z
        have hpos' : (0 : Int) < (rows.filter fun x => !isRow rows.length x).length := by omega
        simp [f__law_due, ln, c1', c2', lc, l2, hpos', prog, ha]
        obtain ⟨x, hx, hx2⟩ := List.all_eq_false.mp ha
        rw [if_pos ⟨x, hx, by simpa using hx2⟩, trimM_push (by simp [low])]
      | true =>
        have hz := fl.mpr ha
        rw [hz] at l2 lc hM2
        obtain ⟨r, hr, e1, e2⟩ := getI_last c1
        obtain ⟨s, xs, rfl⟩ := row_head (List.all_eq_true.mp ha r hr)
        have ix := op2_idx_l (i := -1) hM2
        rw [e2] at ix
        simp at lc l2 ix
        simp [f__law_due, ln, c1', c2', lc, l2, ix, prog, ha, c1, c2, endsOk, e1, headV, isS, lim]
        rw [inPV_ss]
        simp
        exact trimM_push (by simp [low])
    · have c2' : ¬ (rows.length : Int) ≤ 24 := by omega
      simp [f__law_due, ln, c2', prog, c2]
  · have c1' : ¬ (1 : Int) ≤ rows.length := by omega
    simp [f__law_due, ln, c1', prog, c1]
theorem next23 {t l : Nat} (T : Tape t l M) (h0 : 0 < many) (h1 : many < 2 ^ 62) : ∃ v M', run fns gl fuel (k + 1) 15 [.ref t, .int many] M = .ok (.int v) M' ∧ 0 ≤ v ∧ v < many ∧ Go t l M M' ∧ M'.length = M.length := next_ok rfl T h0 h1
theorem m_lpart {t l c : Nat} (T : Tape t l M) (h0 : 0 < many) (h1 : many ≤ 24) : ∃ i M', run fns gl fuel (k + 2) 17 [.ref t, .str [c], .int many] M = .ok (.int i) M' ∧ part c many (.int i) = true ∧ Go t l M M' ∧ M'.length = M.length := by
  have p32 := p32
  have p31 := p31
  by_cases c1 : c = 114
  · obtain ⟨v, M', e, a, b, g, hl⟩ := next23 (k := k) T (many := 4) (by decide) (by decide)
    refine ⟨v, M', ?_, by simp [part, c1, inR, a, b], g, hl⟩
    rw [run_fn rfl rfl (by decide)]
    simp [f__law_part, c1, e, trimM_eq hl]
  · by_cases c2 : c = 116
    · obtain ⟨v, M', e, a, b, g, hl⟩ := next23 (k := k) T (many := many) h0 (by omega)
      refine ⟨v, M', ?_, by simp [part, c2, inR, a, b], g, hl⟩
      rw [run_fn rfl rfl (by decide)]
      simp [f__law_part, c2, e, trimM_eq hl]
    · obtain ⟨v, M', e, a, b, g, hl⟩ := next23 (k := k) T (many := 4294967296) (by decide) (by decide)
      refine ⟨v - 2147483648, M', ?_, by simp [part, c1, c2, inR]; omega, g, hl⟩
      rw [run_fn rfl rfl (by decide)]
      simp [f__law_part, c1, c2, p32, p31, e, trimM_eq hl]
/-- a form as the law's rows tell it -/
theorem formsV_get {n : Int} (h0 : 0 ≤ n) (h1 : n < 12) : ∃ p, p ∈ allForms ∧ getI formsV n = some (.tup [.str p.1, .str p.2]) := by
  obtain ⟨x, hx, e⟩ := getI_mem (xs := formsV) h0 (by simpa [formsV, allForms] using h1)
  obtain ⟨p, hp, rfl⟩ := List.mem_map.mp hx
  exact ⟨p, hp, e⟩
/-- the parts of a new row -/
theorem row_parts {t l : Nat} {f : List Nat} {a b c d : Option PV} (hfs : f.length ≤ 3) (T : Tape t l M) (h0 : 0 < many) (h1 : many ≤ 24) : ∃ vs M', evE (wd (k + 2)) (.lc (.name 5) (.val (.var 4)) [] [5] (.call 17 [(.var 0), (.var 5), (.var 1)])) [some (.ref t), some (.int many), b, c, some (.str f), d] M = .ok (.ref M'.length) (M' ++ [.lst vs]) ∧
    Go t l M M' ∧ vs.length = f.length ∧ ∀ (j : Nat) (v : PV), vs[j]? = some v → ∃ i, v = .int i ∧ part (nthS f j) many (.int i) = true := by
  obtain ⟨vs, M', q1, q2, q3, q4⟩ := lcX_inv (g := .name 5) (ts := fun env M => evTs (wd (k + 2)) [] env M) (elt := fun env M => evE (wd (k + 2)) (.call 17 [(.var 0), (.var 5), (.var 1)]) env M) (env := wipeE [some (.ref t), some (.int many), b, c, some (.str f), d] [5]) (c := fun _ => True) (Q := fun M' => Go t l M M')
    (R := fun j v => ∃ i, v = .int i ∧ part (nthS f j) many (.int i) = true) (fun _ _ => trivial) (f.map fun c => .str [c]) 0 M (Go.refl T) (by
      intro j x M1 hx hq
      rw [List.getElem?_map] at hx
      cases hj : f[j]? with
      | none => rw [hj] at hx; cases hx
      | some cc =>
        rw [hj] at hx
        cases hx
        obtain ⟨i, M2, e, pp, g, hl⟩ := m_lpart (k := k) (c := cc) hq.tape h0 h1
        refine ⟨[some (.ref t), some (.int many), b, c, some (.str f), some (.str [cc])], .int i, M2, by simp [wipeE], by simp, ?_, hq.trans g, i, rfl, ?_⟩
        · simp [e]
        · rw [Nat.zero_add]
          have : nthS f j = cc := by simp [nthS, List.getD_eq_getElem?_getD, hj]
          rw [this]
          exact pp)
  refine ⟨vs, M', ?_, q2, by simpa using q3, fun j v e => by simpa using q4 j v e⟩
  rw [evE_lc]
  have hlm : f.length ≤ lim := Nat.le_trans hfs (by decide)
  have hI : evI (wd (k + 2)) (.val (.var 4)) [some (.ref t), some (.int many), b, c, some (.str f), d] M = .ok (.items (f.map fun c => .str [c])) M := by simp [evI]
  rw [hI]
  simp only [Res.bind_ok, lcS, List.length_map]
  rw [if_pos hlm, q1]
  rfl
/-- a right row; the last one ends -/
def goodRow (many : Int) (last : Bool) (v : PV) : Prop := isRow many v = true ∧ (last = true → isS (headV v) [106, 117, 109, 112] = true ∨ isS (headV v) [101, 110, 100] = true) ∧ ∃ xs, v = .tup xs ∧ (∀ x ∈ xs, Sc x) ∧ xs.length ≤ 4
theorem m_newrow {t l : Nat} {last : Bool} (T : Tape t l M) (h0 : 0 < many) (h1 : many ≤ 24) : ∃ v M', run fns gl fuel (k + 3) 18 [.ref t, .int many, .bl last] M = .ok v M' ∧ goodRow many last v ∧ Go t l M M' ∧ M'.length = M.length := by
  obtain ⟨G, n, q1, q2⟩ := m_forms (k := k + 1) (M := M)
  have g0 := Go.push T G
  obtain ⟨v1, M1, e1, a1, b1, g1, hl1⟩ := next23 (k := k + 1) g0.tape (many := 12) (by decide) (by decide)
  obtain ⟨v2, M2, e2, a2, b2, g2, hl2⟩ := next23 (k := k + 1) g1.tape (many := 2) (by decide) (by decide)
  have hn : n ≠ t := by
    rintro rfl
    obtain ⟨i, r, s, ns, h1, _⟩ := g0.tape.ex
    rw [q2] at h1
    simp [formsV, allForms] at h1
  have q3 : M2[n]? = some (.lst formsV) := (g1.trans g2).get q2 hn
  obtain ⟨p, hp, hs, hlast⟩ : ∃ p, p ∈ allForms ∧ op2 .idx (.ref n) (if last then (if v2 = 0 then .int 6 else .int 11) else .int v1) M2 = .ok (.tup [.str p.1, .str p.2]) M2 ∧ (last = true → p.1 = [106, 117, 109, 112] ∨ p.1 = [101, 110, 100]) := by
    cases last with
    | false =>
      obtain ⟨p, hp, e⟩ := formsV_get a1 b1
      exact ⟨p, hp, by simp [op2_idx_l q3, e], by simp⟩
    | true =>
      by_cases hv : v2 = 0
      · exact ⟨([106, 117, 109, 112], [116]), by decide, by simp [hv, op2_idx_l q3, formsV, allForms, getI_6], fun _ => .inl rfl⟩
      · exact ⟨([101, 110, 100], []), by decide, by simp only [hv, if_true, if_false]; rw [op2_idx_l q3]; rfl, fun _ => .inr rfl⟩
  have hps : ∀ p ∈ allForms, p.2.length ≤ 3 := by decide
  have hfo : ∀ p ∈ allForms, formOf p.1 = some p.2 := by decide
  obtain ⟨vs, M3, lc, g3, hvl, hvs⟩ := row_parts (k := k) (many := many) (a := none) (b := some (.bl last)) (c := some (.str p.1)) (d := none) (hps p hp) g2.tape h0 h1
  have g4 := g0.trans (g1.trans (g2.trans g3))
  have ot := opn_tuple_new (M := M3) (xs := vs)
  have hsc : ∀ x ∈ vs, Sc x := fun x hx => by
    obtain ⟨j, hj⟩ := List.getElem?_of_mem hx
    obtain ⟨i, rfl, _⟩ := hvs j x hj
    trivial
  have hlow : ∀ (ys : List PV) (n : Nat), (∀ x ∈ ys, ∃ i, x = .int i) → lows n ys = true := by
    intro ys n
    induction ys with
    | nil => intro _; rfl
    | cons y ys ih =>
      intro hy
      obtain ⟨i, rfl⟩ := hy y List.mem_cons_self
      simp [lows, low, ih fun x hx => hy x (List.mem_cons_of_mem _ hx)]
  have hv : low M.length (.tup (.str p.1 :: vs)) = true := by
    simp only [low, lows, Bool.true_and]
    exact hlow vs _ fun x hx => by
      obtain ⟨j, hj⟩ := List.getElem?_of_mem hx
      obtain ⟨i, rfl, _⟩ := hvs j x hj
      exact ⟨i, rfl⟩
  obtain ⟨M5, tr, g5, hl5⟩ := trim_go T (g4.trans (Go.push g3.tape [.lst vs])) hv
  refine ⟨.tup (.str p.1 :: vs), M5, ?_, ?_, g5, hl5⟩
  · rw [run_fn rfl rfl (by decide)]
    have hlen : (1 + vs.length : Nat) ≤ lim := by have := hps p hp; unfold lim; omega
    have hv2 : v2 = 0 ∨ v2 = 1 := by omega
    have hl3 : ∀ x : Nat, x ≤ 3 → x + 1 ≤ lim := fun x hx => by unfold lim; omega
    have hlv : 1 + vs.length ≤ lim := hlen
    cases last <;> rcases hv2 with rfl | rfl <;> simp at hs <;> simp [f__law_row, q1, e1, e2, lim, hs, lc, ot, tr]
    all_goals (have := hps p hp; omega)
  · have hlen := hps p hp
    refine ⟨?_, fun hl => ?_, _, rfl, fun x hx => ?_, by simp; omega⟩
    · simp only [isRow, hfo p hp, rowOk, hvl, decide_true, Bool.true_and, okParts, List.all_eq_true, List.mem_range]
      intro j hj
      have hj2 : vs[j]? = some vs[j] := List.getElem?_eq_getElem (by omega)
      obtain ⟨i, e, pp⟩ := hvs j _ hj2
      have : nth vs j = .int i := by simp [nth, List.getD_eq_getElem?_getD, hj2, e]
      rw [this]
      exact pp
    · rcases hlast hl with e | e <;> simp [headV, isS, e]
    · rcases List.mem_cons.mp hx with rfl | hx
      · trivial
      · exact hsc x hx
def wrapI (n : Int) : Int := (n - (-2147483648)) % 4294967296 + (-2147483648)
theorem m_wrapped {n : Int} : run fns gl fuel (k + 1) 9 [.int n] M = .ok (.int (wrapI n)) M := by
  rw [run_fn rfl rfl (by decide)]
  simp [f_wrapped, wrapI]
theorem wrap_ok (n : Int) : -2147483648 ≤ wrapI n ∧ wrapI n < 2147483648 ∧ (wrapI n - n) % 4294967296 = 0 := by
  unfold wrapI
  omega
theorem m_isnum {i : Int} (h : -2147483648 ≤ i ∧ i ≤ 2147483647) : run fns gl fuel (k + 1) 0 [.int i] M = .ok (.bl true) M := by
  rw [run_fn rfl rfl (by decide)]
  simp [f_is_number, h]
theorem m_text1 {c : Nat} : run fns gl fuel (k + 1) 1 [.str [c]] M = .ok (.bl (!ltL [c] [32] && !ltL [126] [c])) M := by
  rw [run_fn rfl rfl (by decide)]
  have lc := lc_items0 (w := wd k) (g := .name 1) (vs := [1]) (it := .val (.var 0)) (elt := .chain .le .le (.lit (.str [32])) (.var 1) (.lit (.str [126]))) (env := [some (.str [c]), none]) (M := M) (M1 := M) (xs := [.str [c]]) (f := fun _ => .bl (!ltL [c] [32] && !ltL [126] [c])) (by simp [evI]) (by unfold lim; simp) (by
    intro x hx
    cases List.mem_singleton.mp hx
    refine ⟨[some (.str [c]), some (.str [c])], by simp [wipeE], ?_⟩
    cases h : ltL [c] [32] <;> simp [h])
  have al := opn_all_new (M := M) (xs := [PV.str [c]]) (q := fun _ => (!ltL [c] [32] && !ltL [126] [c]))
  simp at lc al
  simp [f_is_text, lim, lc, al]
  exact trimM_push (by simp [low])
theorem m_fit_i {i d : Int} (h : -2147483648 ≤ i ∧ i ≤ 2147483647) : run fns gl fuel (k + 2) 2 [.int i, .int d] M = .ok (.bl true) M := by
  rw [run_fn rfl rfl (by decide)]
  simp [f_fits_depth, m_isnum h]
theorem m_isnum_s {s : List Nat} : run fns gl fuel (k + 1) 0 [.str s] M = .ok (.bl false) M := by
  rw [run_fn rfl rfl (by decide)]
  simp [f_is_number]
theorem m_isnum_t {xs : List PV} : run fns gl fuel (k + 1) 0 [.tup xs] M = .ok (.bl false) M := by
  rw [run_fn rfl rfl (by decide)]
  simp [f_is_number]
theorem m_text_t {xs : List PV} : run fns gl fuel (k + 1) 1 [.tup xs] M = .ok (.bl false) M := by
  rw [run_fn rfl rfl (by decide)]
  simp [f_is_text]
theorem m_fit_s {c : Nat} {d : Int} (h : (!ltL [c] [32] && !ltL [126] [c]) = true) : run fns gl fuel (k + 2) 2 [.str [c], .int d] M = .ok (.bl true) M := by
  rw [run_fn rfl rfl (by decide)]
  have t := m_text1 (k := k) (M := M) (c := c)
  rw [h] at t
  simp [f_fits_depth, m_isnum_s, t]
/-- a tuple of words that fit one level lower -/
theorem m_fit_t {xs : List PV} {d : Int} (hd : d ≠ 0) (hl : xs.length ≤ 100) (h : ∀ x ∈ xs, run fns gl fuel (k + 2) 2 [x, .int (d - 1)] M = .ok (.bl true) M) : run fns gl fuel (k + 3) 2 [.tup xs, .int d] M = .ok (.bl true) M := by
  rw [run_fn rfl rfl (by decide)]
  have lc := lc_items0 (w := wd (k + 2)) (g := .name 2) (vs := [2]) (it := .val (.var 0)) (elt := .call 2 [(.var 2), (.op2 .sub (.var 1) (.lit (.int (1))))]) (env := [some (.tup xs), some (.int d), none]) (M := M) (M1 := M) (xs := xs) (f := fun _ => .bl true) (by simp [evI]) (by unfold lim; omega) (by
    intro x hx
    refine ⟨[some (.tup xs), some (.int d), some x], by simp [wipeE], ?_⟩
    simp [h x hx])
  have al := opn_all_new (M := M) (xs := xs) (q := fun _ => true)
  simp [f_fits_depth, m_isnum_t, m_text_t, hd, lc, al]
  exact trimM_push (by simp [low])
theorem m_gat_i {i : Int} {f : PV} : run fns gl fuel (k + 1) 4 [.int i, f] M = .ok .non M := by
  rw [run_fn rfl rfl (by decide)]
  simp [f_gather]
theorem m_gat_s {s : List Nat} {f : PV} : run fns gl fuel (k + 1) 4 [.str s, f] M = .ok .non M := by
  rw [run_fn rfl rfl (by decide)]
  simp [f_gather]
theorem m_gat_t {xs : List PV} {f : PV} (h : ∀ x ∈ xs, run fns gl fuel (k + 1) 4 [x, f] M = .ok .non M) : run fns gl fuel (k + 2) 4 [.tup xs, f] M = .ok .non M := by
  rw [run_fn rfl rfl (by decide)]
  obtain ⟨env', M', h1, w, h2⟩ := loopX_inv (g := .name 2) (body := fun env M => evSs (wd (k + 1)) b1_gather env M) (P := fun _ env M' => M' = M ∧ ∃ w, env = [some (.tup xs), some f, w]) xs 0 [some (.tup xs), some f, none] M ⟨rfl, none, rfl⟩ (by
    intro j x env M1 hx hp
    obtain ⟨rfl, w, rfl⟩ := hp
    refine ⟨[some (.tup xs), some f, some x], [some (.tup xs), some f, some x], M1, by simp, .inl ?_, rfl, some x, rfl⟩
    simp [b1_gather, h x (List.mem_of_getElem? hx)])
  subst w
  simp [f_gather]
  rw [evS_for]
  simp [evI, kFor_items]
  rw [h1]
  simp
theorem m_atoms {v : PV} (h : run fns gl fuel (k + 1) 4 [v, .ref M.length] (M ++ [.lst []]) = .ok .non (M ++ [.lst []])) : run fns gl fuel (k + 2) 5 [v] M = .ok (.ref M.length) (M ++ [.lst []]) := by
  rw [run_fn rfl rfl (by decide)]
  simp [f_atoms_in, lim, h]
  exact trimM_hi (by simp [low])
theorem m_rank {v : PV} (h : ∀ M : Mem, run fns gl fuel (k + 1) 4 [v, .ref M.length] (M ++ [.lst []]) = .ok .non (M ++ [.lst []])) : run fns gl fuel (k + 3) 6 [v] M = .ok (.int 0) M := by
  rw [run_fn rfl rfl (by decide)]
  have at1 := m_atoms (k := k) (M := M ++ [.lst [.int 0]]) (h _)
  have hM : (M ++ [Cell.lst [PV.int 0]] ++ [Cell.lst []])[(M ++ [Cell.lst [PV.int 0]]).length]? = some (.lst []) := by simp
  have lc := lc_mem (w := wd (k + 2)) (g := .name 1) (vs := [1]) (it := .val (.call 5 [(.var 0)])) (ts := []) (elt := .bad) (env := [some v, none]) (M := M ++ [.lst [.int 0]]) (n := (M ++ [Cell.lst [PV.int 0]]).length) (xs := []) (p := fun _ => true) (f := fun x => x) (by simp only [evI, evE_call, evEs_cons, evEs_nil, evE_var]; simp at at1; simp [at1]) hM (by simp) (by simp)
  simp at lc
  have ad := op2_add_l (M := M ++ [Cell.lst [PV.int 0], Cell.lst [], Cell.lst []]) (n := M.length) (m := M.length + 2) (xs := [PV.int 0]) (ys := []) (by simp) (by simp) (by decide)
  have mx : opn .max [.ref (M.length + 3)] (M ++ [Cell.lst [PV.int 0], Cell.lst [], Cell.lst [], Cell.lst [PV.int 0]]) = .ok (.int 0) (M ++ [Cell.lst [PV.int 0], Cell.lst [], Cell.lst [], Cell.lst [PV.int 0]]) := by
    unfold opn
    simp [intsV]
  simp at ad
  simp [f_rank_of, lim, lc, ad, mx]
  exact trimM_push (by simp [low])
theorem m_host {v : PV} (hf : run fns gl fuel (k + 4) 2 [v, .int 10] M = .ok (.bl true) M) (h : ∀ M : Mem, run fns gl fuel (k + 2) 4 [v, .ref M.length] (M ++ [.lst []]) = .ok .non (M ++ [.lst []])) : run fns gl fuel (k + 5) 3 [v] M = .ok (.bl true) M := by
  rw [run_fn rfl rfl (by decide)]
  simp [f_is_host_word, hf, m_rank (k := k + 1) h]
theorem host_i {i : Int} (h : -2147483648 ≤ i ∧ i ≤ 2147483647) : run fns gl fuel (k + 5) 3 [.int i] M = .ok (.bl true) M := m_host (m_fit_i (k := k + 2) h) fun M => m_gat_i
theorem host_s {c : Nat} (h : (!ltL [c] [32] && !ltL [126] [c]) = true) : run fns gl fuel (k + 5) 3 [.str [c]] M = .ok (.bl true) M := m_host (m_fit_s (k := k + 2) h) fun M => m_gat_s
/-! ### a bent program -/
theorem Rw.go {t l b b' : Nat} {M' : Mem} {r : PV} (T : Tape t l M) (g : Go t l M M') (h : Rw M b r) (hb : b ≤ b') : Rw M' b' r := by
  cases h with
  | tp h hl => exact .tp h (by omega)
  | @rf n xs h hs hl =>
    refine .rf (g.get h ?_) hs (by omega)
    rintro rfl
    obtain ⟨i, r, s, ns, h1, _⟩ := T.ex
    rw [h] at h1
    cases h1
    exact hs (.ref l) (by simp)
theorem lst_ne {t l n : Nat} {rows : List PV} {b : Nat} (T : Tape t l M) (hM : M[n]? = some (.lst rows)) (h : ∀ r ∈ rows, Rw M b r) : n ≠ t := by
  rintro rfl
  obtain ⟨i, r, s, ns, h1, _⟩ := T.ex
  rw [hM] at h1
  cases h1
  have := h (.int i) (by simp)
  cases this
/-- rows[:p] + [x] + rows[p + 1:] -/
theorem glue {w : Wd} {env : Env} {n : Nat} {rows : List PV} {p : Int} {ex : E} {x : PV} (h1 : env[1]? = some (some (.ref n))) (h2 : env[2]? = some (some (.int p))) (hM : M[n]? = some (.lst rows)) (h0 : 0 ≤ p) (hp : p < rows.length) (hl : rows.length ≤ 100)
    (hx : ∀ G, evE w ex env (M ++ G) = .ok x (M ++ G)) : ∃ G m, evE w (.op2 .add (.op2 .add (.cut false true (.var 1) .bad (.var 2)) (.lst [ex])) (.cut true false (.var 1) (.op2 .add (.var 2) (.lit (.int 1))) .bad)) env M = .ok (.ref m) (M ++ G) ∧ (M ++ G)[m]? = some (.lst (rows.take p.toNat ++ [x] ++ rows.drop (p.toNat + 1))) ∧ M.length ≤ m := by
  have c1 := cutR_l (lo := none) (hi := some p) hM
  rw [cut_to h0] at c1
  have hx1 := hx [.lst (rows.take p.toNat)]
  have gt : ∀ G, (M ++ G)[n]? = some (.lst rows) := fun G => by rw [List.getElem?_append_left (List.getElem?_eq_some_iff.mp hM).1, hM]
  have a1 := op2_add_l (M := M ++ [.lst (rows.take p.toNat), .lst [x]]) (n := M.length) (m := M.length + 1) (xs := rows.take p.toNat) (ys := [x]) (by simp) (by simp) (by simp [lim]; omega)
  have c2 := cutR_l (lo := some (p + 1)) (hi := none) (gt [.lst (rows.take p.toNat), .lst [x], .lst (rows.take p.toNat ++ [x])])
  rw [cut_from (by omega), show (p + 1).toNat = p.toNat + 1 by omega] at c2
  have a2 := op2_add_l (M := M ++ [.lst (rows.take p.toNat), .lst [x], .lst (rows.take p.toNat ++ [x]), .lst (rows.drop (p.toNat + 1))]) (n := M.length + 2) (m := M.length + 3) (xs := rows.take p.toNat ++ [x]) (ys := rows.drop (p.toNat + 1)) (by simp) (by simp) (by simp [lim]; omega)
  simp at a1 a2 c2
  refine ⟨[.lst (rows.take p.toNat), .lst [x], .lst (rows.take p.toNat ++ [x]), .lst (rows.drop (p.toNat + 1)), .lst (rows.take p.toNat ++ [x] ++ rows.drop (p.toNat + 1))], M.length + 4, ?_, by simp, by omega⟩
  simp [h1, h2, c1, hx1, lim, a1, c2, a2]
/-- what a bent program is -/
def Bent (M : Mem) (t l b : Nat) (len : Nat) (m : Nat) (M' : Mem) : Prop := ∃ rows', M'[m]? = some (.lst rows') ∧ (∀ r ∈ rows', Rw M' (b + 3) r) ∧ rows'.length ≤ len + 1 ∧ Go t l M M'
theorem eq_nilL {r m : Nat} {xs : List PV} (hr : M[r]? = some (.lst xs)) (hm : M[m]? = some (.lst [])) (h : ∀ x ∈ xs, Sc x) : eqPV M (.ref r) (.ref m) = some xs.isEmpty := by
  obtain ⟨ds, h1, h2⟩ := allD_sc (M := M) (j := 57) h
  rw [eqPV_data (d := .lst ds) (e := .lst []) rfl (by rw [toD_lst hr, h1]; rfl) (by rw [toD_lst hm]; rfl)]
  cases xs <;> cases ds <;> simp at h2 <;> rfl
theorem Bent.glued {t l b n : Nat} {rows : List PV} {M1 : Mem} {p : Int} {x : PV} {G : Mem} {m : Nat} (T : Tape t l M) (g : Go t l M M1) (h : ∀ r ∈ rows, Rw M b r) (h0 : 0 ≤ p) (hp : p < rows.length) (hx : Rw M1 (b + 3) x) (hm : (M1 ++ G)[m]? = some (.lst (rows.take p.toNat ++ [x] ++ rows.drop (p.toNat + 1)))) : Bent M t l b rows.length m (M1 ++ G) := by
  have g2 := Go.push g.tape G
  refine ⟨_, hm, fun r hr => ?_, ?_, g.trans g2⟩
  · rw [List.append_assoc] at hr
    rcases List.mem_append.mp hr with hr | hr
    · exact (h r (List.mem_of_mem_take hr)).go T (g.trans g2) (by omega)
    · rcases List.mem_append.mp hr with hr | hr
      · rw [List.mem_singleton.mp hr]
        exact hx.go g.tape g2 (Nat.le_refl _)
      · exact (h r (List.mem_of_mem_drop hr)).go T (g.trans g2) (by omega)
  · simp
    omega
theorem op2s (i j : Int) : op2 .sub (.int i) (.int j) M = .ok (.int (i - j)) M := rfl
theorem o4 {w : Wd} {env : Env} : evE w (.op2 .pow (.lit (.int (2))) (.lit (.int (31)))) env M = .ok (.int 2147483648) M := by
  have pw : op2 .pow (.int 2) (.int 31) M = .ok (.int 2147483648) M := by
    rw [op2_pow_i, if_pos (by decide), p31]
  rw [evE_op2, evE_lit, Res.bind_ok, kOp2_, evE_lit, Res.bind_ok, kOp2b_, pw]
theorem o5a {w : Wd} {env : Env} : evE w (.op1 .neg (.op2 .pow (.lit (.int (2))) (.lit (.int (31))))) env M = .ok (.int (-2147483648)) M := by
  rw [evE_op1, o4, Res.bind_ok, kOp1_, op1_neg]
theorem o5 {w : Wd} {env : Env} : evE w (.op2 .sub (.op1 .neg (.op2 .pow (.lit (.int (2))) (.lit (.int (31))))) (.lit (.int (1)))) env M = .ok (.int (-2147483649)) M := by
  have h : (-2147483648 - 1 : Int) = -2147483649 := by decide
  rw [evE_op2, o5a, Res.bind_ok, kOp2_, evE_lit, Res.bind_ok, kOp2b_, op2s (-2147483648) 1, h]
def oddsE : E := .tup [(.op1 .neg (.lit (.int (1)))), (.lit (.int (4))), (.lit (.int (24))), (.op2 .pow (.lit (.int (2))) (.lit (.int (31)))), (.op2 .sub (.op1 .neg (.op2 .pow (.lit (.int (2))) (.lit (.int (31))))) (.lit (.int (1)))), (.lit (.bl true)), (.lit .non), (.lit (.str [114])), (.tup [(.lit (.int (1)))])]
def oddsV : List PV := [.int (-1), .int 4, .int 24, .int 2147483648, .int (-2147483649), .bl true, .non, .str [114], .tup [.int 1]]
theorem odds {w : Wd} {env : Env} : evE w oddsE env M = .ok (.tup oddsV) M := by
  have h1 : ([PV.int 1] : List PV).length ≤ lim := by decide
  have h9 : oddsV.length ≤ lim := by decide
  have e8 : evE w (.tup [(.lit (.int (1)))]) env M = .ok (.tup [.int 1]) M := by
    rw [evE_tup, evEs_cons, evE_lit, Res.bind_ok, kEs_, evEs_nil, Res.bind_ok, kEs1_, Res.bind_ok, kTup_, if_pos h1]
  have e0 : evE w (.op1 .neg (.lit (.int (1)))) env M = .ok (.int (-1)) M := by
    rw [evE_op1, evE_lit, Res.bind_ok, kOp1_, op1_neg]
  unfold oddsE
  rw [evE_tup]
  simp only [evEs_cons, e0, e8, o4, o5, evE_lit, Res.bind_ok, kEs_, evEs_nil, kEs1_, kTup_]
  rw [if_pos (by decide)]
  rfl
theorem m_bent {t l b n : Nat} {rows : List PV} (T : Tape t l M) (hM : M[n]? = some (.lst rows)) (h : ∀ r ∈ rows, Rw M b r) (h0 : 1 ≤ rows.length) (hlr : rows.length ≤ 50) (hb : b ≤ 50) : ∃ m M', run fns gl fuel (k + 2) 19 [.ref t, .ref n] M = .ok (.ref m) M' ∧ Bent M t l b rows.length m M' := by
  have hn := lst_ne T hM h
  have ln := opn_len_l hM
  obtain ⟨p, M1, e1, a1, b1, g1, hl1⟩ := next23 (k := k) T (many := rows.length) (by omega) (by omega)
  have hM1 := g1.get hM hn
  obtain ⟨row, hrow, er⟩ := getI_mem a1 b1
  have hRw := (h row hrow).go T g1 (Nat.le_refl b)
  obtain ⟨xs, hl, hs, hxl⟩ : ∃ xs, opn .list [row] M1 = .ok (.ref M1.length) (M1 ++ [.lst xs]) ∧ (∀ x ∈ xs, Sc x) ∧ xs.length ≤ b := by
    cases hRw with
    | tp hs hl => exact ⟨_, opn_list_t, hs, hl⟩
    | rf h hs hl => exact ⟨_, opn_list_l h, hs, hl⟩
  have g2 := Go.push g1.tape [.lst xs]
  obtain ⟨v, M3, e3, a3, b3, g3, hl3⟩ := next23 (k := k) g2.tape (many := 9) (by decide) (by decide)
  obtain ⟨o, ho, eo⟩ := getI_mem (xs := oddsV) a3 (by simpa [oddsV] using b3)
  have hSo : Sc o := by
    simp only [oddsV, List.mem_cons, List.not_mem_nil, or_false] at ho
    rcases ho with rfl | rfl | rfl | rfl | rfl | rfl | rfl | rfl | rfl <;> first | trivial | exact ⟨1, rfl⟩
  clear ho
  obtain ⟨w, M4, e4, a4, b4, g4, hl4⟩ := next23 (k := k) g3.tape (many := 6) (by decide) (by decide)
  have hrt : M1.length ≠ t := by have := g1.tape.lt; omega
  have hr4 : M4[M1.length]? = some (.lst xs) := g4.get (g3.get (by simp) hrt) hrt
  have hn4 : M4[n]? = some (.lst rows) := g4.get (g3.get (by rw [List.getElem?_append_left (List.getElem?_eq_some_iff.mp hM1).1, hM1]) hn) hn
  have g04 := g1.trans (g2.trans (g3.trans g4))
  have ix := op2_idx_l (i := p) hM1
  rw [er] at ix
  have p31 := p31
  have hML : M.length ≤ M1.length := by omega
  have hM4L : M1.length + 1 = M4.length := by simp [hl4, hl3]
  have s3 : evE (wd (k + 1)) (.op2 .idx oddsE (.call 15 [(.var 0), (.lit (.int (9)))])) [some (.ref t), some (.ref n), some (.int p), some (.ref M1.length), none, none] (M1 ++ [.lst xs]) = .ok o M3 := by
    rw [evE_op2, odds]
    simp [e3, eo]
  rw [run_fn rfl rfl (by decide)]
  have hw : w = 0 ∨ w = 1 ∨ w = 2 ∨ w = 3 ∨ w = 4 ∨ w = 5 := by omega
  have hb0 : f__law_bent.body = .asg (.name 2) (.call 15 [(.var 0), (.opn .len [(.var 1)])]) :: .asg (.name 3) (.opn .list [(.op2 .idx (.var 1) (.var 2))]) :: .asg (.name 4) (.op2 .idx oddsE (.call 15 [(.var 0), (.lit (.int (9)))])) :: f__law_bent.body.drop 3 := rfl
  rw [hb0]
  generalize hr : f__law_bent.body.drop 3 = rest
  have e0 : evSs (wd (k + 1)) (.asg (.name 2) (.call 15 [(.var 0), (.opn .len [(.var 1)])]) :: .asg (.name 3) (.opn .list [(.op2 .idx (.var 1) (.var 2))]) :: .asg (.name 4) (.op2 .idx oddsE (.call 15 [(.var 0), (.lit (.int (9)))])) :: rest) [some (.ref t), some (.ref n), none, none, none, none] M = evSs (wd (k + 1)) rest [some (.ref t), some (.ref n), some (.int p), some (.ref M1.length), some o, none] M3 := by
    simp [-evE_op2, ln, e1]
    rw [show evE (wd (k + 1)) (E.op2 O2.idx (E.var 1) (E.var 2)) [some (PV.ref t), some (PV.ref n), some (PV.int p), none, none, none] M1 = .ok row M1 by simp [ix]]
    simp [-evE_op2, hl, s3]
  have glueE : ∀ (r : Nat) (ex : E) (M5 : Mem) (x : PV) (o' w' : Option PV), Go t l M M5 → M5[n]? = some (.lst rows) → Rw M5 (b + 3) x → (∀ G, evE (wd (k + 1)) ex [some (.ref t), some (.ref n), some (.int p), some (.ref r), o', w'] (M5 ++ G) = .ok x (M5 ++ G)) →
      ∃ m M', evE (wd (k + 1)) (.op2 .add (.op2 .add (.cut false true (.var 1) .bad (.var 2)) (.lst [ex])) (.cut true false (.var 1) (.op2 .add (.var 2) (.lit (.int (1)))) .bad)) [some (.ref t), some (.ref n), some (.int p), some (.ref r), o', w'] M5 = .ok (.ref m) M' ∧ low M.length (.ref m) = false ∧ Bent M t l b rows.length m M' := by
    intro r ex M5 x o' w' g5 hn5 hx5 hxe
    obtain ⟨G, m, q1, q2, q3⟩ := glue (w := wd (k + 1)) (ex := ex) (x := x) (p := p) (n := n) (rows := rows) (env := [some (.ref t), some (.ref n), some (.int p), some (.ref r), o', w']) (M := M5) rfl rfl hn5 a1 b1 (by omega) hxe
    refine ⟨m, M5 ++ G, q1, ?_, Bent.glued (n := n) T g5 h a1 b1 hx5 q2⟩
    have := g5.len
    simp only [low, decide_eq_false_iff_not]
    omega
  have tupE : ∀ (r : Nat) (M5 : Mem) (ys : List PV) (o' w' : Option PV), Go t l M M5 → M5[n]? = some (.lst rows) → M5[r]? = some (.lst ys) → (∀ y ∈ ys, Sc y) → ys.length ≤ b + 3 →
      ∃ m M', evE (wd (k + 1)) (.op2 .add (.op2 .add (.cut false true (.var 1) .bad (.var 2)) (.lst [.opn .tuple [.var 3]])) (.cut true false (.var 1) (.op2 .add (.var 2) (.lit (.int (1)))) .bad)) [some (.ref t), some (.ref n), some (.int p), some (.ref r), o', w'] M5 = .ok (.ref m) M' ∧ low M.length (.ref m) = false ∧ Bent M t l b rows.length m M' := by
    intro r M5 ys o' w' g5 hn5 hr5 hys hyl
    refine glueE r _ M5 (.tup ys) o' w' g5 hn5 (.tp hys hyl) fun G => ?_
    have hg : (M5 ++ G)[r]? = some (.lst ys) := by rw [List.getElem?_append_left (List.getElem?_eq_some_iff.mp hr5).1, hr5]
    simp [opn_tuple_l hg]
  have refE : ∀ (r : Nat) (M5 : Mem) (ys : List PV) (o' w' : Option PV), Go t l M M5 → M5[n]? = some (.lst rows) → M5[r]? = some (.lst ys) → (∀ y ∈ ys, Sc y) → ys.length ≤ b + 3 →
      ∃ m M', evE (wd (k + 1)) (.op2 .add (.op2 .add (.cut false true (.var 1) .bad (.var 2)) (.lst [.var 3])) (.cut true false (.var 1) (.op2 .add (.var 2) (.lit (.int (1)))) .bad)) [some (.ref t), some (.ref n), some (.int p), some (.ref r), o', w'] M5 = .ok (.ref m) M' ∧ low M.length (.ref m) = false ∧ Bent M t l b rows.length m M' := by
    intro r M5 ys o' w' g5 hn5 hr5 hys hyl
    exact glueE r _ M5 (.ref r) o' w' g5 hn5 (.rf hr5 hys hyl) fun G => by simp
  clear glueE
  have hM1n : M1.length ≠ n := by
    intro e
    have := (List.getElem?_eq_some_iff.mp hM1).1
    omega
  suffices hh : ∃ m M', (evSs (wd (k + 1)) rest [some (.ref t), some (.ref n), some (.int p), some (.ref M1.length), some o, none] M3).out = .ok (.ref m) M' ∧ low M.length (.ref m) = false ∧ Bent M t l b rows.length m M' by
    obtain ⟨m, M', q1, q2, q3⟩ := hh
    refine ⟨m, M', ?_, q3⟩
    have e1 := e0.trans rfl
    show Res.trim M (Ctl.out (evSs (wd (k + 1)) _ [some (.ref t), some (.ref n), none, none, none, none] M)) = _
    rw [e0, q1, Res.trim_ok, trimM_hi q2]
  have hp4 : ∀ G : Mem, (M4 ++ G)[M1.length]? = some (.lst xs) ∧ (M4 ++ G)[n]? = some (.lst rows) := fun G => ⟨by rw [List.getElem?_append_left (by omega), hr4], by rw [List.getElem?_append_left (List.getElem?_eq_some_iff.mp hn4).1, hn4]⟩
  subst hr
  clear e0 hb0 s3
  rcases hw with rfl | rfl | rfl | rfl | rfl | rfl
  · have en := eq_nilL (M := M4 ++ [.lst []]) (m := M4.length) (hp4 [.lst []]).1 (by simp) hs
    by_cases hx : xs = []
    · subst hx
      obtain ⟨m, M', q1, q2, q3⟩ := refE M1.length (M4 ++ [.lst []]) [] (some o) (some (.int 0)) (g04.trans (Go.push g04.tape _)) (hp4 _).2 (hp4 _).1 (by simp) (by simp)
      refine ⟨m, M', ?_, q2, q3⟩
      simp [-evE_op2, f__law_bent, e4, en, lim, q1]
    · have hie : xs.isEmpty = false := by cases xs; exact absurd rfl hx; rfl
      have hpos : 0 < xs.length := List.length_pos_iff.mpr hx
      have ln3 := opn_len_l (hp4 [.lst []]).1
      obtain ⟨j, M5, e5, a5, b5, g5, hl5⟩ := next23 (k := k) (Go.push g04.tape [.lst []]).tape (many := xs.length) (by omega) (by omega)
      have hr5 := g5.get (hp4 [.lst []]).1 hrt
      have hn5 := g5.get (hp4 [.lst []]).2 hn
      obtain ⟨j', rfl⟩ := Int.eq_ofNat_of_zero_le a5
      have st := setL_l (v := o) hr5 (k := j') (by omega)
      have g6 : Go t l M (M5.set M1.length (.lst (xs.set j' o))) := (g04.trans ((Go.push g04.tape _).trans g5)).write T hML
      obtain ⟨m, M', q1, q2, q3⟩ := tupE M1.length (M5.set M1.length (.lst (xs.set j' o))) (xs.set j' o) (some o) (some (.int 0)) g6 (by rw [List.getElem?_set_ne hM1n, hn5]) (by rw [List.getElem?_set_self (by rw [hl5, List.length_append]; omega)]) (by
        intro z hz
        rcases List.mem_or_eq_of_mem_set hz with hz | rfl
        · exact hs z hz
        · exact hSo) (by rw [List.length_set]; omega)
      refine ⟨m, M', ?_, q2, q3⟩
      simp [-evE_op2, f__law_bent, e4, en, hie, lim, ln3, e5, st, q1]
  · have ap := opn_append_l (v := o) hr4
    rw [if_pos (by unfold lim; omega)] at ap
    obtain ⟨m, M', q1, q2, q3⟩ := tupE M1.length (M4.set M1.length (.lst (xs ++ [o]))) (xs ++ [o]) (some o) (some (.int 1)) (g04.write T hML) (by rw [List.getElem?_set_ne hM1n, hn4]) (by rw [List.getElem?_set_self (by omega)]) (by
      intro z hz
      rcases List.mem_append.mp hz with hz | hz
      · exact hs z hz
      · rw [List.mem_singleton.mp hz]; exact hSo) (by rw [List.length_append]; simp; omega)
    refine ⟨m, M', ?_, q2, q3⟩
    simp [-evE_op2, f__law_bent, e4, tyM_list hr4, ap, q1]
  · have c1 := cutR_l (lo := none) (hi := some (-1)) hr4
    rw [cut_last] at c1
    obtain ⟨m, M', q1, q2, q3⟩ := tupE M4.length (M4 ++ [.lst (xs.take (xs.length - 1))]) (xs.take (xs.length - 1)) (some o) (some (.int 2)) (g04.trans (Go.push g04.tape _)) (hp4 _).2 (by simp) (fun y hy => hs y (List.mem_of_mem_take hy)) (by rw [List.length_take]; omega)
    refine ⟨m, M', ?_, q2, q3⟩
    simp [-evE_op2, f__law_bent, e4, c1, q1]
  · have ad := op2_add_l (M := M4 ++ [.lst [.tup [.str [115, 101, 116], .int 0, .int 1]]]) (n := n) (m := M4.length) (xs := rows) (ys := [.tup [.str [115, 101, 116], .int 0, .int 1]]) (hp4 _).2 (by simp) (by simp [lim]; omega)
    have g5 := Go.push g04.tape [.lst [.tup [.str [115, 101, 116], .int 0, .int 1]], .lst (rows ++ [.tup [.str [115, 101, 116], .int 0, .int 1]])]
    have := g04.len
    refine ⟨M4.length + 1, M4 ++ [.lst [.tup [.str [115, 101, 116], .int 0, .int 1]], .lst (rows ++ [.tup [.str [115, 101, 116], .int 0, .int 1]])], ?_, by simp only [low, decide_eq_false_iff_not]; omega, _, by simp; rfl, fun r hr => ?_, by simp, g04.trans g5⟩
    · simp at ad
      simp [f__law_bent, e4, lim, ad]
    · rcases List.mem_append.mp hr with hr | hr
      · exact (h r hr).go T (g04.trans g5) (by omega)
      · rw [List.mem_singleton.mp hr]
        exact .tp (by intro x hx; simp at hx; rcases hx with rfl | rfl | rfl <;> trivial) (by simp)
  · have c1 := cutR_l (lo := none) (hi := some p) hn4
    rw [cut_to a1] at c1
    have c2 := cutR_l (lo := some (p + 1)) (hi := none) (hp4 [.lst (rows.take p.toNat)]).2
    rw [cut_from (by omega), show (p + 1).toNat = p.toNat + 1 by omega] at c2
    have ad := op2_add_l (M := M4 ++ [.lst (rows.take p.toNat), .lst (rows.drop (p.toNat + 1))]) (n := M4.length) (m := M4.length + 1) (xs := rows.take p.toNat) (ys := rows.drop (p.toNat + 1)) (by simp) (by simp) (by simp [lim]; omega)
    have g5 := Go.push g04.tape [.lst (rows.take p.toNat), .lst (rows.drop (p.toNat + 1)), .lst (rows.take p.toNat ++ rows.drop (p.toNat + 1))]
    have := g04.len
    refine ⟨M4.length + 2, M4 ++ [.lst (rows.take p.toNat), .lst (rows.drop (p.toNat + 1)), .lst (rows.take p.toNat ++ rows.drop (p.toNat + 1))], ?_, by simp only [low, decide_eq_false_iff_not]; omega, _, by simp; rfl, fun r hr => ?_, by simp; omega, g04.trans g5⟩
    · simp at ad c2
      simp [f__law_bent, e4, lim, c1, c2, ad]
    · rcases List.mem_append.mp hr with hr | hr
      · exact (h r (List.mem_of_mem_take hr)).go T (g04.trans g5) (by omega)
      · exact (h r (List.mem_of_mem_drop hr)).go T (g04.trans g5) (by omega)
  · obtain ⟨m, M', q1, q2, q3⟩ := refE M1.length M4 xs (some o) (some (.int 5)) g04 hn4 hr4 hs (by omega)
    refine ⟨m, M', ?_, q2, q3⟩
    simp [-evE_op2, f__law_bent, e4, q1]
end
section
variable {k : Nat} {M : Mem}
theorem m_rows {t l : Nat} {many : Nat} (T : Tape t l M) (h0 : 1 ≤ many) (h1 : many ≤ 24) {a b d e f g h i : Option PV} : ∃ vs M', evE (wd (k + 3)) (.lc (.name 3) (.range [(.var 2)]) [] [3] (.call 18 [(.var 1), (.var 2), (.op2 .eq (.var 3) (.op2 .sub (.var 2) (.lit (.int (1)))))])) [a, some (.ref t), some (.int many), b, d, e, f, g, h, i] M = .ok (.ref M'.length) (M' ++ [.lst vs]) ∧
    Go t l M M' ∧ vs.length = many ∧ ∀ (j : Nat) (v : PV), vs[j]? = some v → goodRow many (decide ((j : Int) = (many : Int) - 1)) v := by
  obtain ⟨vs, M', q1, q2, q3, q4⟩ := lcX_inv (g := .name 3) (ts := fun env M => evTs (wd (k + 3)) [] env M) (elt := fun env M => evE (wd (k + 3)) (.call 18 [(.var 1), (.var 2), (.op2 .eq (.var 3) (.op2 .sub (.var 2) (.lit (.int (1)))))]) env M) (env := wipeE [a, some (.ref t), some (.int many), b, d, e, f, g, h, i] [3]) (c := fun _ => True) (Q := fun M' => Go t l M M')
    (R := fun j v => goodRow many (decide ((j : Int) = (many : Int) - 1)) v) (fun _ _ => trivial) (rangeL 0 many) 0 M (Go.refl T) (by
      intro j x M1 hx hq
      obtain ⟨hj, rfl⟩ := rangeL_get hx
      rw [Int.zero_add, Nat.zero_add]
      obtain ⟨v, M2, e1, e2, e3, e4⟩ := m_newrow (k := k) (last := decide ((j : Int) = (many : Int) - 1)) hq.tape (many := many) (by omega) (by omega)
      refine ⟨[a, some (.ref t), some (.int many), some (.int j), d, e, f, g, h, i], v, M2, by simp [wipeE], by simp, ?_, hq.trans e3, e2⟩
      simp [e1])
  refine ⟨vs, M', ?_, q2, by rw [q3, rangeL_len], fun j v e => by simpa using q4 j v e⟩
  rw [evE_lc]
  rw [evI_rangeN (M1 := M) (n := many) (by simp) (by omega)]
  simp only [Res.bind_ok, lcS]
  rw [if_pos (by rw [rangeL_len]; unfold lim; omega), q1]
  rfl
theorem good_prog {vs : List PV} {many : Nat} (h0 : 1 ≤ many) (h1 : many ≤ 24) (hl : vs.length = many) (h : ∀ (j : Nat) (v : PV), vs[j]? = some v → goodRow many (decide ((j : Int) = (many : Int) - 1)) v) : prog vs = true ∧ ∀ M, ∀ r ∈ vs, Rw M 4 r := by
  constructor
  · unfold prog
    have ha : vs.all (isRow vs.length) = true := by
      rw [List.all_eq_true]
      intro x hx
      obtain ⟨j, hj⟩ := List.getElem?_of_mem hx
      have := (h j x hj).1
      rw [hl]
      exact this
    have hb : endsOk vs = true := by
      unfold endsOk
      have hx : vs[many - 1]? = some (vs[many - 1]'(by omega)) := List.getElem?_eq_getElem (by omega)
      rw [List.getLast?_eq_getElem?, hl, hx]
      have := (h _ _ hx).2.1 (by simp; omega)
      simp only [Bool.or_eq_true]
      exact this
    rw [ha, hb]
    simp
    omega
  · intro M r hr
    obtain ⟨j, hj⟩ := List.getElem?_of_mem hr
    obtain ⟨xs, rfl, h2, h3⟩ := (h j r hj).2.2
    exact .tp h2 h3
/-- a row as data -/
theorem toD_rw {b j : Nat} {r : PV} (h : Rw M b r) : ∃ d, toD M (j + 3) r = some d := by
  cases h with
  | tp h hl =>
    obtain ⟨ds, h1, h2⟩ := allD_sc (M := M) (j := j) h
    exact ⟨.tup ds, by rw [toD_tup, h1]; rfl⟩
  | rf h hs hl =>
    obtain ⟨ds, h1, h2⟩ := allD_sc (M := M) (j := j) hs
    exact ⟨.lst ds, by rw [toD_lst h, h1]; rfl⟩
theorem allD_rw {b j : Nat} : ∀ {xs : List PV}, (∀ x ∈ xs, Rw M b x) → ∃ ds, allD (toD M (j + 3)) xs = some ds ∧ ds.length = xs.length
  | [], _ => ⟨[], rfl, rfl⟩
  | x :: xs, h => by
    obtain ⟨d, h1⟩ := toD_rw (j := j) (h x List.mem_cons_self)
    obtain ⟨ds, h2, h3⟩ := allD_rw (j := j) (xs := xs) fun y hy => h y (List.mem_cons_of_mem _ hy)
    exact ⟨d :: ds, allD_cons h1 h2, by simp [h3]⟩
theorem eq_nilR {b r m : Nat} {xs : List PV} (hr : M[r]? = some (.lst xs)) (hm : M[m]? = some (.lst [])) (h : ∀ x ∈ xs, Rw M b x) : eqPV M (.ref r) (.ref m) = some xs.isEmpty := by
  obtain ⟨ds, h1, h2⟩ := allD_rw (j := 56) h
  rw [eqPV_data (d := .lst ds) (e := .lst []) rfl (by rw [toD_lst hr, h1]; rfl) (by rw [toD_lst hm]; rfl)]
  cases xs <;> cases ds <;> simp at h2 <;> rfl
/-- one bend -/
structure Bt (t l b len : Nat) (M0 M : Mem) (m : Nat) : Prop where
  ex : ∃ rows, M[m]? = some (.lst rows) ∧ (∀ r ∈ rows, Rw M b r) ∧ rows.length ≤ len
  go : Go t l M0 M
theorem bend {t l b len m : Nat} {M0 : Mem} {a c d e f g h i : Option PV} (T0 : Tape t l M0) (B : Bt t l b len M0 M m) (hb : b ≤ 50) (hl : len ≤ 50) : ∃ m' M', evSs (wd (k + 2)) b2_law [a, some (.ref t), c, d, e, f, some (.ref m), g, h, i] M = .nxt [a, some (.ref t), c, d, e, f, some (.ref m'), g, h, i] M' ∧ Bt t l (b + 3) (len + 1) M0 M' m' := by
  obtain ⟨⟨rows, hm, hr, hlen⟩, go⟩ := B
  have T := go.tape
  have g1 := Go.push T [.lst []]
  have hmt := lst_ne T hm hr
  have hm1 := g1.get hm hmt
  have hr1 : ∀ r ∈ rows, Rw (M ++ [.lst []]) b r := fun r h => (hr r h).go T g1 (Nat.le_refl _)
  have en := eq_nilR (M := M ++ [.lst []]) (m := M.length) hm1 (by simp) hr1
  by_cases hx : rows = []
  · subst hx
    refine ⟨m, M ++ [.lst []], ?_, ⟨[], hm1, by simp, by simp⟩, go.trans g1⟩
    simp [b2_law, lim, en]
  · have hie : rows.isEmpty = false := by cases rows; exact absurd rfl hx; rfl
    have hpos : 0 < rows.length := List.length_pos_iff.mpr hx
    obtain ⟨m', M', q1, rows', q2, q3, q4, q5⟩ := m_bent (k := k) g1.tape hm1 hr1 hpos (by omega) hb
    refine ⟨m', M', ?_, ⟨rows', q2, q3, by omega⟩, go.trans (g1.trans q5)⟩
    simp [b2_law, lim, en, hie, q1]
theorem p34 : (2 : Int) ^ (34 : Int).toNat = 17179869184 := by decide
theorem p33 : (2 : Int) ^ (33 : Int).toNat = 8589934592 := by decide
theorem p12 : (10 : Int) ^ (12 : Int).toNat = 1000000000000 := by decide
theorem small_of {i : Int} (h : -(18446744073709551616) < i) (k : i < 18446744073709551616) : small i = true := small_lit (by omega) (by omega)
/-- a turn of the law -/
theorem turn {t l n : Nat} {rows : List PV} {many : Int} {a d f g h i j : Option PV} (T : Tape t l M) (hn : M[n]? = some (.lst rows)) (hr : ∀ r ∈ rows, Rw M 4 r) (hl : rows.length ≤ 24) : ∃ a' b' c' d' M', evSs (wd (k + 5)) b1_law [a, some (.ref t), some (.int many), d, some (.ref n), f, g, h, i, j] M = .nxt [a, some (.ref t), some (.int many), a', some (.ref n), f, b', c', d', j] M' ∧ Go t l M M' := by
  obtain ⟨v, M1, e1, a1, b1, g1, hl1⟩ := next23 (k := k + 4) T (many := 2) (by decide) (by decide)
  have hnt := lst_ne T hn hr
  obtain ⟨env2, M2, l2, m2, w2, rfl, B2⟩ := for_range (w := wd (k + 5)) (g := .name 3) (b := b2_law) (e := .op2 .add (.lit (.int (1))) (.call 15 [(.var 1), (.lit (.int (2)))])) (n := 1 + v) (env := [a, some (.ref t), some (.int many), d, some (.ref n), f, some (.ref n), h, i, j]) (M := M) (M1 := M1)
    (fun q env M2 => ∃ m w, env = [a, some (.ref t), some (.int many), w, some (.ref n), f, some (.ref m), h, i, j] ∧ Bt t l (4 + 3 * q) (24 + q) M M2 m)
    (by simp [e1]) (by omega) ⟨n, d, rfl, ⟨rows, g1.get hn hnt, fun r h => (hr r h).go T g1 (by omega), by omega⟩, g1⟩ (by
      intro q env M3 hq ⟨m, w, he, B⟩
      subst he
      obtain ⟨m', M', q1, q2⟩ := bend (k := k + 3) T B (a := a) (c := some (.int many)) (d := some (.int q)) (e := some (.ref n)) (f := f) (g := h) (h := i) (i := j) (by omega) (by omega)
      exact ⟨_, _, M', by simp, .inl q1, m', _, rfl, by rw [show 4 + 3 * (q + 1) = 4 + 3 * q + 3 by omega, show 24 + (q + 1) = 24 + q + 1 by omega]; exact q2⟩)
  obtain ⟨⟨rows2, h2, hr2, hl2⟩, go2⟩ := B2
  have pr := m_prog (k := k) hr2
  have du := m_due (k := k) h2 hr2
  have tp := opn_tuple_l h2
  obtain ⟨x, M3, e3, a3, b3, g3, hl3⟩ := next23 (k := k + 4) go2.tape (many := 17179869184) (by decide) (by decide)
  obtain ⟨y, M4, e4, a4, b4, g4, hl4⟩ := next23 (k := k + 4) g3.tape (many := 3) (by decide) (by decide)
  obtain ⟨z, hz, ez⟩ := getI_mem (xs := [.int 1, .int 1, .int 1000000000000]) a4 (by simpa using b4)
  obtain ⟨z', rfl⟩ : ∃ z', z = .int z' := by
    simp only [List.mem_cons, List.not_mem_nil, or_false] at hz
    rcases hz with rfl | rfl | rfl <;> exact ⟨_, rfl⟩
  have sm := small_of (i := x - 8589934592) (by omega) (by omega)
  obtain ⟨W, hW⟩ : ∃ W, W = (x - 8589934592) * z' := ⟨_, rfl⟩
  have wr := m_wrapped (k := k + 4) (M := M4) (n := W)
  obtain ⟨w1, w3, w4⟩ := wrap_ok W
  have p34 := p34
  have p33 := p33
  have p31 := p31
  have p32 := p32
  have p12 := p12
  have s1 : evE (wd (k + 5)) (.op2 .mul (.op2 .sub (.call 15 [(.var 1), (.op2 .pow (.lit (.int (2))) (.lit (.int (34))))]) (.op2 .pow (.lit (.int (2))) (.lit (.int (33))))) (.op2 .idx (.tup [(.lit (.int (1))), (.lit (.int (1))), (.op2 .pow (.lit (.int (10))) (.lit (.int (12))))]) (.call 15 [(.var 1), (.lit (.int (3)))]))) [a, some (.ref t), some (.int many), w2, some (.ref n), f, some (.ref m2), some (.bl (prog rows2)), i, j] M2 = .ok (.int W) M4 := by
    simp [p34, p33, p12, e3, e4, ez, sm, lim, hW]
  refine ⟨w2, some (.ref m2), some (.int (wrapI W)), some (.int W), M4, ?_, go2.trans (g3.trans g4)⟩
  simp [b1_law]
  rw [l2]
  simp [-evE_op2, tp, pr, du, s1, wr]
  simp [p31, p32, w1, w3, w4]
/-! the last lines -/
theorem prog_sc {v : PV} (h : match v with | .non => True | .str _ => True | .int _ => True | _ => False) : run fns gl fuel (k + 5) 13 [v] M = .ok (.bl false) M := by
  rw [run_fn rfl rfl (by decide)]
  cases v <;> first | exact h.elim | simp [f_is_program]
theorem prog_t0 : run fns gl fuel (k + 5) 13 [.tup []] M = .ok (.bl false) M := by
  rw [m_prog (b := 4) (by simp)]
  rfl
theorem prog_t1 : run fns gl fuel (k + 5) 13 [.tup [.tup []]] M = .ok (.bl false) M := by
  rw [m_prog (b := 4) (by
    intro r hr
    rw [List.mem_singleton.mp hr]
    exact .tp (by simp) (by simp))]
  rfl
theorem host_t : run fns gl fuel (k + 6) 3 [.tup [.int 1, .str [98]]] M = .ok (.bl true) M := by
  refine m_host (k := k + 1) (m_fit_t (k := k + 2) (by decide) (by decide) ?_) fun M => m_gat_t ?_
  · intro x hx
    simp only [List.mem_cons, List.not_mem_nil, or_false] at hx
    rcases hx with rfl | rfl
    · exact m_fit_i (by decide)
    · exact m_fit_s (by decide)
  · intro x hx
    simp only [List.mem_cons, List.not_mem_nil, or_false] at hx
    rcases hx with rfl | rfl
    · exact m_gat_i
    · exact m_gat_s
theorem regs_1 : run fns gl fuel (k + 7) 14 [.tup [.int 0, .str [97], .tup [.int 1, .str [98]], .int (-5)]] M = .ok (.bl true) M := by
  rw [run_fn rfl rfl (by decide)]
  have lc := lc_items0 (w := wd (k + 6)) (g := .name 1) (vs := [1]) (it := .val (.var 0)) (elt := .call 3 [(.var 1)]) (env := [some (.tup [.int 0, .str [97], .tup [.int 1, .str [98]], .int (-5)]), none]) (M := M) (M1 := M) (xs := [.int 0, .str [97], .tup [.int 1, .str [98]], .int (-5)]) (f := fun _ => .bl true) (by simp [evI]) (by decide) (by
    intro x hx
    refine ⟨[some (.tup [.int 0, .str [97], .tup [.int 1, .str [98]], .int (-5)]), some x], by simp [wipeE], ?_⟩
    have : run fns gl fuel (k + 6) 3 [x] M = .ok (.bl true) M := by
      simp only [List.mem_cons, List.not_mem_nil, or_false] at hx
      rcases hx with rfl | rfl | rfl | rfl
      · exact host_i (k := k + 1) (by decide)
      · exact host_s (k := k + 1) (by decide)
      · exact host_t
      · exact host_i (k := k + 1) (by decide)
    simp [this])
  have al := opn_all_new (M := M) (xs := [PV.int 0, .str [97], .tup [.int 1, .str [98]], .int (-5)]) (q := fun _ => true)
  simp at al lc
  simp [f_is_registers, lc, al]
  exact trimM_push (by simp [low])
theorem regs_2 {n : Nat} {xs : List PV} (h : M[n]? = some (.lst xs)) : run fns gl fuel (k + 1) 14 [.ref n] M = .ok (.bl false) M := by
  rw [run_fn rfl rfl (by decide)]
  simp [f_is_registers, kd_lst h]
theorem regs_3 {a b c : PV} : run fns gl fuel (k + 1) 14 [.tup [a, b, c]] M = .ok (.bl false) M := by
  rw [run_fn rfl rfl (by decide)]
  simp [f_is_registers]
end
theorem plain0 (k : Nat) : ∀ ns : List Int, ns.length ≤ 63 → ∃ M, run fns gl fuel (k + 60 + 1) 24 [scriptV ns] [] = .ok (.bl true) M := by
  intro ns hn
  rw [run_fn rfl rfl (by decide)]
  have T0 : Tape 1 0 [.lst (ns.map PV.int), .lst [.ref 0, .int 0, .int 0, .int 5]] := ⟨0, 0, 5, ns, rfl, rfl, by decide, by decide, by decide⟩
  have hs : opn .list [scriptV ns] [] = .ok (.ref 0) [.lst (ns.map PV.int)] := rfl
  obtain ⟨v, M1, e1, a1, b1, g1, hl1⟩ := next23 (k := k + 59) T0 (many := 4) (by decide) (by decide)
  obtain ⟨mv, hmv, ev⟩ := getI_mem (xs := [.int 1, .int 3, .int 9, .int 24]) a1 (by simpa using b1)
  obtain ⟨many, rfl, h0, h1⟩ : ∃ many : Nat, mv = .int many ∧ 1 ≤ many ∧ many ≤ 24 := by
    simp only [List.mem_cons, List.not_mem_nil, or_false] at hmv
    rcases hmv with rfl | rfl | rfl | rfl
    · exact ⟨1, rfl, by decide, by decide⟩
    · exact ⟨3, rfl, by decide, by decide⟩
    · exact ⟨9, rfl, by decide, by decide⟩
    · exact ⟨24, rfl, by decide, by decide⟩
  obtain ⟨vs, M2, q1, g2, q3, q4⟩ := m_rows (k := k + 57) g1.tape h0 h1 (a := some (scriptV ns)) (b := none) (d := none) (e := none) (f := none) (g := none) (h := none) (i := none)
  obtain ⟨hp, hr⟩ := good_prog h0 h1 q3 q4
  have g3 := Go.push g2.tape [.lst vs]
  have hM : (M2 ++ [Cell.lst vs])[M2.length]? = some (.lst vs) := by simp
  have tp := opn_tuple_l hM
  have pr := m_prog (k := k + 55) (hr (M2 ++ [Cell.lst vs]))
  have prf := m_prog_ref (k := k + 59) hM
  obtain ⟨env3, M3, l3, G3, d3, f3, b3, c3, e3, rfl⟩ := for_range (w := wd (k + 60)) (g := .name 5) (b := b1_law) (e := .lit (.int 6)) (n := 6) (env := [some (scriptV ns), some (.ref 1), some (.int many), none, some (.ref M2.length), none, none, none, none, none]) (M := M2 ++ [.lst vs]) (M1 := M2 ++ [.lst vs])
    (fun q env M => Go 1 0 (M2 ++ [.lst vs]) M ∧ ∃ d f b c e, env = [some (scriptV ns), some (.ref 1), some (.int many), d, some (.ref M2.length), f, b, c, e, none])
    (by simp) (by decide) ⟨Go.refl g3.tape, _, _, _, _, _, rfl⟩ (by
      intro q env M hq ⟨G, d, f, b, c, e, he⟩
      subst he
      have hne : M2.length ≠ 1 := by have := g2.tape.lt; omega
      obtain ⟨a', b', c', d', M', t1, t2⟩ := turn (k := k + 55) G.tape (G.get hM hne) (hr M) (by omega) (a := some (scriptV ns)) (many := many) (d := d) (f := some (.int q)) (g := b) (h := c) (i := e) (j := none)
      exact ⟨_, _, M', by simp, .inl t1, G.trans t2, _, _, _, _, _, rfl⟩)
  obtain ⟨env4, M4, l4, w4, rfl, hM4⟩ := loopX_inv (g := .name 9) (body := fun env M => evSs (wd (k + 60)) b3_law env M) (P := fun _ env M => ∃ w, env = [some (scriptV ns), some (.ref 1), some (.int many), d3, some (.ref M2.length), f3, b3, c3, e3, w] ∧ M = M3 ++ [.lst [.tup [.str [101, 110, 100]]]])
    [.non, .tup [], .str [], .int 5, .tup [.tup []], .ref M3.length] 0 [some (scriptV ns), some (.ref 1), some (.int many), d3, some (.ref M2.length), f3, b3, c3, e3, none] (M3 ++ [.lst [.tup [.str [101, 110, 100]]]]) ⟨none, rfl, rfl⟩ (by
      intro q x env M hx ⟨w, he, hm⟩
      subst he
      subst hm
      have hp : run fns gl fuel (k + 60) 13 [x] (M3 ++ [.lst [.tup [.str [101, 110, 100]]]]) = .ok (.bl false) (M3 ++ [.lst [.tup [.str [101, 110, 100]]]]) := by
        have hx := List.mem_of_getElem? hx
        simp only [List.mem_cons, List.not_mem_nil, or_false] at hx
        rcases hx with rfl | rfl | rfl | rfl | rfl | rfl
        · exact prog_sc (k := k + 55) trivial
        · exact prog_t0 (k := k + 55)
        · exact prog_sc (k := k + 55) trivial
        · exact prog_sc (k := k + 55) trivial
        · exact prog_t1 (k := k + 55)
        · exact m_prog_ref (k := k + 59) (xs := [.tup [.str [101, 110, 100]]]) (by simp)
      exact ⟨_, [some (scriptV ns), some (.ref 1), some (.int many), d3, some (.ref M2.length), f3, b3, c3, e3, some x], M3 ++ [.lst [.tup [.str [101, 110, 100]]]], by simp; rfl, .inl (by simp [b3_law, hp]), some x, rfl, rfl⟩)
  subst hM4
  have r1 := regs_1 (k := k + 53) (M := M3 ++ [.lst [.tup [.str [101, 110, 100]]]])
  have r2 := regs_2 (k := k + 59) (M := M3 ++ [.lst [.tup [.str [101, 110, 100]]], .lst [.int 0, .int 0, .int 0, .int 0]]) (n := M3.length + 1) (xs := [.int 0, .int 0, .int 0, .int 0]) (by simp)
  have r3 := regs_3 (k := k + 59) (M := M3 ++ [.lst [.tup [.str [101, 110, 100]]], .lst [.int 0, .int 0, .int 0, .int 0]]) (a := .int 0) (b := .int 0) (c := .int 0)
  simp [hp] at e1 pr prf q1 l3 l4 r1 r2 r3
  have x1 : evS (wd (k + 60)) (.asg (.name 1) (.lst [(.opn .list [(.var 0)]), (.lit (.int (0))), (.lit (.int (0))), (.lit (.int (5)))])) [some (scriptV ns), none, none, none, none, none, none, none, none, none] [] = .nxt [some (scriptV ns), some (.ref 1), none, none, none, none, none, none, none, none] [Cell.lst (List.map PV.int ns), Cell.lst [PV.ref 0, PV.int 0, PV.int 0, PV.int 5]] := by
    simp [lim, hs]
  have x2 : evS (wd (k + 60)) (.asg (.name 2) (.op2 .idx (.tup [(.lit (.int (1))), (.lit (.int (3))), (.lit (.int (9))), (.lit (.int (24)))]) (.call 15 [(.var 1), (.lit (.int (4)))]))) [some (scriptV ns), some (.ref 1), none, none, none, none, none, none, none, none] [Cell.lst (List.map PV.int ns), Cell.lst [PV.ref 0, PV.int 0, PV.int 0, PV.int 5]] = .nxt [some (scriptV ns), some (.ref 1), some (.int many), none, none, none, none, none, none, none] M1 := by
    simp [lim, e1, ev]
  have x3 : evS (wd (k + 60)) (.asg (.name 4) (.lc (.name 3) (.range [(.var 2)]) [] [3] (.call 18 [(.var 1), (.var 2), (.op2 .eq (.var 3) (.op2 .sub (.var 2) (.lit (.int (1)))))]))) [some (scriptV ns), some (.ref 1), some (.int many), none, none, none, none, none, none, none] M1 = .nxt [some (scriptV ns), some (.ref 1), some (.int many), none, some (.ref M2.length), none, none, none, none, none] (M2 ++ [.lst vs]) := by
    rw [evS_asg, q1]
    simp
  have x4 : evS (wd (k + 60)) (.ifs (.or (.cmp .isnot (.call 13 [(.opn .tuple [(.var 4)])]) (.lit (.bl true))) (.val (.call 13 [(.var 4)]))) [.ret (.lit (.bl false))] []) [some (scriptV ns), some (.ref 1), some (.int many), none, some (.ref M2.length), none, none, none, none, none] (M2 ++ [.lst vs]) = .nxt [some (scriptV ns), some (.ref 1), some (.int many), none, some (.ref M2.length), none, none, none, none, none] (M2 ++ [.lst vs]) := by
    simp [tp, pr, prf]
  have x5 : evS (wd (k + 60)) (.forr (.name 9) (.val (.tup [(.lit .non), (.tup []), (.lit (.str [])), (.lit (.int (5))), (.tup [(.tup [])]), (.lst [(.tup [(.lit (.str [101, 110, 100]))])])])) b3_law) [some (scriptV ns), some (.ref 1), some (.int many), d3, some (.ref M2.length), f3, b3, c3, e3, none] M3 = .nxt [some (scriptV ns), some (.ref 1), some (.int many), d3, some (.ref M2.length), f3, b3, c3, e3, w4] (M3 ++ [.lst [.tup [.str [101, 110, 100]]]]) := by
    rw [evS_for]
    simp only [evI]
    simp [lim]
    rw [kFor_items, l4]
  have x6 : ∃ G, evS (wd (k + 60)) (.ret (.and (.op2 .is (.call 14 [(.tup [(.lit (.int (0))), (.lit (.str [97])), (.tup [(.lit (.int (1))), (.lit (.str [98]))]), (.op1 .neg (.lit (.int (5))))])]) (.lit (.bl true))) (.and (.nott (.call 14 [(.lst [(.lit (.int (0))), (.lit (.int (0))), (.lit (.int (0))), (.lit (.int (0)))])])) (.nott (.call 14 [(.tup [(.lit (.int (0))), (.lit (.int (0))), (.lit (.int (0)))])]))))) [some (scriptV ns), some (.ref 1), some (.int many), d3, some (.ref M2.length), f3, b3, c3, e3, w4] (M3 ++ [.lst [.tup [.str [101, 110, 100]]]]) = .ret (.bl true) G := by
    refine ⟨M3 ++ [.lst [.tup [.str [101, 110, 100]]], .lst [.int 0, .int 0, .int 0, .int 0]], ?_⟩
    simp [lim, r1, r2, r3]
  obtain ⟨G, x6⟩ := x6
  refine ⟨[], ?_⟩
  have hb : f_law.body = [(.asg (.name 1) (.lst [(.opn .list [(.var 0)]), (.lit (.int (0))), (.lit (.int (0))), (.lit (.int (5)))])), (.asg (.name 2) (.op2 .idx (.tup [(.lit (.int (1))), (.lit (.int (3))), (.lit (.int (9))), (.lit (.int (24)))]) (.call 15 [(.var 1), (.lit (.int (4)))]))), (.asg (.name 4) (.lc (.name 3) (.range [(.var 2)]) [] [3] (.call 18 [(.var 1), (.var 2), (.op2 .eq (.var 3) (.op2 .sub (.var 2) (.lit (.int (1)))))]))), (.ifs (.or (.cmp .isnot (.call 13 [(.opn .tuple [(.var 4)])]) (.lit (.bl true))) (.val (.call 13 [(.var 4)]))) [.ret (.lit (.bl false))] []), (.forr (.name 5) (.range [.lit (.int 6)]) b1_law), (.forr (.name 9) (.val (.tup [(.lit .non), (.tup []), (.lit (.str [])), (.lit (.int (5))), (.tup [(.tup [])]), (.lst [(.tup [(.lit (.str [101, 110, 100]))])])])) b3_law), (.ret (.and (.op2 .is (.call 14 [(.tup [(.lit (.int (0))), (.lit (.str [97])), (.tup [(.lit (.int (1))), (.lit (.str [98]))]), (.op1 .neg (.lit (.int (5))))])]) (.lit (.bl true))) (.and (.nott (.call 14 [(.lst [(.lit (.int (0))), (.lit (.int (0))), (.lit (.int (0))), (.lit (.int (0)))])])) (.nott (.call 14 [(.tup [(.lit (.int (0))), (.lit (.int (0))), (.lit (.int (0)))])])))))] := rfl
  have y : evSs (wd (k + 60)) f_law.body [some (scriptV ns), none, none, none, none, none, none, none, none, none] [] = .ret (.bl true) G := by
    rw [hb, evSs_c, x1, seq_nxt, evSs_c, x2, seq_nxt, evSs_c, x3, seq_nxt, evSs_c, x4, seq_nxt, evSs_c, l3, seq_nxt, evSs_c, x5, seq_nxt, evSs_c, x6, seq_ret]
  show Res.trim [] (Ctl.out (evSs (wd (k + 60)) f_law.body [some (scriptV ns), none, none, none, none, none, none, none, none, none] [])) = _
  rw [y]
  show Res.ok _ (trimM [] ([] ++ G) _) = _
  rw [trimM_push (M := []) (by simp [low])]
theorem plain : ∀ ns : List Int, ns.length ≤ 63 → ∃ M, run fns gl fuel (depth + 1) 24 [scriptV ns] [] = .ok (.bl true) M := plain0 0
end Lk23
end

set_option Elab.async false
set_option linter.all false
set_option maxRecDepth 100000
set_option maxHeartbeats 0

namespace Lk23
open PySem L2 HP
def top (i : Nat) : Stmt := PySem.Challenge.pw_hermithall_k23_what_is_a_program.main.body.getD i (.Pass ⟨0, 0, 0, 0⟩)
abbrev d_is_number : Df := mkDf "is_number" (top 13) f_is_number []
abbrev d_is_text : Df := mkDf "is_text" (top 14) f_is_text ["char"]
abbrev d_fits_depth : Df := mkDf "fits_depth" (top 17) f_fits_depth ["part"]
abbrev d_is_host_word : Df := mkDf "is_host_word" (top 19) f_is_host_word []
abbrev d_gather : Df := mkDf "gather" (top 20) f_gather []
abbrev d_atoms_in : Df := mkDf "atoms_in" (top 21) f_atoms_in []
abbrev d_rank_of : Df := mkDf "rank_of" (top 22) f_rank_of ["atom"]
abbrev d_is_integer : Df := mkDf "is_integer" (top 30) f_is_integer []
abbrev d_is_below : Df := mkDf "is_below" (top 31) f_is_below []
abbrev d_wrapped : Df := mkDf "wrapped" (top 32) f_wrapped []
abbrev d_form_of : Df := mkDf "form_of" (top 33) f_form_of []
abbrev d_is_part : Df := mkDf "is_part" (top 34) f_is_part []
abbrev d_is_instruction : Df := mkDf "is_instruction" (top 35) f_is_instruction ["index"]
abbrev d_is_program : Df := mkDf "is_program" (top 36) f_is_program ["row"]
abbrev d_is_registers : Df := mkDf "is_registers" (top 37) f_is_registers ["word"]
abbrev d__law_next : Df := mkDf "_law_next" (top 39) f__law_next []
abbrev d__law_forms : Df := mkDf "_law_forms" (top 40) f__law_forms []
abbrev d__law_part : Df := mkDf "_law_part" (top 41) f__law_part []
abbrev d__law_row : Df := mkDf "_law_row" (top 42) f__law_row ["sort"]
abbrev d__law_bent : Df := mkDf "_law_bent" (top 43) f__law_bent []
abbrev d__law_number : Df := mkDf "_law_number" (top 44) f__law_number []
abbrev d__law_fits : Df := mkDf "_law_fits" (top 45) f__law_fits []
abbrev d__law_is_row : Df := mkDf "_law_is_row" (top 46) f__law_is_row ["k"]
abbrev d__law_due : Df := mkDf "_law_due" (top 47) f__law_due ["row"]
abbrev d_law : Df := mkDf "law" (top 48) f_law []
abbrev DS : List Df := [d_is_number, d_is_text, d_fits_depth, d_is_host_word, d_gather, d_atoms_in, d_rank_of, d_is_integer, d_is_below, d_wrapped, d_form_of, d_is_part, d_is_instruction, d_is_program, d_is_registers, d__law_next, d__law_forms, d__law_part, d__law_row, d__law_bent, d__law_number, d__law_fits, d__law_is_row, d__law_due, d_law]
abbrev CS : List (Str × PV) := [("LEAST_words", (.int (-2147483648))), ("GREATEST", (.int (2147483647))), ("MOST_CHARACTERS", (.int (24))), ("MOST_DEEP", (.int (40))), ("MOST_DEEP_HOST", (.int (10))), ("MOST_RANK", (.int (40))), ("MOST_RANK_HOST", (.int (36))), ("KINDS", (.rod [(.str [116, 111, 107, 101, 110]), (.str [99, 104, 97, 108, 108, 101, 110, 103, 101]), (.str [115, 101, 97, 108]), (.str [116, 105, 99, 107, 101, 116]), (.str [112, 97, 103, 101])] [(.int (3)), (.int (2)), (.int (4)), (.int (6)), (.int (4))])), ("SEALED", (.tup [(.str [115, 101, 97, 108]), (.str [112, 97, 103, 101])])), ("MOST_INSTRUCTIONS", (.int (24))), ("REGISTERS", (.int (4))), ("LEAST_machine", (.int (-2147483648))), ("MANY", (.int (4294967296))), ("FORMS", (.rod [(.str [115, 101, 116]), (.str [99, 111, 112, 121]), (.str [97, 100, 100]), (.str [108, 101, 115, 115]), (.str [115, 97, 109, 101]), (.str [122, 101, 114, 111]), (.str [106, 117, 109, 112])] [(.str [114, 110]), (.str [114, 114]), (.str [114, 114, 114]), (.str [114, 114, 114]), (.str [114, 114, 114]), (.str [114, 116]), (.str [116])])), ("OTHERS", (.rod [(.str [108, 111, 97, 100]), (.str [115, 116, 111, 114, 101]), (.str [116, 101, 108, 108]), (.str [116, 111, 107, 101, 110]), (.str [101, 110, 100])] [(.str [114, 114, 114]), (.str [114, 114, 114]), (.str [114, 114]), (.str [114, 114]), (.str [])]))]
abbrev FR : List Str := ["ValueError", "abs", "all", "bool", "int", "isinstance", "len", "list", "max", "range", "str", "super", "tuple"]
abbrev CL : List Str := ["HermitError", "NotValid", "Atom"]
abbrev G : Gt := mkG DS CS CL FR
theorem ok_is_number : DfOk G d_is_number :=
  ⟨by decide +kernel, by kernel_rfl, rfl, rfl, fun _ _ _ _ _ _ us hl => match us, hl with | [_], _ => rfl, rfl, rfl⟩
theorem ok_is_text : DfOk G d_is_text :=
  ⟨by decide +kernel, by kernel_rfl, rfl, rfl, fun _ _ _ _ _ _ us hl => match us, hl with | [_], _ => rfl, rfl, rfl⟩
theorem ok_fits_depth : DfOk G d_fits_depth :=
  ⟨by decide +kernel, by kernel_rfl, rfl, rfl, fun _ _ _ _ _ _ us hl => match us, hl with | [_, _], _ => rfl, rfl, rfl⟩
theorem ok_is_host_word : DfOk G d_is_host_word :=
  ⟨by decide +kernel, by kernel_rfl, rfl, rfl, fun _ _ _ _ _ _ us hl => match us, hl with | [_], _ => rfl, rfl, rfl⟩
theorem ok_gather : DfOk G d_gather :=
  ⟨by decide +kernel, by kernel_rfl, rfl, rfl, fun _ _ _ _ _ _ us hl => match us, hl with | [_, _], _ => rfl, rfl, rfl⟩
theorem ok_atoms_in : DfOk G d_atoms_in :=
  ⟨by decide +kernel, by kernel_rfl, rfl, rfl, fun _ _ _ _ _ _ us hl => match us, hl with | [_], _ => rfl, rfl, rfl⟩
theorem ok_rank_of : DfOk G d_rank_of :=
  ⟨by decide +kernel, by kernel_rfl, rfl, rfl, fun _ _ _ _ _ _ us hl => match us, hl with | [_], _ => rfl, rfl, rfl⟩
theorem ok_is_integer : DfOk G d_is_integer :=
  ⟨by decide +kernel, by kernel_rfl, rfl, rfl, fun _ _ _ _ _ _ us hl => match us, hl with | [_], _ => rfl, rfl, rfl⟩
theorem ok_is_below : DfOk G d_is_below :=
  ⟨by decide +kernel, by kernel_rfl, rfl, rfl, fun _ _ _ _ _ _ us hl => match us, hl with | [_, _], _ => rfl, rfl, rfl⟩
theorem ok_wrapped : DfOk G d_wrapped :=
  ⟨by decide +kernel, by kernel_rfl, rfl, rfl, fun _ _ _ _ _ _ us hl => match us, hl with | [_], _ => rfl, rfl, rfl⟩
theorem ok_form_of : DfOk G d_form_of :=
  ⟨by decide +kernel, by kernel_rfl, rfl, rfl, fun _ _ _ _ _ _ us hl => match us, hl with | [_], _ => rfl, rfl, rfl⟩
theorem ok_is_part : DfOk G d_is_part :=
  ⟨by decide +kernel, by kernel_rfl, rfl, rfl, fun _ _ _ _ _ _ us hl => match us, hl with | [_, _, _], _ => rfl, rfl, rfl⟩
theorem ok_is_instruction : DfOk G d_is_instruction :=
  ⟨by decide +kernel, by kernel_rfl, rfl, rfl, fun _ _ _ _ _ _ us hl => match us, hl with | [_, _], _ => rfl, rfl, rfl⟩
theorem ok_is_program : DfOk G d_is_program :=
  ⟨by decide +kernel, by kernel_rfl, rfl, rfl, fun _ _ _ _ _ _ us hl => match us, hl with | [_], _ => rfl, rfl, rfl⟩
theorem ok_is_registers : DfOk G d_is_registers :=
  ⟨by decide +kernel, by kernel_rfl, rfl, rfl, fun _ _ _ _ _ _ us hl => match us, hl with | [_], _ => rfl, rfl, rfl⟩
theorem ok__law_next : DfOk G d__law_next :=
  ⟨by decide +kernel, by kernel_rfl, rfl, rfl, fun _ _ _ _ _ _ us hl => match us, hl with | [_, _], _ => rfl, rfl, rfl⟩
theorem ok__law_forms : DfOk G d__law_forms :=
  ⟨by decide +kernel, by kernel_rfl, rfl, rfl, fun _ _ _ _ _ _ us hl => match us, hl with | [], _ => rfl, rfl, rfl⟩
theorem ok__law_part : DfOk G d__law_part :=
  ⟨by decide +kernel, by kernel_rfl, rfl, rfl, fun _ _ _ _ _ _ us hl => match us, hl with | [_, _, _], _ => rfl, rfl, rfl⟩
theorem ok__law_row : DfOk G d__law_row :=
  ⟨by decide +kernel, by kernel_rfl, rfl, rfl, fun _ _ _ _ _ _ us hl => match us, hl with | [_, _, _], _ => rfl, rfl, rfl⟩
theorem ok__law_bent : DfOk G d__law_bent :=
  ⟨by decide +kernel, by kernel_rfl, rfl, rfl, fun _ _ _ _ _ _ us hl => match us, hl with | [_, _], _ => rfl, rfl, rfl⟩
theorem ok__law_number : DfOk G d__law_number :=
  ⟨by decide +kernel, by kernel_rfl, rfl, rfl, fun _ _ _ _ _ _ us hl => match us, hl with | [_, _, _], _ => rfl, rfl, rfl⟩
theorem ok__law_fits : DfOk G d__law_fits :=
  ⟨by decide +kernel, by kernel_rfl, rfl, rfl, fun _ _ _ _ _ _ us hl => match us, hl with | [_, _, _], _ => rfl, rfl, rfl⟩
theorem ok__law_is_row : DfOk G d__law_is_row :=
  ⟨by decide +kernel, by kernel_rfl, rfl, rfl, fun _ _ _ _ _ _ us hl => match us, hl with | [_, _], _ => rfl, rfl, rfl⟩
theorem ok__law_due : DfOk G d__law_due :=
  ⟨by decide +kernel, by kernel_rfl, rfl, rfl, fun _ _ _ _ _ _ us hl => match us, hl with | [_], _ => rfl, rfl, rfl⟩
theorem ok_law : DfOk G d_law :=
  ⟨by decide +kernel, by kernel_rfl, rfl, rfl, fun _ _ _ _ _ _ us hl => match us, hl with | [_], _ => rfl, rfl, rfl⟩
theorem all_ok : ∀ D ∈ DS, DfOk G D := by
  intro D hD
  simp only [DS, List.mem_cons, List.not_mem_nil, or_false] at hD
  rcases hD with rfl | rfl | rfl | rfl | rfl | rfl | rfl | rfl | rfl | rfl | rfl | rfl | rfl | rfl | rfl | rfl | rfl | rfl | rfl | rfl | rfl | rfl | rfl | rfl | rfl
  · exact ok_is_number
  · exact ok_is_text
  · exact ok_fits_depth
  · exact ok_is_host_word
  · exact ok_gather
  · exact ok_atoms_in
  · exact ok_rank_of
  · exact ok_is_integer
  · exact ok_is_below
  · exact ok_wrapped
  · exact ok_form_of
  · exact ok_is_part
  · exact ok_is_instruction
  · exact ok_is_program
  · exact ok_is_registers
  · exact ok__law_next
  · exact ok__law_forms
  · exact ok__law_part
  · exact ok__law_row
  · exact ok__law_bent
  · exact ok__law_number
  · exact ok__law_fits
  · exact ok__law_is_row
  · exact ok__law_due
  · exact ok_law
def names : List PySem.Str := (["HermitError", "NotValid", "LEAST_words", "GREATEST", "MOST_CHARACTERS", "MOST_DEEP", "MOST_DEEP_HOST", "MOST_RANK", "MOST_RANK_HOST", "KINDS", "SEALED", "is_number", "is_text", "Atom", "fits_kind", "fits_depth", "is_word", "is_host_word", "gather", "atoms_in"] : List PySem.Str) ++ (["rank_of", "MOST_INSTRUCTIONS", "REGISTERS", "LEAST_machine", "MANY", "FORMS", "OTHERS", "is_integer", "is_below", "wrapped", "form_of", "is_part", "is_instruction", "is_program", "is_registers", "_law_next", "_law_forms", "_law_part", "_law_row", "_law_bent"] : List PySem.Str) ++ (["_law_number", "_law_fits", "_law_is_row", "_law_due"] : List PySem.Str)
abbrev R : PySem.W.OpenRow := PySem.W.OpenLaw.row PySem.Challenge.rw_hermithall_k23_what_is_a_program
abbrev FA : List He.Fa := FR.map He.Fa.free ++ (CL.map He.Fa.glo ++ DS.map fun D => He.Fa.glo D.x)
abbrev hk : PySem.W.Hook := hookP 4 FA (DS.map (·.d)) CS CL
def ob : PySem.W.SharedT → hk.α := obP 4 FA (DS.map (·.d)) CS CL
theorem run_top0 (w : World) : HandSHeadRun.RunEq R (PySem.W.view R.prog [48]) hk ob 20000 names (w.withFollow "special-get-raises" false) := by
  intro os
  kernel_rfl
theorem run_top1 (w : World) : HandSHeadRun.RunEq R (PySem.W.view R.prog [48]) hk ob 20000 names (w.withFollow "special-get-raises" true) := by
  intro os
  kernel_rfl
theorem run_top (w : World) : HandSHeadRun.RunEq R (PySem.W.view R.prog [48]) hk ob 20000 names w :=
  PySem.W.byRow2 "special-get-raises" (P := fun w => HandSHeadRun.RunEq R (PySem.W.view R.prog [48]) hk ob 20000 names w) run_top0 run_top1 w
theorem ho : ∀ s, ob s = hk.obs s.abs := fun s => obP_eq s
open PySem.W PyProof.Rows in
theorem a1 : opening R.prog = plainProg R.prog.main.scope.names := by kernel_rfl
open PySem.W PyProof.Rows in
theorem a2 : ∀ s, fenceModules? R.prog s = some s := fun s => by kernel_rfl
open PySem.W PyProof.Rows in
theorem a3 : defOf (view R.prog [48]) R.name = some (HandSHeadRun.topDef R.prog 48, []) := by kernel_rfl
open PySem.W PyProof.Rows in
theorem a4 : R.prog.theDef R.name = some ((HandSHeadRun.topDef R.prog 48).params, (HandSHeadRun.topDef R.prog 48).body, (HandSHeadRun.topDef R.prog 48).scope) := by kernel_rfl
open PySem.W PyProof.Rows in
theorem a5 : kwWritten? (HandSHeadRun.topDef R.prog 48).params.kwonlyargs (HandSHeadRun.topDef R.prog 48).params.kw_defaults = some [] := by kernel_rfl
open PySem.W PyProof.Rows in
theorem a6 : (!R.writes || R.records.isEmpty) = true := by rfl
open PySem.W PyProof.Rows in
theorem a8 : (chainsOk (view R.prog [48]) && opensWell R.prog && (frees R.toRowW && R.within.isEmpty)) = true := by decide +kernel
open PySem.W PyProof.Rows in
theorem a9 : R.prog.bare := ⟨rfl, rfl, rfl, rfl, rfl, by decide +kernel⟩
end Lk23

set_option Elab.async false
set_option linter.all false
set_option maxRecDepth 100000
set_option maxHeartbeats 0

open PySem PySem.W PySem.Calls PyProof.Rows
set_option maxRecDepth 100000 in
set_option maxHeartbeats 0 in
theorem PySem.Challenge.cw_hermithall_k23_what_is_a_program_holds : PySem.Challenge.rw_hermithall_k23_what_is_a_program.Holds := by
  w_on; o_law
  refine @HandSHeadRun.head_any Lk23.R (view Lk23.R.prog [48]) Lk23.hk Lk23.ob 20000 Lk23.names (HandSHeadRun.topDef Lk23.R.prog 48) [] Lk23.ho Lk23.a1 Lk23.a2 Lk23.run_top Lk23.a3 Lk23.a4 Lk23.a5 Lk23.a6 (by first | assumption | decide +kernel) Lk23.a8 Lk23.a9 ?hw ?hc
  case hw => w_witness2
  case hc =>
    refine L2.walk_ofE (l := PySem.Challenge.rw_hermithall_k23_what_is_a_program) (n := 63) (k := Lk23.depth + 1) (x := "script") (CX := L2.CX0) rfl (by decide) (by kernel_rfl) ⟨rfl, by decide, by decide⟩ ?F (fun _ _ _ _ z => z)
    intro w mg fa h Y G hmg0
    obtain ⟨K, KX, c, cc⟩ := Y
    have hmg : mg ("law" : PySem.Str) = some (.ref fa) := by
      have e : (HandSHeadRun.topDef (OpenLaw.row PySem.Challenge.rw_hermithall_k23_what_is_a_program).prog 48).name = ("law" : PySem.Str) := by kernel_rfl
      rw [← e]
      exact hmg0
    obtain ⟨fd, hb, hF⟩ := HP.law_end (P := (PySem.Challenge.rw_hermithall_k23_what_is_a_program).prog) (w := w) (DS := Lk23.DS) (CS := Lk23.CS) (CL := Lk23.CL) (FR := Lk23.FR) (k := Lk23.depth) (fuel := Lk23.fuel) (li := 24) (L := Lk23.d_law) Lk23.all_ok rfl rfl (by intro D hD; simp only [Lk23.DS, List.mem_cons, List.not_mem_nil, or_false] at hD; rcases hD with rfl | rfl | rfl | rfl | rfl | rfl | rfl | rfl | rfl | rfl | rfl | rfl | rfl | rfl | rfl | rfl | rfl | rfl | rfl | rfl | rfl | rfl | rfl | rfl | rfl <;> rfl)
      (fun ns hn => by have h := Lk23.plain ns hn; rw [show Lk23.gl = HP.globOf Lk23.CS from HP.globOf_glv rfl] at h; exact h) KX G hmg c cc
    exact ⟨K, fd, HP.spLaw K, KX, hb, fun H a ns hl ho hS => ⟨a, ns, rfl, hl, ho, hS, fun _ => rfl⟩, hF⟩

