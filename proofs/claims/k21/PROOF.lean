import PyProof.Rows.All
import HandS.ForExc
import HandS.CallSlots
import HandS.IsInst
import HandS.Wide
import HandS.Flow
import HandS.More
import HandS.TupAny
import HandS.Text
import HandS.Iter
import HandS.Style
import HandS.Defaults
import HandS.HeadEnd
import HandS.HeadHook1
import HandS.HeadHook2
import HandS.Head0
import HandS.Head1
import HandS.Head2
import PySem.Challenge.RW_hermithall_k21_words_of_tables
set_option autoImplicit false
/-! A small reader of Python bodies over plain data: values, memory, expressions, statements, and what they come to. Nothing of the kit stands in it. -/
namespace HP

/-- classes -/
inductive Ty where
  | int | str | bool | tuple | list | dict | own (c : Nat)
  deriving DecidableEq, Repr
/-- values: tuples are data; mutable things stand in the memory; obj is an instance that never changes -/
inductive PV where
  | non
  | bl (b : Bool)
  | int (i : Int)
  | str (s : List Nat)
  | tup (vs : List PV)
  | rol (vs : List PV)
  | ref (n : Nat)
  | obj (c : Nat) (fs : List PV)
  | ty (T : Ty)

inductive Cell where
  | lst (xs : List PV)
  | dic (kvs : List (PV × PV))
  | ins (c : Nat) (fs : List (List Nat × PV))

abbrev Mem := List Cell
abbrev Env := List (Option PV)

inductive Res (α : Type) where
  | ok (a : α) (M : Mem)
  | exc (c : Nat) (M : Mem)
  | fail

namespace Res
variable {α β : Type}
def bind (r : Res α) (f : α → Mem → Res β) : Res β :=
  match r with
  | .ok a M => f a M
  | .exc c M => .exc c M
  | .fail => .fail
@[simp] theorem bind_ok (a : α) (M : Mem) (f : α → Mem → Res β) : bind (.ok a M) f = f a M := rfl
@[simp] theorem bind_exc (c : Nat) (M : Mem) (f : α → Mem → Res β) : bind (.exc c M) f = .exc c M := rfl
@[simp] theorem bind_fail (f : α → Mem → Res β) : bind .fail f = .fail := rfl
end Res

/-- most items, signs -/
def lim : Nat := 1000000

/-! ### data as it stands in a memory -/
inductive PD where
  | non | bl (b : Bool) | int (i : Int) | str (s : List Nat) | tup (vs : List PD) | lst (vs : List PD)

/-- of nesting at most that deep -/
def allD (f : PV → Option PD) : List PV → Option (List PD)
  | [] => some []
  | x :: xs => match f x with
    | none => none
    | some d => match allD f xs with
      | none => none
      | some ds => some (d :: ds)
def toD (M : Mem) : Nat → PV → Option PD
  | 0, _ => none
  | k + 1, v => match v with
    | .non => some .non
    | .bl b => some (.bl b)
    | .int i => some (.int i)
    | .str s => some (.str s)
    | .tup vs => match allD (toD M k) vs with
      | some ds => some (.tup ds)
      | none => none
    | .rol vs => match allD (toD M k) vs with
      | some ds => some (.lst ds)
      | none => none
    | .ref n => match M[n]? with
      | some (.lst xs) => match allD (toD M k) xs with
        | some ds => some (.lst ds)
        | none => none
      | _ => none
    | .obj _ _ => none
    | .ty _ => none

mutual
def eqD : PD → PD → Bool
  | .non, b => match b with | .non => true | _ => false
  | .bl a, b => match b with | .bl c => a == c | .int j => (if a then 1 else 0) == j | _ => false
  | .int i, b => match b with | .bl c => i == (if c then 1 else 0) | .int j => i == j | _ => false
  | .str x, b => match b with | .str y => x == y | _ => false
  | .tup xs, b => match b with | .tup ys => eqDs xs ys | _ => false
  | .lst xs, b => match b with | .lst ys => eqDs xs ys | _ => false
def eqDs : List PD → List PD → Bool
  | [], ys => match ys with | [] => true | _ => false
  | x :: xs, ys => match ys with | [] => false | y :: ys => eqD x y && eqDs xs ys
end

/-- == of two plain scalars -/
def eqS (a b : PV) : Option Bool :=
  match a with
  | .non => match b with | .non => some true | .bl _ => some false | .int _ => some false | .str _ => some false | _ => none
  | .bl x => match b with | .non => some false | .bl y => some (x == y) | .str _ => some false | _ => none
  | .int i => match b with | .non => some false | .int j => some (i == j) | .str _ => some false | _ => none
  | .str s => match b with | .non => some false | .bl _ => some false | .int _ => some false | .str t => some (s == t) | _ => none
  | _ => none
def eqPV (M : Mem) (a b : PV) : Option Bool :=
  match eqS a b with
  | some r => some r
  | none => match toD M 60 a with
    | some x => match toD M 60 b with
      | some y => some (eqD x y)
      | none => none
    | none => none

/-! ### operations on values -/
inductive O2 where
  | add | sub | mul | fdiv | mod | pow
  | eq | ne | lt | le | gt | ge | is | isnot | mem | notin
  | idx
  deriving DecidableEq, Repr
inductive O1 where
  | neg
  deriving DecidableEq, Repr
/-- calls of what is built in, the receiver first -/
inductive On where
  | len | abs | int | list | tuple | append | isi
  deriving DecidableEq, Repr
/-- the kind of a method's receiver -/
inductive MT where
  | list | str
  deriving DecidableEq, Repr

def ltL : List Nat → List Nat → Bool
  | [], ys => match ys with | [] => false | _ :: _ => true
  | x :: xs, ys => match ys with
    | [] => false
    | y :: ys => if x < y then true else if x == y then ltL xs ys else false

def ok {α : Type} (a : α) (M : Mem) : Res α := .ok a M

/-- the place that an index of any sign means -/
def ixP (n : Nat) (i : Int) : Option Nat := if 0 ≤ i then (if i < n then some i.toNat else none) else if -(n : Int) ≤ i then some (i + n).toNat else none
def getI (xs : List PV) (i : Int) : Option PV := match ixP xs.length i with | some j => xs[j]? | none => none

def small (i : Int) : Bool := decide (-(2 ^ 64) < i) && decide (i < 2 ^ 64)

def op2 (o : O2) (a b : PV) (M : Mem) : Res PV :=
  match o with
  | .add => match a with
    | .int i => match b with | .int j => .ok (.int (i + j)) M | _ => .fail
    | .str x => match b with | .str y => if x.length + y.length ≤ lim then .ok (.str (x ++ y)) M else .fail | _ => .fail
    | .tup xs => match b with | .tup ys => if xs.length + ys.length ≤ lim then .ok (.tup (xs ++ ys)) M else .fail | _ => .fail
    | .ref n => match b with
      | .ref m => match M[n]? with
        | some (.lst xs) => match M[m]? with
          | some (.lst ys) => if xs.length + ys.length ≤ lim then .ok (.ref M.length) (M ++ [.lst (xs ++ ys)]) else .fail
          | _ => .fail
        | _ => .fail
      | _ => .fail
    | _ => .fail
  | .sub => match a with
    | .int i => match b with | .int j => .ok (.int (i - j)) M | _ => .fail
    | _ => .fail
  | .mul => match a with
    | .int i => match b with | .int j => if small i || small j then .ok (.int (i * j)) M else .fail | _ => .fail
    | _ => .fail
  | .fdiv => match a with
    | .int i => match b with | .int j => if 0 < j ∧ j < 2 ^ 64 then .ok (.int (i / j)) M else .fail | _ => .fail
    | _ => .fail
  | .mod => match a with
    | .int i => match b with | .int j => if 0 < j then .ok (.int (i % j)) M else .fail | _ => .fail
    | _ => .fail
  | .pow => match a with
    | .int i => match b with | .int j => if 0 ≤ j ∧ j ≤ 1000000 ∧ i.natAbs < 2 ^ 64 then .ok (.int (i ^ j.toNat)) M else .fail | _ => .fail
    | _ => .fail
  | .eq => match eqPV M a b with | some r => .ok (.bl r) M | none => .fail
  | .ne => match eqPV M a b with | some r => .ok (.bl (!r)) M | none => .fail
  | .lt => match a with
    | .int i => match b with | .int j => .ok (.bl (decide (i < j))) M | _ => .fail
    | .str x => match b with | .str y => .ok (.bl (ltL x y)) M | _ => .fail
    | _ => .fail
  | .le => match a with
    | .int i => match b with | .int j => .ok (.bl (decide (i ≤ j))) M | _ => .fail
    | .str x => match b with | .str y => .ok (.bl (!ltL y x)) M | _ => .fail
    | _ => .fail
  | .gt => match a with
    | .int i => match b with | .int j => .ok (.bl (decide (j < i))) M | _ => .fail
    | .str x => match b with | .str y => .ok (.bl (ltL y x)) M | _ => .fail
    | _ => .fail
  | .ge => match a with
    | .int i => match b with | .int j => .ok (.bl (decide (j ≤ i))) M | _ => .fail
    | .str x => match b with | .str y => .ok (.bl (!ltL x y)) M | _ => .fail
    | _ => .fail
  | .is => match b with
    | .non => match a with | .non => .ok (.bl true) M | _ => .ok (.bl false) M
    | _ => .fail
  | .isnot => match b with
    | .non => match a with | .non => .ok (.bl false) M | _ => .ok (.bl true) M
    | _ => .fail
  | .mem => .fail
  | .notin => .fail
  | .idx => match b with
    | .int i => match a with
      | .tup xs => match getI xs i with | some v => .ok v M | none => .fail
      | .rol xs => match getI xs i with | some v => .ok v M | none => .fail
      | .str s => if s.length ≤ lim then (match ixP s.length i with | some j => (match s[j]? with | some c => .ok (.str [c]) M | none => .fail) | none => .fail) else .fail
      | .ref n => match M[n]? with
        | some (.lst xs) => match getI xs i with | some v => .ok v M | none => .fail
        | _ => .fail
      | _ => .fail
    | _ => .fail

/-- x op= y -/
def iop (o : O2) (a b : PV) (M : Mem) : Res PV :=
  match o with
  | .add => match a with
    | .int _ => op2 .add a b M
    | .str _ => op2 .add a b M
    | _ => .fail
  | .sub => op2 .sub a b M
  | .mul => op2 .mul a b M
  | _ => .fail

def op1 (o : O1) (a : PV) (M : Mem) : Res PV :=
  match o with
  | .neg => match a with | .int i => .ok (.int (-i)) M | _ => .fail

/-- the kind of a value; an instance's class -/
inductive Kd where
  | non | bl | int | str | tup | lst | dic | own (c : Nat)
  deriving DecidableEq
def kd (v : PV) (M : Mem) : Option Kd :=
  match v with
  | .non => some .non
  | .bl _ => some .bl
  | .int _ => some .int
  | .str _ => some .str
  | .tup _ => some .tup
  | .rol _ => some .lst
  | .ref n => match M[n]? with
    | some (.lst _) => some .lst
    | _ => none
  | .obj _ _ => none
  | .ty _ => none
def isK (k : Kd) : Ty → Option Bool
  | .int => some (match k with | .int => true | .bl => true | _ => false)
  | .bool => some (match k with | .bl => true | _ => false)
  | .str => some (match k with | .str => true | _ => false)
  | .tuple => some (match k with | .tup => true | _ => false)
  | .list => some (match k with | .lst => true | _ => false)
  | .dict => none
  | .own _ => none
def isi (v : PV) (M : Mem) (T : Ty) : Option Bool :=
  match kd v M with
  | some k => isK k T
  | none => none

def opn (o : On) (as : List PV) (M : Mem) : Res PV :=
  match o with
  | .len => match as with
    | [.tup xs] => .ok (.int xs.length) M
    | [.rol xs] => .ok (.int xs.length) M
    | [.str s] => if s.length ≤ lim then .ok (.int s.length) M else .fail
    | [.ref n] => match M[n]? with
      | some (.lst xs) => .ok (.int xs.length) M
      | _ => .fail
    | _ => .fail
  | .abs => match as with
    | [.int i] => .ok (.int (if i < 0 then -i else i)) M
    | _ => .fail
  | .int => match as with
    | [.int i] => .ok (.int i) M
    | [.bl b] => .ok (.int (if b then 1 else 0)) M
    | _ => .fail
  | .list => match as with
    | [.tup xs] => .ok (.ref M.length) (M ++ [.lst xs])
    | [.rol xs] => .ok (.ref M.length) (M ++ [.lst xs])
    | [.ref n] => match M[n]? with
      | some (.lst xs) => .ok (.ref M.length) (M ++ [.lst xs])
      | _ => .fail
    | _ => .fail
  | .tuple => match as with
    | [.tup xs] => .ok (.tup xs) M
    | [.rol xs] => .ok (.tup xs) M
    | [.ref n] => match M[n]? with
      | some (.lst xs) => .ok (.tup xs) M
      | _ => .fail
    | _ => .fail
  | .append => match as with
    | [.ref n, v] => match M[n]? with
      | some (.lst xs) => if xs.length < lim then .ok .non (M.set n (.lst (xs ++ [v]))) else .fail
      | _ => .fail
    | _ => .fail
  | .isi => match as with
    | [v, .ty T] => match isi v M T with
      | some b => .ok (.bl b) M
      | none => .fail
    | _ => .fail

/-- truth -/
def tru (v : PV) (M : Mem) : Option Bool :=
  match v with
  | .non => some false
  | .bl b => some b
  | .int i => some (i != 0)
  | .str s => if s.length ≤ lim then some (!s.isEmpty) else none
  | .tup xs => some (!xs.isEmpty)
  | .rol xs => some (!xs.isEmpty)
  | .ref n => match M[n]? with
    | some (.lst xs) => some (!xs.isEmpty)
    | _ => none
  | _ => none

def tyM (k : MT) (v : PV) (M : Mem) : Bool :=
  match k with
  | .list => match v with
    | .ref n => match M[n]? with
      | some (.lst _) => true
      | _ => false
    | _ => false
  | .str => match v with
    | .str _ => true
    | _ => false

/-- xs[a:b] -/
def cutIx (n d : Nat) : Option Int → Nat
  | none => d
  | some v => if v < 0 then (v + (n : Int)).toNat else min v.toNat n
def cut {α : Type} (xs : List α) (lo hi : Option Int) : List α := (xs.drop (cutIx xs.length 0 lo)).take (cutIx xs.length xs.length hi - cutIx xs.length 0 lo)

/-! ### the texts -/
inductive Tg where
  | name (i : Nat)
  | tup (ts : List Tg)
mutual
inductive E where
  | var (i : Nat)
  | lit (v : PV)
  | glob (g : Nat)
  | op1 (o : O1) (a : E)
  | op2 (o : O2) (a b : E)
  | nott (a : E)
  | and (a b : E)
  | or (a b : E)
  | chain (o p : O2) (a b c : E)
  | ife (t : T) (a b : E)
  | tup (es : List E)
  | lst (es : List E)
  | call (f : Nat) (es : List E)
  | opn (o : On) (es : List E)
  | meth (k : MT) (o : On) (a : E) (es : List E)
inductive T where
  | val (e : E)
  | cmp (o : O2) (a b : E)
  | chain (o p : O2) (a b c : E)
  | and (a b : T)
  | or (a b : T)
  | not (a : T)
end
inductive I where
  | val (e : E)
  | range (es : List E)
inductive S where
  | asg (g : Tg) (e : E)
  | par (i j : Nat) (a b : E)
  | par3 (i j l : Nat) (a b c : E)
  | setI (a i e : E)
  | aug (i : Nat) (o : O2) (e : E)
  | augI (a i : E) (o : O2) (e : E)
  | expr (e : E)
  | ret (e : E)
  | retN
  | ifs (t : T) (a b : List S)
  | forr (g : Tg) (it : I) (b : List S)
  | whil (t : T) (b : List S)
  | pass
  | brk
  | cnt

/-! ### what they come to -/
structure Wd where
  call : Nat → List PV → Mem → Res PV
  glob : Nat → Option PV
  fuel : Nat

mutual
def evE (w : Wd) : E → Env → Mem → Res PV
  | .var i, env, M => match env[i]? with | some (some v) => .ok v M | _ => .fail
  | .lit v, _, M => .ok v M
  | .glob g, _, M => match w.glob g with | some v => .ok v M | none => .fail
  | .op1 o a, env, M => (evE w a env M).bind fun x M1 => op1 o x M1
  | .op2 o a b, env, M => (evE w a env M).bind fun x M1 => (evE w b env M1).bind fun y M2 => op2 o x y M2
  | .nott a, env, M => (evE w a env M).bind fun v M1 => match tru v M1 with | some b => .ok (.bl (!b)) M1 | none => .fail
  | .and a b, env, M => (evE w a env M).bind fun x M1 => match tru x M1 with
    | some c => if c then evE w b env M1 else .ok x M1
    | none => .fail
  | .or a b, env, M => (evE w a env M).bind fun x M1 => match tru x M1 with
    | some c => if c then .ok x M1 else evE w b env M1
    | none => .fail
  | .chain o p a b c, env, M => (evE w a env M).bind fun x M1 => (evE w b env M1).bind fun y M2 => (op2 o x y M2).bind fun r M3 => match r with
    | .bl k => if k then (evE w c env M3).bind fun z M4 => op2 p y z M4 else .ok (.bl false) M3
    | _ => .fail
  | .ife t a b, env, M => (evT w t env M).bind fun c M1 => if c then evE w a env M1 else evE w b env M1
  | .tup es, env, M => (evEs w es env M).bind fun vs M1 => if vs.length ≤ lim then .ok (.tup vs) M1 else .fail
  | .lst es, env, M => (evEs w es env M).bind fun vs M1 => if vs.length ≤ lim then .ok (.ref M1.length) (M1 ++ [.lst vs]) else .fail
  | .call f es, env, M => (evEs w es env M).bind fun vs M1 => w.call f vs M1
  | .opn o es, env, M => (evEs w es env M).bind fun vs M1 => opn o vs M1
  | .meth k o a es, env, M => (evE w a env M).bind fun v M1 => if tyM k v M1 then (evEs w es env M1).bind fun vs M2 => opn o (v :: vs) M2 else .fail
def evEs (w : Wd) : List E → Env → Mem → Res (List PV)
  | [], _, M => .ok [] M
  | e :: es, env, M => (evE w e env M).bind fun v M1 => (evEs w es env M1).bind fun vs M2 => .ok (v :: vs) M2
def evT (w : Wd) : T → Env → Mem → Res Bool
  | .val e, env, M => (evE w e env M).bind fun v M1 => match tru v M1 with | some b => .ok b M1 | none => .fail
  | .cmp o a b, env, M => (evE w a env M).bind fun x M1 => (evE w b env M1).bind fun y M2 => (op2 o x y M2).bind fun r M3 => match r with
    | .bl k => .ok k M3
    | _ => .fail
  | .chain o p a b c, env, M => (evE w a env M).bind fun x M1 => (evE w b env M1).bind fun y M2 => (op2 o x y M2).bind fun r M3 => match r with
    | .bl k => if k then (evE w c env M3).bind fun z M4 => (op2 p y z M4).bind fun r M5 => (match r with | .bl k => .ok k M5 | _ => .fail) else .ok false M3
    | _ => .fail
  | .and a b, env, M => (evT w a env M).bind fun c M1 => if c then evT w b env M1 else .ok false M1
  | .or a b, env, M => (evT w a env M).bind fun c M1 => if c then .ok true M1 else evT w b env M1
  | .not a, env, M => (evT w a env M).bind fun c M1 => .ok (!c) M1
end

/-- what a for walks: a list in the memory, or items -/
inductive Src where
  | mem (n : Nat)
  | items (xs : List PV)
def rangeL (lo : Int) (n : Nat) : List PV := (List.range n).map fun (k : Nat) => .int (lo + (k : Int))
def evI (w : Wd) (it : I) (env : Env) (M : Mem) : Res Src :=
  match it with
  | .val e => (evE w e env M).bind fun v M1 => match v with
    | .tup xs => .ok (.items xs) M1
    | .rol xs => .ok (.items xs) M1
    | .str s => .ok (.items (s.map fun c => .str [c])) M1
    | .ref n => match M1[n]? with
      | some (.lst _) => .ok (.mem n) M1
      | _ => .fail
    | _ => .fail
  | .range es => (evEs w es env M).bind fun vs M1 => match vs with
    | [.int j] => if -(2 ^ 62) ≤ j ∧ j < 2 ^ 62 then .ok (.items (rangeL 0 j.toNat)) M1 else .fail
    | [.int i, .int j] => if -(2 ^ 62) ≤ i ∧ i < 2 ^ 62 ∧ -(2 ^ 62) ≤ j ∧ j < 2 ^ 62 then .ok (.items (rangeL i (j - i).toNat)) M1 else .fail
    | _ => .fail

mutual
def bindT : Tg → PV → Env → Option Env
  | .name i, v, env => if i < env.length then some (env.set i (some v)) else none
  | .tup ts, v, env => match v with
    | .tup vs => bindTs ts vs env
    | _ => none
def bindTs : List Tg → List PV → Env → Option Env
  | [], vs, env => match vs with | [] => some env | _ :: _ => none
  | t :: ts, vs, env => match vs with
    | [] => none
    | v :: vs => match bindT t v env with
      | some env' => bindTs ts vs env'
      | none => none
end

inductive Ctl where
  | nxt (env : Env) (M : Mem)
  | ret (v : PV) (M : Mem)
  | brk (env : Env) (M : Mem)
  | cnt (env : Env) (M : Mem)
  | exc (c : Nat) (env : Env) (M : Mem)
  | fail
/-- an expression's outcome, then a statement's -/
def Res.thn {α : Type} (r : Res α) (env : Env) (f : α → Mem → Ctl) : Ctl :=
  match r with
  | .ok a M => f a M
  | .exc c M => .exc c env M
  | .fail => .fail
@[simp] theorem Res.thn_ok {α : Type} (a : α) (M : Mem) (env : Env) (f : α → Mem → Ctl) : Res.thn (.ok a M) env f = f a M := rfl
@[simp] theorem Res.thn_exc {α : Type} (c : Nat) (M : Mem) (env : Env) (f : α → Mem → Ctl) : Res.thn (.exc c M) env f = .exc c env M := rfl
@[simp] theorem Res.thn_fail {α : Type} (env : Env) (f : α → Mem → Ctl) : Res.thn .fail env f = .fail := rfl

def Ctl.seq (c : Ctl) (f : Env → Mem → Ctl) : Ctl :=
  match c with
  | .nxt env M => f env M
  | c => c
/-- behind a loop's turn: on, or out -/
def Ctl.turn (c : Ctl) (on out : Env → Mem → Ctl) : Ctl :=
  match c with
  | .nxt env M => on env M
  | .cnt env M => on env M
  | .brk env M => out env M
  | c => c

/-- over items -/
def loopX (g : Tg) (body : Env → Mem → Ctl) : List PV → Env → Mem → Ctl
  | [], env, M => .nxt env M
  | x :: xs, env, M => match bindT g x env with
    | none => .fail
    | some env' => (body env' M).turn (loopX g body xs) .nxt
/-- over a list in the memory, read anew at each turn -/
def loopM (g : Tg) (body : Env → Mem → Ctl) (n : Nat) : Nat → Nat → Env → Mem → Ctl
  | 0, _, _, _ => .fail
  | k + 1, i, env, M => match M[n]? with
    | some (.lst xs) => match xs[i]? with
      | none => .nxt env M
      | some x => match bindT g x env with
        | none => .fail
        | some env' => (body env' M).turn (loopM g body n k (i + 1)) .nxt
    | _ => .fail
def loopW (t : Env → Mem → Res Bool) (body : Env → Mem → Ctl) : Nat → Env → Mem → Ctl
  | 0, _, _ => .fail
  | k + 1, env, M => (t env M).thn env fun c M1 => if c then (body env M1).turn (loopW t body k) .nxt else .nxt env M1

def setL (v i x : PV) (M : Mem) : Option Mem :=
  match v with
  | .ref n => match i with
    | .int i => match M[n]? with
      | some (.lst xs) => match ixP xs.length i with
        | some j => some (M.set n (.lst (xs.set j x)))
        | none => none
      | _ => none
    | _ => none
  | _ => none

mutual
def evS (w : Wd) : S → Env → Mem → Ctl
  | .asg g e, env, M => (evE w e env M).thn env fun v M1 => match bindT g v env with | some env' => .nxt env' M1 | none => .fail
  | .par i j a b, env, M => (evE w a env M).thn env fun x M1 => (evE w b env M1).thn env fun y M2 => .nxt ((env.set i (some x)).set j (some y)) M2
  | .par3 i j l a b c, env, M => (evE w a env M).thn env fun x M1 => (evE w b env M1).thn env fun y M2 => (evE w c env M2).thn env fun z M3 => .nxt (((env.set i (some x)).set j (some y)).set l (some z)) M3
  | .setI a i e, env, M => (evE w e env M).thn env fun x M1 => (evE w a env M1).thn env fun v M2 => (evE w i env M2).thn env fun j M3 => match setL v j x M3 with | some M4 => .nxt env M4 | none => .fail
  | .aug i o e, env, M => match env[i]? with
    | some (some x) => (evE w e env M).thn env fun y M1 => (iop o x y M1).thn env fun z M2 => .nxt (env.set i (some z)) M2
    | _ => .fail
  | .augI a i o e, env, M => (evE w a env M).thn env fun v M1 => (evE w i env M1).thn env fun j M2 => match v with
    | .ref n => (op2 .idx (.ref n) j M2).thn env fun x M3 => (evE w e env M3).thn env fun y M4 => (iop o x y M4).thn env fun z M5 => match setL (.ref n) j z M5 with | some M6 => .nxt env M6 | none => .fail
    | _ => .fail
  | .expr e, env, M => (evE w e env M).thn env fun _ M1 => .nxt env M1
  | .ret e, env, M => (evE w e env M).thn env fun v M1 => .ret v M1
  | .retN, _, M => .ret .non M
  | .ifs t a b, env, M => (evT w t env M).thn env fun c M1 => if c then evSs w a env M1 else evSs w b env M1
  | .forr g it b, env, M => (evI w it env M).thn env fun s M1 => match s with
    | .mem n => loopM g (fun env M => evSs w b env M) n w.fuel 0 env M1
    | .items xs => loopX g (fun env M => evSs w b env M) xs env M1
  | .whil t b, env, M => loopW (evT w t) (fun env M => evSs w b env M) w.fuel env M
  | .pass, env, M => .nxt env M
  | .brk, env, M => .brk env M
  | .cnt, env, M => .cnt env M
def evSs (w : Wd) : List S → Env → Mem → Ctl
  | [], env, M => .nxt env M
  | s :: ss, env, M => (evS w s env M).seq fun env' M' => evSs w ss env' M'
end

/-- a def: how many parameters, how many names in all, its body -/
structure Fn where
  params : Nat
  names : Nat
  body : List S

def Ctl.out : Ctl → Res PV
  | .nxt _ M => .ok .non M
  | .ret v M => .ok v M
  | .exc c _ M => .exc c M
  | _ => .fail

/-- a call, so many levels deep at most -/
def run (fs : List Fn) (glob : Nat → Option PV) (fuel : Nat) : Nat → Nat → List PV → Mem → Res PV
  | 0, _, _, _ => .fail
  | k + 1, f, vs, M => match fs[f]? with
    | none => .fail
    | some d => if vs.length = d.params ∧ d.params ≤ d.names then (evSs ⟨run fs glob fuel k, glob, fuel⟩ d.body (vs.map some ++ List.replicate (d.names - vs.length) none) M).out else .fail
/-- the module's constants by place -/
def glv (vs : List PV) (i : Nat) : Option PV := vs[i]?
/-- the script as a plain value -/
def scriptV (ns : List Int) : PV := .rol (ns.map PV.int)
end HP

set_option Elab.async false
set_option linter.all false
set_option autoImplicit false
set_option maxRecDepth 100000
set_option maxHeartbeats 4000000
/-! What the plain values and memories are in the layer's abstract heap; readings by outcomes. -/
namespace HP
open PySem L2

/-- the classes of the text: where they stand, the names of what their instances hold -/
structure Zx where
  cls : Nat → Addr
  fnm : Nat → List Str
structure Kx where
  K : PySem.W.Frag
  Z : Zx
abbrev kx (X : Cx) (Z : Zx) : Kx := ⟨X.K, Z⟩
/-- a tuple that is read and never changes -/
def TR (K : Kx) (H : Hp) (a : Addr) (us : List V) : Prop := H a = some (.tup us) ∨ (∃ o, H a = some (.frz o (.tup us))) ∨ ∀ H', SqT K.K H' a us
/-- a list that is read and never changes -/
def LR (K : Kx) (H : Hp) (a : Addr) (us : List V) : Prop := (∃ o, H a = some (.frz o (.lst us))) ∨ ∀ H', SqL K.K H' a us
theorem TR.sq {K : Kx} {H : Hp} {a : Addr} {us : List V} (h : TR K H a us) : SqT K.K H a us := by
  rcases h with h | ⟨o, h⟩ | h
  · exact .inl (.inl h)
  · exact .inl (.inr ⟨o, h⟩)
  · exact h H
theorem LR.sq {K : Kx} {H : Hp} {a : Addr} {us : List V} (h : LR K H a us) : SqL K.K H a us := by
  rcases h with ⟨o, h⟩ | h
  · exact .inl (.inr ⟨o, h⟩)
  · exact h H

def tyS : Ty → String
  | .int => "int" | .str => "str" | .bool => "bool" | .tuple => "tuple" | .list => "list" | .dict => "dict" | .own _ => ""
/-- code points -/
def vstr (s : List Nat) : Bool := s.all fun c => decide (c < 1114112)
mutual
/-- a value as it stands in a heap -/
def VR (K : Kx) (ρ : List Addr) (H : Hp) : PV → V → Prop
  | .non, u => u = .non
  | .bl b, u => u = .bl b
  | .int i, u => u = .int i
  | .str s, u => ∃ x : Str, u = .str x ∧ x.cps.toList = s ∧ vstr s = true
  | .tup vs, u => ∃ a us, u = .ref a ∧ TR K H a us ∧ VRs K ρ H vs us
  | .rol vs, u => ∃ a us, u = .ref a ∧ LR K H a us ∧ VRs K ρ H vs us
  | .ref n, u => ∃ a, u = .ref a ∧ ρ[n]? = some a
  | .obj _ _, _ => False
  | .ty T, u => match T with
    | .own c => u = .ref (K.Z.cls c)
    | T => u = .ty (tyS T)
def VRs (K : Kx) (ρ : List Addr) (H : Hp) : List PV → List V → Prop
  | [], us => us = []
  | v :: vs, us => ∃ u ur, us = u :: ur ∧ VR K ρ H v u ∧ VRs K ρ H vs ur
end

/-- from one heap to a later one: what is not held in the memory is kept; what comes into the memory is new -/
structure Fw (ρ ρ' : List Addr) (H H' : Hp) : Prop where
  pre : ∃ r, ρ' = ρ ++ r
  keep : ∀ b o, H b = some o → b ∉ ρ → H' b = some o
  new : ∀ b, b ∈ ρ' → b ∈ ρ ∨ H b = none
theorem Fw.refl {ρ : List Addr} {H : Hp} : Fw ρ ρ H H := ⟨⟨[], by simp⟩, fun _ _ h _ => h, fun _ h => .inl h⟩
theorem Fw.trans {ρ ρ1 ρ2 : List Addr} {H H1 H2 : Hp} (a : Fw ρ ρ1 H H1) (b : Fw ρ1 ρ2 H1 H2) : Fw ρ ρ2 H H2 := by
  have k : ∀ x o, H x = some o → x ∉ ρ → H1 x = some o ∧ x ∉ ρ1 := fun x o h n => ⟨a.keep x o h n, fun m => by
    rcases a.new x m with q | q
    · exact n q
    · rw [q] at h; cases h⟩
  refine ⟨?_, fun x o h n => ?_, fun x m => ?_⟩
  · obtain ⟨r, rfl⟩ := a.pre
    obtain ⟨r', rfl⟩ := b.pre
    exact ⟨r ++ r', by simp⟩
  · obtain ⟨h1, n1⟩ := k x o h n
    exact b.keep x o h1 n1
  · by_cases hx : x ∈ ρ
    · exact .inl hx
    · refine .inr ?_
      cases q : H x with
      | none => rfl
      | some o =>
        obtain ⟨h1, n1⟩ := k x o q hx
        rcases b.new x m with z | z
        · exact absurd z n1
        · rw [z] at h1; cases h1
theorem Fw.get {ρ ρ' : List Addr} {H H' : Hp} (f : Fw ρ ρ' H H') {n : Nat} {a : Addr} (h : ρ[n]? = some a) : ρ'[n]? = some a := by
  obtain ⟨r, rfl⟩ := f.pre
  rw [List.getElem?_append_left (List.getElem?_eq_some_iff.mp h).1]
  exact h

/-- what stands at the memory's addresses may be written -/
def Own (ρ : List Addr) (H : Hp) : Prop := ∀ a ∈ ρ, Mut (H a)
theorem TR.mono {K : Kx} {ρ ρ' : List Addr} {H H' : Hp} {a : Addr} {us : List V} (w : Own ρ H) (f : Fw ρ ρ' H H') (h : TR K H a us) : TR K H' a us := by
  rcases h with h | ⟨o, h⟩ | h
  · exact .inl (f.keep a _ h fun m => by have := w a m; rw [h] at this; exact this)
  · exact .inr (.inl ⟨o, f.keep a _ h fun m => by have := w a m; rw [h] at this; exact this⟩)
  · exact .inr (.inr h)
theorem LR.mono {K : Kx} {ρ ρ' : List Addr} {H H' : Hp} {a : Addr} {us : List V} (w : Own ρ H) (f : Fw ρ ρ' H H') (h : LR K H a us) : LR K H' a us := by
  rcases h with ⟨o, h⟩ | h
  · exact .inl ⟨o, f.keep a _ h fun m => by have := w a m; rw [h] at this; exact this⟩
  · exact .inr h

mutual
theorem VR.mono {K : Kx} {ρ ρ' : List Addr} {H H' : Hp} (w : Own ρ H) (f : Fw ρ ρ' H H') : ∀ (v : PV) (u : V), VR K ρ H v u → VR K ρ' H' v u
  | .non, u, h => by unfold VR at h ⊢; exact h
  | .bl b, u, h => by unfold VR at h ⊢; exact h
  | .int i, u, h => by unfold VR at h ⊢; exact h
  | .str s, u, h => by unfold VR at h ⊢; exact h
  | .tup vs, u, h => by
    unfold VR at h ⊢
    obtain ⟨a, us, e, t, r⟩ := h
    exact ⟨a, us, e, t.mono w f, VRs.mono w f vs us r⟩
  | .rol vs, u, h => by
    unfold VR at h ⊢
    obtain ⟨a, us, e, t, r⟩ := h
    exact ⟨a, us, e, t.mono w f, VRs.mono w f vs us r⟩
  | .ref n, u, h => by
    unfold VR at h ⊢
    obtain ⟨a, e, q⟩ := h
    exact ⟨a, e, f.get q⟩
  | .obj _ _, u, h => by unfold VR at h; exact h.elim
  | .ty T, u, h => by unfold VR at h ⊢; exact h
theorem VRs.mono {K : Kx} {ρ ρ' : List Addr} {H H' : Hp} (w : Own ρ H) (f : Fw ρ ρ' H H') : ∀ (vs : List PV) (us : List V), VRs K ρ H vs us → VRs K ρ' H' vs us
  | [], us, h => by unfold VRs at h ⊢; exact h
  | v :: vs, us, h => by
    unfold VRs at h ⊢
    obtain ⟨u, ur, e, a, b⟩ := h
    exact ⟨u, ur, e, VR.mono w f v u a, VRs.mono w f vs ur b⟩
end

section
variable {K : Kx} {ρ ρ' : List Addr} {H H' : Hp}
theorem vrs_nil : VRs K ρ H [] [] := by unfold VRs; rfl
theorem vrs_cons {v : PV} {u : V} {vs : List PV} {us : List V} (h : VR K ρ H v u) (t : VRs K ρ H vs us) : VRs K ρ H (v :: vs) (u :: us) := by
  unfold VRs
  exact ⟨u, us, rfl, h, t⟩
theorem VRs.inv {v : PV} {vs : List PV} {us : List V} (h : VRs K ρ H (v :: vs) us) : ∃ u ur, us = u :: ur ∧ VR K ρ H v u ∧ VRs K ρ H vs ur := by
  unfold VRs at h
  exact h
theorem VRs.nil {us : List V} (h : VRs K ρ H [] us) : us = [] := by
  unfold VRs at h
  exact h
theorem VRs.length : ∀ {vs : List PV} {us : List V}, VRs K ρ H vs us → us.length = vs.length
  | [], us, h => by rw [h.nil]; rfl
  | v :: vs, us, h => by
    obtain ⟨u, ur, rfl, _, t⟩ := h.inv
    simp [VRs.length t]
theorem VRs.get : ∀ {vs : List PV} {us : List V} {i : Nat} {v : PV}, VRs K ρ H vs us → vs[i]? = some v → ∃ u, us[i]? = some u ∧ VR K ρ H v u
  | [], _, _, _, _, e => by simp at e
  | x :: vs, us, 0, v, h, e => by
    obtain ⟨u, ur, rfl, a, _⟩ := h.inv
    simp at e
    subst e
    exact ⟨u, by simp, a⟩
  | x :: vs, us, i + 1, v, h, e => by
    obtain ⟨u, ur, rfl, _, t⟩ := h.inv
    obtain ⟨w, e1, e2⟩ := VRs.get (i := i) t (by simpa using e)
    exact ⟨w, by simpa using e1, e2⟩
theorem VRs.append : ∀ {vs ws : List PV} {us xs : List V}, VRs K ρ H vs us → VRs K ρ H ws xs → VRs K ρ H (vs ++ ws) (us ++ xs)
  | [], ws, us, xs, h, t => by rw [h.nil]; simpa using t
  | v :: vs, ws, us, xs, h, t => by
    obtain ⟨u, ur, rfl, a, b⟩ := h.inv
    exact vrs_cons a (VRs.append b t)
theorem VRs.set : ∀ {vs : List PV} {us : List V} {v : PV} {u : V} (j : Nat), VR K ρ H v u → VRs K ρ H vs us → VRs K ρ H (vs.set j v) (us.set j u)
  | [], us, v, u, j, _, h => by rw [h.nil]; simpa using vrs_nil
  | x :: vs, us, v, u, 0, r, h => by
    obtain ⟨y, ur, rfl, a, b⟩ := h.inv
    simpa using vrs_cons r b
  | x :: vs, us, v, u, j + 1, r, h => by
    obtain ⟨y, ur, rfl, a, b⟩ := h.inv
    simpa using vrs_cons a (VRs.set j r b)
theorem VRs.take : ∀ {vs : List PV} {us : List V} (n : Nat), VRs K ρ H vs us → VRs K ρ H (vs.take n) (us.take n)
  | vs, us, 0, _ => by simpa using vrs_nil
  | [], us, n + 1, h => by rw [h.nil]; simpa using vrs_nil
  | x :: vs, us, n + 1, h => by
    obtain ⟨y, ur, rfl, a, b⟩ := h.inv
    simpa using vrs_cons a (VRs.take n b)
theorem VRs.drop : ∀ {vs : List PV} {us : List V} (n : Nat), VRs K ρ H vs us → VRs K ρ H (vs.drop n) (us.drop n)
  | vs, us, 0, h => by simpa using h
  | [], us, n + 1, h => by rw [h.nil]; simpa using vrs_nil
  | x :: vs, us, n + 1, h => by
    obtain ⟨y, ur, rfl, a, b⟩ := h.inv
    simpa using VRs.drop n b
end

theorem nodupIx {α : Type} {N : List α} (hN : N.Nodup) {i j : Nat} {x : α} (a : N[i]? = some x) (b : N[j]? = some x) : i = j := by
  obtain ⟨h1, e1⟩ := List.getElem?_eq_some_iff.mp a
  obtain ⟨h2, e2⟩ := List.getElem?_eq_some_iff.mp b
  exact (List.getElem_inj hN).mp (e1.trans e2.symm)
/-- a cell of the memory, what stands at its address -/
def CellR (K : Kx) (ρ : List Addr) (H : Hp) : Cell → Option HO → Prop
  | .lst xs, o => ∃ us, o = some (.lst us) ∧ VRs K ρ H xs us
  | .dic _, _ => False
  | .ins _ _, _ => False
structure MemR (K : Kx) (M : Mem) (ρ : List Addr) (H : Hp) : Prop where
  len : ρ.length = M.length
  nd : ρ.Nodup
  cell : ∀ (n : Nat) (c : Cell) (a : Addr), M[n]? = some c → ρ[n]? = some a → CellR K ρ H c (H a)
theorem CellR.mut {K : Kx} {ρ : List Addr} {H : Hp} {c : Cell} {o : Option HO} (h : CellR K ρ H c o) : Mut o := by
  cases c with
  | lst xs =>
    obtain ⟨us, rfl, _⟩ := h
    exact trivial
  | dic _ => exact h.elim
  | ins _ _ => exact h.elim
theorem CellR.mono {K : Kx} {ρ ρ' : List Addr} {H H' : Hp} {c : Cell} {o : Option HO} (w : Own ρ H) (f : Fw ρ ρ' H H') (h : CellR K ρ H c o) : CellR K ρ' H' c o := by
  cases c with
  | lst xs =>
    obtain ⟨us, e, r⟩ := h
    exact ⟨us, e, r.mono w f⟩
  | dic _ => exact h.elim
  | ins _ _ => exact h.elim
theorem MemR.own {K : Kx} {M : Mem} {ρ : List Addr} {H : Hp} (m : MemR K M ρ H) : Own ρ H := fun a ha => by
  obtain ⟨n, hn, e⟩ := List.getElem_of_mem ha
  have h1 : ρ[n]? = some a := by rw [List.getElem?_eq_getElem hn, e]
  have h2 : n < M.length := by rw [← m.len]; exact hn
  exact (m.cell n M[n] a (List.getElem?_eq_getElem h2) h1).mut
theorem MemR.at_ {K : Kx} {M : Mem} {ρ : List Addr} {H : Hp} (m : MemR K M ρ H) {n : Nat} {c : Cell} (h : M[n]? = some c) : ∃ a, ρ[n]? = some a ∧ CellR K ρ H c (H a) := by
  have hn : n < ρ.length := by rw [m.len]; exact (List.getElem?_eq_some_iff.mp h).1
  exact ⟨ρ[n], List.getElem?_eq_getElem hn, m.cell n c _ h (List.getElem?_eq_getElem hn)⟩
theorem MemR.lst {K : Kx} {M : Mem} {ρ : List Addr} {H : Hp} (m : MemR K M ρ H) {n : Nat} {xs : List PV} {a : Addr} (h : M[n]? = some (.lst xs)) (ha : ρ[n]? = some a) : ∃ us, H a = some (.lst us) ∧ VRs K ρ H xs us :=
  m.cell n _ a h ha
/-- an address that holds nothing is none of the memory's -/
theorem MemR.fresh {K : Kx} {M : Mem} {ρ : List Addr} {H : Hp} (m : MemR K M ρ H) {p : Addr} (h : H p = none) : p ∉ ρ := fun hp => by
  have := m.own p hp
  rw [h] at this
  exact this
/-- a new thing beside the memory -/
theorem Fw.side {ρ : List Addr} {H : Hp} {p : Addr} {o : HO} (h : H p = none) : Fw ρ ρ H (upd H p o) :=
  ⟨⟨[], by simp⟩, fun b u e _ => by rw [upd_ne (ne_of_none e h)]; exact e, fun b m => .inl m⟩
theorem MemR.side {K : Kx} {M : Mem} {ρ : List Addr} {H : Hp} (m : MemR K M ρ H) {p : Addr} {o : HO} (h : H p = none) : MemR K M ρ (upd H p o) :=
  ⟨m.len, m.nd, fun n c a e1 e2 => by
    have hne : a ≠ p := fun z => m.fresh h (z ▸ List.mem_of_getElem? e2)
    rw [upd_ne hne]
    exact (m.cell n c a e1 e2).mono m.own (Fw.side h)⟩
/-- a new cell -/
theorem Fw.push {ρ : List Addr} {H : Hp} {p : Addr} {o : HO} (h : H p = none) : Fw ρ (ρ ++ [p]) H (upd H p o) :=
  ⟨⟨[p], rfl⟩, fun b u e _ => by rw [upd_ne (ne_of_none e h)]; exact e, fun b m => by
    rcases List.mem_append.mp m with q | q
    · exact .inl q
    · rw [List.mem_singleton.mp q]; exact .inr h⟩
theorem MemR.push {K : Kx} {M : Mem} {ρ : List Addr} {H : Hp} (m : MemR K M ρ H) {p : Addr} {xs : List PV} {us : List V} (h : H p = none) (r : VRs K ρ H xs us) : MemR K (M ++ [.lst xs]) (ρ ++ [p]) (upd H p (.lst us)) := by
  have f : Fw ρ (ρ ++ [p]) H (upd H p (.lst us)) := Fw.push h
  refine ⟨by simp [m.len], ?_, fun n c a e1 e2 => ?_⟩
  · rw [List.nodup_append]
    exact ⟨m.nd, by simp, fun a ha b hb => by rw [List.mem_singleton.mp hb]; exact fun z => m.fresh h (z ▸ ha)⟩
  · by_cases hn : n < M.length
    · rw [List.getElem?_append_left hn] at e1
      rw [List.getElem?_append_left (by rw [m.len]; exact hn)] at e2
      have hne : a ≠ p := fun z => m.fresh h (z ▸ List.mem_of_getElem? e2)
      rw [upd_ne hne]
      exact (m.cell n c a e1 e2).mono m.own f
    · have hl : n < (M ++ [Cell.lst xs]).length := (List.getElem?_eq_some_iff.mp e1).1
      have e : n = M.length := by
        simp at hl
        omega
      subst e
      rw [List.getElem?_append_right (Nat.le_refl _)] at e1
      rw [List.getElem?_append_right (by rw [m.len]; exact Nat.le_refl _), m.len] at e2
      simp at e1 e2
      subst e1 e2
      exact ⟨us, upd_same, r.mono m.own f⟩
/-- a cell is written -/
theorem Fw.write {ρ : List Addr} {H : Hp} {a : Addr} {o : HO} (h : a ∈ ρ) : Fw ρ ρ H (upd H a o) :=
  ⟨⟨[], by simp⟩, fun b u e n => by rw [upd_ne (show b ≠ a from fun z => n (by rw [z]; exact h))]; exact e, fun b m => .inl m⟩
theorem MemR.write {K : Kx} {M : Mem} {ρ : List Addr} {H : Hp} (m : MemR K M ρ H) {n : Nat} {a : Addr} {xs : List PV} {us : List V} (ha : ρ[n]? = some a) (r : VRs K ρ H xs us) : MemR K (M.set n (.lst xs)) ρ (upd H a (.lst us)) := by
  have f : Fw ρ ρ H (upd H a (.lst us)) := Fw.write (List.mem_of_getElem? ha)
  refine ⟨by simp [m.len], m.nd, fun k c b e1 e2 => ?_⟩
  by_cases hk : k = n
  · subst hk
    rw [ha] at e2
    cases e2
    rw [List.getElem?_set] at e1
    have hlt : k < M.length := by rw [← m.len]; exact (List.getElem?_eq_some_iff.mp ha).1
    simp [hlt] at e1
    subst e1
    exact ⟨us, upd_same, r.mono m.own f⟩
  · rw [List.getElem?_set_ne (Ne.symm hk)] at e1
    have hne : b ≠ a := fun z => by
      subst z
      exact hk (nodupIx m.nd e2 ha)
    rw [upd_ne hne]
    exact (m.cell k c b e1 e2).mono m.own f

/-- the names' values -/
structure EnvR (K : Kx) (ρ : List Addr) (H : Hp) (env : Env) (σ : St) : Prop where
  len : env.length = σ.length
  val : ∀ (i : Nat) (v : PV), env[i]? = some (some v) → ∃ u : V, σ[i]? = some (some u) ∧ VR K ρ H v u
theorem EnvR.mono {K : Kx} {ρ ρ' : List Addr} {H H' : Hp} {env : Env} {σ : St} (w : Own ρ H) (f : Fw ρ ρ' H H') (h : EnvR K ρ H env σ) : EnvR K ρ' H' env σ :=
  ⟨h.len, fun i v e => by
    obtain ⟨u, a, b⟩ := h.val i v e
    exact ⟨u, a, b.mono w f⟩⟩
theorem EnvR.set {K : Kx} {ρ : List Addr} {H : Hp} {env : Env} {σ : St} {i : Nat} {v : PV} {u : V} (h : EnvR K ρ H env σ) (r : VR K ρ H v u) : EnvR K ρ H (env.set i (some v)) (σ.set i (some u)) := by
  refine ⟨by simp [h.len], fun j w e => ?_⟩
  by_cases hj : i = j
  · subst hj
    have hlt : i < env.length := by
      have := (List.getElem?_eq_some_iff.mp e).1
      simpa using this
    rw [List.getElem?_set_self hlt] at e
    cases e
    exact ⟨u, by rw [List.getElem?_set_self (by rw [← h.len]; exact hlt)], r⟩
  · rw [List.getElem?_set_ne hj] at e
    obtain ⟨x, a, b⟩ := h.val j w e
    exact ⟨x, by rw [List.getElem?_set_ne hj]; exact a, b⟩

/-! ### outcomes -/
/-- what is wanted of an exception of the class numbered c -/
abbrev XW := Nat → St → Hp → Prop
section
variable {α β : Type}
/-- an outcome, and what is wanted behind it -/
def Ps (K : Kx) (W : XW) (σ : St) (ρ : List Addr) (H : Hp) (r : Res α) (k : α → Mem → List Addr → Hp → Prop) : Prop :=
  match r with
  | .ok a M' => ∀ ρ' H', Fw ρ ρ' H H' → MemR K M' ρ' H' → k a M' ρ' H'
  | .exc c M' => ∀ ρ' H', Fw ρ ρ' H H' → MemR K M' ρ' H' → W c σ H'
  | .fail => False
variable {K : Kx} {W : XW} {σ : St} {ρ ρ' : List Addr} {H H' : Hp} {r : Res α} {k k' : α → Mem → List Addr → Hp → Prop}
theorem Ps.fw (f : Fw ρ ρ' H H') (h : Ps K W σ ρ H r k) : Ps K W σ ρ' H' r k := by
  cases r with
  | ok a M => exact fun ρ2 H2 f2 m => h ρ2 H2 (f.trans f2) m
  | exc c M => exact fun ρ2 H2 f2 m => h ρ2 H2 (f.trans f2) m
  | fail => exact h
theorem Ps.imp (h : Ps K W σ ρ H r k) (hk : ∀ a M' ρ' H', Fw ρ ρ' H H' → MemR K M' ρ' H' → k a M' ρ' H' → k' a M' ρ' H') : Ps K W σ ρ H r k' := by
  cases r with
  | ok a M => exact fun ρ2 H2 f2 m => hk a M ρ2 H2 f2 m (h ρ2 H2 f2 m)
  | exc c M => exact h
  | fail => exact h
theorem Ps.bind {f : α → Mem → Res β} {k : β → Mem → List Addr → Hp → Prop} (h : Ps K W σ ρ H (r.bind f) k) : Ps K W σ ρ H r (fun a M1 ρ1 H1 => Ps K W σ ρ1 H1 (f a M1) k) := by
  cases r with
  | ok a M => exact fun ρ2 H2 f2 m => Ps.fw f2 h
  | exc c M => exact h
  | fail => exact h
theorem Ps.here {a : α} {M : Mem} (h : Ps K W σ ρ H (.ok a M) k) (m : MemR K M ρ H) : k a M ρ H := h ρ H Fw.refl m
end

/-! ### readings by outcomes -/
def T1 (K : Kx) (W : XW) (m : Env → Mem → Res PV) : TE := fun σ H Q => ∃ env M ρ, EnvR K ρ H env σ ∧ MemR K M ρ H ∧ Ps K W σ ρ H (m env M) fun v _ ρ' H' => ∀ u, VR K ρ' H' v u → Q u H'
def Tn (K : Kx) (W : XW) (m : Env → Mem → Res (List PV)) : TA := fun σ H Q => ∃ env M ρ, EnvR K ρ H env σ ∧ MemR K M ρ H ∧ Ps K W σ ρ H (m env M) fun vs _ ρ' H' => ∀ us, VRs K ρ' H' vs us → Q us H'
def Tb (K : Kx) (W : XW) (m : Env → Mem → Res Bool) : TT := fun σ H Q => ∃ env M ρ, EnvR K ρ H env σ ∧ MemR K M ρ H ∧ Ps K W σ ρ H (m env M) fun b _ ρ' H' => Q b H'
theorem PE.imp {X : Cx} {e : Expr} {t t' : TE} (h : PE X e t) (f : ∀ σ H Q, t' σ H Q → t σ H Q) : PE X e t' := ⟨fun pins s σ H Q I q => h.run pins s σ H Q I (f σ H Q q)⟩
theorem PT.imp {X : Cx} {e : Expr} {t t' : TT} (h : PT X e t) (f : ∀ σ H Q, t' σ H Q → t σ H Q) : PT X e t' := ⟨fun pins s σ H Q I q => h.run pins s σ H Q I (f σ H Q q)⟩
theorem PA.imp {X : Cx} {es : List Expr} {t t' : TA} (h : PA X es t) (f : ∀ σ H Q, t' σ H Q → t σ H Q) : PA X es t' := ⟨fun pos pins s σ H Q I q => h.run pos pins s σ H Q I (f σ H Q q)⟩
end HP

set_option Elab.async false
set_option linter.all false
set_option autoImplicit false
set_option maxRecDepth 100000
set_option maxHeartbeats 4000000
/-! The operations on values: what the layer's rules say of them. -/
namespace HP
open PySem L2

theorem lim_le : lim ≤ sizeLine := by decide
theorem lim_lt {n : Nat} (h : n < lim) : n < sizeLine := Nat.lt_of_lt_of_le h lim_le
theorem str_len {x : Str} {s : List Nat} (h : x.cps.toList = s) : x.length = s.length := by
  subst h
  show x.cps.size = _
  simp
theorem str_eq {x y : Str} (h : x.cps.toList = y.cps.toList) : x = y := by
  obtain ⟨a⟩ := x
  obtain ⟨b⟩ := y
  simp at h
  rw [h]

/-! ### data -/
mutual
def cv : PD → PyData
  | .non => .none
  | .bl b => .bool b
  | .int i => .int i
  | .str s => .str ⟨s.toArray⟩
  | .tup vs => .tuple (cvs vs)
  | .lst vs => .list (cvs vs)
def cvs : List PD → List PyData
  | [] => []
  | v :: vs => cv v :: cvs vs
end
mutual
theorem eqD_cv : ∀ a b : PD, PyData.eqv (cv a) (cv b) = eqD a b
  | .non, b => by cases b <;> simp [cv, eqD, PyData.eqv]
  | .bl a, b => by cases b <;> simp [cv, eqD, PyData.eqv]
  | .int i, b => by cases b <;> simp [cv, eqD, PyData.eqv]
  | .str s, b => by
    cases b <;> simp [cv, eqD, PyData.eqv]
    rw [Bool.eq_iff_iff]
    simp
  | .tup vs, b => by
    cases b <;> simp [cv, eqD, PyData.eqv]
    exact eqDs_cv _ _
  | .lst vs, b => by
    cases b <;> simp [cv, eqD, PyData.eqv]
    exact eqDs_cv _ _
theorem eqDs_cv : ∀ a b : List PD, PyData.eqvAll (cvs a) (cvs b) = eqDs a b
  | [], b => by cases b <;> simp [cvs, eqDs, PyData.eqvAll]
  | x :: xs, b => by
    cases b with
    | nil => simp [cvs, eqDs, PyData.eqvAll]
    | cons y ys => simp [cvs, eqDs, PyData.eqvAll, eqD_cv x y, eqDs_cv xs ys]
end

section
variable {K : Kx} {M : Mem} {ρ : List Addr} {H : Hp}
/-- what is known of a value's data -/
def DOk (K : Kx) (H : Hp) (k : Nat) (u : V) (d : PD) : Prop := Dp K.K H u (cv d) ∧ (cv d).canLay0 = true ∧ (cv d).depth ≤ k
theorem allD_ok {k : Nat} {f : PV → Option PD} (hf : ∀ v u d, VR K ρ H v u → f v = some d → DOk K H k u d) : ∀ (vs : List PV) (us : List V) (ds : List PD), VRs K ρ H vs us → allD f vs = some ds →
    DpAll K.K H us (cvs ds) ∧ PyData.canLayAll0 (cvs ds) = true ∧ PyData.depthAll (cvs ds) ≤ k
  | [], us, ds, h, e => by
    cases e
    rw [h.nil]
    exact ⟨.nil, by simp [cvs, PyData.canLayAll0], by simp [cvs, PyData.depthAll]⟩
  | v :: vs, us, ds, h, e => by
    obtain ⟨u, ur, rfl, a, b⟩ := h.inv
    unfold allD at e
    cases e1 : f v with
    | none => rw [e1] at e; cases e
    | some d =>
      rw [e1] at e
      cases e2 : allD f vs with
      | none => rw [e2] at e; cases e
      | some ds' =>
        rw [e2] at e
        cases e
        obtain ⟨p1, p2, p3⟩ := hf v u d a e1
        obtain ⟨q1, q2, q3⟩ := allD_ok hf vs ur ds' b e2
        exact ⟨.cons p1 q1, by simp [cvs, PyData.canLayAll0, p2, q2], by simp only [cvs, PyData.depthAll]; omega⟩
theorem toD_ok (m : MemR K M ρ H) : ∀ (k : Nat) (v : PV) (u : V) (d : PD), VR K ρ H v u → toD M k v = some d → DOk K H k u d
  | 0, v, u, d, _, e => by cases e
  | k + 1, v, u, d, r, e => by
    unfold toD at e
    cases v with
    | non =>
      cases e
      unfold VR at r
      subst r
      exact ⟨.non, rfl, by simp [cv, PyData.depth]⟩
    | bl b =>
      cases e
      unfold VR at r
      subst r
      exact ⟨.bl b, rfl, by simp [cv, PyData.depth]⟩
    | int b =>
      cases e
      unfold VR at r
      subst r
      exact ⟨.int b, rfl, by simp [cv, PyData.depth]⟩
    | str s =>
      · cases e
        unfold VR at r
        obtain ⟨x, rfl, hx, hs⟩ := r
        subst hx
        have e1 : (⟨x.cps.toList.toArray⟩ : Str) = x := str_eq (by simp)
        refine ⟨?_, ?_, by simp [cv, PyData.depth]⟩
        · show Dp K.K H (.str x) (.str ⟨x.cps.toList.toArray⟩)
          rw [e1]
          exact .str x
        · show PySem.PyData.strOk ⟨x.cps.toList.toArray⟩ = true
          rw [e1]
          unfold PySem.PyData.strOk
          rw [← Array.all_toList]
          exact hs
    | tup vs =>
      unfold VR at r
      obtain ⟨a, us, rfl, t, rs⟩ := r
      simp only at e
      split at e
      · rename_i ds hd
        cases e
        obtain ⟨q1, q2, q3⟩ := allD_ok (toD_ok m k) vs us ds rs hd
        exact ⟨.tup t.sq q1, q2, by simp only [cv, PyData.depth]; omega⟩
      · cases e
    | rol vs =>
      unfold VR at r
      obtain ⟨a, us, rfl, t, rs⟩ := r
      simp only at e
      split at e
      · rename_i ds hd
        cases e
        obtain ⟨q1, q2, q3⟩ := allD_ok (toD_ok m k) vs us ds rs hd
        exact ⟨.lst t.sq q1, q2, by simp only [cv, PyData.depth]; omega⟩
      · cases e
    | ref n =>
      unfold VR at r
      obtain ⟨a, rfl, ha⟩ := r
      simp only at e
      split at e
      · rename_i xs hx
        split at e
        · rename_i ds hd
          cases e
          obtain ⟨us, hu, rs⟩ := m.lst hx ha
          obtain ⟨q1, q2, q3⟩ := allD_ok (toD_ok m k) xs us ds rs hd
          exact ⟨.lst (SqL.of hu) q1, q2, by simp only [cv, PyData.depth]; omega⟩
        · cases e
      · cases e
    | obj c fs => cases e
    | ty c => cases e

/-! ### two-place operations -/
/-- the reading of an operation by its outcome (which is no exception) -/
def Pv (K : Kx) (ρ : List Addr) (H : Hp) (r : Res PV) (Q : VK) : Prop :=
  match r with
  | .ok v M' => ∀ ρ' H', Fw ρ ρ' H H' → MemR K M' ρ' H' → ∀ u, VR K ρ' H' v u → Q u H'
  | _ => False
def rG (K : Kx) (o : O2) : R2 := fun x y H Q => ∃ M ρ a b, MemR K M ρ H ∧ VR K ρ H a x ∧ VR K ρ H b y ∧ Pv K ρ H (op2 o a b M) Q
theorem Pv.val {v : PV} {u : V} {Q : VK} (h : Pv K ρ H (.ok v M) Q) (m : MemR K M ρ H) (r : VR K ρ H v u) : Q u H := h ρ H Fw.refl m u r
theorem vr_int {i : Int} : VR K ρ H (.int i) (.int i) := by unfold VR; rfl
theorem vr_bl {b : Bool} : VR K ρ H (.bl b) (.bl b) := by unfold VR; rfl
theorem vr_non : VR K ρ H .non .non := by unfold VR; rfl
theorem vr_str {s : List Nat} {x : Str} (h : x.cps.toList = s) (hv : vstr s = true) : VR K ρ H (.str s) (.str x) := by unfold VR; exact ⟨x, rfl, h, hv⟩
theorem VR.vs {s : List Nat} {u : V} (h : VR K ρ H (.str s) u) : vstr s = true := by unfold VR at h; obtain ⟨_, _, _, q⟩ := h; exact q
theorem vstr_app {s t : List Nat} (h : vstr s = true) (k : vstr t = true) : vstr (s ++ t) = true := by
  unfold vstr at *
  rw [List.all_append, h, k]
  rfl
theorem vstr_mem {s : List Nat} {c j : Nat} (h : vstr s = true) (k : s[j]? = some c) : vstr [c] = true := by
  unfold vstr at *
  rw [List.all_eq_true] at h
  simpa using h c (List.mem_of_getElem? k)
theorem vr_tup {vs : List PV} {us : List V} {a : Addr} (t : TR K H a us) (r : VRs K ρ H vs us) : VR K ρ H (.tup vs) (.ref a) := by unfold VR; exact ⟨a, us, rfl, t, r⟩
theorem vr_rol {vs : List PV} {us : List V} {a : Addr} (t : LR K H a us) (r : VRs K ρ H vs us) : VR K ρ H (.rol vs) (.ref a) := by unfold VR; exact ⟨a, us, rfl, t, r⟩
theorem vr_ref {n : Nat} {a : Addr} (h : ρ[n]? = some a) : VR K ρ H (.ref n) (.ref a) := by unfold VR; exact ⟨a, rfl, h⟩
theorem VR.int_ {i : Int} {u : V} (h : VR K ρ H (.int i) u) : u = .int i := by unfold VR at h; exact h
theorem VR.bl_ {i : Bool} {u : V} (h : VR K ρ H (.bl i) u) : u = .bl i := by unfold VR at h; exact h
theorem VR.non_ {u : V} (h : VR K ρ H .non u) : u = .non := by unfold VR at h; exact h
theorem VR.str_ {s : List Nat} {u : V} (h : VR K ρ H (.str s) u) : ∃ x : Str, u = .str x ∧ x.cps.toList = s := by unfold VR at h; obtain ⟨x, e, q, _⟩ := h; exact ⟨x, e, q⟩
theorem VR.tup_ {vs : List PV} {u : V} (h : VR K ρ H (.tup vs) u) : ∃ a us, u = .ref a ∧ TR K H a us ∧ VRs K ρ H vs us := by unfold VR at h; exact h
theorem VR.rol_ {vs : List PV} {u : V} (h : VR K ρ H (.rol vs) u) : ∃ a us, u = .ref a ∧ LR K H a us ∧ VRs K ρ H vs us := by unfold VR at h; exact h
theorem VR.ref_ {n : Nat} {u : V} (h : VR K ρ H (.ref n) u) : ∃ a, u = .ref a ∧ ρ[n]? = some a := by unfold VR at h; exact h
/-- a new tuple as an outcome -/
theorem Pv.tup {vs : List PV} {us : List V} {Q : VK} (h : Pv K ρ H (.ok (.tup vs) M) Q) (m : MemR K M ρ H) (r : VRs K ρ H vs us) {p : Addr} (hp : H p = none) : Q (.ref p) (upd H p (.tup us)) :=
  h ρ _ (Fw.side hp) (m.side hp) _ (vr_tup (.inl upd_same) (r.mono m.own (Fw.side hp)))
/-- a new list as an outcome -/
theorem Pv.lst {vs : List PV} {us : List V} {Q : VK} (h : Pv K ρ H (.ok (.ref M.length) (M ++ [.lst vs])) Q) (m : MemR K M ρ H) (r : VRs K ρ H vs us) {p : Addr} (hp : H p = none) : Q (.ref p) (upd H p (.lst us)) :=
  h (ρ ++ [p]) _ (Fw.push hp) (m.push hp r) _ (vr_ref (by rw [← m.len]; simp))
end

theorem TR.nil {K : Kx} {ρ : List Addr} {H : Hp} {vs : List PV} {us : List V} (r : VRs K ρ H vs us) : us = [] ↔ vs = [] := by
  rw [← List.length_eq_zero_iff, ← List.length_eq_zero_iff, r.length]

section
variable {X : Cx} {Z : Zx}
theorem or_add : OpR X (binaryOp .Add) (rG (kx X Z) .add) := by
  intro pins s σ H x y v u Q I rx ry h
  obtain ⟨M, ρ, a, b, m, ra, rb, h⟩ := h
  unfold op2 at h
  cases a <;> try exact h.elim
  case int i =>
    cases b <;> try exact h.elim
    case int j =>
      cases ra.int_
      cases rb.int_
      exact op_add pins s σ H _ _ _ _ Q I rx ry ⟨i, j, rfl, rfl, h.val m vr_int⟩
  case str s =>
    cases b <;> try exact h.elim
    case str t =>
      have vv := vstr_app ra.vs rb.vs
      obtain ⟨x1, rfl, e1⟩ := ra.str_
      obtain ⟨x2, rfl, e2⟩ := rb.str_
      simp only at h
      split at h
      · rename_i hl
        refine op_add_str pins _ σ H _ _ _ _ Q I rx ry ⟨x1, x2, rfl, rfl, ?_, h.val m (vr_str ?_ vv)⟩
        · rw [str_len e1, str_len e2]
          exact Nat.le_trans hl lim_le
        · show (x1.cps ++ x2.cps).toList = _
          rw [Array.toList_append, e1, e2]
      · exact h.elim
  case tup xs =>
    cases b <;> try exact h.elim
    case tup ys =>
      obtain ⟨p, us, rfl, t1, r1⟩ := ra.tup_
      obtain ⟨q, ws, rfl, t2, r2⟩ := rb.tup_
      simp only at h
      split at h
      · rename_i hl
        refine op_catA pins s σ H _ _ _ _ Q I rx ry ⟨p, q, us, ws, rfl, rfl, t1.sq, t2.sq, ?_, fun hx => ?_, fun hx hy => ?_, fun hx hy z hz => h.tup m (r1.append r2) hz⟩
        · rw [r1.length, r2.length]
          exact Nat.le_trans hl lim_le
        · rw [(TR.nil r1).mp hx] at h
          exact h.val m (vr_tup t2 r2)
        · rw [(TR.nil r2).mp hy, List.append_nil] at h
          exact h.val m (vr_tup t1 r1)
      · exact h.elim
  case ref n =>
    cases b <;> try exact h.elim
    case ref k =>
      obtain ⟨p, rfl, e1⟩ := ra.ref_
      obtain ⟨q, rfl, e2⟩ := rb.ref_
      simp only at h
      split at h
      · rename_i xs hx
        split at h
        · rename_i ys hy
          split at h
          · rename_i hl
            obtain ⟨us, hu, r1⟩ := m.lst hx e1
            obtain ⟨ws, hw, r2⟩ := m.lst hy e2
            refine op_cat pins s σ H _ _ _ _ Q I rx ry ⟨p, q, us, ws, rfl, rfl, hu, hw, ?_, fun z hz => h.lst m (r1.append r2) hz⟩
            rw [r1.length, r2.length]
            exact Nat.le_trans hl lim_le
          · exact h.elim
        · exact h.elim
      · exact h.elim
theorem or_sub : OpR X (binaryOp .Sub) (rG (kx X Z) .sub) := by
  intro pins s σ H x y v u Q I rx ry h
  obtain ⟨M, ρ, a, b, m, ra, rb, h⟩ := h
  unfold op2 at h
  cases a <;> try exact h.elim
  cases b <;> try exact h.elim
  cases ra.int_
  cases rb.int_
  exact op_sub pins s σ H _ _ _ _ Q I rx ry ⟨_, _, rfl, rfl, h.val m vr_int⟩
theorem small_iff {i : Int} (h : small i = true) : -(2 ^ 64) < i ∧ i < 2 ^ 64 := by
  unfold small at h
  simpa using h
theorem or_mul : OpR X (binaryOp .Mult) (rG (kx X Z) .mul) := by
  intro pins s σ H x y v u Q I rx ry h
  obtain ⟨M, ρ, a, b, m, ra, rb, h⟩ := h
  unfold op2 at h
  cases a <;> try exact h.elim
  cases b <;> try exact h.elim
  cases ra.int_
  cases rb.int_
  simp only at h
  split at h
  · rename_i hs
    refine op_mul pins s σ H _ _ _ _ Q I rx ry ⟨_, _, rfl, rfl, ?_, h.val m vr_int⟩
    rw [Bool.or_eq_true] at hs
    rcases hs with hs | hs
    · exact .inl (small_iff hs)
    · exact .inr (small_iff hs)
  · exact h.elim
theorem or_fdiv : OpR X (binaryOp .FloorDiv) (rG (kx X Z) .fdiv) := by
  intro pins s σ H x y v u Q I rx ry h
  obtain ⟨M, ρ, a, b, m, ra, rb, h⟩ := h
  unfold op2 at h
  cases a <;> try exact h.elim
  cases b <;> try exact h.elim
  cases ra.int_
  cases rb.int_
  simp only at h
  split at h
  · rename_i hs
    exact op_fdivW pins s σ H _ _ _ _ Q I rx ry ⟨_, _, rfl, rfl, wide_div hs.1 (b := 64) (by omega) (by decide) (by decide), h.val m vr_int⟩
  · exact h.elim
theorem or_mod : OpR X (binaryOp .Mod) (rG (kx X Z) .mod) := by
  intro pins s σ H x y v u Q I rx ry h
  obtain ⟨M, ρ, a, b, m, ra, rb, h⟩ := h
  unfold op2 at h
  cases a <;> try exact h.elim
  cases b <;> try exact h.elim
  cases ra.int_
  cases rb.int_
  simp only at h
  split at h
  · rename_i hs
    exact op_mod pins s σ H _ _ _ _ Q I rx ry ⟨_, _, rfl, rfl, hs, h.val m vr_int⟩
  · exact h.elim
theorem or_pow : OpR X (binaryOp .Pow) (rG (kx X Z) .pow) := by
  intro pins s σ H x y v u Q I rx ry h
  obtain ⟨M, ρ, a, b, m, ra, rb, h⟩ := h
  unfold op2 at h
  cases a <;> try exact h.elim
  cases b <;> try exact h.elim
  cases ra.int_
  cases rb.int_
  simp only at h
  split at h
  · rename_i hs
    exact op_pow pins s σ H _ _ _ _ Q I rx ry ⟨_, _, rfl, rfl, hs, h.val m vr_int⟩
  · exact h.elim
theorem eqS_toD {a b : PV} {r : Bool} {M : Mem} {k : Nat} (h : eqS a b = some r) : ∃ d e, toD M (k + 1) a = some d ∧ toD M (k + 1) b = some e ∧ eqD d e = r := by
  cases a <;> first | (cases h; done) | (cases b <;> first | (cases h; done) | (cases h; exact ⟨_, _, rfl, rfl, rfl⟩))
theorem eqPV_toD {a b : PV} {r : Bool} {M : Mem} (h : eqPV M a b = some r) : ∃ d e, toD M 60 a = some d ∧ toD M 60 b = some e ∧ eqD d e = r := by
  unfold eqPV at h
  split at h
  · rename_i r' hr
    cases h
    exact eqS_toD hr
  · split at h
    · rename_i d hd
      split at h
      · rename_i e he
        cases h
        exact ⟨d, e, hd, he, rfl⟩
      · cases h
    · cases h
theorem eqPV_ok {K : Kx} {M : Mem} {ρ : List Addr} {H : Hp} {a b : PV} {x y : V} {r : Bool} (m : MemR K M ρ H) (ra : VR K ρ H a x) (rb : VR K ρ H b y) (h : eqPV M a b = some r) :
    ∃ d e, Dp K.K H x d ∧ Dp K.K H y e ∧ SeqAt.shaped d = true ∧ SeqAt.shaped e = true ∧ PyData.eqv d e = r := by
  obtain ⟨d, e, h1, h2, rfl⟩ := eqPV_toD h
  obtain ⟨p1, p2, p3⟩ := toD_ok m 60 a x d ra h1
  obtain ⟨q1, q2, q3⟩ := toD_ok m 60 b y e rb h2
  refine ⟨cv d, cv e, p1, q1, ?_, ?_, eqD_cv d e⟩
  · unfold SeqAt.shaped
    rw [p2, Bool.true_and]
    exact decide_eq_true (by omega)
  · unfold SeqAt.shaped
    rw [q2, Bool.true_and]
    exact decide_eq_true (by omega)
theorem or_eq (hu : X.A.units + 64 < cLine) : OpR X (compareOp .Eq) (rG (kx X Z) .eq) := by
  intro pins s σ H x y v u Q I rx ry h
  obtain ⟨M, ρ, a, b, m, ra, rb, h⟩ := h
  unfold op2 at h
  simp only at h
  split at h
  · rename_i r hr
    obtain ⟨d, e, p1, p2, p3, p4, p5⟩ := eqPV_ok m ra rb hr
    exact op_eqD hu pins s σ H _ _ _ _ Q I rx ry ⟨d, e, p1, p2, p3, p4, by rw [p5]; exact h.val m vr_bl⟩
  · exact h.elim
theorem or_ne (hu : X.A.units + 64 < cLine) : OpR X (compareOp .NotEq) (rG (kx X Z) .ne) := by
  intro pins s σ H x y v u Q I rx ry h
  obtain ⟨M, ρ, a, b, m, ra, rb, h⟩ := h
  unfold op2 at h
  simp only at h
  split at h
  · rename_i r hr
    obtain ⟨d, e, p1, p2, p3, p4, p5⟩ := eqPV_ok m ra rb hr
    exact op_neD hu pins s σ H _ _ _ _ Q I rx ry ⟨d, e, p1, p2, p3, p4, by rw [p5]; exact h.val m vr_bl⟩
  · exact h.elim
theorem ltL_iff : ∀ a b : List Nat, ltL a b = decide (a < b)
  | [], [] => by simp [ltL]
  | [], y :: ys => by simp [ltL]
  | x :: xs, [] => by simp [ltL]
  | x :: xs, y :: ys => by
    unfold ltL
    simp only
    rw [ltL_iff xs ys, Bool.eq_iff_iff]
    rw [decide_eq_true_eq, List.cons_lt_cons_iff]
    split
    · rename_i h
      simp [h]
    · rename_i h
      split
      · rename_i h2
        simp at h2
        subst h2
        simp
      · rename_i h2
        simp at h2
        simp [h, h2]
theorem or_lt : OpR X (compareOp .Lt) (rG (kx X Z) .lt) := by
  intro pins s σ H x y v u Q I rx ry h
  obtain ⟨M, ρ, a, b, m, ra, rb, h⟩ := h
  unfold op2 at h
  cases a <;> try exact h.elim
  case int i =>
    cases b <;> try exact h.elim
    cases ra.int_
    cases rb.int_
    exact op_lt pins s σ H _ _ _ _ Q I rx ry ⟨_, _, rfl, rfl, h.val m vr_bl⟩
  case str a =>
    cases b <;> try exact h.elim
    obtain ⟨x1, rfl, e1⟩ := ra.str_
    obtain ⟨x2, rfl, e2⟩ := rb.str_
    subst e1 e2
    simp only [ltL_iff] at h
    exact op_lt_str pins s σ H _ _ _ _ Q I rx ry ⟨_, _, rfl, rfl, h.val m vr_bl⟩
theorem or_le : OpR X (compareOp .LtE) (rG (kx X Z) .le) := by
  intro pins s σ H x y v u Q I rx ry h
  obtain ⟨M, ρ, a, b, m, ra, rb, h⟩ := h
  unfold op2 at h
  cases a <;> try exact h.elim
  case int i =>
    cases b <;> try exact h.elim
    cases ra.int_
    cases rb.int_
    exact op_le pins s σ H _ _ _ _ Q I rx ry ⟨_, _, rfl, rfl, h.val m vr_bl⟩
  case str a =>
    cases b <;> try exact h.elim
    obtain ⟨x1, rfl, e1⟩ := ra.str_
    obtain ⟨x2, rfl, e2⟩ := rb.str_
    subst e1 e2
    simp only [ltL_iff] at h
    exact op_le_str pins s σ H _ _ _ _ Q I rx ry ⟨_, _, rfl, rfl, h.val m vr_bl⟩
theorem or_gt : OpR X (compareOp .Gt) (rG (kx X Z) .gt) := by
  intro pins s σ H x y v u Q I rx ry h
  obtain ⟨M, ρ, a, b, m, ra, rb, h⟩ := h
  unfold op2 at h
  cases a <;> try exact h.elim
  case int i =>
    cases b <;> try exact h.elim
    cases ra.int_
    cases rb.int_
    exact op_gt pins s σ H _ _ _ _ Q I rx ry ⟨_, _, rfl, rfl, h.val m vr_bl⟩
  case str a =>
    cases b <;> try exact h.elim
    obtain ⟨x1, rfl, e1⟩ := ra.str_
    obtain ⟨x2, rfl, e2⟩ := rb.str_
    subst e1 e2
    simp only [ltL_iff] at h
    exact op_gt_str pins s σ H _ _ _ _ Q I rx ry ⟨_, _, rfl, rfl, h.val m vr_bl⟩
theorem or_ge : OpR X (compareOp .GtE) (rG (kx X Z) .ge) := by
  intro pins s σ H x y v u Q I rx ry h
  obtain ⟨M, ρ, a, b, m, ra, rb, h⟩ := h
  unfold op2 at h
  cases a <;> try exact h.elim
  case int i =>
    cases b <;> try exact h.elim
    cases ra.int_
    cases rb.int_
    exact op_ge pins s σ H _ _ _ _ Q I rx ry ⟨_, _, rfl, rfl, h.val m vr_bl⟩
  case str a =>
    cases b <;> try exact h.elim
    obtain ⟨x1, rfl, e1⟩ := ra.str_
    obtain ⟨x2, rfl, e2⟩ := rb.str_
    subst e1 e2
    simp only [ltL_iff] at h
    exact op_ge_str pins s σ H _ _ _ _ Q I rx ry ⟨_, _, rfl, rfl, h.val m vr_bl⟩
theorem or_is : OpR X (compareOp .Is) (rG (kx X Z) .is) := by
  intro pins s σ H x y v u Q I rx ry h
  obtain ⟨M, ρ, a, b, m, ra, rb, h⟩ := h
  unfold op2 at h
  cases b <;> try exact h.elim
  cases rb.non_
  refine op_isN pins s σ H _ _ _ _ Q I rx ry ⟨rfl, ?_⟩
  cases a
  case non =>
    cases ra.non_
    simpa using h.val m vr_bl
  case bl => cases ra.bl_; simpa using h.val m vr_bl
  case int => cases ra.int_; simpa using h.val m vr_bl
  case str => obtain ⟨_, rfl, _⟩ := ra.str_; simpa using h.val m vr_bl
  case tup => obtain ⟨_, _, rfl, _⟩ := ra.tup_; simpa using h.val m vr_bl
  case rol => obtain ⟨_, _, rfl, _⟩ := ra.rol_; simpa using h.val m vr_bl
  case ref => obtain ⟨_, rfl, _⟩ := ra.ref_; simpa using h.val m vr_bl
  case obj => unfold VR at ra; exact ra.elim
  case ty T =>
    unfold VR at ra
    cases T <;> (cases ra; simpa using h.val m vr_bl)
theorem or_isnot : OpR X (compareOp .IsNot) (rG (kx X Z) .isnot) := by
  intro pins s σ H x y v u Q I rx ry h
  obtain ⟨M, ρ, a, b, m, ra, rb, h⟩ := h
  unfold op2 at h
  cases b <;> try exact h.elim
  cases rb.non_
  refine op_notN pins s σ H _ _ _ _ Q I rx ry ⟨rfl, ?_⟩
  cases a
  case non =>
    cases ra.non_
    simpa using h.val m vr_bl
  case bl => cases ra.bl_; simpa using h.val m vr_bl
  case int => cases ra.int_; simpa using h.val m vr_bl
  case str => obtain ⟨_, rfl, _⟩ := ra.str_; simpa using h.val m vr_bl
  case tup => obtain ⟨_, _, rfl, _⟩ := ra.tup_; simpa using h.val m vr_bl
  case rol => obtain ⟨_, _, rfl, _⟩ := ra.rol_; simpa using h.val m vr_bl
  case ref => obtain ⟨_, rfl, _⟩ := ra.ref_; simpa using h.val m vr_bl
  case obj => unfold VR at ra; exact ra.elim
  case ty T =>
    unfold VR at ra
    cases T <;> (cases ra; simpa using h.val m vr_bl)
/-! ### an item -/
theorem ixP_eq (n : Nat) (i : Int) : ixP n i = ixN n i := rfl
theorem getI_ok {K : Kx} {ρ : List Addr} {H : Hp} {xs : List PV} {us : List V} {i : Int} {v : PV} (r : VRs K ρ H xs us) (h : getI xs i = some v) : ∃ u, atI us i = some u ∧ VR K ρ H v u := by
  unfold getI at h
  rw [ixP_eq] at h
  split at h
  · rename_i j hj
    obtain ⟨u, hu, ru⟩ := r.get h
    refine ⟨u, ?_, ru⟩
    unfold atI
    rw [r.length, hj]
    exact hu
  · cases h
theorem ixr_idx : IxR X (rG (kx X Z) .idx) := by
  intro value slice pins s σ H x y v u Q I rx ry h hs
  obtain ⟨M, ρ, a, b, m, ra, rb, h⟩ := h
  unfold op2 at h
  cases b <;> try exact h.elim
  cases rb.int_
  cases a <;> try exact h.elim
  case str s' =>
    have vv := ra.vs
    obtain ⟨x1, rfl, e1⟩ := ra.str_
    subst e1
    simp only at h
    split at h
    · rename_i hl
      split at h
      · rename_i j hj
        split at h
        · rename_i c hc
          refine ix_str value slice pins s σ H _ _ v u Q I rx ry ⟨x1, _, c, rfl, rfl, ?_, ?_, h.val m (vr_str rfl (vstr_mem vv hc))⟩ hs
          · rw [str_len rfl]
            exact Nat.le_trans hl lim_le
          · unfold atI
            rw [← ixP_eq, hj]
            exact hc
        · exact h.elim
      · exact h.elim
    · exact h.elim
  case tup xs =>
    obtain ⟨p, us, rfl, t, r⟩ := ra.tup_
    simp only at h
    split at h
    · rename_i w hw
      obtain ⟨z, hz, rz⟩ := getI_ok r hw
      exact ix_tup value slice pins s σ H _ _ v u Q I rx ry ⟨p, us, _, z, rfl, rfl, t.sq, hz, h.val m rz⟩ hs
    · exact h.elim
  case rol xs =>
    obtain ⟨p, us, rfl, t, r⟩ := ra.rol_
    simp only at h
    split at h
    · rename_i w hw
      obtain ⟨z, hz, rz⟩ := getI_ok r hw
      exact ix_list value slice pins s σ H _ _ v u Q I rx ry ⟨p, us, _, z, rfl, rfl, t.sq, hz, h.val m rz⟩ hs
    · exact h.elim
  case ref n =>
    obtain ⟨p, rfl, e1⟩ := ra.ref_
    simp only at h
    split at h
    · rename_i xs hx
      split at h
      · rename_i w hw
        obtain ⟨us, hu, r⟩ := m.lst hx e1
        obtain ⟨z, hz, rz⟩ := getI_ok r hw
        exact ix_list value slice pins s σ H _ _ v u Q I rx ry ⟨p, us, _, z, rfl, rfl, SqL.of hu, hz, h.val m rz⟩ hs
      · exact h.elim
    · exact h.elim
/-! ### one-place operations -/
def rG1 (K : Kx) (o : O1) : V → Hp → VK → Prop := fun x H Q => ∃ M ρ a, MemR K M ρ H ∧ VR K ρ H a x ∧ Pv K ρ H (op1 o a M) Q
theorem ur_neg : UnR X (unaryOp .USub) (rG1 (kx X Z) .neg) := by
  intro pins s σ H x v Q I rx h
  obtain ⟨M, ρ, a, m, ra, h⟩ := h
  unfold op1 at h
  cases a <;> try exact h.elim
  cases ra.int_
  exact un_neg pins s σ H _ _ Q I rx ⟨_, rfl, h.val m vr_int⟩
/-! ### calls of what is built in -/
def rGn (K : Kx) (o : On) : List V → Hp → VK → Prop := fun xs H Q => ∃ M ρ as, MemR K M ρ H ∧ VRs K ρ H as xs ∧ Pv K ρ H (opn o as M) Q
theorem one_inv {K : Kx} {ρ : List Addr} {H : Hp} {a : PV} {us : List V} (h : VRs K ρ H [a] us) : ∃ u, us = [u] ∧ VR K ρ H a u := by
  obtain ⟨u, ur, rfl, r, t⟩ := h.inv
  cases t.nil
  exact ⟨u, rfl, r⟩
theorem two_inv {K : Kx} {ρ : List Addr} {H : Hp} {a b : PV} {us : List V} (h : VRs K ρ H [a, b] us) : ∃ u v, us = [u, v] ∧ VR K ρ H a u ∧ VR K ρ H b v := by
  obtain ⟨u, ur, rfl, r, t⟩ := h.inv
  obtain ⟨v, rfl, r2⟩ := one_inv t
  exact ⟨u, v, rfl, r, r2⟩
theorem cr_len : CallR X (.builtin "len") (rGn (kx X Z) .len) := by
  intro pins s σ H xs us Q I r h
  obtain ⟨M, ρ, as, m, ra, h⟩ := h
  unfold opn at h
  simp only at h
  split at h
  · obtain ⟨u, rfl, q⟩ := one_inv ra
    obtain ⟨p, ws, rfl, t, rr⟩ := q.tup_
    exact call_len pins s σ H _ us Q I r ⟨_, ws.length, rfl, .inr ⟨ws, t.sq, rfl⟩, by rw [rr.length]; exact h.val m vr_int⟩
  · obtain ⟨u, rfl, q⟩ := one_inv ra
    obtain ⟨p, ws, rfl, t, rr⟩ := q.rol_
    exact call_len pins s σ H _ us Q I r ⟨_, ws.length, rfl, .inl ⟨ws, t.sq, rfl⟩, by rw [rr.length]; exact h.val m vr_int⟩
  · obtain ⟨u, rfl, q⟩ := one_inv ra
    obtain ⟨x, rfl, e⟩ := q.str_
    split at h
    · rename_i hl
      refine call_len pins s σ H _ us Q I r ⟨_, x.length, rfl, ⟨?_, rfl⟩, by rw [str_len e]; exact h.val m vr_int⟩
      rw [str_len e]
      exact Nat.le_trans hl lim_le
    · exact h.elim
  · obtain ⟨u, rfl, q⟩ := one_inv ra
    obtain ⟨p, rfl, e⟩ := q.ref_
    split at h
    · rename_i xs hx
      obtain ⟨ws, hw, rr⟩ := m.lst hx e
      exact call_len pins s σ H _ us Q I r ⟨_, ws.length, rfl, .inl ⟨ws, SqL.of hw, rfl⟩, by rw [rr.length]; exact h.val m vr_int⟩
    · exact h.elim
  · exact h.elim
theorem cr_abs : CallR X (.builtin "abs") (rGn (kx X Z) .abs) := by
  intro pins s σ H xs us Q I r h
  obtain ⟨M, ρ, as, m, ra, h⟩ := h
  unfold opn at h
  simp only at h
  split at h
  · obtain ⟨u, rfl, q⟩ := one_inv ra
    cases q.int_
    exact call_abs pins s σ H _ us Q I r ⟨_, rfl, h.val m vr_int⟩
  · exact h.elim
theorem cr_int : CallR X (.type "int") (rGn (kx X Z) .int) := by
  intro pins s σ H xs us Q I r h
  obtain ⟨M, ρ, as, m, ra, h⟩ := h
  unfold opn at h
  simp only at h
  split at h
  · obtain ⟨u, rfl, q⟩ := one_inv ra
    cases q.int_
    exact call_int1 pins s σ H _ us Q I r (.inl ⟨_, rfl, h.val m vr_int⟩)
  · obtain ⟨u, rfl, q⟩ := one_inv ra
    cases q.bl_
    exact call_int1 pins s σ H _ us Q I r (.inr ⟨_, rfl, h.val m vr_int⟩)
  · exact h.elim
theorem cr_list : CallR X (.type "list") (rGn (kx X Z) .list) := by
  intro pins s σ H xs us Q I r h
  obtain ⟨M, ρ, as, m, ra, h⟩ := h
  unfold opn at h
  simp only at h
  split at h
  · obtain ⟨u, rfl, q⟩ := one_inv ra
    obtain ⟨p, ws, rfl, t, rr⟩ := q.tup_
    exact call_list_of pins s σ H _ us Q I r ⟨p, ws, rfl, .inr t.sq, fun l hl => h.lst m rr hl⟩
  · obtain ⟨u, rfl, q⟩ := one_inv ra
    obtain ⟨p, ws, rfl, t, rr⟩ := q.rol_
    exact call_list_of pins s σ H _ us Q I r ⟨p, ws, rfl, .inl t.sq, fun l hl => h.lst m rr hl⟩
  · obtain ⟨u, rfl, q⟩ := one_inv ra
    obtain ⟨p, rfl, e⟩ := q.ref_
    split at h
    · rename_i xs hx
      obtain ⟨ws, hw, rr⟩ := m.lst hx e
      exact call_list_of pins s σ H _ us Q I r ⟨p, ws, rfl, .inl (SqL.of hw), fun l hl => h.lst m rr hl⟩
    · exact h.elim
  · exact h.elim
theorem cr_tuple : CallR X (.type "tuple") (rGn (kx X Z) .tuple) := by
  intro pins s σ H xs us Q I r h
  obtain ⟨M, ρ, as, m, ra, h⟩ := h
  unfold opn at h
  simp only at h
  split at h
  · obtain ⟨u, rfl, q⟩ := one_inv ra
    obtain ⟨p, ws, rfl, t, rr⟩ := q.tup_
    exact call_tuple_of pins s σ H _ us Q I r ⟨p, ws, rfl, .inr ⟨t.sq, h.val m (vr_tup t rr)⟩⟩
  · obtain ⟨u, rfl, q⟩ := one_inv ra
    obtain ⟨p, ws, rfl, t, rr⟩ := q.rol_
    exact call_tuple_of pins s σ H _ us Q I r ⟨p, ws, rfl, .inl ⟨t.sq, fun l hl => h.tup m rr hl⟩⟩
  · obtain ⟨u, rfl, q⟩ := one_inv ra
    obtain ⟨p, rfl, e⟩ := q.ref_
    split at h
    · rename_i xs hx
      obtain ⟨ws, hw, rr⟩ := m.lst hx e
      exact call_tuple_of pins s σ H _ us Q I r ⟨p, ws, rfl, .inl ⟨SqL.of hw, fun l hl => h.tup m rr hl⟩⟩
    · exact h.elim
  · exact h.elim
/-- a method, by the receiver and the arguments -/
def rGm (K : Kx) (o : On) : V → List V → Hp → VK → Prop := fun x xs H Q => ∃ M ρ a as, MemR K M ρ H ∧ VR K ρ H a x ∧ VRs K ρ H as xs ∧ Pv K ρ H (opn o (a :: as) M) Q
theorem mr_append : MtM X "list.append" (rGm (kx X Z) .append) := by
  intro pins s σ H x xs v us Q I rx r h
  obtain ⟨M, ρ, a, as, m, ra, rs, h⟩ := h
  unfold opn at h
  simp only at h
  split at h
  · rename_i n w e
    cases e
    obtain ⟨y, rfl, ry⟩ := one_inv rs
    obtain ⟨p, rfl, e⟩ := ra.ref_
    split at h
    · rename_i ys hy
      split at h
      · rename_i hl
        obtain ⟨ws, hw, rr⟩ := m.lst hy e
        refine mt_append pins s σ H _ _ v us Q I rx r ⟨p, ws, y, rfl, rfl, hw, ?_, ?_⟩
        · rw [rr.length]
          exact lim_lt hl
        · exact h ρ _ (Fw.write (List.mem_of_getElem? e)) (m.write e (rr.append (vrs_cons ry vrs_nil))) _ vr_non
      · exact h.elim
    · exact h.elim
  · exact h.elim
/-! ### isinstance, truth -/
theorem ty_of {M : Mem} {ρ : List Addr} {H : Hp} {v : PV} {u : V} {T : Ty} {b : Bool} (m : MemR (kx X Z) M ρ H) (r : VR (kx X Z) ρ H v u) (h : isi v M T = some b) : ∃ t, TyX X.K H u (.type t) ∧ kitB t (tyS T) = some b := by
  unfold isi at h
  cases v
  case non =>
    cases r.non_
    exact ⟨_, .base .non, by cases T <;> first | (cases h; decide +kernel) | cases h⟩
  case bl k =>
    cases r.bl_
    exact ⟨_, .base (.bl k), by cases T <;> first | (cases h; decide +kernel) | cases h⟩
  case int k =>
    cases r.int_
    exact ⟨_, .base (.int k), by cases T <;> first | (cases h; decide +kernel) | cases h⟩
  case str k =>
    obtain ⟨x, rfl, _⟩ := r.str_
    exact ⟨_, .base (.str x), by cases T <;> first | (cases h; decide +kernel) | cases h⟩
  case tup vs =>
    obtain ⟨p, us, rfl, t, _⟩ := r.tup_
    refine ⟨"tuple", ?_, by cases T <;> first | (cases h; decide +kernel) | cases h⟩
    rcases t with t | ⟨o, t⟩ | t
    · exact .base (.tup t)
    · exact .fTuple t
    · rcases t (fun _ => none) with (t | ⟨_, t⟩) | ⟨o, its, n, e1, e2, _⟩
      · cases t
      · cases t
      · exact .kTuple e1 e2
  case rol vs =>
    obtain ⟨p, us, rfl, t, _⟩ := r.rol_
    refine ⟨"list", ?_, by cases T <;> first | (cases h; decide +kernel) | cases h⟩
    rcases t with ⟨o, t⟩ | t
    · exact .base (.frz t)
    · rcases t (fun _ => none) with (t | ⟨_, t⟩) | ⟨o, its, n, e1, e2, _⟩
      · cases t
      · cases t
      · exact .kList e1 e2
  case ref n =>
    obtain ⟨p, rfl, e⟩ := r.ref_
    unfold kd at h
    simp only at h
    cases hM : M[n]? with
    | none => rw [hM] at h; cases h
    | some c =>
      rw [hM] at h
      cases c with
      | lst xs =>
        obtain ⟨us, hu, _⟩ := m.lst hM e
        refine ⟨"list", .base (.lst hu), ?_⟩
        cases T <;> first | (cases h; decide +kernel) | cases h
      | dic _ => cases h
      | ins _ _ => cases h
  case obj => cases h
  case ty => cases h
theorem cr_isi : CallR X (.builtin "isinstance") (rGn (kx X Z) .isi) := by
  intro pins s σ H xs us Q I r h
  obtain ⟨M, ρ, as, m, ra, h⟩ := h
  unfold opn at h
  simp only at h
  split at h
  · rename_i v T
    obtain ⟨u, c, rfl, r1, r2⟩ := two_inv ra
    split at h
    · rename_i b hb
      obtain ⟨ty, h1, h2⟩ := ty_of m r1 hb
      have hT : ∀ (c : Nat), T ≠ .own c := fun c e => by
        subst e
        unfold isi at hb
        split at hb <;> cases hb
      have hc : c = .ty (tyS T) := by
        unfold VR at r2
        cases T <;> first | exact r2 | exact absurd rfl (hT _)
      subst hc
      exact call_isi pins s σ H _ us Q I r ⟨u, .ty (tyS T), .type ty, .type (tyS T), b, rfl, .ty _, h1, kit_ty h2, h.val m vr_bl⟩
    · exact h.elim
  · exact h.elim
theorem tru_of {K : Kx} {M : Mem} {ρ : List Addr} {H : Hp} {v : PV} {u : V} {b : Bool} (m : MemR K M ρ H) (r : VR K ρ H v u) (h : tru v M = some b) : TruV K.K u H b := by
  have ie : ∀ {xs : List PV} {us : List V}, VRs K ρ H xs us → us.isEmpty = xs.isEmpty := fun {xs us} r => by
    have := r.length
    cases xs <;> cases us <;> simp_all
  cases v
  case non => cases r.non_; cases h; rfl
  case bl => cases r.bl_; cases h; rfl
  case int => cases r.int_; cases h; rfl
  case str k =>
    obtain ⟨x, rfl, e⟩ := r.str_
    unfold tru at h
    simp only at h
    split at h
    · rename_i hl
      cases h
      refine ⟨by rw [str_len e]; exact Nat.le_trans hl lim_le, ?_⟩
      rw [str_len e, Bool.eq_iff_iff]
      simp
    · cases h
  case tup =>
    obtain ⟨p, us, rfl, t, rr⟩ := r.tup_
    cases h
    exact .inr (.inl ⟨us, t.sq, by rw [ie rr]⟩)
  case rol =>
    obtain ⟨p, us, rfl, t, rr⟩ := r.rol_
    cases h
    exact .inl ⟨us, t.sq, by rw [ie rr]⟩
  case ref n =>
    obtain ⟨p, rfl, e⟩ := r.ref_
    unfold tru at h
    simp only at h
    split at h
    · rename_i xs hx
      cases h
      obtain ⟨us, hu, rr⟩ := m.lst hx e
      exact .inl ⟨us, SqL.of hu, by rw [ie rr]⟩
    · cases h
  case obj => cases h
  case ty => cases h
/-! ### op= -/
def rGi (K : Kx) (o : O2) : R2 := fun x y H Q => ∃ M ρ a b, MemR K M ρ H ∧ VR K ρ H a x ∧ VR K ρ H b y ∧ Pv K ρ H (iop o a b M) Q
theorem ior_add : OpR X (inplaceOp .Add) (rGi (kx X Z) .add) := by
  intro pins s σ H x y v u Q I rx ry h
  obtain ⟨M, ρ, a, b, m, ra, rb, h⟩ := h
  unfold iop op2 at h
  cases a <;> try exact h.elim
  case int i =>
    cases b <;> try exact h.elim
    cases ra.int_
    cases rb.int_
    exact iop_add pins s σ H _ _ _ _ Q I rx ry ⟨_, _, rfl, rfl, h.val m vr_int⟩
  case str s =>
    cases b <;> try exact h.elim
    have vv := vstr_app ra.vs rb.vs
    obtain ⟨x1, rfl, e1⟩ := ra.str_
    obtain ⟨x2, rfl, e2⟩ := rb.str_
    simp only at h
    split at h
    · rename_i hl
      refine iop_add_str pins _ σ H _ _ _ _ Q I rx ry ⟨x1, x2, rfl, rfl, ?_, h.val m (vr_str ?_ vv)⟩
      · rw [str_len e1, str_len e2]
        exact Nat.le_trans hl lim_le
      · show (x1.cps ++ x2.cps).toList = _
        rw [Array.toList_append, e1, e2]
    · exact h.elim
theorem ior_sub : OpR X (inplaceOp .Sub) (rGi (kx X Z) .sub) := by
  intro pins s σ H x y v u Q I rx ry h
  obtain ⟨M, ρ, a, b, m, ra, rb, h⟩ := h
  unfold iop op2 at h
  cases a <;> try exact h.elim
  cases b <;> try exact h.elim
  cases ra.int_
  cases rb.int_
  exact iop_sub pins s σ H _ _ _ _ Q I rx ry ⟨_, _, rfl, rfl, h.val m vr_int⟩
/-! ### an item by values, a store -/
theorem pget_idx : PGet X (fun x y H Q => ∃ M ρ n b, MemR (kx X Z) M ρ H ∧ VR (kx X Z) ρ H (.ref n) x ∧ VR (kx X Z) ρ H b y ∧ Pv (kx X Z) ρ H (op2 .idx (.ref n) b M) Q) := by
  intro pins s σ H x y v u Q I rx ry h
  obtain ⟨M, ρ, n, b, m, ra, rb, h⟩ := h
  unfold op2 at h
  cases b <;> try exact h.elim
  case int i =>
  cases rb.int_
  obtain ⟨p, rfl, e1⟩ := ra.ref_
  simp only at h
  split at h
  · rename_i xs hx
    split at h
    · rename_i w hw
      obtain ⟨us, hu, r⟩ := m.lst hx e1
      obtain ⟨z, hz, rz⟩ := getI_ok r hw
      cases rx
      obtain ⟨t, rfl⟩ := ry
      obtain ⟨its, r2, pl, hsz⟩ := I.list (SqL.of hu)
      obtain ⟨j, h1, h2, h3, h4, h5⟩ := atI_get hz
      obtain ⟨w', ew, rw'⟩ := r2.get h2
      have hl := r2.length
      have hn := line63
      have fin : EP X pins σ Q w' s := ⟨z, H, I, rw', h.val m rz⟩
      by_cases h0 : 0 ≤ i
      · have hj : i.toNat = j := by
          rw [seqIndex_of h0 h5] at h1
          exact Option.some.inj h1
        exact wpAny_getItem_list pl.isList h0 (by omega) (by simpa [hj] using ew) fin
      · have hj : (i + (its.toArray.size : Int)).toNat = j := by
          unfold seqIndex? at h1
          simp only [List.size_toArray]
          rw [← hl]
          split at h1 <;> first | omega | skip
          all_goals (try (simp at h1; omega))
        exact wpAny_getItem_list_neg pl.isList (by omega) (by simp only [List.size_toArray]; omega) (by omega) (by rw [hj]; simpa using ew) fin
    · exact h.elim
  · exact h.elim
/-- v[i] = x by what it leaves -/
def sG (K : Kx) : TSet := fun o i v H Q => ∃ M ρ a b c, MemR K M ρ H ∧ VR K ρ H a o ∧ VR K ρ H b i ∧ VR K ρ H c v ∧ match setL a b c M with
  | some M' => ∀ H', Fw ρ ρ H H' → MemR K M' ρ H' → Q H'
  | none => False
theorem pset_lst : PSet X (sG (kx X Z)) := by
  intro pins s σ H o i v ov iv u Q I ro ri rv h
  obtain ⟨M, ρ, a, b, c, m, ra, rb, rc, h⟩ := h
  cases a <;> try exact h.elim
  case ref n =>
  cases b <;> try exact h.elim
  case int k =>
  obtain ⟨p, rfl, e1⟩ := ra.ref_
  cases rb.int_
  unfold setL at h
  simp only at h
  cases hx : M[n]? with
  | none => simp [hx] at h
  | some cl =>
    cases cl with
    | dic _ => simp [hx] at h
    | ins _ _ => simp [hx] at h
    | lst xs =>
      simp only [hx] at h
      cases hj : ixP xs.length k with
      | none => simp [hj] at h
      | some j =>
        simp only [hj] at h
        obtain ⟨us, hu, r⟩ := m.lst hx e1
        refine set_list pins s σ H _ _ _ _ _ _ Q I ro ri rv ⟨p, us, k, j, rfl, rfl, hu, ?_, ?_⟩
        · rw [← ixP_eq, r.length]
          exact hj
        · exact h _ (Fw.write (List.mem_of_getElem? e1)) (m.write e1 (VRs.set j rc r))
end
end HP

set_option Elab.async false
set_option linter.all false
set_option autoImplicit false
set_option maxRecDepth 100000
set_option maxHeartbeats 4000000
/-! A body's text, read into plain form; what its plain form comes to is what the layer's judgements say. -/
namespace HP
open PySem L2

/-! ### no operation raises -/
theorem op2_noexc {o : O2} {a b : PV} {M M' : Mem} {c : Nat} : op2 o a b M ≠ .exc c M' := by
  intro h
  unfold op2 at h
  cases o <;> (repeat' (first | (simp only at h; done) | (split at h) | (cases h; done)))
theorem iop_noexc {o : O2} {a b : PV} {M M' : Mem} {c : Nat} : iop o a b M ≠ .exc c M' := by
  intro h
  unfold iop at h
  cases o <;> simp only at h <;> (repeat' (first | exact op2_noexc h | (split at h) | (cases h; done)))
theorem op1_noexc {o : O1} {a : PV} {M M' : Mem} {c : Nat} : op1 o a M ≠ .exc c M' := by
  intro h
  unfold op1 at h
  cases o <;> (repeat' (first | (simp only at h; done) | (split at h) | (cases h; done)))
theorem opn_noexc {o : On} {as : List PV} {M M' : Mem} {c : Nat} : opn o as M ≠ .exc c M' := by
  intro h
  unfold opn at h
  cases o <;> (repeat' (first | (simp only at h; done) | (split at h) | (cases h; done)))
theorem Pv.of {K : Kx} {W : XW} {σ : St} {ρ : List Addr} {H : Hp} {r : Res PV} {Q : VK} (h : Ps K W σ ρ H r fun v _ ρ' H' => ∀ u, VR K ρ' H' v u → Q u H') (n : ∀ c M', r ≠ .exc c M') : Pv K ρ H r Q := by
  cases r with
  | ok v M => exact h
  | exc c M => exact absurd rfl (n c M)
  | fail => exact h

/-! ### the parts of an expression, from the left -/
section
variable {K : Kx} {W : XW} {σ : St} {H : Hp} {Q : VK} {w : Wd}
/-- a value with what stands behind it -/
theorem T1.go {m : Env → Mem → Res PV} {env : Env} {M : Mem} {ρ : List Addr} (e : EnvR K ρ H env σ) (mm : MemR K M ρ H) (h : Ps K W σ ρ H (m env M) fun v M' ρ' H' => Fw ρ ρ' H H' → EnvR K ρ' H' env σ → MemR K M' ρ' H' → ∀ u, VR K ρ' H' v u → Q u H') : T1 K W m σ H Q :=
  ⟨env, M, ρ, e, mm, h.imp fun v M' ρ' H' f m' q u r => q f (e.mono mm.own f) m' u r⟩
end

section
variable {X : Cx} {Z : Zx} {W : XW} {w : Wd} {a b c : Expr} {ia ib ic : E} {pos : Pos}
theorem s_op2 {op : Operator} {o : O2} (hop : OpR X (binaryOp op) (rG (kx X Z) o)) (ha : PE X a (T1 (kx X Z) W (evE w ia))) (hb : PE X b (T1 (kx X Z) W (evE w ib))) : PE X (.BinOp a op b pos) (T1 (kx X Z) W (evE w (.op2 o ia ib))) := by
  refine PE.imp (pe_op hop ha hb) fun σ H Q h => ?_
  obtain ⟨env, M, ρ, e, m, p⟩ := h
  simp only [evE] at p
  refine T1.go e m (p.bind.imp fun x M1 ρ1 H1 f1 m1 q _ e1 _ u ru => ?_)
  refine T1.go e1 m1 (q.bind.imp fun y M2 ρ2 H2 f2 m2 q2 _ e2 _ u2 ru2 => ?_)
  exact ⟨M2, ρ2, x, y, m2, ru.mono m1.own f2, ru2, Pv.of q2 fun _ _ => op2_noexc⟩
theorem s_cmp {op : CmpOp} {o : O2} (hop : OpR X (compareOp op) (rG (kx X Z) o)) (hm : behindInMarks op b = false) (ha : PE X a (T1 (kx X Z) W (evE w ia))) (hb : PE X b (T1 (kx X Z) W (evE w ib))) : PE X (.Compare a [op] [b] pos) (T1 (kx X Z) W (evE w (.op2 o ia ib))) := by
  refine PE.imp (pe_cmpR hop ha hb hm) fun σ H Q h => ?_
  obtain ⟨env, M, ρ, e, m, p⟩ := h
  simp only [evE] at p
  refine T1.go e m (p.bind.imp fun x M1 ρ1 H1 f1 m1 q _ e1 _ u ru => ?_)
  refine T1.go e1 m1 (q.bind.imp fun y M2 ρ2 H2 f2 m2 q2 _ e2 _ u2 ru2 => ?_)
  exact ⟨M2, ρ2, x, y, m2, ru.mono m1.own f2, ru2, Pv.of q2 fun _ _ => op2_noexc⟩
theorem s_idx (hs : PlainIx b) (ha : PE X a (T1 (kx X Z) W (evE w ia))) (hb : PE X b (T1 (kx X Z) W (evE w ib))) : PE X (.Subscript a b pos) (T1 (kx X Z) W (evE w (.op2 .idx ia ib))) := by
  refine PE.imp (pe_ix (ixr_idx (Z := Z)) ha hb hs) fun σ H Q h => ?_
  obtain ⟨env, M, ρ, e, m, p⟩ := h
  simp only [evE] at p
  refine T1.go e m (p.bind.imp fun x M1 ρ1 H1 f1 m1 q _ e1 _ u ru => ?_)
  refine T1.go e1 m1 (q.bind.imp fun y M2 ρ2 H2 f2 m2 q2 _ e2 _ u2 ru2 => ?_)
  exact ⟨M2, ρ2, x, y, m2, ru.mono m1.own f2, ru2, Pv.of q2 fun _ _ => op2_noexc⟩
theorem s_op1 {op : UnaryOp} {o : O1} (hop : UnR X (unaryOp op) (rG1 (kx X Z) o)) (ha : PE X a (T1 (kx X Z) W (evE w ia))) : PE X (.UnaryOp op a pos) (T1 (kx X Z) W (evE w (.op1 o ia))) := by
  refine PE.imp (pe_un hop ha) fun σ H Q h => ?_
  obtain ⟨env, M, ρ, e, m, p⟩ := h
  simp only [evE] at p
  refine T1.go e m (p.bind.imp fun x M1 ρ1 H1 f1 m1 q _ e1 _ u ru => ?_)
  exact ⟨M1, ρ1, x, m1, ru, Pv.of q fun _ _ => op1_noexc⟩
theorem s_not (ha : PE X a (T1 (kx X Z) W (evE w ia))) : PE X (.UnaryOp .Not a pos) (T1 (kx X Z) W (evE w (.nott ia))) := by
  refine PE.imp (pe_notT ha) fun σ H Q h => ?_
  obtain ⟨env, M, ρ, e, m, p⟩ := h
  simp only [evE] at p
  refine T1.go e m (p.bind.imp fun x M1 ρ1 H1 f1 m1 q _ e1 _ u ru => ?_)
  split at q
  · rename_i k hk
    exact ⟨k, tru_of m1 ru hk, q.here m1 _ vr_bl⟩
  · exact q.elim
theorem s_var {i : Nat} {x : Str} (hN : X.N[i]? = some x) (hv : Vis X.env.scope x) (hd : (x == ("__debug__" : Str)) = false) (hcd : (x == ("__classdict__" : Str)) = false) : PE X (.Name x pos) (T1 (kx X Z) W (evE w (.var i))) := by
  refine PE.imp (pe_var hN hv hd hcd) fun σ H Q h => ?_
  obtain ⟨env, M, ρ, e, m, p⟩ := h
  simp only [evE] at p
  split at p
  · rename_i v hv
    obtain ⟨u, e1, r⟩ := e.val i v hv
    exact ⟨u, e1, p.here m _ r⟩
  · exact p.elim
theorem s_int {i : Int} {j : Nat} : PE X (.Constant (.int i) j pos) (T1 (kx X Z) W (evE w (.lit (.int i)))) := by
  refine PE.imp pe_int fun σ H Q h => ?_
  obtain ⟨env, M, ρ, e, m, p⟩ := h
  simp only [evE] at p
  exact p.here m _ vr_int
theorem s_bl {i : Bool} {j : Nat} : PE X (.Constant (.bool i) j pos) (T1 (kx X Z) W (evE w (.lit (.bl i)))) := by
  refine PE.imp pe_bl fun σ H Q h => ?_
  obtain ⟨env, M, ρ, e, m, p⟩ := h
  simp only [evE] at p
  exact p.here m _ vr_bl
theorem s_non {j : Nat} : PE X (.Constant .none j pos) (T1 (kx X Z) W (evE w (.lit .non))) := by
  refine PE.imp pe_non fun σ H Q h => ?_
  obtain ⟨env, M, ρ, e, m, p⟩ := h
  simp only [evE] at p
  exact p.here m _ vr_non
theorem s_ty {x : Str} {T : Ty} (ht : x = tyS T) (hT : ∀ c, T ≠ .own c) (hg : Gl X x) (hm : X.mg x = none) (hv : bootBuiltins x = some (.type (tyS T))) (hn : x ≠ "__name__") (hd : (x == ("__debug__" : Str)) = false) : PE X (.Name x pos) (T1 (kx X Z) W (evE w (.lit (.ty T)))) := by
  refine PE.imp (pe_bltn (v := .ty (tyS T)) hg hm hv rfl hn hd) fun σ H Q h => ?_
  obtain ⟨env, M, ρ, e, m, p⟩ := h
  simp only [evE] at p
  refine p.here m _ ?_
  unfold VR
  cases T <;> first | rfl | exact absurd rfl (hT _)
theorem s_str {x : Str} {j : Nat} (hv : vstr x.cps.toList = true) : PE X (.Constant (.str x) j pos) (T1 (kx X Z) W (evE w (.lit (.str x.cps.toList)))) := by
  refine PE.imp pe_str fun σ H Q h => ?_
  obtain ⟨env, M, ρ, e, m, p⟩ := h
  simp only [evE] at p
  exact p.here m _ (vr_str rfl hv)
/-- a constant of the module -/
theorem s_glob {g : Nat} {x : Str} {v : PV} {u : V} {uv : Value} (hg : Gl X x) (hm : X.mg x = some uv) (r : RelV u uv) (hw : w.glob g = some v) (hv : ∀ ρ H, VR (kx X Z) ρ H v u) (hd : (x == ("__debug__" : Str)) = false) : PE X (.Name x pos) (T1 (kx X Z) W (evE w (.glob g))) := by
  refine PE.imp (pe_glob hg hm r hd) fun σ H Q h => ?_
  obtain ⟨env, M, ρ, e, m, p⟩ := h
  simp only [evE, hw] at p
  exact p.here m _ (hv ρ H)
theorem s_and {rest : List Expr} (ha : PE X a (T1 (kx X Z) W (evE w ia))) (hb : PE X (.BoolOp .And (b :: rest) pos) (T1 (kx X Z) W (evE w ib))) : PE X (.BoolOp .And (a :: b :: rest) pos) (T1 (kx X Z) W (evE w (.and ia ib))) := by
  refine PE.imp (pe_andT ha hb) fun σ H Q h => ?_
  obtain ⟨env, M, ρ, e, m, p⟩ := h
  simp only [evE] at p
  refine T1.go e m (p.bind.imp fun x M1 ρ1 H1 f1 m1 q _ e1 _ u ru => ?_)
  split at q
  · rename_i k hk
    refine ⟨k, tru_of m1 ru hk, ?_⟩
    cases k with
    | true => exact ⟨env, M1, ρ1, e1, m1, q⟩
    | false => exact q.here m1 _ ru
  · exact q.elim
theorem s_or {rest : List Expr} (ha : PE X a (T1 (kx X Z) W (evE w ia))) (hb : PE X (.BoolOp .Or (b :: rest) pos) (T1 (kx X Z) W (evE w ib))) : PE X (.BoolOp .Or (a :: b :: rest) pos) (T1 (kx X Z) W (evE w (.or ia ib))) := by
  refine PE.imp (pe_orT ha hb) fun σ H Q h => ?_
  obtain ⟨env, M, ρ, e, m, p⟩ := h
  simp only [evE] at p
  refine T1.go e m (p.bind.imp fun x M1 ρ1 H1 f1 m1 q _ e1 _ u ru => ?_)
  split at q
  · rename_i k hk
    refine ⟨k, tru_of m1 ru hk, ?_⟩
    cases k with
    | true => exact q.here m1 _ ru
    | false => exact ⟨env, M1, ρ1, e1, m1, q⟩
  · exact q.elim
theorem s_one {op : BoolOp} (ha : PE X a (T1 (kx X Z) W (evE w ia))) : PE X (.BoolOp op [a] pos) (T1 (kx X Z) W (evE w ia)) := pe_one ha
theorem s_chain {op op' : CmpOp} {o p : O2} (ho : OpR X (compareOp op) (rG (kx X Z) o)) (ho' : OpR X (compareOp op') (rG (kx X Z) p)) (hm : behindInMarks op' c = false) (ha : PE X a (T1 (kx X Z) W (evE w ia))) (hb : PE X b (T1 (kx X Z) W (evE w ib))) (hc : PE X c (T1 (kx X Z) W (evE w ic))) :
    PE X (.Compare a [op, op'] [b, c] pos) (T1 (kx X Z) W (evE w (.chain o p ia ib ic))) := by
  refine PE.imp (pe_chain ho ho' ha hb hc hm) fun σ H Q h => ?_
  obtain ⟨env, M, ρ, e, m, p⟩ := h
  simp only [evE] at p
  refine T1.go e m (p.bind.imp fun x M1 ρ1 H1 f1 m1 q _ e1 _ u ru => ?_)
  refine T1.go e1 m1 (q.bind.imp fun y M2 ρ2 H2 f2 m2 q2 _ e2 _ u2 ru2 => ?_)
  refine ⟨M2, ρ2, x, y, m2, ru.mono m1.own f2, ru2, Pv.of (q2.bind.imp fun r M3 ρ3 H3 f3 m3 q3 z rz => ?_) fun _ _ => op2_noexc⟩
  split at q3
  · rename_i k
    cases rz.bl_
    refine ⟨k, rfl, ?_⟩
    cases k with
    | true =>
      refine T1.go (e2.mono m2.own f3) m3 (q3.bind.imp fun z M4 ρ4 H4 f4 m4 q4 _ e4 _ u4 ru4 => ?_)
      exact ⟨M4, ρ4, y, z, m4, (ru2.mono m2.own f3).mono m3.own f4, ru4, Pv.of q4 fun _ _ => op2_noexc⟩
    | false => exact q3.here m3 _ vr_bl
  · exact q3.elim
theorem s_ife {t : T} {tst : Expr} (ht : PT X tst (Tb (kx X Z) W (evT w t))) (ha : PE X a (T1 (kx X Z) W (evE w ia))) (hb : PE X b (T1 (kx X Z) W (evE w ib))) : PE X (.IfExp tst a b pos) (T1 (kx X Z) W (evE w (.ife t ia ib))) := by
  refine PE.imp (pe_ifExp ht ha hb) fun σ H Q h => ?_
  obtain ⟨env, M, ρ, e, m, p⟩ := h
  simp only [evE] at p
  refine ⟨env, M, ρ, e, m, p.bind.imp fun k M1 ρ1 H1 f1 m1 q => ?_⟩
  cases k with
  | true => exact ⟨env, M1, ρ1, e.mono m.own f1, m1, q⟩
  | false => exact ⟨env, M1, ρ1, e.mono m.own f1, m1, q⟩
end

/-! ### lists of expressions -/
section
variable {X : Cx} {Z : Zx} {W : XW} {w : Wd} {a : Expr} {es : List Expr} {ia : E} {is : List E} {pos : Pos}
theorem sn_nil : PA X [] (Tn (kx X Z) W (evEs w [])) := by
  refine PA.imp pa_nil fun σ H Q h => ?_
  obtain ⟨env, M, ρ, e, m, p⟩ := h
  simp only [evEs] at p
  exact p.here m _ vrs_nil
theorem sn_cons (ha : PE X a (T1 (kx X Z) W (evE w ia))) (hs : PA X es (Tn (kx X Z) W (evEs w is))) (he : starEach (a :: es) X.env = (false, eval a X.env) :: starEach es X.env) : PA X (a :: es) (Tn (kx X Z) W (evEs w (ia :: is))) := by
  refine PA.imp (pa_cons ha hs he) fun σ H Q h => ?_
  obtain ⟨env, M, ρ, e, m, p⟩ := h
  simp only [evEs] at p
  refine T1.go e m (p.bind.imp fun x M1 ρ1 H1 f1 m1 q _ e1 _ u ru => ?_)
  refine ⟨env, M1, ρ1, e1, m1, q.bind.imp fun xs M2 ρ2 H2 f2 m2 q2 us rus => ?_⟩
  exact q2.here m2 _ (vrs_cons (ru.mono m1.own f2) rus)
theorem s_tup {k : Nat} (hs : PA X es (Tn (kx X Z) W (evEs w is))) : PE X (.Tuple es k pos) (T1 (kx X Z) W (evE w (.tup is))) := by
  refine PE.imp (pe_tup hs) fun σ H Q h => ?_
  obtain ⟨env, M, ρ, e, m, p⟩ := h
  simp only [evE] at p
  refine ⟨env, M, ρ, e, m, p.bind.imp fun xs M1 ρ1 H1 f1 m1 q us rus => ?_⟩
  split at q
  · rename_i hl
    refine ⟨by rw [rus.length]; exact Nat.le_trans hl lim_le, fun z hz => ?_⟩
    exact (Pv.of q fun _ _ z => nomatch z).tup m1 rus hz
  · exact q.elim
theorem s_lst (hs : PA X es (Tn (kx X Z) W (evEs w is))) : PE X (.List es pos) (T1 (kx X Z) W (evE w (.lst is))) := by
  refine PE.imp (pe_lst hs) fun σ H Q h => ?_
  obtain ⟨env, M, ρ, e, m, p⟩ := h
  simp only [evE] at p
  refine ⟨env, M, ρ, e, m, p.bind.imp fun xs M1 ρ1 H1 f1 m1 q us rus => ?_⟩
  split at q
  · rename_i hl
    refine ⟨by rw [rus.length]; exact Nat.le_trans hl lim_le, fun z hz => ?_⟩
    exact (Pv.of q fun _ _ z => nomatch z).lst m1 rus hz
  · exact q.elim
/-- a built-in function, a built-in class -/
theorem s_callB {x : Str} {p : Pos} {id : String} {o : On} (hc : CallR X (.builtin id) (rGn (kx X Z) o)) (hg : Gl X x) (hm : X.mg x = none) (hv : bootBuiltins x = some (.builtin id)) (hs : PA X (a :: es) (Tn (kx X Z) W (evEs w is))) (hn : x ≠ "__name__") (hdb : (x == ("__debug__" : Str)) = false)
    (he : starEach (a :: es) X.env = (false, eval a X.env) :: starEach es X.env) (hpl : (backTo pos (starEach es X.env)).any (·.1) = false) : PE X (.Call (.Name x p) (a :: es) [] pos) (T1 (kx X Z) W (evE w (.opn o is))) := by
  refine PE.imp (pe_callB hc hg hm hv hs hn hdb he hpl) fun σ H Q h => ?_
  obtain ⟨env, M, ρ, e, m, p⟩ := h
  simp only [evE] at p
  exact ⟨env, M, ρ, e, m, p.bind.imp fun xs M1 ρ1 H1 f1 m1 q us rus => ⟨M1, ρ1, xs, m1, rus, Pv.of q fun _ _ => opn_noexc⟩⟩
theorem s_callTy {x : Str} {p : Pos} {id : String} {o : On} (hc : CallR X (.type id) (rGn (kx X Z) o)) (hg : Gl X x) (hm : X.mg x = none) (hv : bootBuiltins x = some (.type id)) (hs : PA X (a :: es) (Tn (kx X Z) W (evEs w is))) (hn : x ≠ "__name__") (hdb : (x == ("__debug__" : Str)) = false)
    (he : starEach (a :: es) X.env = (false, eval a X.env) :: starEach es X.env) (hpl : (backTo pos (starEach es X.env)).any (·.1) = false) : PE X (.Call (.Name x p) (a :: es) [] pos) (T1 (kx X Z) W (evE w (.opn o is))) := by
  refine PE.imp (pe_callTy hc hg hm hv hs hn hdb he hpl) fun σ H Q h => ?_
  obtain ⟨env, M, ρ, e, m, p⟩ := h
  simp only [evE] at p
  exact ⟨env, M, ρ, e, m, p.bind.imp fun xs M1 ρ1 H1 f1 m1 q us rus => ⟨M1, ρ1, xs, m1, rus, Pv.of q fun _ _ => opn_noexc⟩⟩
end
end HP

set_option Elab.async false
set_option linter.all false
set_option autoImplicit false
set_option maxRecDepth 100000
set_option maxHeartbeats 4000000
/-! .. calls, tests, what a for walks, targets, statements, loops. -/
namespace HP
open PySem L2

/-! ### forms of the text -/
def isStar : Expr → Bool
  | .Starred .. => true
  | _ => false
def noStar : List Expr → Bool
  | [] => true
  | e :: es => !isStar e && noStar es
def plainBase : Expr → Bool
  | .Call (.Name _ _) [] [] _ => false
  | _ => true
def isComp : Expr → Bool
  | .ListComp .. => true
  | .SetComp .. => true
  | .DictComp .. => true
  | _ => false
theorem star_cons {e : Expr} {es : List Expr} {env : PySem.Env} (h : isStar e = false) : starEach (e :: es) env = (false, eval e env) :: starEach es env := by
  cases e <;> first | rfl | (cases h; done)
theorem star_flags {env : PySem.Env} : ∀ {es : List Expr}, noStar es = true → ∀ x ∈ starEach es env, x.1 = false
  | [], _, x, hx => by cases hx
  | e :: es, h, x, hx => by
    unfold noStar at h
    rw [Bool.and_eq_true] at h
    have h1 : isStar e = false := by simpa using h.1
    rw [star_cons h1] at hx
    rcases List.mem_cons.mp hx with rfl | hx
    · rfl
    · exact star_flags h.2 x hx
theorem back_any {env : PySem.Env} {es : List Expr} {pos : Pos} (h : noStar es = true) : (backTo pos (starEach es env)).any (·.1) = false := by
  unfold backTo
  rw [List.any_map, List.any_eq_false]
  intro x hx
  simp [star_flags h x hx]
theorem back_all {env : PySem.Env} {es : List Expr} {pos : Pos} (h : noStar es = true) : (backTo pos (starEach es env)).all (fun x => !x.1) = true := by
  unfold backTo
  rw [List.all_map, List.all_eq_true]
  intro x hx
  simp [star_flags h x hx]
theorem base_plain {o : Expr} {attr : Str} {env : PySem.Env} {whole : Sem Value} (h : plainBase o = true) : attributeBase o attr env whole = whole := by
  unfold attributeBase
  split
  · cases h
  · rfl
theorem swaps_plain {e : Expr} {t : Option Expr} {l : Nat} {env : PySem.Env} (h : isComp e = false) : swapsWith e t l env = pure false := by
  cases e <;> first | rfl | (cases h; done)

section
variable {X : Cx} {Z : Zx} {W : XW} {w : Wd} {a o : Expr} {es : List Expr} {ia io : E} {is : List E} {pos : Pos}
/-- a built-in's method -/
def mtS : MT → String
  | .list => "list" | .str => "str"
theorem tyV_of {M : Mem} {ρ : List Addr} {H : Hp} {v : PV} {u : V} {k : MT} (m : MemR (kx X Z) M ρ H) (r : VR (kx X Z) ρ H v u) (h : tyM k v M = true) : tyV X.K (mtS k) u H := by
  unfold tyM at h
  cases k with
  | list =>
    cases v <;> try (cases h; done)
    case ref n =>
    obtain ⟨p, rfl, e⟩ := r.ref_
    simp only at h
    split at h
    · rename_i xs hx
      obtain ⟨us, hu, _⟩ := m.lst hx e
      exact .inl ⟨rfl, us, SqL.of hu⟩
    · cases h
  | str =>
    cases v <;> try (cases h; done)
    case str s =>
    obtain ⟨x, rfl, _⟩ := r.str_
    rfl
theorem s_meth {name : Str} {id : String} {k : MT} {om : On} {apos : Pos} (pa : PlainAttrs (mtS k)) (slot : Slot (mtS k) name id) (hty : typeOf (.builtin id) = pure (.type "method_descriptor")) (hm : MtR X id (rGm (kx X Z) om))
    (hb : plainBase o = true) (hs : noStar (a :: es) = true) (hn : (a :: es).length < 29) (hline : (apos.endLine == pos.line) = true) (ho : PE X o (T1 (kx X Z) W (evE w io))) (ha : PA X (a :: es) (Tn (kx X Z) W (evEs w is))) : PE X (.Call (.Attribute o name apos) (a :: es) [] pos) (T1 (kx X Z) W (evE w (.meth k om io is))) := by
  have hs2 : noStar es = true := by unfold noStar at hs; exact (Bool.and_eq_true_iff.mp hs).2
  have hs1 : isStar a = false := by unfold noStar at hs; simpa using (Bool.and_eq_true_iff.mp hs).1
  refine PE.imp (pe_bm pa slot hty hm ho ha (base_plain hb) ?_ hline (star_cons hs1) (back_any hs2)) fun σ H Q h => ?_
  · rw [back_all hs, Bool.true_and]
    simp [keywordEach, backToKw]
    simp at hn
    omega
  · obtain ⟨env, M, ρ, e, m, p⟩ := h
    simp only [evE] at p
    refine T1.go e m (p.bind.imp fun x M1 ρ1 H1 f1 m1 q _ e1 _ u ru => ?_)
    split at q
    · rename_i ht
      refine ⟨tyV_of m1 ru ht, env, M1, ρ1, e1, m1, q.bind.imp fun vs M2 ρ2 H2 f2 m2 q2 us rus => ?_⟩
      exact ⟨M2, ρ2, x, vs, m2, ru.mono m1.own f2, rus, Pv.of q2 fun _ _ => opn_noexc⟩
    · exact q.elim
/-! ### tests -/
theorem t_val {e : Expr} (he : ∀ whole, isTrue e X.env whole = (do let v ← whole; standAt e.pos; holding [v] (truthy v))) (h : PE X e (T1 (kx X Z) W (evE w ia))) : PT X e (Tb (kx X Z) W (evT w (.val ia))) := by
  refine PT.imp (pt_truth h he) fun σ H Q h => ?_
  obtain ⟨env, M, ρ, e, m, p⟩ := h
  simp only [evT] at p
  refine T1.go e m (p.bind.imp fun x M1 ρ1 H1 f1 m1 q _ e1 _ u ru => ?_)
  split at q
  · rename_i b hb
    exact ⟨b, tru_of m1 ru hb, q.here m1⟩
  · exact q.elim
theorem t_cmp {b : Expr} {ib : E} {op : CmpOp} {o : O2} (hop : OpR X (compareOp op) (rG (kx X Z) o)) (hm : behindInMarks op b = false) (ha : PE X a (T1 (kx X Z) W (evE w ia))) (hb : PE X b (T1 (kx X Z) W (evE w ib))) : PT X (.Compare a [op] [b] pos) (Tb (kx X Z) W (evT w (.cmp o ia ib))) := by
  refine PT.imp (pt_cmpR hop ha hb hm) fun σ H Q h => ?_
  obtain ⟨env, M, ρ, e, m, p⟩ := h
  simp only [evT] at p
  refine T1.go e m (p.bind.imp fun x M1 ρ1 H1 f1 m1 q _ e1 _ u ru => ?_)
  refine T1.go e1 m1 (q.bind.imp fun y M2 ρ2 H2 f2 m2 q2 _ e2 _ u2 ru2 => ?_)
  refine ⟨M2, ρ2, x, y, m2, ru.mono m1.own f2, ru2, Pv.of (q2.bind.imp fun r M3 ρ3 H3 f3 m3 q3 z rz => ?_) fun _ _ => op2_noexc⟩
  split at q3
  · rename_i k
    cases rz.bl_
    exact ⟨k, rfl, q3.here m3⟩
  · exact q3.elim
theorem t_chain {b c : Expr} {ib ic : E} {op op' : CmpOp} {o p : O2} (ho : OpR X (compareOp op) (rG (kx X Z) o)) (ho' : OpR X (compareOp op') (rG (kx X Z) p)) (hm : behindInMarks op' c = false) (ha : PE X a (T1 (kx X Z) W (evE w ia))) (hb : PE X b (T1 (kx X Z) W (evE w ib))) (hc : PE X c (T1 (kx X Z) W (evE w ic))) :
    PT X (.Compare a [op, op'] [b, c] pos) (Tb (kx X Z) W (evT w (.chain o p ia ib ic))) := by
  refine PT.imp (pt_chain ho ho' ha hb hc hm) fun σ H Q h => ?_
  obtain ⟨env, M, ρ, e, m, p⟩ := h
  simp only [evT] at p
  refine T1.go e m (p.bind.imp fun x M1 ρ1 H1 f1 m1 q _ e1 _ u ru => ?_)
  refine T1.go e1 m1 (q.bind.imp fun y M2 ρ2 H2 f2 m2 q2 _ e2 _ u2 ru2 => ?_)
  refine ⟨M2, ρ2, x, y, m2, ru.mono m1.own f2, ru2, Pv.of (q2.bind.imp fun r M3 ρ3 H3 f3 m3 q3 z rz => ?_) fun _ _ => op2_noexc⟩
  split at q3
  · rename_i k
    cases rz.bl_
    refine ⟨k, rfl, ?_⟩
    cases k with
    | true =>
      refine T1.go (e2.mono m2.own f3) m3 (q3.bind.imp fun z M4 ρ4 H4 f4 m4 q4 _ e4 _ u4 ru4 => ?_)
      refine ⟨M4, ρ4, y, z, m4, (ru2.mono m2.own f3).mono m3.own f4, ru4, Pv.of (q4.bind.imp fun r M5 ρ5 H5 f5 m5 q5 z5 rz5 => ?_) fun _ _ => op2_noexc⟩
      split at q5
      · rename_i k5
        cases rz5.bl_
        exact ⟨k5, rfl, q5.here m5⟩
      · exact q5.elim
    | false => exact ⟨false, rfl, q3.here m3⟩
  · exact q3.elim
theorem t_not {ta : T} (h : PT X a (Tb (kx X Z) W (evT w ta))) : PT X (.UnaryOp .Not a pos) (Tb (kx X Z) W (evT w (.not ta))) := by
  refine PT.imp (pt_not h) fun σ H Q h => ?_
  obtain ⟨env, M, ρ, e, m, p⟩ := h
  simp only [evT] at p
  exact ⟨env, M, ρ, e, m, p.bind.imp fun k M1 ρ1 H1 f1 m1 q => q.here m1⟩
theorem PW.imp {e : Expr} {t t' : TT} (h : PW X e t) (f : ∀ σ H Q, t' σ H Q → t σ H Q) : PW X e t' := ⟨fun wh pins s σ H Q I q => h.run wh pins s σ H Q I (f σ H Q q)⟩
theorem t_and {b : Expr} {rest : List Expr} {ta tb : T} (h : PT X a (Tb (kx X Z) W (evT w ta))) (hb : PW X (.BoolOp .And (b :: rest) pos) (Tb (kx X Z) W (evT w tb))) : PW X (.BoolOp .And (a :: b :: rest) pos) (Tb (kx X Z) W (evT w (.and ta tb))) := by
  refine PW.imp (pw_and h hb) fun σ H Q h => ?_
  obtain ⟨env, M, ρ, e, m, p⟩ := h
  simp only [evT] at p
  refine ⟨env, M, ρ, e, m, p.bind.imp fun k M1 ρ1 H1 f1 m1 q => ?_⟩
  cases k with
  | true => exact ⟨env, M1, ρ1, e.mono m.own f1, m1, q⟩
  | false => exact q.here m1
theorem t_or {b : Expr} {rest : List Expr} {ta tb : T} (h : PT X a (Tb (kx X Z) W (evT w ta))) (hb : PW X (.BoolOp .Or (b :: rest) pos) (Tb (kx X Z) W (evT w tb))) : PW X (.BoolOp .Or (a :: b :: rest) pos) (Tb (kx X Z) W (evT w (.or ta tb))) := by
  refine PW.imp (pw_or h hb) fun σ H Q h => ?_
  obtain ⟨env, M, ρ, e, m, p⟩ := h
  simp only [evT] at p
  refine ⟨env, M, ρ, e, m, p.bind.imp fun k M1 ρ1 H1 f1 m1 q => ?_⟩
  cases k with
  | true => exact q.here m1
  | false => exact ⟨env, M1, ρ1, e.mono m.own f1, m1, q⟩
end

/-! ### calls of defs of the text -/
/-- a def's promise: what its plain form comes to -/
def spF (K : Kx) (clsV : Nat → Value) (r : List PV → Mem → Res PV) (n : Nat) : Sp := fun vs H Q E => ∃ as M ρ, as.length = n ∧ MemR K M ρ H ∧ VRs K ρ H as vs ∧
  Ps K (fun c _ H' => E (clsV c) none H') [] ρ H (r as M) fun v _ ρ' H' => ∀ u, VR K ρ' H' v u → Q u H'
/-- what is wanted of exceptions, in the layer's words -/
def wx (clsV : Nat → Value) (W : XW) : WX := fun cls d σ H => ∃ c, cls = clsV c ∧ d = none ∧ W c σ H
theorem Ps.exc {K : Kx} {W W' : XW} {σ σ' : St} {ρ : List Addr} {H : Hp} {α : Type} {r : Res α} {k : α → Mem → List Addr → Hp → Prop} (h : Ps K W σ ρ H r k) (f : ∀ c H', W c σ H' → W' c σ' H') : Ps K W' σ' ρ H r k := by
  cases r with
  | ok a M => exact h
  | exc c M => exact fun ρ' H' fw m => f c H' (h ρ' H' fw m)
  | fail => exact h
section
variable {X : Cx} {Z : Zx} {W : XW} {w : Wd} {a : Expr} {es : List Expr} {ia : E} {is : List E} {pos p : Pos} {x : Str} {clsV : Nat → Value} {k : Nat} {f : Addr} {fd : FuncData} {ps : List Str} {fi n : Nat}
theorem s_call (F : FnOk X.prog X.w X.K X.mg X.base (L2.CX X.prog X.w) k f fd ps (spF (kx X Z) clsV (w.call fi) n)) (hr : Room k X.A) (hg : Gl X x) (hm : X.mg x = some (.ref f)) (hk : PySem.W.keepIn X.K (.ref f) = true) (hb : Binds X.K fd ps [])
    (tk : Takes X (wx clsV W)) (hdb : (x == ("__debug__" : Str)) = false) (hs : noStar (a :: es) = true) (hl : is.length = n) (ha : PA X (a :: es) (Tn (kx X Z) W (evEs w is))) (hlen : ∀ env M vs M', evEs w is env M = .ok vs M' → vs.length = is.length) :
    PE X (.Call (.Name x p) (a :: es) [] pos) (T1 (kx X Z) W (evE w (.call fi is))) := by
  have hs2 : noStar es = true := by unfold noStar at hs; exact (Bool.and_eq_true_iff.mp hs).2
  have hs1 : isStar a = false := by unfold noStar at hs; simpa using (Bool.and_eq_true_iff.mp hs).1
  refine PE.imp (pe_callS F hr hg hm hk hb (fun σ => passAt tk σ) ha hdb (star_cons hs1) (back_any hs2)) fun σ H Q h => ?_
  obtain ⟨env, M, ρ, e, m, p⟩ := h
  simp only [evE] at p
  have hv := hlen env M
  refine ⟨env, M, ρ, e, m, ?_⟩
  cases hr : evEs w is env M with
  | fail =>
    rw [hr] at p
    exact p
  | exc c M1 =>
    rw [hr] at p
    exact p
  | ok vs M1 =>
    rw [hr] at p
    have q : Ps (kx X Z) W σ ρ H (w.call fi vs M1) fun v _ ρ' H' => ∀ u, VR (kx X Z) ρ' H' v u → Q u H' := p
    intro ρ1 H1 f1 m1 us rus
    refine ⟨vs, M1, ρ1, ?_, m1, rus, ?_⟩
    · rw [hv vs M1 hr, hl]
    · exact (Ps.fw f1 q).exc fun c H' z => ⟨c, rfl, rfl, z⟩
end
theorem evEs_len {w : Wd} : ∀ (is : List E) (env : Env) (M : Mem) (vs : List PV) (M' : Mem), evEs w is env M = .ok vs M' → vs.length = is.length
  | [], env, M, vs, M', h => by
    simp only [evEs] at h
    cases h
    rfl
  | i :: is, env, M, vs, M', h => by
    simp only [evEs] at h
    cases h1 : evE w i env M with
    | fail => rw [h1] at h; cases h
    | exc c M1 => rw [h1] at h; cases h
    | ok v M1 =>
      rw [h1] at h
      simp only [Res.bind_ok] at h
      cases h2 : evEs w is env M1 with
      | fail => rw [h2] at h; cases h
      | exc c M1 => rw [h2] at h; cases h
      | ok vs2 M2 =>
        rw [h2] at h
        simp only [Res.bind_ok] at h
        cases h
        rw [List.length_cons, List.length_cons, evEs_len is env M1 vs2 _ h2]
end HP

set_option Elab.async false
set_option linter.all false
set_option autoImplicit false
set_option maxRecDepth 100000
set_option maxHeartbeats 4000000
/-! .. what a for walks, targets, statements, loops. -/
namespace HP
open PySem L2

/-! ### what a for walks -/
/-- the turns of a walk are those of the source -/
def ItOk (K : Kx) (J : It) (s : Src) (ρ0 : List Addr) (H0 : Hp) : Prop :=
  match s with
  | .items xs => ∀ (ρ : List Addr) (H : Hp) (M : Mem) (i : Nat), Fw ρ0 ρ H0 H → MemR K M ρ H → match xs[i]? with
    | none => J.stop i H
    | some v => J.go i H ∧ ∀ x H', J.yld i H x H' → Fw ρ ρ H H' ∧ MemR K M ρ H' ∧ VR K ρ H' v x
  | .mem n => ∀ (ρ : List Addr) (H : Hp) (M : Mem) (i : Nat) (xs : List PV), Fw ρ0 ρ H0 H → MemR K M ρ H → M[n]? = some (.lst xs) → match xs[i]? with
    | none => J.stop i H
    | some v => J.go i H ∧ ∀ x H', J.yld i H x H' → Fw ρ ρ H H' ∧ MemR K M ρ H' ∧ VR K ρ H' v x
def Tw (K : Kx) (W : XW) (m : Env → Mem → Res Src) : TI := fun σ H R => ∃ env M ρ, EnvR K ρ H env σ ∧ MemR K M ρ H ∧ Ps K W σ ρ H (m env M) fun s _ ρ' H' => ∀ J, ItOk K J s ρ' H' → R J H'
theorem PI.imp {X : Cx} {tg e : Expr} {t t' : TI} (h : PI X tg e t) (f : ∀ σ H R, t' σ H R → t σ H R) : PI X tg e t' := ⟨fun pins s σ H R I q => h.run pins s σ H R I (f σ H R q)⟩
/-- a list, a tuple, a text -/
def iSeq (K : PySem.W.Frag) (tl : TE) : TI := fun σ H R => tl σ H fun x H1 =>
  (∃ a, x = .ref a ∧ (∃ xs, SqL K H1 a xs) ∧ R (Itl K a) H1) ∨ (∃ a, x = .ref a ∧ (∃ xs, SqT K H1 a xs) ∧ R (Itt K a) H1) ∨ ∃ z, x = .str z ∧ R (Its z) H1
theorem pi_seq {X : Cx} {tg l : Expr} {tl : TE} (hl : PE X l tl) : PI X tg l (iSeq X.K tl) := by
  refine ⟨fun pins s σ H R I h => ?_⟩
  refine thn (hl.run pins s σ H _ I h) fun v s1 ⟨x, H1, I1, r1, q1⟩ => ?_
  rcases q1 with ⟨a, e, ⟨xs, hq⟩, q⟩ | ⟨a, e, ⟨xs, hq⟩, q⟩ | ⟨z, e, q⟩
  · subst e
    cases r1
    obtain ⟨its, rv, p, hz⟩ := I1.list hq
    refine wpAny_pyIter_list p.isList ?_
    refine ⟨s1.heap.objs.size, [s1.heap.objs.size], _, _, H1, rfl, I1.kept (t' := s1.toks) fun b o e => Heap.get?_push_of_some _ e, turn_list a _, ⟨_, Heap.get?_push_size _ rfl, rfl, rfl⟩, fun b hb => ?_, q⟩
    have e : b = s1.heap.objs.size := by simpa using hb
    subst e
    exact I1.fpOk (Nat.le_refl _) (I1.hok.fresh (Nat.le_refl _))
  · subst e
    cases r1
    obtain ⟨its, rv, p, hz⟩ := I1.tuple hq
    refine wpAny_pyIter_tuple (show s1.heap.IsTuple a its.toArray from p) ?_
    refine ⟨s1.heap.objs.size, [s1.heap.objs.size], _, _, H1, rfl, I1.kept (t' := s1.toks) fun b o e => Heap.get?_push_of_some _ e, turn_tuple a _, ⟨_, Heap.get?_push_size _ rfl, rfl, rfl⟩, fun b hb => ?_, q⟩
    have e : b = s1.heap.objs.size := by simpa using hb
    subst e
    exact I1.fpOk (Nat.le_refl _) (I1.hok.fresh (Nat.le_refl _))
  · subst e
    obtain ⟨t, rfl⟩ := r1
    cases ha : z.cps.all (· < 128)
    · exact wpAny_pyIter_wide ha (pi_one (tk := s1.toks) I1 _ (turn_str _ z t "str_iterator" (.inr rfl)) ⟨_, Heap.get?_push_size _ rfl, rfl, rfl⟩ q)
    · exact wpAny_pyIter_ascii ha (pi_one (tk := s1.toks) I1 _ (turn_str _ z t "str_ascii_iterator" (.inl rfl)) ⟨_, Heap.get?_push_size _ rfl, rfl, rfl⟩ q)
section
variable {K : Kx} {ρ0 : List Addr} {H0 : Hp}
theorem itok_tup {a : Addr} {us : List V} {xs : List PV} (w : Own ρ0 H0) (t : TR K H0 a us) (r : VRs K ρ0 H0 xs us) : ItOk K (Itt K.K a) (.items xs) ρ0 H0 := by
  intro ρ H M i f m
  have t' : TR K H a us := t.mono w f
  have r' := r.mono w f
  cases e : xs[i]? with
  | none => exact ⟨us, t'.sq, by rw [r'.length]; exact List.getElem?_eq_none_iff.mp e⟩
  | some v =>
    obtain ⟨u, hu, ru⟩ := r'.get e
    refine ⟨⟨us, u, t'.sq, hu⟩, fun x H' y => ?_⟩
    obtain ⟨rfl, y⟩ := y
    have := y us t'.sq
    rw [hu] at this
    cases this
    exact ⟨Fw.refl, m, ru⟩
theorem itok_rol {a : Addr} {us : List V} {xs : List PV} (w : Own ρ0 H0) (t : LR K H0 a us) (r : VRs K ρ0 H0 xs us) : ItOk K (Itl K.K a) (.items xs) ρ0 H0 := by
  intro ρ H M i f m
  have t' : LR K H a us := t.mono w f
  have r' := r.mono w f
  cases e : xs[i]? with
  | none => exact ⟨us, t'.sq, by rw [r'.length]; exact List.getElem?_eq_none_iff.mp e⟩
  | some v =>
    obtain ⟨u, hu, ru⟩ := r'.get e
    refine ⟨⟨us, u, t'.sq, hu⟩, fun x H' y => ?_⟩
    obtain ⟨rfl, y⟩ := y
    have := y us t'.sq
    rw [hu] at this
    cases this
    exact ⟨Fw.refl, m, ru⟩
theorem itok_mem {a : Addr} {n : Nat} (e : ρ0[n]? = some a) : ItOk K (Itl K.K a) (.mem n) ρ0 H0 := by
  intro ρ H M i xs f m hx
  have e' : ρ[n]? = some a := f.get e
  obtain ⟨us, hu, r⟩ := m.lst hx e'
  cases e : xs[i]? with
  | none => exact ⟨us, SqL.of hu, by rw [r.length]; exact List.getElem?_eq_none_iff.mp e⟩
  | some v =>
    obtain ⟨u, hu2, ru⟩ := r.get e
    refine ⟨⟨us, u, SqL.of hu, hu2⟩, fun x H' y => ?_⟩
    obtain ⟨rfl, y⟩ := y
    have := y us (SqL.of hu)
    rw [hu2] at this
    cases this
    exact ⟨Fw.refl, m, ru⟩
theorem itok_str {z : Str} {s : List Nat} (e : z.cps.toList = s) (hv : vstr s = true) : ItOk K (Its z) (.items (s.map fun c => .str [c])) ρ0 H0 := by
  subst e
  intro ρ H M i f m
  rw [List.getElem?_map, Array.getElem?_toList]
  cases e : z.cps[i]? with
  | none => exact Array.getElem?_eq_none_iff.mp e
  | some c =>
    refine ⟨(Array.getElem?_eq_some_iff.mp e).1, fun x H' y => ?_⟩
    obtain ⟨rfl, d, hd, rfl⟩ := y
    rw [e] at hd
    cases hd
    exact ⟨Fw.refl, m, vr_str rfl (vstr_mem hv (by rw [Array.getElem?_toList]; exact e))⟩
theorem itok_range {lo : Int} {n : Nat} : ItOk K (Itr lo n) (.items (rangeL lo n)) ρ0 H0 := by
  intro ρ H M i f m
  unfold rangeL
  rw [List.getElem?_map]
  by_cases h : i < n
  · rw [List.getElem?_eq_getElem (by simpa using h)]
    refine ⟨h, fun x H' y => ?_⟩
    obtain ⟨rfl, rfl⟩ := y
    refine ⟨Fw.refl, m, ?_⟩
    simp only [List.getElem_range]
    exact vr_int
  · rw [List.getElem?_eq_none (by simpa using h)]
    exact (by omega : n ≤ i)
end
section
variable {X : Cx} {Z : Zx} {W : XW} {w : Wd} {a tg : Expr} {es : List Expr} {ia : E} {is : List E} {pos p : Pos}
theorem i_val (ha : PE X a (T1 (kx X Z) W (evE w ia))) : PI X tg a (Tw (kx X Z) W (evI w (.val ia))) := by
  refine PI.imp (pi_seq ha) fun σ H R h => ?_
  obtain ⟨env, M, ρ, e, m, p⟩ := h
  simp only [evI] at p
  refine T1.go e m (p.bind.imp fun x M1 ρ1 H1 f1 m1 q _ e1 _ u ru => ?_)
  split at q
  · obtain ⟨b, us, rfl, t, rr⟩ := ru.tup_
    exact .inr (.inl ⟨b, rfl, ⟨us, t.sq⟩, q.here m1 _ (itok_tup m1.own t rr)⟩)
  · obtain ⟨b, us, rfl, t, rr⟩ := ru.rol_
    exact .inl ⟨b, rfl, ⟨us, t.sq⟩, q.here m1 _ (itok_rol m1.own t rr)⟩
  · have hv := ru.vs
    obtain ⟨z, rfl, hz⟩ := ru.str_
    exact .inr (.inr ⟨z, rfl, q.here m1 _ (itok_str hz hv)⟩)
  · obtain ⟨b, rfl, hb⟩ := ru.ref_
    split at q
    · rename_i xs hx
      obtain ⟨us, hu, _⟩ := m1.lst hx hb
      exact .inl ⟨b, rfl, ⟨us, SqL.of hu⟩, q.here m1 _ (itok_mem hb)⟩
    · exact q.elim
  · exact q.elim
theorem i_range1 {x : Str} (hx : x = "range") (hg : Gl X x) (hm : X.mg x = none) (hs : isStar a = false) (ha : PA X [a] (Tn (kx X Z) W (evEs w is))) (hl : is.length = 1) : PI X tg (.Call (.Name x p) [a] [] pos) (Tw (kx X Z) W (evI w (.range is))) := by
  subst hx
  refine PI.imp (pi_range1 hg hm ha (star_cons hs)) fun σ H R h => ?_
  obtain ⟨env, M, ρ, e, m, p⟩ := h
  simp only [evI] at p
  refine ⟨env, M, ρ, e, m, ?_⟩
  cases hr : evEs w is env M with
  | fail => rw [hr] at p; exact p
  | exc c M1 => rw [hr] at p; exact p
  | ok vs M1 =>
    rw [hr] at p
    simp only [Res.bind_ok] at p
    have hlen := evEs_len is env M vs M1 hr
    intro ρ1 H1 f1 m1 us rus
    have q := Ps.fw f1 p
    split at q
    · obtain ⟨u, rfl, ru⟩ := one_inv rus
      cases ru.int_
      split at q
      · rename_i hj
        exact ⟨_, rfl, hj.1, hj.2, q.here m1 _ itok_range⟩
      · exact q.elim
    · rw [hl] at hlen
      simp at hlen
    · exact q.elim
theorem i_range2 {b : Expr} {x : Str} (hx : x = "range") (hg : Gl X x) (hm : X.mg x = none) (hs : isStar a = false) (hs2 : isStar b = false) (ha : PA X [a, b] (Tn (kx X Z) W (evEs w is))) (hl : is.length = 2) : PI X tg (.Call (.Name x p) [a, b] [] pos) (Tw (kx X Z) W (evI w (.range is))) := by
  subst hx
  refine PI.imp (pi_range2 hg hm ha (by rw [star_cons hs, star_cons hs2] <;> rfl) (star_cons hs2)) fun σ H R h => ?_
  obtain ⟨env, M, ρ, e, m, p⟩ := h
  simp only [evI] at p
  refine ⟨env, M, ρ, e, m, ?_⟩
  cases hr : evEs w is env M with
  | fail => rw [hr] at p; exact p
  | exc c M1 => rw [hr] at p; exact p
  | ok vs M1 =>
    rw [hr] at p
    simp only [Res.bind_ok] at p
    have hlen := evEs_len is env M vs M1 hr
    intro ρ1 H1 f1 m1 us rus
    have q := Ps.fw f1 p
    split at q
    · rw [hl] at hlen
      simp at hlen
    · obtain ⟨u, v, rfl, ru, rv⟩ := two_inv rus
      cases ru.int_
      cases rv.int_
      split at q
      · rename_i hj
        exact ⟨_, _, rfl, hj, q.here m1 _ itok_range⟩
      · exact q.elim
    · exact q.elim
end

/-! ### targets -/
def Tg1 (K : Kx) (g : Tg) : TG := fun u σ H Q => ∃ env M ρ v, EnvR K ρ H env σ ∧ MemR K M ρ H ∧ VR K ρ H v u ∧ ∃ env', bindT g v env = some env' ∧ ∀ σ', EnvR K ρ H env' σ' → Q σ' H
def Tgn (K : Kx) (gs : List Tg) : TGs := fun us σ H Q => ∃ env M ρ vs, EnvR K ρ H env σ ∧ MemR K M ρ H ∧ VRs K ρ H vs us ∧ ∃ env', bindTs gs vs env = some env' ∧ ∀ σ', EnvR K ρ H env' σ' → Q σ' H
theorem PG.imp {X : Cx} {e : Expr} {t t' : TG} (h : PG X e t) (f : ∀ u σ H Q, t' u σ H Q → t u σ H Q) : PG X e t' := ⟨fun pins s σ H v u Q I r q => h.run pins s σ H v u Q I r (f v σ H Q q)⟩
theorem PGs.imp {X : Cx} {e : List Expr} {t t' : TGs} (h : PGs X e t) (f : ∀ u σ H Q, t' u σ H Q → t u σ H Q) : PGs X e t' := ⟨fun pins s σ H v u Q I r q => h.run pins s σ H v u Q I r (f v σ H Q q)⟩
section
variable {X : Cx} {Z : Zx} {pos : Pos}
theorem g_name {i : Nat} {x : Str} (hN : X.N.Nodup) (hi : X.N[i]? = some x) (hx : Loc X.env.scope x) (hf : X.fn x = true ∨ X.env.scope.names.lookup x = some .local) : PG X (.Name x pos) (Tg1 (kx X Z) (.name i)) := by
  refine PG.imp (pg_name hN hi hx hf) fun u σ H Q h => ?_
  obtain ⟨env, M, ρ, v, e, m, r, env', hb, q⟩ := h
  simp only [bindT] at hb
  split at hb
  · cases hb
    exact q _ (e.set r)
  · cases hb
theorem gs_nil : PGs X [] (Tgn (kx X Z) []) := by
  refine PGs.imp pgs_nil fun us σ H Q h => ?_
  obtain ⟨env, M, ρ, vs, e, m, r, env', hb, q⟩ := h
  cases vs with
  | nil =>
    simp only [bindTs] at hb
    cases hb
    exact ⟨r.nil, q _ e⟩
  | cons v vs =>
    simp only [bindTs] at hb
    cases hb
theorem gs_cons {e : Expr} {es : List Expr} {g : Tg} {gs : List Tg} (h1 : PG X e (Tg1 (kx X Z) g)) (h2 : PGs X es (Tgn (kx X Z) gs)) (hs : isStar e = false) : PGs X (e :: es) (Tgn (kx X Z) (g :: gs)) := by
  have h0 : (assignEach (e :: es) X.env).map (·.2) = assign e X.env :: (assignEach es X.env).map (·.2) := by
    cases e <;> first | rfl | (cases hs; done)
  refine PGs.imp (pgs_cons h1 h2 h0) fun us σ H Q h => ?_
  obtain ⟨env, M, ρ, vs, e, m, r, env', hb, q⟩ := h
  cases vs with
  | nil =>
    simp only [bindTs] at hb
    cases hb
  | cons v vs =>
    simp only [bindTs] at hb
    obtain ⟨u, ur, rfl, a, b⟩ := r.inv
    split at hb
    · rename_i env1 h1
      exact ⟨u, ur, rfl, env, M, ρ, v, e, m, a, env1, h1, fun σ1 e1 => ⟨env1, M, ρ, vs, e1, m, b, env', hb, q⟩⟩
    · cases hb
theorem assign_len {env : PySem.Env} : ∀ es : List Expr, (assignEach es env).length = es.length
  | [] => rfl
  | e :: es => by cases e <;> (show (assignEach es env).length + 1 = es.length + 1; rw [assign_len es])
theorem assign_nostar {env : PySem.Env} : ∀ {es : List Expr}, noStar es = true → (assignEach es env).findIdx? (·.1) = none
  | [], _ => rfl
  | e :: es, h => by
    unfold noStar at h
    rw [Bool.and_eq_true] at h
    have ih := assign_nostar (env := env) h.2
    have h1 : isStar e = false := by simpa using h.1
    have h0 : assignEach (e :: es) env = (false, assign e env) :: assignEach es env := by
      cases e <;> first | rfl | (cases h1; done)
    rw [h0, List.findIdx?_cons]
    simp [ih]
theorem bindTs_len : ∀ {gs : List Tg} {vs : List PV} {env env' : Env}, bindTs gs vs env = some env' → gs.length = vs.length
  | [], vs, env, env', h => by
    cases vs with
    | nil => rfl
    | cons => simp only [bindTs] at h; cases h
  | g :: gs, vs, env, env', h => by
    cases vs with
    | nil => simp only [bindTs] at h; cases h
    | cons v vs =>
      simp only [bindTs] at h
      split at h
      · rw [List.length_cons, List.length_cons, bindTs_len h]
      · cases h
theorem g_tup {es : List Expr} {k : Nat} {gs : List Tg} (hc : X.calm = true) (h : PGs X es (Tgn (kx X Z) gs)) (hl : gs.length = es.length) (hs : noStar es = true) : PG X (.Tuple es k pos) (Tg1 (kx X Z) (.tup gs)) := by
  refine PG.imp (pg_tup hc h (assign_len es) (assign_nostar hs)) fun u σ H Q h => ?_
  obtain ⟨env, M, ρ, v, e, m, r, env', hb, q⟩ := h
  simp only [bindT] at hb
  split at hb
  · rename_i vs
    obtain ⟨a, us, rfl, t, rr⟩ := r.tup_
    refine ⟨a, us, rfl, t.sq, ?_, env, M, ρ, vs, e, m, rr, env', hb, q⟩
    rw [rr.length, ← bindTs_len hb, hl]
  · cases hb
end

/-! ### statements -/
/-- a statement's outcome, and what is wanted behind it -/
def PC (K : Kx) (W : XW) (ρ : List Addr) (H : Hp) (c : Ctl) (D : Ends) : Prop :=
  match c with
  | .nxt env M' => ∀ ρ' H' σ', Fw ρ ρ' H H' → MemR K M' ρ' H' → EnvR K ρ' H' env σ' → D.nx σ' H'
  | .ret v M' => ∀ ρ' H' u, Fw ρ ρ' H H' → MemR K M' ρ' H' → VR K ρ' H' v u → D.rt u H'
  | .brk env M' => ∀ ρ' H' σ', Fw ρ ρ' H H' → MemR K M' ρ' H' → EnvR K ρ' H' env σ' → D.bk σ' H'
  | .cnt env M' => ∀ ρ' H' σ', Fw ρ ρ' H H' → MemR K M' ρ' H' → EnvR K ρ' H' env σ' → D.ct σ' H'
  | .exc c env M' => ∀ ρ' H' σ', Fw ρ ρ' H H' → MemR K M' ρ' H' → EnvR K ρ' H' env σ' → W c σ' H'
  | .fail => False
def TS1 (K : Kx) (W : XW) (m : Env → Mem → Ctl) : TS := fun D σ H => ∃ env M ρ, EnvR K ρ H env σ ∧ MemR K M ρ H ∧ PC K W ρ H (m env M) D
section
variable {K : Kx} {W : XW} {ρ ρ' : List Addr} {H H' : Hp} {c : Ctl} {D : Ends} {σ : St} {α : Type}
theorem PC.fw (f : Fw ρ ρ' H H') (h : PC K W ρ H c D) : PC K W ρ' H' c D := by
  cases c with
  | nxt env M => exact fun ρ2 H2 σ2 f2 m e => h ρ2 H2 σ2 (f.trans f2) m e
  | ret v M => exact fun ρ2 H2 u f2 m e => h ρ2 H2 u (f.trans f2) m e
  | brk env M => exact fun ρ2 H2 σ2 f2 m e => h ρ2 H2 σ2 (f.trans f2) m e
  | cnt env M => exact fun ρ2 H2 σ2 f2 m e => h ρ2 H2 σ2 (f.trans f2) m e
  | exc c env M => exact fun ρ2 H2 σ2 f2 m e => h ρ2 H2 σ2 (f.trans f2) m e
  | fail => exact h
theorem PC.thn {r : Res α} {env : Env} {M : Mem} {f : α → Mem → Ctl} (e : EnvR K ρ H env σ) (mm : MemR K M ρ H) (h : PC K W ρ H (r.thn env f) D) : Ps K W σ ρ H r fun a M1 ρ1 H1 => PC K W ρ1 H1 (f a M1) D := by
  cases r with
  | ok a M => exact fun ρ2 H2 f2 m => PC.fw f2 h
  | exc c M => exact fun ρ2 H2 f2 m => h ρ2 H2 σ f2 m (e.mono mm.own f2)
  | fail => exact h
theorem PC.nx {env : Env} {M : Mem} (h : PC K W ρ H (.nxt env M) D) (e : EnvR K ρ H env σ) (m : MemR K M ρ H) : D.nx σ H := h ρ H σ Fw.refl m e
end
theorem PS.imp {X : Cx} {st : Stmt} {t t' : TS} (h : PS X st t) (f : ∀ D σ H, t' D σ H → t D σ H) : PS X st t' := ⟨fun pins s σ H D I q => h.run pins s σ H D I (f D σ H q)⟩
theorem PSs.imp {X : Cx} {st : List Stmt} {t t' : TS} (h : PSs X st t) (f : ∀ D σ H, t' D σ H → t D σ H) : PSs X st t' := ⟨fun pins s σ H D I q => h.run pins s σ H D I (f D σ H q)⟩
section
variable {X : Cx} {Z : Zx} {W : XW} {w : Wd} {a b e : Expr} {ia ib ie : E} {pos pos2 : Pos}
theorem ss_nil : PSs X [] (TS1 (kx X Z) W (evSs w [])) := by
  refine PSs.imp pss_nil fun D σ H h => ?_
  obtain ⟨env, M, ρ, e, m, p⟩ := h
  simp only [evSs] at p
  exact p.nx e m
theorem ss_cons {st : Stmt} {sts : List Stmt} {s : S} {ss : List S} (h1 : PS X st (TS1 (kx X Z) W (evS w s))) (h2 : PSs X sts (TS1 (kx X Z) W (evSs w ss))) : PSs X (st :: sts) (TS1 (kx X Z) W (evSs w (s :: ss))) := by
  refine PSs.imp (pss_cons h1 h2) fun D σ H h => ?_
  obtain ⟨env, M, ρ, e, m, p⟩ := h
  simp only [evSs] at p
  refine ⟨env, M, ρ, e, m, ?_⟩
  cases hc : evS w s env M with
  | nxt env1 M1 =>
    rw [hc] at p
    exact fun ρ1 H1 σ1 f1 m1 e1 => ⟨env1, M1, ρ1, e1, m1, PC.fw f1 p⟩
  | ret v M1 => rw [hc] at p; exact p
  | brk v M1 => rw [hc] at p; exact p
  | cnt v M1 => rw [hc] at p; exact p
  | exc c v M1 => rw [hc] at p; exact p
  | fail => rw [hc] at p; exact p
theorem ss_pass : PS X (.Pass pos) (TS1 (kx X Z) W (evS w .pass)) := by
  refine PS.imp ps_pass fun D σ H h => ?_
  obtain ⟨env, M, ρ, e, m, p⟩ := h
  simp only [evS] at p
  exact p.nx e m
theorem ss_brk : PS X (.Break pos) (TS1 (kx X Z) W (evS w .brk)) := by
  refine PS.imp ps_break fun D σ H h => ?_
  obtain ⟨env, M, ρ, e, m, p⟩ := h
  simp only [evS] at p
  exact p ρ H σ Fw.refl m e
theorem ss_cnt : PS X (.Continue pos) (TS1 (kx X Z) W (evS w .cnt)) := by
  refine PS.imp ps_continue fun D σ H h => ?_
  obtain ⟨env, M, ρ, e, m, p⟩ := h
  simp only [evS] at p
  exact p ρ H σ Fw.refl m e
theorem ss_retN : PS X (.Return none pos) (TS1 (kx X Z) W (evS w .retN)) := by
  refine PS.imp ps_retN fun D σ H h => ?_
  obtain ⟨env, M, ρ, e, m, p⟩ := h
  simp only [evS] at p
  exact p ρ H _ Fw.refl m vr_non
theorem ss_ret (h : PE X e (T1 (kx X Z) W (evE w ie))) : PS X (.Return (some e) pos) (TS1 (kx X Z) W (evS w (.ret ie))) := by
  refine PS.imp (ps_ret h) fun D σ H h => ?_
  obtain ⟨env, M, ρ, e, m, p⟩ := h
  simp only [evS] at p
  refine T1.go e m ((p.thn e m).imp fun x M1 ρ1 H1 f1 m1 q _ e1 _ u ru => ?_)
  exact q ρ1 H1 u Fw.refl m1 ru
theorem ss_expr (h : PE X e (T1 (kx X Z) W (evE w ie))) (hs : isComp e = false) : PS X (.Expr e pos) (TS1 (kx X Z) W (evS w (.expr ie))) := by
  refine PS.imp (ps_expr h (swaps_plain hs)) fun D σ H h => ?_
  obtain ⟨env, M, ρ, e, m, p⟩ := h
  simp only [evS] at p
  refine T1.go e m ((p.thn e m).imp fun x M1 ρ1 H1 f1 m1 q _ e1 _ u ru => ?_)
  exact q.nx e1 m1
theorem ss_if {t : T} {sa sb : List Stmt} {pa pb : List S} (ht : PT X a (Tb (kx X Z) W (evT w t))) (h1 : PSs X sa (TS1 (kx X Z) W (evSs w pa))) (h2 : PSs X sb (TS1 (kx X Z) W (evSs w pb))) : PS X (.If a sa sb pos) (TS1 (kx X Z) W (evS w (.ifs t pa pb))) := by
  refine PS.imp (ps_if ht h1 h2) fun D σ H h => ?_
  obtain ⟨env, M, ρ, e, m, p⟩ := h
  simp only [evS] at p
  refine ⟨env, M, ρ, e, m, (p.thn e m).imp fun k M1 ρ1 H1 f1 m1 q => ?_⟩
  cases k with
  | true => exact ⟨env, M1, ρ1, e.mono m.own f1, m1, q⟩
  | false => exact ⟨env, M1, ρ1, e.mono m.own f1, m1, q⟩
/-- a target that is no tuple's display, or a value that is none -/
theorem ss_asg {t : Expr} {g : Tg} (h : PE X e (T1 (kx X Z) W (evE w ie))) (hg : PG X t (Tg1 (kx X Z) g)) (hs : isComp e = false) (hw : swappedStores [t] e X.env = pure none) (ht : isStar t = false) : PS X (.Assign [t] e pos) (TS1 (kx X Z) W (evS w (.asg g ie))) := by
  have h1 : (assignEach [t] X.env).map (·.2) = [assign t X.env] := by cases t <;> first | rfl | (cases ht; done)
  refine PS.imp (ps_asg h hg (swaps_plain hs) hw h1) fun D σ H h => ?_
  obtain ⟨env, M, ρ, e, m, p⟩ := h
  simp only [evS] at p
  refine T1.go e m ((p.thn e m).imp fun x M1 ρ1 H1 f1 m1 q _ e1 _ u ru => ?_)
  split at q
  · rename_i env' hb
    exact ⟨env, M1, ρ1, x, e1, m1, ru, env', hb, fun σ' e' => q.nx e' m1⟩
  · exact q.elim
def isSlice : Expr → Bool
  | .Slice .. => true
  | _ => false
theorem ss_setI (hsl : isSlice b = false) (ha : PE X a (T1 (kx X Z) W (evE w ia))) (hb : PE X b (T1 (kx X Z) W (evE w ib))) (he : PE X e (T1 (kx X Z) W (evE w ie))) (hs : isComp e = false) : PS X (.Assign [.Subscript a b pos2] e pos) (TS1 (kx X Z) W (evS w (.setI ia ib ie))) := by
  have hsub : PG X (.Subscript a b pos2) (gSub (T1 (kx X Z) W (evE w ia)) (T1 (kx X Z) W (evE w ib)) (sG (kx X Z))) := pg_sub ha hb (pset_lst (Z := Z)) (fun v => by cases b <;> first | rfl | (cases hsl; done))
  refine PS.imp (ps_asg he hsub (swaps_plain (t := some (.Subscript a b pos2)) (l := pos.line) (env := X.env) hs) rfl rfl) fun D σ H h => ?_
  obtain ⟨env, M, ρ, e, m, p⟩ := h
  simp only [evS] at p
  refine T1.go e m ((p.thn e m).imp fun x M1 ρ1 H1 f1 m1 q _ e1 _ u ru => ?_)
  refine T1.go e1 m1 ((q.thn e1 m1).imp fun y M2 ρ2 H2 f2 m2 q2 _ e2 _ u2 ru2 => ?_)
  refine T1.go e2 m2 ((q2.thn e2 m2).imp fun z M3 ρ3 H3 f3 m3 q3 _ e3 _ u3 ru3 => ?_)
  refine ⟨M3, ρ3, y, z, x, m3, ru2.mono m2.own f3, ru3, (ru.mono m1.own f2).mono m2.own f3, ?_⟩
  cases hset : setL y z x M3 with
  | none =>
    rw [hset] at q3
    exact q3
  | some M4 =>
    rw [hset] at q3
    exact fun H' f' m' => q3 ρ3 H' σ f' m' (e3.mono m3.own f')
theorem ss_aug {i : Nat} {x : Str} {op : Operator} {o : O2} (hop : OpR X (inplaceOp op) (rGi (kx X Z) o)) (hN : X.N.Nodup) (hi : X.N[i]? = some x) (hx : Loc X.env.scope x) (hf : X.fn x = true ∨ X.env.scope.names.lookup x = some .local) (he : PE X e (T1 (kx X Z) W (evE w ie))) :
    PS X (.AugAssign (.Name x pos2) op e pos) (TS1 (kx X Z) W (evS w (.aug i o ie))) := by
  refine PS.imp (ps_aug hN hi hx he (show PIp X op (rGi (kx X Z) o) from hop) hf) fun D σ H h => ?_
  obtain ⟨env, M, ρ, e, m, p⟩ := h
  simp only [evS] at p
  split at p
  · rename_i v hv
    obtain ⟨u0, hu0, r0⟩ := e.val i v hv
    refine ⟨u0, hu0, T1.go e m ((p.thn e m).imp fun y M1 ρ1 H1 f1 m1 q _ e1 _ u ru => ?_)⟩
    refine ⟨M1, ρ1, v, y, m1, r0.mono m.own f1, ru, Pv.of ((q.thn e1 m1).imp fun z M2 ρ2 H2 f2 m2 q2 u2 ru2 => ?_) fun _ _ => iop_noexc⟩
    exact q2.nx ((e1.mono m1.own f2).set ru2) m2
  · exact p.elim
theorem ss_augI {op : Operator} {o : O2} (hop : OpR X (inplaceOp op) (rGi (kx X Z) o)) (ha : PE X a (T1 (kx X Z) W (evE w ia))) (hb : PE X b (T1 (kx X Z) W (evE w ib))) (he : PE X e (T1 (kx X Z) W (evE w ie)))
    (haug : ∀ ov iv new, augStore b ov iv new = (do holding [new, ov, iv] (setItem ov iv new); release [new, ov, iv] []; pure .next)) : PS X (.AugAssign (.Subscript a b pos2) op e pos) (TS1 (kx X Z) W (evS w (.augI ia ib o ie))) := by
  refine PS.imp (ps_augS ha hb (pget_idx (Z := Z)) he (show PIp X op (rGi (kx X Z) o) from hop) (pset_lst (Z := Z)) haug) fun D σ H h => ?_
  obtain ⟨env, M, ρ, e, m, p⟩ := h
  simp only [evS] at p
  refine T1.go e m ((p.thn e m).imp fun v M1 ρ1 H1 f1 m1 q _ e1 _ u ru => ?_)
  refine T1.go e1 m1 ((q.thn e1 m1).imp fun j M2 ρ2 H2 f2 m2 q2 _ e2 _ u2 ru2 => ?_)
  cases v <;> try exact q2.elim
  case ref n =>
  refine ⟨M2, ρ2, n, j, m2, ru.mono m1.own f2, ru2, Pv.of ((q2.thn e2 m2).imp fun x M3 ρ3 H3 f3 m3 q3 u3 ru3 => ?_) fun _ _ => op2_noexc⟩
  have e3 := e2.mono m2.own f3
  refine T1.go e3 m3 ((q3.thn e3 m3).imp fun y M4 ρ4 H4 f4 m4 q4 _ e4 _ u4 ru4 => ?_)
  refine ⟨M4, ρ4, x, y, m4, ru3.mono m3.own f4, ru4, Pv.of ((q4.thn e4 m4).imp fun z M5 ρ5 H5 f5 m5 q5 u5 ru5 => ?_) fun _ _ => iop_noexc⟩
  refine ⟨M5, ρ5, .ref n, j, z, m5, (((ru.mono m1.own f2).mono m2.own f3).mono m3.own f4).mono m4.own f5, ((ru2.mono m2.own f3).mono m3.own f4).mono m4.own f5, ru5, ?_⟩
  cases hset : setL (.ref n) j z M5 with
  | none =>
    rw [hset] at q5
    exact q5
  | some M6 =>
    rw [hset] at q5
    exact fun H' f' m' => q5 ρ5 H' σ f' m' ((e4.mono m4.own f5).mono m5.own f')
/-- two names at once -/
theorem ss_par {i j : Nat} {x y : Str} {px py pt : Pos} {kt k2 : Nat} {pt2 : Pos} (hc : X.calm = true) (hN : X.N.Nodup) (hi : X.N[i]? = some x) (hj : X.N[j]? = some y) (hij : i ≠ j) (hx : X.env.scope.names.lookup x = some .local) (hy : X.env.scope.names.lookup y = some .local)
    (hsa : isStar a = false) (hsb : isStar b = false) (ha : PE X a (T1 (kx X Z) W (evE w ia))) (hb : PE X b (T1 (kx X Z) W (evE w ib))) (hw : swappedStores [.Tuple [.Name x px, .Name y py] kt pt] (.Tuple [a, b] k2 pt2) X.env = pure (some [x, y])) :
    PS X (.Assign [.Tuple [.Name x px, .Name y py] kt pt] (.Tuple [a, b] k2 pt2) pos) (TS1 (kx X Z) W (evS w (.par i j ia ib))) := by
  refine PS.imp (ps_par hc hN hi hj hij hx hy (pa_cons ha (pa_cons hb pa_nil (star_cons hsb)) (star_cons hsa)) hw rfl) fun D σ H h => ?_
  obtain ⟨env, M, ρ, e, m, p⟩ := h
  simp only [evS] at p
  refine T1.go e m ((p.thn e m).imp fun v M1 ρ1 H1 f1 m1 q _ e1 _ u ru => ?_)
  refine T1.go e1 m1 ((q.thn e1 m1).imp fun v2 M2 ρ2 H2 f2 m2 q2 _ e2 _ u2 ru2 => ?_)
  exact ⟨u, u2, rfl, q2.nx ((e2.set (ru.mono m1.own f2)).set ru2) m2⟩
theorem ss_par3 {c : Expr} {ic : E} {i j l : Nat} {x y z : Str} {px py pz pt : Pos} {kt k2 : Nat} {pt2 : Pos} (hc : X.calm = true) (hN : X.N.Nodup) (hi : X.N[i]? = some x) (hj : X.N[j]? = some y) (hl : X.N[l]? = some z) (hij : i ≠ j) (hil : i ≠ l) (hjl : j ≠ l)
    (hx : X.env.scope.names.lookup x = some .local) (hy : X.env.scope.names.lookup y = some .local) (hz : X.env.scope.names.lookup z = some .local)
    (hsa : isStar a = false) (hsb : isStar b = false) (hsc : isStar c = false) (ha : PE X a (T1 (kx X Z) W (evE w ia))) (hb : PE X b (T1 (kx X Z) W (evE w ib))) (hcc : PE X c (T1 (kx X Z) W (evE w ic)))
    (hw : swappedStores [.Tuple [.Name x px, .Name y py, .Name z pz] kt pt] (.Tuple [a, b, c] k2 pt2) X.env = pure (some [x, y, z])) :
    PS X (.Assign [.Tuple [.Name x px, .Name y py, .Name z pz] kt pt] (.Tuple [a, b, c] k2 pt2) pos) (TS1 (kx X Z) W (evS w (.par3 i j l ia ib ic))) := by
  refine PS.imp (ps_par3 hc hN hi hj hl hij hil hjl hx hy hz (pa_cons ha (pa_cons hb (pa_cons hcc pa_nil (star_cons hsc)) (star_cons hsb)) (star_cons hsa)) hw rfl) fun D σ H h => ?_
  obtain ⟨env, M, ρ, e, m, p⟩ := h
  simp only [evS] at p
  refine T1.go e m ((p.thn e m).imp fun v M1 ρ1 H1 f1 m1 q _ e1 _ u ru => ?_)
  refine T1.go e1 m1 ((q.thn e1 m1).imp fun v2 M2 ρ2 H2 f2 m2 q2 _ e2 _ u2 ru2 => ?_)
  refine T1.go e2 m2 ((q2.thn e2 m2).imp fun v3 M3 ρ3 H3 f3 m3 q3 _ e3 _ u3 ru3 => ?_)
  exact ⟨u, u2, u3, rfl, q3.nx (((e3.set ((ru.mono m1.own f2).mono m2.own f3)).set (ru2.mono m2.own f3)).set ru3) m3⟩

/-! ### loops -/
/-- behind a turn -/
theorem PC.turn {K : Kx} {ρ : List Addr} {H : Hp} {c : Ctl} {on : Env → Mem → Ctl} {D : Ends} {N : St → Hp → Prop} (h : PC K W ρ H (c.turn on .nxt) D)
    (hN : ∀ env M ρ' H' σ', Fw ρ ρ' H H' → MemR K M ρ' H' → EnvR K ρ' H' env σ' → PC K W ρ' H' (on env M) D → N σ' H') : PC K W ρ H c { D with nx := N, ct := N, bk := D.nx } := by
  cases c with
  | nxt env M => exact fun ρ' H' σ' f m e => hN env M ρ' H' σ' f m e (PC.fw f h)
  | cnt env M => exact fun ρ' H' σ' f m e => hN env M ρ' H' σ' f m e (PC.fw f h)
  | brk env M => exact h
  | ret v M => exact h
  | exc c env M => exact h
  | fail => exact h
theorem ss_while {t : T} {sb : List Stmt} {pb : List S} (hp : PassesOwn (model X.prog X.w) X.A X.env X.xe) (ht : PT X a (Tb (kx X Z) W (evT w t))) (hb : PSs X sb (TS1 (kx X Z) W (evSs w pb))) : PS X (.While a sb [] pos) (TS1 (kx X Z) W (evS w (.whil t pb))) := by
  refine PS.imp (ps_while hp ht hb) fun D σ H h => ?_
  obtain ⟨env, M, ρ, e, m, p⟩ := h
  simp only [evS] at p
  refine ⟨fun n σ H => ∃ env M ρ, EnvR (kx X Z) ρ H env σ ∧ MemR (kx X Z) M ρ H ∧ PC (kx X Z) W ρ H (loopW (evT w t) (fun env M => evSs w pb env M) n env M) D, ⟨w.fuel, env, M, ρ, e, m, p⟩, ?_⟩
  rintro n σ H ⟨env, M, ρ, e, m, p⟩
  cases n with
  | zero => exact p.elim
  | succ n =>
    simp only [loopW] at p
    refine ⟨env, M, ρ, e, m, (p.thn e m).imp fun k M1 ρ1 H1 f1 m1 q => ?_⟩
    have e1 := e.mono m.own f1
    cases k with
    | true =>
      refine ⟨fun σ' H' => ∃ env M ρ, EnvR (kx X Z) ρ H' env σ' ∧ MemR (kx X Z) M ρ H' ∧ PC (kx X Z) W ρ H' (loopW (evT w t) (fun env M => evSs w pb env M) n env M) D, fun σ' H' z => ⟨n, by omega, z⟩, env, M1, ρ1, e1, m1, ?_⟩
      exact PC.turn q fun env2 M2 ρ2 H2 σ2 f2 m2 e2 q2 => ⟨env2, M2, ρ2, e2, m2, q2⟩
    | false => exact q.nx e1 m1
theorem ss_for {tg it : Expr} {g : Tg} {ii : I} {sb : List Stmt} {pb : List S} (hp : PassesOwn (model X.prog X.w) X.A X.env X.xe) (hc : X.calm = true) (hi : PI X tg it (Tw (kx X Z) W (evI w ii))) (hg : PG X tg (Tg1 (kx X Z) g)) (hb : PSs X sb (TS1 (kx X Z) W (evSs w pb)))
    (hs : ∀ x, foldedSetIterable it X.env x = pure x) : PS X (.For tg it sb [] pos) (TS1 (kx X Z) W (evS w (.forr g ii pb))) := by
  refine PS.imp (ps_for hp hc hi hg hb hs) fun D σ H h => ?_
  obtain ⟨env, M, ρ, e, m, p⟩ := h
  simp only [evS] at p
  refine ⟨env, M, ρ, e, m, (p.thn e m).imp fun s M1 ρ1 H1 f1 m1 q J ok => ?_⟩
  have e1 := e.mono m.own f1
  cases s with
  | items xs =>
    have q : PC (kx X Z) W ρ1 H1 (loopX g (fun env M => evSs w pb env M) xs env M1) D := q
    refine ⟨fun i n σ H => ∃ env M ρ, Fw ρ1 ρ H1 H ∧ EnvR (kx X Z) ρ H env σ ∧ MemR (kx X Z) M ρ H ∧ n = xs.length - i ∧ PC (kx X Z) W ρ H (loopX g (fun env M => evSs w pb env M) (xs.drop i) env M) D,
      ⟨xs.length, env, M1, ρ1, Fw.refl, e1, m1, rfl, q⟩, ?_⟩
    rintro i n σ H ⟨env, M, ρ, f, e, m, rfl, p⟩
    have o := ok ρ H M i f m
    cases hx : xs[i]? with
    | none =>
      rw [hx] at o
      have hl : xs.length ≤ i := List.getElem?_eq_none_iff.mp hx
      rw [List.drop_eq_nil_of_le hl] at p
      exact .inl ⟨o, p.nx e m⟩
    | some v =>
      rw [hx] at o
      have hl : i < xs.length := (List.getElem?_eq_some_iff.mp hx).1
      have hd : xs.drop i = v :: xs.drop (i + 1) := by
        rw [List.drop_eq_getElem_cons hl, (List.getElem?_eq_some_iff.mp hx).2]
      rw [hd] at p
      simp only [loopX] at p
      refine .inr ⟨o.1, fun σ' H' => ∃ env M ρ, Fw ρ1 ρ H1 H' ∧ EnvR (kx X Z) ρ H' env σ' ∧ MemR (kx X Z) M ρ H' ∧ PC (kx X Z) W ρ H' (loopX g (fun env M => evSs w pb env M) (xs.drop (i + 1)) env M) D,
        fun σ' H' ⟨env, M, ρ, f, e, m, p⟩ => ⟨xs.length - (i + 1), by omega, env, M, ρ, f, e, m, rfl, p⟩, fun x H' y => ?_⟩
      obtain ⟨f2, m2, rv⟩ := o.2 x H' y
      have e2 := e.mono m.own f2
      split at p
      · exact p.elim
      · rename_i env' hb'
        refine ⟨env, M, ρ, v, e2, m2, rv, env', hb', fun σ' e3 => ⟨env', M, ρ, e3, m2, ?_⟩⟩
        exact PC.turn (PC.fw f2 p) fun env3 M3 ρ3 H3 σ3 f3 m3 e3 q3 => ⟨env3, M3, ρ3, (f.trans f2).trans f3, e3, m3, q3⟩
  | mem k =>
    have q : PC (kx X Z) W ρ1 H1 (loopM g (fun env M => evSs w pb env M) k w.fuel 0 env M1) D := q
    refine ⟨fun i n σ H => ∃ env M ρ, Fw ρ1 ρ H1 H ∧ EnvR (kx X Z) ρ H env σ ∧ MemR (kx X Z) M ρ H ∧ PC (kx X Z) W ρ H (loopM g (fun env M => evSs w pb env M) k n i env M) D,
      ⟨w.fuel, env, M1, ρ1, Fw.refl, e1, m1, q⟩, ?_⟩
    rintro i n σ H ⟨env, M, ρ, f, e, m, p⟩
    cases n with
    | zero => exact p.elim
    | succ n =>
      simp only [loopM] at p
      split at p
      · rename_i xs hM
        have o := ok ρ H M i xs f m hM
        split at p
        · rename_i hx
          rw [hx] at o
          exact .inl ⟨o, p.nx e m⟩
        · rename_i v hx
          rw [hx] at o
          refine .inr ⟨o.1, fun σ' H' => ∃ env M ρ, Fw ρ1 ρ H1 H' ∧ EnvR (kx X Z) ρ H' env σ' ∧ MemR (kx X Z) M ρ H' ∧ PC (kx X Z) W ρ H' (loopM g (fun env M => evSs w pb env M) k n (i + 1) env M) D,
            fun σ' H' z => ⟨n, by omega, z⟩, fun x H' y => ?_⟩
          obtain ⟨f2, m2, rv⟩ := o.2 x H' y
          have e2 := e.mono m.own f2
          split at p
          · exact p.elim
          · rename_i env' hb'
            refine ⟨env, M, ρ, v, e2, m2, rv, env', hb', fun σ' e3 => ⟨env', M, ρ, e3, m2, ?_⟩⟩
            exact PC.turn (PC.fw f2 p) fun env3 M3 ρ3 H3 σ3 f3 m3 e3 q3 => ⟨env3, M3, ρ3, (f.trans f2).trans f3, e3, m3, q3⟩
      · exact p.elim
end
end HP

set_option Elab.async false
set_option linter.all false
set_option autoImplicit false
set_option maxRecDepth 100000
set_option maxHeartbeats 4000000
/-! The text read into plain form. -/
namespace HP
open PySem L2

/-- what the names of the module stand for -/
structure Gt where
  fns : List (Str × Nat × Nat)
  cns : List (Str × Nat)
  free : List Str

def okName (x : Str) : Bool := !(x == ("__debug__" : Str)) && !(x == ("__classdict__" : Str)) && !(x == ("__name__" : Str))
def visB (sc : Scope) (x : Str) : Bool := match sc.names.lookup x with
  | some .local => true
  | some .cell => true
  | some .free => true
  | _ => false
def locB (sc : Scope) (x : Str) : Bool := match sc.names.lookup x with
  | some .local => true
  | some .cell => true
  | _ => false
def glB (sc : Scope) (x : Str) : Bool := match sc.names.lookup x with
  | some .globalImplicit => true
  | _ => false
def ixB (N : List Str) (x : Str) : Option Nat := N.findIdx? fun y => decide (y = x)
def varB (N : List Str) (sc : Scope) (x : Str) : Option Nat := if okName x && visB sc x then ixB N x else none
def binB : Operator → Option O2
  | .Add => some .add | .Sub => some .sub | .Mult => some .mul | .FloorDiv => some .fdiv | .Mod => some .mod | .Pow => some .pow
  | _ => none
def cmpB : CmpOp → Option O2
  | .Eq => some .eq | .NotEq => some .ne | .Lt => some .lt | .LtE => some .le | .Gt => some .gt | .GtE => some .ge | .Is => some .is | .IsNot => some .isnot
  | _ => none
def augB : Operator → Option O2
  | .Add => some .add | .Sub => some .sub
  | _ => none
/-- a built-in function or class by its name -/
def bltB (x : Str) : Option On :=
  if x = ("len" : Str) then some .len else if x = ("abs" : Str) then some .abs else if x = ("int" : Str) then some .int else if x = ("list" : Str) then some .list else if x = ("tuple" : Str) then some .tuple else if x = ("isinstance" : Str) then some .isi else none
def tyB (x : Str) : Option Ty :=
  if x = ("int" : Str) then some .int else if x = ("str" : Str) then some .str else if x = ("bool" : Str) then some .bool else if x = ("tuple" : Str) then some .tuple else if x = ("list" : Str) then some .list else if x = ("dict" : Str) then some .dict else none
/-- a built-in's method by its name -/
def metB (x : Str) : Option (MT × On) :=
  if x = ("append" : Str) then some (.list, .append) else none
def andE : List E → Option E
  | [] => none
  | e :: es => match es with
    | [] => some e
    | _ :: _ => match andE es with
      | some r => some (.and e r)
      | none => none
def orE : List E → Option E
  | [] => none
  | e :: es => match es with
    | [] => some e
    | _ :: _ => match orE es with
      | some r => some (.or e r)
      | none => none
def andT : List T → Option T
  | [] => none
  | e :: es => match es with
    | [] => some e
    | _ :: _ => match andT es with
      | some r => some (.and e r)
      | none => none
def orT : List T → Option T
  | [] => none
  | e :: es => match es with
    | [] => some e
    | _ :: _ => match orT es with
      | some r => some (.or e r)
      | none => none
def constB : Const → Option PV
  | .int i => some (.int i)
  | .bool b => some (.bl b)
  | .none => some .non
  | .str x => if x.cps.toList.all fun c => decide (c < 1114112) then some (.str x.cps.toList) else none
  | _ => none
/-- a test that is its value's truth -/
def valB : Expr → Bool
  | .Name .. => true
  | .Call .. => true
  | .Subscript .. => true
  | .Constant .. => true
  | .BinOp .. => true
  | .Attribute .. => true
  | .List .. => true
  | .Tuple .. => true
  | _ => false

def cmpE (ops : List CmpOp) (bs : List Expr) (ia : E) (is : List E) : Option E :=
  match ops, bs, is with
  | [op], [b], [ib] => match cmpB op with
    | some o => if behindInMarks op b then none else some (.op2 o ia ib)
    | none => none
  | [op, op'], [_, c], [ib, ic] => match cmpB op, cmpB op' with
    | some o, some p => if behindInMarks op' c then none else some (.chain o p ia ib ic)
    | _, _ => none
  | _, _, _ => none
def cmpT (ops : List CmpOp) (bs : List Expr) (ia : E) (is : List E) : Option T :=
  match ops, bs, is with
  | [op], [b], [ib] => match cmpB op with
    | some o => if behindInMarks op b then none else some (.cmp o ia ib)
    | none => none
  | [op, op'], [_, c], [ib, ic] => match cmpB op, cmpB op' with
    | some o, some p => if behindInMarks op' c then none else some (.chain o p ia ib ic)
    | _, _ => none
  | _, _, _ => none
def orV (t : Option T) (v : Bool) (e : Option E) : Option T :=
  match t with
  | some t => some t
  | none => if v then e.map .val else none

mutual
def cE (G : Gt) (N : List Str) (sc : Scope) : Expr → Option E
  | .Constant c _ _ => (constB c).map .lit
  | .Name x _ => match varB N sc x with
    | some i => some (.var i)
    | none => if okName x && glB sc x then match G.cns.lookup x with
        | some g => some (.glob g)
        | none => if G.free.contains x then (tyB x).map fun T => .lit (.ty T) else none
      else none
  | .BinOp a op b _ => match binB op, cE G N sc a, cE G N sc b with
    | some o, some ia, some ib => some (.op2 o ia ib)
    | _, _, _ => none
  | .UnaryOp op a _ => match op, cE G N sc a with
    | .Not, some ia => some (.nott ia)
    | .USub, some ia => some (.op1 .neg ia)
    | _, _ => none
  | .BoolOp op es _ => match op, cEs G N sc es with
    | .And, some is => andE is
    | .Or, some is => orE is
    | _, none => none
  | .Compare a ops bs _ => match cE G N sc a, cEs G N sc bs with
    | some ia, some is => cmpE ops bs ia is
    | _, _ => none
  | .IfExp t a b _ => match orV (cT G N sc t) (valB t) (cE G N sc t), cE G N sc a, cE G N sc b with
    | some it, some ia, some ib => some (.ife it ia ib)
    | _, _, _ => none
  | .Tuple es _ _ => if noStar es then (cEs G N sc es).map .tup else none
  | .List es _ => if noStar es then (cEs G N sc es).map .lst else none
  | .Subscript a b _ => if isSlice b then none else match cE G N sc a, cE G N sc b with
    | some ia, some ib => some (.op2 .idx ia ib)
    | _, _ => none
  | .Call f es kws pos => if !kws.isEmpty || es.isEmpty || !noStar es then none else match f with
    | .Name x _ => if okName x && glB sc x then match G.fns.lookup x with
        | some (fi, n) => if es.length == n then (cEs G N sc es).map (.call fi) else none
        | none => if G.free.contains x then match bltB x with
            | some o => (cEs G N sc es).map (.opn o)
            | none => none
          else none
      else none
    | .Attribute o nm apos => match metB nm with
      | some (k, om) => if plainBase o && decide (es.length < 29) && apos.endLine == pos.line then match cE G N sc o, cEs G N sc es with
        | some io, some is => some (.meth k om io is)
        | _, _ => none
        else none
      | none => none
    | _ => none
  | _ => none
def cEs (G : Gt) (N : List Str) (sc : Scope) : List Expr → Option (List E)
  | [] => some []
  | e :: es => match cE G N sc e, cEs G N sc es with
    | some i, some is => some (i :: is)
    | _, _ => none
def cT (G : Gt) (N : List Str) (sc : Scope) : Expr → Option T
  | .UnaryOp op a _ => match op, orV (cT G N sc a) (valB a) (cE G N sc a) with
    | .Not, some ia => some (.not ia)
    | _, _ => none
  | .BoolOp op es _ => match op, cTs G N sc es with
    | .And, some is => andT is
    | .Or, some is => orT is
    | _, none => none
  | .Compare a ops bs _ => match cE G N sc a, cEs G N sc bs with
    | some ia, some is => cmpT ops bs ia is
    | _, _ => none
  | _ => none
def cTs (G : Gt) (N : List Str) (sc : Scope) : List Expr → Option (List T)
  | [] => some []
  | e :: es => match orV (cT G N sc e) (valB e) (cE G N sc e), cTs G N sc es with
    | some i, some is => some (i :: is)
    | _, _ => none
end

mutual
def cG (N : List Str) (sc : Scope) : Expr → Option Tg
  | .Name x _ => if locB sc x then (ixB N x).map .name else none
  | .Tuple es _ _ => if noStar es then (cGs N sc es).map .tup else none
  | _ => none
def cGs (N : List Str) (sc : Scope) : List Expr → Option (List Tg)
  | [] => some []
  | e :: es => match cG N sc e, cGs N sc es with
    | some g, some gs => some (g :: gs)
    | _, _ => none
end
def isSetD : Expr → Bool
  | .Set .. => true
  | _ => false
def cI (G : Gt) (N : List Str) (sc : Scope) (e : Expr) : Option I :=
  match e with
  | .Call (.Name x _) es [] _ =>
    if x = ("range" : Str) then
      if glB sc x && G.free.contains x && noStar es then match es with
        | [_] => (cEs G N sc es).map .range
        | [_, _] => (cEs G N sc es).map .range
        | _ => none
      else none
    else (cE G N sc e).map .val
  | e => if isSetD e then none else (cE G N sc e).map .val
def isTupE : Expr → Bool
  | .Tuple .. => true
  | _ => false
def isTupOrList : Expr → Bool
  | .Tuple .. => true
  | .List .. => true
  | _ => false
def lclB (sc : Scope) (x : Str) : Bool := match sc.names.lookup x with
  | some .local => true
  | _ => false
mutual
def cS (G : Gt) (N : List Str) (sc : Scope) : Stmt → Option S
  | .Pass _ => some .pass
  | .Break _ => some .brk
  | .Continue _ => some .cnt
  | .Return e _ => match e with
    | none => some .retN
    | some e => (cE G N sc e).map .ret
  | .Expr e _ => match e with
    | .Constant c _ _ => match c with
      | .str _ => some .pass
      | _ => none
    | e => if isComp e then none else (cE G N sc e).map .expr
  | .If t a b _ => match orV (cT G N sc t) (valB t) (cE G N sc t), cSs G N sc a, cSs G N sc b with
    | some it, some ia, some ib => some (.ifs it ia ib)
    | _, _, _ => none
  | .While t b o _ => match o with
    | [] => match orV (cT G N sc t) (valB t) (cE G N sc t), cSs G N sc b with
      | some it, some ib => some (.whil it ib)
      | _, _ => none
    | _ => none
  | .For tg it b o _ => match o with
    | [] => if isSetD it then none else match cG N sc tg, cI G N sc it, cSs G N sc b with
      | some g, some ii, some ib => some (.forr g ii ib)
      | _, _, _ => none
    | _ => none
  | .Assign ts e _ => if isComp e then none else match ts with
    | [t] => match t with
      | .Subscript a b _ => if isSlice b then none else match cE G N sc a, cE G N sc b, cE G N sc e with
        | some ia, some ib, some ie => some (.setI ia ib ie)
        | _, _, _ => none
      | .Tuple ns _ _ => match e with
        | .Tuple es _ _ => match ns, es with
          | [.Name x px, .Name y py], [a, b] => match ixB N x, ixB N y, cE G N sc a, cE G N sc b with
            | some i, some j, some ia, some ib => if i != j && lclB sc x && lclB sc y && !isStar a && !isStar b && px.line == py.line && !([a, b].all (foldedForSure 8)) && !([a, b].all (constantsAlone 8)) then some (.par i j ia ib) else none
            | _, _, _, _ => none
          | [.Name x px, .Name y py, .Name z pz], [a, b, c] => match ixB N x, ixB N y, ixB N z, cE G N sc a, cE G N sc b, cE G N sc c with
            | some i, some j, some l, some ia, some ib, some ic => if i != j && i != l && j != l && lclB sc x && lclB sc y && lclB sc z && !isStar a && !isStar b && !isStar c && px.line == py.line && px.line == pz.line && !([a, b, c].all (foldedForSure 8)) && !([a, b, c].all (constantsAlone 8)) then some (.par3 i j l ia ib ic) else none
            | _, _, _, _, _, _ => none
          | _, _ => none
        | e => match cG N sc t, cE G N sc e with
          | some g, some ie => some (.asg g ie)
          | _, _ => none
      | t => match cG N sc t, cE G N sc e with
        | some g, some ie => some (.asg g ie)
        | _, _ => none
    | _ => none
  | .AugAssign t op e _ => match t with
    | .Name x _ => match augB op, ixB N x, cE G N sc e with
      | some o, some i, some ie => if locB sc x then some (.aug i o ie) else none
      | _, _, _ => none
    | .Subscript a b _ => if isSlice b then none else match augB op, cE G N sc a, cE G N sc b, cE G N sc e with
      | some o, some ia, some ib, some ie => some (.augI ia ib o ie)
      | _, _, _, _ => none
    | _ => none
  | _ => none
def cSs (G : Gt) (N : List Str) (sc : Scope) : List Stmt → Option (List S)
  | [] => some []
  | s :: ss => match cS G N sc s, cSs G N sc ss with
    | some i, some is => some (i :: is)
    | _, _ => none
end
end HP

set_option Elab.async false
set_option linter.all false
set_option autoImplicit false
set_option maxRecDepth 100000
set_option maxHeartbeats 8000000
/-! What is read is what the layer's judgements say. -/
namespace HP
open PySem L2

structure Good (G : Gt) (Z : Zx) (W : XW) (w : Wd) (k : Nat) (clsV : Nat → Value) (X : Cx) : Prop where
  nd : X.N.Nodup
  calm : X.calm = true
  room : Room k X.A
  kind : X.env.scope.kind = .function
  cell : ∀ x, X.env.scope.names.lookup x = some .cell → X.fn x = true
  tk : Takes X (wx clsV W)
  own : PassesOwn (model X.prog X.w) X.A X.env X.xe
  free : ∀ x, G.free.contains x = true → X.mg x = none
  fn : ∀ x fi n, G.fns.lookup x = some (fi, n) → ∃ f fd ps, FnOk X.prog X.w X.K X.mg X.base (L2.CX X.prog X.w) k f fd ps (spF (kx X Z) clsV (w.call fi) n) ∧ X.mg x = some (.ref f) ∧ PySem.W.keepIn X.K (.ref f) = true ∧ Binds X.K fd ps []
  cn : ∀ x g, G.cns.lookup x = some g → ∃ v u uv, w.glob g = some v ∧ X.mg x = some uv ∧ RelV u uv ∧ ∀ ρ H, VR (kx X Z) ρ H v u

theorem ok_debug {x : Str} (h : okName x = true) : (x == ("__debug__" : Str)) = false := by
  unfold okName at h
  simp only [Bool.and_eq_true, Bool.not_eq_true'] at h
  exact h.1.1
theorem ok_classdict {x : Str} (h : okName x = true) : (x == ("__classdict__" : Str)) = false := by
  unfold okName at h
  simp only [Bool.and_eq_true, Bool.not_eq_true'] at h
  exact h.1.2
theorem ok_name {x : Str} (h : okName x = true) : x ≠ "__name__" := by
  unfold okName at h
  simp only [Bool.and_eq_true, Bool.not_eq_true'] at h
  intro e
  rw [e] at h
  simp at h
theorem visB_ok {sc : Scope} {x : Str} (h : visB sc x = true) : Vis sc x := by
  unfold visB at h
  split at h
  · exact .inl ‹_›
  · exact .inr (.inl ‹_›)
  · exact .inr (.inr ‹_›)
  · cases h
theorem locB_ok {sc : Scope} {x : Str} (h : locB sc x = true) : Loc sc x := by
  unfold locB at h
  split at h
  · exact .inl ‹_›
  · exact .inr ‹_›
  · cases h
theorem lclB_ok {sc : Scope} {x : Str} (h : lclB sc x = true) : sc.names.lookup x = some .local := by
  unfold lclB at h
  split at h
  · assumption
  · cases h
theorem glB_ok {X : Cx} {x : Str} (h : glB X.env.scope x = true) : Gl X x := by
  unfold glB at h
  split at h
  · assumption
  · cases h
theorem ixB_ok {N : List Str} {x : Str} {i : Nat} (h : ixB N x = some i) : N[i]? = some x := by
  unfold ixB at h
  rw [List.findIdx?_eq_some_iff_getElem] at h
  obtain ⟨hl, h1, _⟩ := h
  rw [List.getElem?_eq_getElem hl]
  simpa using h1
theorem and_inv {a b : Bool} (h : (a && b) = true) : a = true ∧ b = true := Bool.and_eq_true_iff.mp h

section
variable {G : Gt} {Z : Zx} {W : XW} {w : Wd} {k : Nat} {clsV : Nat → Value}
theorem or_of {X : Cx} (g : Good G Z W w k clsV X) {op : Operator} {o : O2} (h : binB op = some o) : OpR X (binaryOp op) (rG (kx X Z) o) := by
  cases op <;> simp [binB] at h <;> subst h
  · exact or_add
  · exact or_sub
  · exact or_mul
  · exact or_mod
  · exact or_pow
  · exact or_fdiv
theorem oc_of {X : Cx} (g : Good G Z W w k clsV X) {op : CmpOp} {o : O2} (h : cmpB op = some o) : OpR X (compareOp op) (rG (kx X Z) o) := by
  have hu := g.room.units
  cases op <;> simp [cmpB] at h <;> subst h
  · exact or_eq hu
  · exact or_ne hu
  · exact or_lt
  · exact or_le
  · exact or_gt
  · exact or_ge
  · exact or_is
  · exact or_isnot
theorem oi_of {X : Cx} {op : Operator} {o : O2} (h : augB op = some o) : OpR X (inplaceOp op) (rGi (kx X Z) o) := by
  cases op <;> simp [augB] at h <;> subst h
  · exact ior_add
  · exact ior_sub
theorem plainIx {b : Expr} (h : isSlice b = false) : PlainIx b := by
  intro o i
  cases b <;> first | rfl | (cases h; done)
theorem valB_ok {e : Expr} {env : PySem.Env} (h : valB e = true) : ∀ whole, isTrue e env whole = (do let v ← whole; standAt e.pos; holding [v] (truthy v)) := by
  cases e <;> first | (intro _; rfl) | (cases h; done)
theorem constB_ok {X : Cx} {c : Const} {v : PV} {j : Nat} {pos : Pos} (h : constB c = some v) : PE X (.Constant c j pos) (T1 (kx X Z) W (evE w (.lit v))) := by
  cases c <;> simp only [constB] at h <;> first | (cases h; done) | skip
  all_goals first
    | (cases h; first | exact s_int | exact s_bl | exact s_non)
    | (split at h
       · rename_i hv
         cases h
         exact s_str hv
       · cases h)
theorem andE_ok {X : Cx} {pos : Pos} : ∀ {es : List Expr} {is : List E} {i : E}, (∀ (j : Nat) (e : Expr) (i : E), es[j]? = some e → is[j]? = some i → PE X e (T1 (kx X Z) W (evE w i))) → es.length = is.length → andE is = some i → PE X (.BoolOp .And es pos) (T1 (kx X Z) W (evE w i))
  | [], [], i, _, _, h => by cases h
  | [e], [i0], i, hp, _, h => by
    cases h
    exact s_one (hp 0 e i0 rfl rfl)
  | e :: e2 :: es, i0 :: i1 :: is, i, hp, hl, h => by
    unfold andE at h
    simp only at h
    split at h
    · rename_i r hr
      cases h
      refine s_and (hp 0 e i0 rfl rfl) (andE_ok (fun j e i h1 h2 => hp (j + 1) e i h1 h2) (by simpa using hl) hr)
    · cases h
  | [], _ :: _, _, _, hl, _ => by cases hl
  | _ :: _, [], _, _, hl, _ => by cases hl
  | [_], _ :: _ :: _, _, _, hl, _ => by simp at hl
  | _ :: _ :: _, [_], _, _, hl, _ => by simp at hl
theorem orE_ok {X : Cx} {pos : Pos} : ∀ {es : List Expr} {is : List E} {i : E}, (∀ (j : Nat) (e : Expr) (i : E), es[j]? = some e → is[j]? = some i → PE X e (T1 (kx X Z) W (evE w i))) → es.length = is.length → orE is = some i → PE X (.BoolOp .Or es pos) (T1 (kx X Z) W (evE w i))
  | [], [], i, _, _, h => by cases h
  | [e], [i0], i, hp, _, h => by
    cases h
    exact s_one (hp 0 e i0 rfl rfl)
  | e :: e2 :: es, i0 :: i1 :: is, i, hp, hl, h => by
    unfold orE at h
    simp only at h
    split at h
    · rename_i r hr
      cases h
      refine s_or (hp 0 e i0 rfl rfl) (orE_ok (fun j e i h1 h2 => hp (j + 1) e i h1 h2) (by simpa using hl) hr)
    · cases h
  | [], _ :: _, _, _, hl, _ => by cases hl
  | _ :: _, [], _, _, hl, _ => by cases hl
  | [_], _ :: _ :: _, _, _, hl, _ => by simp at hl
  | _ :: _ :: _, [_], _, _, hl, _ => by simp at hl
theorem andT_ok {X : Cx} {pos : Pos} : ∀ {es : List Expr} {is : List T} {i : T}, (∀ (j : Nat) (e : Expr) (i : T), es[j]? = some e → is[j]? = some i → PT X e (Tb (kx X Z) W (evT w i))) → es.length = is.length → andT is = some i → PW X (.BoolOp .And es pos) (Tb (kx X Z) W (evT w i))
  | [], [], i, _, _, h => by cases h
  | [e], [i0], i, hp, _, h => by
    cases h
    exact pw_and1 (hp 0 e i0 rfl rfl)
  | e :: e2 :: es, i0 :: i1 :: is, i, hp, hl, h => by
    unfold andT at h
    simp only at h
    split at h
    · rename_i r hr
      cases h
      refine t_and (hp 0 e i0 rfl rfl) (andT_ok (fun j e i h1 h2 => hp (j + 1) e i h1 h2) (by simpa using hl) hr)
    · cases h
  | [], _ :: _, _, _, hl, _ => by cases hl
  | _ :: _, [], _, _, hl, _ => by cases hl
  | [_], _ :: _ :: _, _, _, hl, _ => by simp at hl
  | _ :: _ :: _, [_], _, _, hl, _ => by simp at hl
theorem orT_ok {X : Cx} {pos : Pos} : ∀ {es : List Expr} {is : List T} {i : T}, (∀ (j : Nat) (e : Expr) (i : T), es[j]? = some e → is[j]? = some i → PT X e (Tb (kx X Z) W (evT w i))) → es.length = is.length → orT is = some i → PW X (.BoolOp .Or es pos) (Tb (kx X Z) W (evT w i))
  | [], [], i, _, _, h => by cases h
  | [e], [i0], i, hp, _, h => by
    cases h
    exact pw_or1 (hp 0 e i0 rfl rfl)
  | e :: e2 :: es, i0 :: i1 :: is, i, hp, hl, h => by
    unfold orT at h
    simp only at h
    split at h
    · rename_i r hr
      cases h
      refine t_or (hp 0 e i0 rfl rfl) (orT_ok (fun j e i h1 h2 => hp (j + 1) e i h1 h2) (by simpa using hl) hr)
    · cases h
  | [], _ :: _, _, _, hl, _ => by cases hl
  | _ :: _, [], _, _, hl, _ => by cases hl
  | [_], _ :: _ :: _, _, _, hl, _ => by simp at hl
  | _ :: _ :: _, [_], _, _, hl, _ => by simp at hl
theorem pw_pt {X : Cx} {e : Expr} {t : TT} (h : PW X e t) : PT X e t := h.pt
theorem orV_ok {X : Cx} {e : Expr} {t : Option T} {i : Option E} {r : T} (h : orV t (valB e) i = some r) (h1 : ∀ t', t = some t' → PT X e (Tb (kx X Z) W (evT w t'))) (h2 : ∀ i', i = some i' → PE X e (T1 (kx X Z) W (evE w i'))) : PT X e (Tb (kx X Z) W (evT w r)) := by
  unfold orV at h
  split at h
  · cases h
    exact h1 _ rfl
  · split at h
    · rename_i hv
      cases hi : i with
      | none => rw [hi] at h; cases h
      | some i' =>
        rw [hi] at h
        cases h
        exact t_val (valB_ok hv) (h2 i' hi)
    · cases h
theorem blt_ok {X : Cx} (g : Good G Z W w k clsV X) {x : Str} {o : On} {a : Expr} {es : List Expr} {is : List E} {p pos : Pos} (h : bltB x = some o) (hg : Gl X x) (hm : X.mg x = none) (hn : x ≠ "__name__") (hd : (x == ("__debug__" : Str)) = false) (hs : noStar (a :: es) = true)
    (ha : PA X (a :: es) (Tn (kx X Z) W (evEs w is))) : PE X (.Call (.Name x p) (a :: es) [] pos) (T1 (kx X Z) W (evE w (.opn o is))) := by
  have hs2 : noStar es = true := by unfold noStar at hs; exact (Bool.and_eq_true_iff.mp hs).2
  have hs1 : isStar a = false := by unfold noStar at hs; simpa using (Bool.and_eq_true_iff.mp hs).1
  unfold bltB at h
  split at h
  · rename_i e; subst e; cases h
    exact s_callB cr_len hg hm (by decide +kernel) ha hn hd (star_cons hs1) (back_any hs2)
  split at h
  · rename_i e; subst e; cases h
    exact s_callB cr_abs hg hm (by decide +kernel) ha hn hd (star_cons hs1) (back_any hs2)
  split at h
  · rename_i e; subst e; cases h
    exact s_callTy cr_int hg hm (by decide +kernel) ha hn hd (star_cons hs1) (back_any hs2)
  split at h
  · rename_i e; subst e; cases h
    exact s_callTy cr_list hg hm (by decide +kernel) ha hn hd (star_cons hs1) (back_any hs2)
  split at h
  · rename_i e; subst e; cases h
    exact s_callTy cr_tuple hg hm (by decide +kernel) ha hn hd (star_cons hs1) (back_any hs2)
  split at h
  · rename_i e; subst e; cases h
    exact s_callB cr_isi hg hm (by decide +kernel) ha hn hd (star_cons hs1) (back_any hs2)
  · cases h
theorem met_ok {X : Cx} {x : Str} {kk : MT} {om : On} {o a : Expr} {es : List Expr} {io : E} {is : List E} {apos pos : Pos} (h : metB x = some (kk, om)) (hb : plainBase o = true) (hs : noStar (a :: es) = true) (hn : (a :: es).length < 29) (hline : (apos.endLine == pos.line) = true)
    (ho : PE X o (T1 (kx X Z) W (evE w io))) (ha : PA X (a :: es) (Tn (kx X Z) W (evEs w is))) : PE X (.Call (.Attribute o x apos) (a :: es) [] pos) (T1 (kx X Z) W (evE w (.meth kk om io is))) := by
  unfold metB at h
  split at h
  · rename_i e; subst e; cases h
    exact s_meth (k := .list) PySem.F.plainAttrs_list PySem.F.slot_list_append PySem.F.type_list_append (fun pins s σ H x xs v us Q I r1 r2 h => mr_append pins s σ H x xs v us Q I r1 r2 h) hb hs hn hline ho ha
  · cases h
theorem ty_ok {x : Str} {T : Ty} (h : tyB x = some T) : x = tyS T ∧ bootBuiltins x = some (.type (tyS T)) ∧ ∀ c, T ≠ .own c := by
  unfold tyB at h
  split at h
  · rename_i e; subst e; cases h; exact ⟨rfl, by decide +kernel, fun _ z => nomatch z⟩
  split at h
  · rename_i e; subst e; cases h; exact ⟨rfl, by decide +kernel, fun _ z => nomatch z⟩
  split at h
  · rename_i e; subst e; cases h; exact ⟨rfl, by decide +kernel, fun _ z => nomatch z⟩
  split at h
  · rename_i e; subst e; cases h; exact ⟨rfl, by decide +kernel, fun _ z => nomatch z⟩
  split at h
  · rename_i e; subst e; cases h; exact ⟨rfl, by decide +kernel, fun _ z => nomatch z⟩
  split at h
  · rename_i e; subst e; cases h; exact ⟨rfl, by decide +kernel, fun _ z => nomatch z⟩
  · cases h

/-- the parts of a list, one by one -/
def EsOk (X : Cx) (Z : Zx) (W : XW) (w : Wd) (es : List Expr) (is : List E) : Prop := es.length = is.length ∧ (∀ (j : Nat) (e : Expr) (i : E), es[j]? = some e → is[j]? = some i → PE X e (T1 (kx X Z) W (evE w i))) ∧ (noStar es = true → PA X es (Tn (kx X Z) W (evEs w is)))
def TsOk (X : Cx) (Z : Zx) (W : XW) (w : Wd) (es : List Expr) (is : List T) : Prop := es.length = is.length ∧ ∀ (j : Nat) (e : Expr) (i : T), es[j]? = some e → is[j]? = some i → PT X e (Tb (kx X Z) W (evT w i))

theorem cmpE_ok {X : Cx} (g : Good G Z W w k clsV X) {a : Expr} {ops : List CmpOp} {bs : List Expr} {pos : Pos} {ia : E} {is : List E} {i : E} (ha : PE X a (T1 (kx X Z) W (evE w ia))) (hs : EsOk X Z W w bs is) (h : cmpE ops bs ia is = some i) : PE X (.Compare a ops bs pos) (T1 (kx X Z) W (evE w i)) := by
  obtain ⟨h1, h2, _⟩ := hs
  unfold cmpE at h
  split at h
  · rename_i op b ib
    split at h
    · rename_i o ho
      split at h
      · cases h
      · rename_i hm
        cases h
        exact s_cmp (oc_of g ho) (by simpa using hm) ha (h2 0 _ _ rfl rfl)
    · cases h
  · rename_i op op' b c ib ic
    split at h
    · rename_i o p ho hp
      split at h
      · cases h
      · rename_i hm
        cases h
        exact s_chain (oc_of g ho) (oc_of g hp) (by simpa [lastMarks] using hm) ha (h2 0 _ _ rfl rfl) (h2 1 _ _ rfl rfl)
    · cases h
  · cases h
theorem cmpT_ok {X : Cx} (g : Good G Z W w k clsV X) {a : Expr} {ops : List CmpOp} {bs : List Expr} {pos : Pos} {ia : E} {is : List E} {i : T} (ha : PE X a (T1 (kx X Z) W (evE w ia))) (hs : EsOk X Z W w bs is) (h : cmpT ops bs ia is = some i) : PT X (.Compare a ops bs pos) (Tb (kx X Z) W (evT w i)) := by
  obtain ⟨h1, h2, _⟩ := hs
  unfold cmpT at h
  split at h
  · rename_i op b ib
    split at h
    · rename_i o ho
      split at h
      · cases h
      · rename_i hm
        cases h
        exact t_cmp (oc_of g ho) (by simpa using hm) ha (h2 0 _ _ rfl rfl)
    · cases h
  · rename_i op op' b c ib ic
    split at h
    · rename_i o p ho hp
      split at h
      · cases h
      · rename_i hm
        cases h
        exact t_chain (oc_of g ho) (oc_of g hp) (by simpa [lastMarks] using hm) ha (h2 0 _ _ rfl rfl) (h2 1 _ _ rfl rfl)
    · cases h
  · cases h

mutual
theorem cE_ok {X : Cx} (g : Good G Z W w k clsV X) : ∀ (e : Expr) (i : E), cE G X.N X.env.scope e = some i → PE X e (T1 (kx X Z) W (evE w i))
  | .Constant c j pos, i, h => by
    simp only [cE] at h
    cases hc : constB c with
    | none => rw [hc] at h; cases h
    | some v =>
      rw [hc] at h
      cases h
      exact constB_ok hc
  | .Name x pos, i, h => by
    simp only [cE] at h
    split at h
    · rename_i j hj
      cases h
      unfold varB at hj
      split at hj
      · rename_i hv
        obtain ⟨h1, h2⟩ := and_inv hv
        exact s_var (ixB_ok hj) (visB_ok h2) (ok_debug h1) (ok_classdict h1)
      · cases hj
    · split at h
      · rename_i hv
        obtain ⟨h1, h2⟩ := and_inv hv
        split at h
        · rename_i gi hc
          cases h
          obtain ⟨v, u, uv, q1, q2, q3, q4⟩ := g.cn x gi hc
          exact s_glob (glB_ok h2) q2 q3 q1 q4 (ok_debug h1)
        · split at h
          · rename_i hf
            cases hT : tyB x with
            | none => rw [hT] at h; cases h
            | some T =>
              rw [hT] at h
              cases h
              obtain ⟨e1, e2, e3⟩ := ty_ok hT
              exact s_ty e1 e3 (glB_ok h2) (g.free x hf) e2 (ok_name h1) (ok_debug h1)
          · cases h
      · cases h
  | .BinOp a op b pos, i, h => by
    simp only [cE] at h
    split at h
    · rename_i o ia ib ho ha hb
      cases h
      exact s_op2 (or_of g ho) (cE_ok g a ia ha) (cE_ok g b ib hb)
    · cases h
  | .UnaryOp op a pos, i, h => by
    simp only [cE] at h
    split at h
    · rename_i ia ha
      cases h
      exact s_not (cE_ok g a ia ha)
    · rename_i ia ha
      cases h
      exact s_op1 ur_neg (cE_ok g a ia ha)
    · cases h
  | .BoolOp op es pos, i, h => by
    simp only [cE] at h
    split at h
    · rename_i is hs
      obtain ⟨h1, h2, _⟩ := cEs_ok g es is hs
      exact andE_ok h2 h1 h
    · rename_i is hs
      obtain ⟨h1, h2, _⟩ := cEs_ok g es is hs
      exact orE_ok h2 h1 h
    · cases h
  | .Compare a ops bs pos, i, h => by
    simp only [cE] at h
    split at h
    · rename_i ia is ha hs
      exact cmpE_ok g (cE_ok g a ia ha) (cEs_ok g bs is hs) h
    · cases h
  | .IfExp t a b pos, i, h => by
    simp only [cE] at h
    split at h
    · rename_i it ia ib ht ha hb
      cases h
      exact s_ife (orV_ok ht (fun t' h' => cT_ok g t t' h') (fun i' h' => cE_ok g t i' h')) (cE_ok g a ia ha) (cE_ok g b ib hb)
    · cases h
  | .Tuple es kk pos, i, h => by
    simp only [cE] at h
    split at h
    · rename_i hs
      cases hc : cEs G X.N X.env.scope es with
      | none => rw [hc] at h; cases h
      | some is =>
        rw [hc] at h
        cases h
        exact s_tup ((cEs_ok g es is hc).2.2 hs)
    · cases h
  | .List es pos, i, h => by
    simp only [cE] at h
    split at h
    · rename_i hs
      cases hc : cEs G X.N X.env.scope es with
      | none => rw [hc] at h; cases h
      | some is =>
        rw [hc] at h
        cases h
        exact s_lst ((cEs_ok g es is hc).2.2 hs)
    · cases h
  | .Subscript a b pos, i, h => by
    simp only [cE] at h
    split at h
    · cases h
    · rename_i hs
      split at h
      · rename_i ia ib ha hb
        cases h
        exact s_idx (plainIx (by simpa using hs)) (cE_ok g a ia ha) (cE_ok g b ib hb)
      · cases h
  | .Call (.Name x p) es kws pos, i, h => by
    simp only [cE] at h
    split at h
    · cases h
    · rename_i hn
      simp only [Bool.or_eq_true, Bool.not_eq_true', not_or, Bool.not_eq_false, Bool.not_eq_true] at hn
      obtain ⟨⟨hk, he⟩, hs⟩ := hn
      obtain rfl : kws = [] := by simpa using hk
      obtain ⟨a, es', rfl⟩ : ∃ a es', es = a :: es' := by
        cases es with
        | nil => cases he
        | cons a es' => exact ⟨a, es', rfl⟩
      split at h
      · rename_i hv
        obtain ⟨h1, h2⟩ := and_inv hv
        split at h
        · rename_i fi n hf
          split at h
          · rename_i h4
            cases hc : cEs G X.N X.env.scope (a :: es') with
            | none => rw [hc] at h; cases h
            | some is =>
              rw [hc] at h
              cases h
              obtain ⟨q1, q2, q3⟩ := cEs_ok g (a :: es') is hc
              obtain ⟨fa, fd, ps, F, hm, hk, hb⟩ := g.fn x fi n hf
              refine s_call F g.room (glB_ok h2) hm hk hb g.tk (ok_debug h1) hs ?_ (q3 hs) (evEs_len is)
              rw [← q1]
              simpa using h4
          · cases h
        · split at h
          · rename_i hfr
            split at h
            · rename_i o ho
              cases hc : cEs G X.N X.env.scope (a :: es') with
              | none => rw [hc] at h; cases h
              | some is =>
                rw [hc] at h
                cases h
                exact blt_ok g ho (glB_ok h2) (g.free x hfr) (ok_name h1) (ok_debug h1) hs ((cEs_ok g (a :: es') is hc).2.2 hs)
            · cases h
          · cases h
      · cases h
  | .Call (.Attribute o nm apos) es kws pos, i, h => by
    simp only [cE] at h
    split at h
    · cases h
    · rename_i hn
      simp only [Bool.or_eq_true, Bool.not_eq_true', not_or, Bool.not_eq_false, Bool.not_eq_true] at hn
      obtain ⟨⟨hk, he⟩, hs⟩ := hn
      obtain rfl : kws = [] := by simpa using hk
      obtain ⟨a, es', rfl⟩ : ∃ a es', es = a :: es' := by
        cases es with
        | nil => cases he
        | cons a es' => exact ⟨a, es', rfl⟩
      split at h
      · rename_i kk om hm
        split at h
        · rename_i hq
          obtain ⟨hq, q4⟩ := and_inv hq
          obtain ⟨q1, q3⟩ := and_inv hq
          split at h
          · rename_i io is ho hss
            cases h
            exact met_ok hm q1 hs (by simpa using q3) q4 (cE_ok g o io ho) ((cEs_ok g (a :: es') is hss).2.2 hs)
          · cases h
        · cases h
      · cases h
  | .Call (.BoolOp _ _ _) es kws pos, i, h => by simp only [cE] at h; split at h <;> cases h
  | .Call (.NamedExpr _ _ _) es kws pos, i, h => by simp only [cE] at h; split at h <;> cases h
  | .Call (.BinOp _ _ _ _) es kws pos, i, h => by simp only [cE] at h; split at h <;> cases h
  | .Call (.UnaryOp _ _ _) es kws pos, i, h => by simp only [cE] at h; split at h <;> cases h
  | .Call (.Lambda _ _ _ _) es kws pos, i, h => by simp only [cE] at h; split at h <;> cases h
  | .Call (.IfExp _ _ _ _) es kws pos, i, h => by simp only [cE] at h; split at h <;> cases h
  | .Call (.Dict _ _ _) es kws pos, i, h => by simp only [cE] at h; split at h <;> cases h
  | .Call (.Set _ _ _) es kws pos, i, h => by simp only [cE] at h; split at h <;> cases h
  | .Call (.ListComp _ _ _ _) es kws pos, i, h => by simp only [cE] at h; split at h <;> cases h
  | .Call (.SetComp _ _ _ _) es kws pos, i, h => by simp only [cE] at h; split at h <;> cases h
  | .Call (.DictComp _ _ _ _ _) es kws pos, i, h => by simp only [cE] at h; split at h <;> cases h
  | .Call (.GeneratorExp _ _ _ _) es kws pos, i, h => by simp only [cE] at h; split at h <;> cases h
  | .Call (.Await _ _) es kws pos, i, h => by simp only [cE] at h; split at h <;> cases h
  | .Call (.Yield _ _) es kws pos, i, h => by simp only [cE] at h; split at h <;> cases h
  | .Call (.YieldFrom _ _) es kws pos, i, h => by simp only [cE] at h; split at h <;> cases h
  | .Call (.Compare _ _ _ _) es kws pos, i, h => by simp only [cE] at h; split at h <;> cases h
  | .Call (.Call _ _ _ _) es kws pos, i, h => by simp only [cE] at h; split at h <;> cases h
  | .Call (.FormattedValue _ _ _ _) es kws pos, i, h => by simp only [cE] at h; split at h <;> cases h
  | .Call (.JoinedStr _ _) es kws pos, i, h => by simp only [cE] at h; split at h <;> cases h
  | .Call (.Constant _ _ _) es kws pos, i, h => by simp only [cE] at h; split at h <;> cases h
  | .Call (.Subscript _ _ _) es kws pos, i, h => by simp only [cE] at h; split at h <;> cases h
  | .Call (.Starred _ _) es kws pos, i, h => by simp only [cE] at h; split at h <;> cases h
  | .Call (.List _ _) es kws pos, i, h => by simp only [cE] at h; split at h <;> cases h
  | .Call (.Tuple _ _ _) es kws pos, i, h => by simp only [cE] at h; split at h <;> cases h
  | .Call (.Slice _ _ _ _) es kws pos, i, h => by simp only [cE] at h; split at h <;> cases h
  | .NamedExpr _ _ _, i, h => by simp only [cE] at h; cases h
  | .Lambda _ _ _ _, i, h => by simp only [cE] at h; cases h
  | .Dict _ _ _, i, h => by simp only [cE] at h; cases h
  | .Set _ _ _, i, h => by simp only [cE] at h; cases h
  | .ListComp _ _ _ _, i, h => by simp only [cE] at h; cases h
  | .SetComp _ _ _ _, i, h => by simp only [cE] at h; cases h
  | .DictComp _ _ _ _ _, i, h => by simp only [cE] at h; cases h
  | .GeneratorExp _ _ _ _, i, h => by simp only [cE] at h; cases h
  | .Await _ _, i, h => by simp only [cE] at h; cases h
  | .Yield _ _, i, h => by simp only [cE] at h; cases h
  | .YieldFrom _ _, i, h => by simp only [cE] at h; cases h
  | .FormattedValue _ _ _ _, i, h => by simp only [cE] at h; cases h
  | .JoinedStr _ _, i, h => by simp only [cE] at h; cases h
  | .Attribute _ _ _, i, h => by simp only [cE] at h; cases h
  | .Starred _ _, i, h => by simp only [cE] at h; cases h
  | .Slice _ _ _ _, i, h => by simp only [cE] at h; cases h
termination_by e => sizeOf e
theorem cEs_ok {X : Cx} (g : Good G Z W w k clsV X) : ∀ (es : List Expr) (is : List E), cEs G X.N X.env.scope es = some is → EsOk X Z W w es is
  | [], is, h => by
    simp only [cEs] at h
    cases h
    exact ⟨rfl, fun j e i h1 _ => by simp at h1, fun _ => sn_nil⟩
  | e :: es, is, h => by
    simp only [cEs] at h
    split at h
    · rename_i i is' h1 h2
      cases h
      have p1 := cE_ok g e i h1
      obtain ⟨q1, q2, q3⟩ := cEs_ok g es is' h2
      refine ⟨by simp [q1], fun j e' i' e1 e2 => ?_, fun hs => ?_⟩
      · cases j with
        | zero =>
          simp at e1 e2
          subst e1 e2
          exact p1
        | succ j => exact q2 j e' i' (by simpa using e1) (by simpa using e2)
      · unfold noStar at hs
        obtain ⟨s1, s2⟩ := and_inv hs
        exact sn_cons p1 (q3 s2) (star_cons (by simpa using s1))
    · cases h
termination_by es => sizeOf es
theorem cT_ok {X : Cx} (g : Good G Z W w k clsV X) : ∀ (e : Expr) (i : T), cT G X.N X.env.scope e = some i → PT X e (Tb (kx X Z) W (evT w i))
  | .UnaryOp op a pos, i, h => by
    simp only [cT] at h
    split at h
    · rename_i ia ha
      cases h
      exact t_not (orV_ok ha (fun t' h' => cT_ok g a t' h') (fun i' h' => cE_ok g a i' h'))
    · cases h
  | .BoolOp op es pos, i, h => by
    simp only [cT] at h
    split at h
    · rename_i is hs
      obtain ⟨h1, h2⟩ := cTs_ok g es is hs
      exact (andT_ok h2 h1 h).pt
    · rename_i is hs
      obtain ⟨h1, h2⟩ := cTs_ok g es is hs
      exact (orT_ok h2 h1 h).pt
    · cases h
  | .Compare a ops bs pos, i, h => by
    simp only [cT] at h
    split at h
    · rename_i ia is ha hs
      exact cmpT_ok g (cE_ok g a ia ha) (cEs_ok g bs is hs) h
    · cases h
  | .Constant _ _ _, i, h => by simp only [cT] at h; cases h
  | .Name _ _, i, h => by simp only [cT] at h; cases h
  | .BinOp _ _ _ _, i, h => by simp only [cT] at h; cases h
  | .IfExp _ _ _ _, i, h => by simp only [cT] at h; cases h
  | .Tuple _ _ _, i, h => by simp only [cT] at h; cases h
  | .List _ _, i, h => by simp only [cT] at h; cases h
  | .Subscript _ _ _, i, h => by simp only [cT] at h; cases h
  | .Call _ _ _ _, i, h => by simp only [cT] at h; cases h
  | .NamedExpr _ _ _, i, h => by simp only [cT] at h; cases h
  | .Lambda _ _ _ _, i, h => by simp only [cT] at h; cases h
  | .Dict _ _ _, i, h => by simp only [cT] at h; cases h
  | .Set _ _ _, i, h => by simp only [cT] at h; cases h
  | .ListComp _ _ _ _, i, h => by simp only [cT] at h; cases h
  | .SetComp _ _ _ _, i, h => by simp only [cT] at h; cases h
  | .DictComp _ _ _ _ _, i, h => by simp only [cT] at h; cases h
  | .GeneratorExp _ _ _ _, i, h => by simp only [cT] at h; cases h
  | .Await _ _, i, h => by simp only [cT] at h; cases h
  | .Yield _ _, i, h => by simp only [cT] at h; cases h
  | .YieldFrom _ _, i, h => by simp only [cT] at h; cases h
  | .FormattedValue _ _ _ _, i, h => by simp only [cT] at h; cases h
  | .JoinedStr _ _, i, h => by simp only [cT] at h; cases h
  | .Attribute _ _ _, i, h => by simp only [cT] at h; cases h
  | .Starred _ _, i, h => by simp only [cT] at h; cases h
  | .Slice _ _ _ _, i, h => by simp only [cT] at h; cases h
termination_by e => sizeOf e
theorem cTs_ok {X : Cx} (g : Good G Z W w k clsV X) : ∀ (es : List Expr) (is : List T), cTs G X.N X.env.scope es = some is → TsOk X Z W w es is
  | [], is, h => by
    simp only [cTs] at h
    cases h
    exact ⟨rfl, fun j e i h1 _ => by simp at h1⟩
  | e :: es, is, h => by
    simp only [cTs] at h
    split at h
    · rename_i i is' h1 h2
      cases h
      have p1 : PT X e (Tb (kx X Z) W (evT w i)) := orV_ok h1 (fun t' h' => cT_ok g e t' h') (fun i' h' => cE_ok g e i' h')
      obtain ⟨q1, q2⟩ := cTs_ok g es is' h2
      refine ⟨by simp [q1], fun j e' i' e1 e2 => ?_⟩
      cases j with
      | zero =>
        simp at e1 e2
        subst e1 e2
        exact p1
      | succ j => exact q2 j e' i' (by simpa using e1) (by simpa using e2)
    · cases h
termination_by es => sizeOf es
end
end
end HP

set_option Elab.async false
set_option linter.all false
set_option autoImplicit false
set_option maxRecDepth 100000
set_option maxHeartbeats 8000000
/-! .. of statements; of defs. -/
namespace HP
open PySem L2
section
variable {G : Gt} {Z : Zx} {W : XW} {w : Wd} {k : Nat} {clsV : Nat → Value}
theorem loc_fn {X : Cx} (g : Good G Z W w k clsV X) {x : Str} (h : locB X.env.scope x = true) : X.fn x = true ∨ X.env.scope.names.lookup x = some .local := by
  rcases locB_ok h with q | q
  · exact .inr q
  · exact .inl (g.cell x q)
mutual
theorem cG_ok {X : Cx} (g : Good G Z W w k clsV X) : ∀ (e : Expr) (t : Tg), cG X.N X.env.scope e = some t → PG X e (Tg1 (kx X Z) t)
  | .Name x pos, t, h => by
    simp only [cG] at h
    split at h
    · rename_i hl
      cases hi : ixB X.N x with
      | none => rw [hi] at h; cases h
      | some i =>
        rw [hi] at h
        cases h
        exact g_name g.nd (ixB_ok hi) (locB_ok hl) (loc_fn g hl)
    · cases h
  | .Tuple es j pos, t, h => by
    simp only [cG] at h
    split at h
    · rename_i hs
      cases hc : cGs X.N X.env.scope es with
      | none => rw [hc] at h; cases h
      | some ts =>
        rw [hc] at h
        cases h
        obtain ⟨h1, h2⟩ := cGs_ok g es ts hc
        exact g_tup g.calm (h2 hs) h1 hs
    · cases h
  | .BoolOp _ _ _, t, h => by simp only [cG] at h; cases h
  | .NamedExpr _ _ _, t, h => by simp only [cG] at h; cases h
  | .BinOp _ _ _ _, t, h => by simp only [cG] at h; cases h
  | .UnaryOp _ _ _, t, h => by simp only [cG] at h; cases h
  | .Lambda _ _ _ _, t, h => by simp only [cG] at h; cases h
  | .IfExp _ _ _ _, t, h => by simp only [cG] at h; cases h
  | .Dict _ _ _, t, h => by simp only [cG] at h; cases h
  | .Set _ _ _, t, h => by simp only [cG] at h; cases h
  | .ListComp _ _ _ _, t, h => by simp only [cG] at h; cases h
  | .SetComp _ _ _ _, t, h => by simp only [cG] at h; cases h
  | .DictComp _ _ _ _ _, t, h => by simp only [cG] at h; cases h
  | .GeneratorExp _ _ _ _, t, h => by simp only [cG] at h; cases h
  | .Await _ _, t, h => by simp only [cG] at h; cases h
  | .Yield _ _, t, h => by simp only [cG] at h; cases h
  | .YieldFrom _ _, t, h => by simp only [cG] at h; cases h
  | .Compare _ _ _ _, t, h => by simp only [cG] at h; cases h
  | .Call _ _ _ _, t, h => by simp only [cG] at h; cases h
  | .FormattedValue _ _ _ _, t, h => by simp only [cG] at h; cases h
  | .JoinedStr _ _, t, h => by simp only [cG] at h; cases h
  | .Constant _ _ _, t, h => by simp only [cG] at h; cases h
  | .Attribute _ _ _, t, h => by simp only [cG] at h; cases h
  | .Subscript _ _ _, t, h => by simp only [cG] at h; cases h
  | .Starred _ _, t, h => by simp only [cG] at h; cases h
  | .List _ _, t, h => by simp only [cG] at h; cases h
  | .Slice _ _ _ _, t, h => by simp only [cG] at h; cases h
termination_by e => sizeOf e
theorem cGs_ok {X : Cx} (g : Good G Z W w k clsV X) : ∀ (es : List Expr) (ts : List Tg), cGs X.N X.env.scope es = some ts → ts.length = es.length ∧ (noStar es = true → PGs X es (Tgn (kx X Z) ts))
  | [], ts, h => by
    simp only [cGs] at h
    cases h
    exact ⟨rfl, fun _ => gs_nil⟩
  | e :: es, ts, h => by
    simp only [cGs] at h
    split at h
    · rename_i t ts' h1 h2
      cases h
      have p1 := cG_ok g e t h1
      obtain ⟨q1, q2⟩ := cGs_ok g es ts' h2
      refine ⟨by simp [q1], fun hs => ?_⟩
      unfold noStar at hs
      obtain ⟨s1, s2⟩ := and_inv hs
      exact gs_cons p1 (q2 s2) (by simpa using s1)
    · cases h
termination_by es => sizeOf es
end
theorem set_plain {e : Expr} {env : PySem.Env} (h : isSetD e = false) : ∀ x, foldedSetIterable e env x = pure x := by
  intro x
  cases e <;> first | rfl | (cases h; done)
theorem cI_ok {X : Cx} (g : Good G Z W w k clsV X) {tg e : Expr} {i : I} (h : cI G X.N X.env.scope e = some i) : PI X tg e (Tw (kx X Z) W (evI w i)) := by
  unfold cI at h
  split at h
  · rename_i x p es pos
    split at h
    · rename_i hx
      split at h
      · rename_i hq
        obtain ⟨hq, q3⟩ := and_inv hq
        obtain ⟨q1, q2⟩ := and_inv hq
        split at h
        · rename_i a
          cases hc : cEs G X.N X.env.scope [a] with
          | none => rw [hc] at h; cases h
          | some is =>
            rw [hc] at h
            cases h
            obtain ⟨h1, _, h2⟩ := cEs_ok g [a] is hc
            exact i_range1 hx (glB_ok q1) (g.free x q2) (by unfold noStar at q3; simpa using (and_inv q3).1) (h2 q3) h1.symm
        · rename_i a b
          cases hc : cEs G X.N X.env.scope [a, b] with
          | none => rw [hc] at h; cases h
          | some is =>
            rw [hc] at h
            cases h
            obtain ⟨h1, _, h2⟩ := cEs_ok g [a, b] is hc
            have hs := q3
            unfold noStar at hs
            have hs2 := (and_inv hs).2
            unfold noStar at hs2
            exact i_range2 hx (glB_ok q1) (g.free x q2) (by simpa using (and_inv hs).1) (by simpa using (and_inv hs2).1) (h2 q3) h1.symm
        · cases h
      · cases h
    · cases hc : cE G X.N X.env.scope (.Call (.Name x p) es [] pos) with
      | none => rw [hc] at h; cases h
      | some ie =>
        rw [hc] at h
        cases h
        exact i_val (cE_ok g _ ie hc)
  · rename_i e' _
    split at h
    · cases h
    · cases hc : cE G X.N X.env.scope e with
      | none => rw [hc] at h; cases h
      | some ie =>
        rw [hc] at h
        cases h
        exact i_val (cE_ok g _ ie hc)
theorem block_fun {env : PySem.Env} (h : env.scope.kind = .function) : env.blockKind = .function := by
  unfold PySem.Env.blockKind
  rw [h]
  rfl
theorem swap2 {env : PySem.Env} {x y : Str} {px py pt pt2 : Pos} {kt k2 : Nat} {a b : Expr} (hk : env.scope.kind = .function) (hx : env.scope.names.lookup x = some .local) (hy : env.scope.names.lookup y = some .local) (hne : x ≠ y) (hl : (px.line == py.line) = true)
    (ha : isStar a = false) (hb : isStar b = false) (h1 : [a, b].all (foldedForSure 8) = false) (h2 : [a, b].all (constantsAlone 8) = false) : swappedStores [.Tuple [.Name x px, .Name y py] kt pt] (.Tuple [a, b] k2 pt2) env = pure (some [x, y]) := by
  have kx : env.kindOf x = some .local := hx
  have ky : env.kindOf y = some .local := hy
  have hbk := block_fun hk
  have hl' : py.line = px.line := (beq_iff_eq.mp hl).symm
  have e : ([x, y].eraseDups) = [x, y] := by
    rw [List.eraseDups_cons]
    have : List.filter (fun b => !b == x) [y] = [y] := by simp [hne.symm]
    rw [this]
    rfl
  have p1 : (Expr.Name x px).pos = px := rfl
  unfold swappedStores
  dsimp only
  rw [if_neg (by rw [hbk]; simp)]
  rw [if_neg ?hs]
  case hs =>
    intro hh
    rw [List.any_eq_true] at hh
    obtain ⟨e, he, hm⟩ := hh
    split at hm
    · simp only [List.mem_cons, List.not_mem_nil, or_false] at he
      rcases he with rfl | rfl
      · cases ha
      · cases hb
    · cases hm
  simp [List.filterMap_cons, kx, ky, hl', p1, e, h1, h2]
theorem swap3 {env : PySem.Env} {x y z : Str} {px py pz pt pt2 : Pos} {kt k2 : Nat} {a b c : Expr} (hk : env.scope.kind = .function) (hx : env.scope.names.lookup x = some .local) (hy : env.scope.names.lookup y = some .local) (hz : env.scope.names.lookup z = some .local) (hxy : x ≠ y) (hxz : x ≠ z) (hyz : y ≠ z)
    (hl : (px.line == py.line) = true) (hl2 : (px.line == pz.line) = true)
    (ha : isStar a = false) (hb : isStar b = false) (hc : isStar c = false) (h1 : [a, b, c].all (foldedForSure 8) = false) (h2 : [a, b, c].all (constantsAlone 8) = false) : swappedStores [.Tuple [.Name x px, .Name y py, .Name z pz] kt pt] (.Tuple [a, b, c] k2 pt2) env = pure (some [x, y, z]) := by
  have kx : env.kindOf x = some .local := hx
  have ky : env.kindOf y = some .local := hy
  have kz : env.kindOf z = some .local := hz
  have hbk := block_fun hk
  have hl' : py.line = px.line := (beq_iff_eq.mp hl).symm
  have hl2' : pz.line = px.line := (beq_iff_eq.mp hl2).symm
  have e : ([x, y, z].eraseDups) = [x, y, z] := by
    rw [List.eraseDups_cons]
    have : List.filter (fun b => !b == x) [y, z] = [y, z] := by simp [hxy.symm, hxz.symm]
    rw [this, List.eraseDups_cons]
    have : List.filter (fun b => !b == y) [z] = [z] := by simp [hyz.symm]
    rw [this]
    rfl
  have p1 : (Expr.Name x px).pos = px := rfl
  unfold swappedStores
  dsimp only
  rw [if_neg (by rw [hbk]; simp)]
  rw [if_neg ?hs]
  case hs =>
    intro hh
    rw [List.any_eq_true] at hh
    obtain ⟨e, he, hm⟩ := hh
    split at hm
    · simp only [List.mem_cons, List.not_mem_nil, or_false] at he
      rcases he with rfl | rfl | rfl
      · cases ha
      · cases hb
      · cases hc
    · cases hm
  simp [List.filterMap_cons, kx, ky, kz, hl', hl2', p1, e, h1, h2]
theorem augPlain {b : Expr} (h : isSlice b = false) (ov iv new : Value) : augStore b ov iv new = (do holding [new, ov, iv] (setItem ov iv new); release [new, ov, iv] []; pure .next) := by
  cases b <;> first | rfl | (cases h; done)
theorem ne_of_ix {N : List Str} {x y : Str} {i j : Nat} (hx : ixB N x = some i) (hy : ixB N y = some j) (h : (i != j) = true) : x ≠ y := fun e => by
  subst e
  rw [hx] at hy
  cases hy
  simp at h
theorem plain_swap {t e : Expr} {env : PySem.Env} (h : isTupE t = false ∨ isTupE e = false) (ht : ∀ es p, t ≠ .List es p) : swappedStores [t] e env = pure none := by
  rcases h with h | h
  · cases t <;> first | rfl | (cases h; done) | exact absurd rfl (ht _ _)
  · cases e <;> first | (cases h; done) | (cases t <;> rfl)

mutual
theorem cS_ok {X : Cx} (g : Good G Z W w k clsV X) : ∀ (s : Stmt) (i : S), cS G X.N X.env.scope s = some i → PS X s (TS1 (kx X Z) W (evS w i))
  | .Pass pos, i, h => by
    simp only [cS] at h
    cases h
    exact ss_pass
  | .Break pos, i, h => by
    simp only [cS] at h
    cases h
    exact ss_brk
  | .Continue pos, i, h => by
    simp only [cS] at h
    cases h
    exact ss_cnt
  | .Return none pos, i, h => by
    simp only [cS] at h
    cases h
    exact ss_retN
  | .Return (some e) pos, i, h => by
    simp only [cS] at h
    cases hc : cE G X.N X.env.scope e with
    | none => rw [hc] at h; cases h
    | some ie =>
      rw [hc] at h
      cases h
      exact ss_ret (cE_ok g e ie hc)
  | .Expr e pos, i, h => by
    unfold cS at h
    split at h
    · split at h
      · cases h
        refine PS.imp ps_doc fun D σ H h => ?_
        obtain ⟨env, M, ρ, e, m, p⟩ := h
        simp only [evS] at p
        exact p.nx e m
      · cases h
    · split at h
      · cases h
      · rename_i hq
        cases hc : cE G X.N X.env.scope e with
        | none => rw [hc] at h; cases h
        | some ie =>
          rw [hc] at h
          cases h
          exact ss_expr (cE_ok g e ie hc) (by simpa using hq)
  | .If t a b pos, i, h => by
    simp only [cS] at h
    split at h
    · rename_i it ia ib ht ha hb
      cases h
      exact ss_if (orV_ok ht (fun t' h' => cT_ok g t t' h') (fun i' h' => cE_ok g t i' h')) (cSs_ok g a ia ha) (cSs_ok g b ib hb)
    · cases h
  | .While t b o pos, i, h => by
    simp only [cS] at h
    split at h
    · split at h
      · rename_i it ib ht hb
        cases h
        exact ss_while g.own (orV_ok ht (fun t' h' => cT_ok g t t' h') (fun i' h' => cE_ok g t i' h')) (cSs_ok g b ib hb)
      · cases h
    · cases h
  | .For tg it b o pos, i, h => by
    simp only [cS] at h
    split at h
    · split at h
      · cases h
      · rename_i hq
        split at h
        · rename_i gg ii ib hg hi hb
          cases h
          exact ss_for g.own g.calm (cI_ok g hi) (cG_ok g tg gg hg) (cSs_ok g b ib hb) (set_plain (by simpa using hq))
        · cases h
    · cases h
  | .Assign ts e pos, i, h => by
    unfold cS at h
    split at h
    · cases h
    · rename_i hq
      have hcp : isComp e = false := by simpa using hq
      split at h
      · rename_i t
        split at h
        · rename_i a b p2
          split at h
          · cases h
          · rename_i hsl
            split at h
            · rename_i ia ib ie ha hb he
              cases h
              exact ss_setI (by simpa using hsl) (cE_ok g a ia ha) (cE_ok g b ib hb) (cE_ok g e ie he) hcp
            · cases h
        · rename_i ns kt pt
          split at h
          · rename_i es k2 pt2
            split at h
            · rename_i x px y py a b
              split at h
              · rename_i i1 j1 ia ib hi hj ha hb
                split at h
                · rename_i hc
                  cases h
                  simp only [Bool.and_eq_true, Bool.not_eq_true'] at hc
                  obtain ⟨⟨⟨⟨⟨⟨⟨c1, c2⟩, c3⟩, c4⟩, c5⟩, c6⟩, c7⟩, c8⟩ := hc
                  exact ss_par g.calm g.nd (ixB_ok hi) (ixB_ok hj) (by simpa using c1) (lclB_ok c2) (lclB_ok c3) c4 c5 (cE_ok g a ia ha) (cE_ok g b ib hb) (swap2 g.kind (lclB_ok c2) (lclB_ok c3) (ne_of_ix hi hj c1) c6 c4 c5 c7 c8)
                · cases h
              · cases h
            · rename_i x px y py z pz a b c
              split at h
              · rename_i i1 j1 l1 ia ib ic hi hj hl ha hb hcc
                split at h
                · rename_i hc
                  cases h
                  simp only [Bool.and_eq_true, Bool.not_eq_true'] at hc
                  obtain ⟨⟨⟨⟨⟨⟨⟨⟨⟨⟨⟨⟨c1, c2⟩, c3⟩, c4⟩, c5⟩, c6⟩, c7⟩, c8⟩, c9⟩, c10⟩, c11⟩, c12⟩, c13⟩ := hc
                  exact ss_par3 g.calm g.nd (ixB_ok hi) (ixB_ok hj) (ixB_ok hl) (by simpa using c1) (by simpa using c2) (by simpa using c3) (lclB_ok c4) (lclB_ok c5) (lclB_ok c6) c7 c8 c9 (cE_ok g a ia ha) (cE_ok g b ib hb) (cE_ok g c ic hcc)
                    (swap3 g.kind (lclB_ok c4) (lclB_ok c5) (lclB_ok c6) (ne_of_ix hi hj c1) (ne_of_ix hi hl c2) (ne_of_ix hj hl c3) c10 c11 c7 c8 c9 c12 c13)
                · cases h
              · cases h
            · cases h
          · rename_i e' hne
            split at h
            · rename_i gg ie hg he
              cases h
              refine ss_asg (cE_ok g e ie he) (cG_ok g _ gg hg) hcp (plain_swap (.inr ?_) (fun _ _ z => nomatch z)) rfl
              cases e <;> first | rfl | exact absurd rfl (hne _ _ _)
            · cases h
        · rename_i t' hn1 hn2
          split at h
          · rename_i gg ie hg he
            cases h
            have h3 : isTupE t = false := by cases t <;> first | rfl | exact absurd rfl (hn2 _ _ _)
            have h4 : ∀ es p, t ≠ .List es p := fun es p z => by subst z; simp only [cG] at hg; cases hg
            have h5 : isStar t = false := by cases t <;> first | rfl | (simp only [cG] at hg; cases hg)
            exact ss_asg (cE_ok g e ie he) (cG_ok g t gg hg) hcp (plain_swap (.inl h3) h4) h5
          · cases h
      · cases h
  | .AugAssign t op e pos, i, h => by
    unfold cS at h
    split at h
    · rename_i x p2
      split at h
      · rename_i o j ie ho hj he
        split at h
        · rename_i hl
          cases h
          exact ss_aug (oi_of ho) g.nd (ixB_ok hj) (locB_ok hl) (loc_fn g hl) (cE_ok g e ie he)
        · cases h
      · cases h
    · rename_i a b p2
      split at h
      · cases h
      · rename_i hsl
        split at h
        · rename_i o ia ib ie ho ha hb he
          cases h
          exact ss_augI (oi_of ho) (cE_ok g a ia ha) (cE_ok g b ib hb) (cE_ok g e ie he) (augPlain (by simpa using hsl))
        · cases h
    · cases h
  | .FunctionDef _ _ _ _ _ _ _ _ _ _, i, h => by simp only [cS] at h; cases h
  | .AsyncFunctionDef _ _ _ _ _ _ _ _ _ _, i, h => by simp only [cS] at h; cases h
  | .ClassDef _ _ _ _ _ _ _ _ _ _ _, i, h => by simp only [cS] at h; cases h
  | .Delete _ _, i, h => by simp only [cS] at h; cases h
  | .TypeAlias _ _ _ _ _ _ _, i, h => by simp only [cS] at h; cases h
  | .AnnAssign _ _ _ _ _, i, h => by simp only [cS] at h; cases h
  | .AsyncFor _ _ _ _ _, i, h => by simp only [cS] at h; cases h
  | .With _ _ _, i, h => by simp only [cS] at h; cases h
  | .AsyncWith _ _ _, i, h => by simp only [cS] at h; cases h
  | .Match _ _ _, i, h => by simp only [cS] at h; cases h
  | .Raise _ _ _, i, h => by simp only [cS] at h; cases h
  | .Try _ _ _ _ _, i, h => by simp only [cS] at h; cases h
  | .TryStar _ _ _ _ _, i, h => by simp only [cS] at h; cases h
  | .Assert _ _ _, i, h => by simp only [cS] at h; cases h
  | .Import _ _, i, h => by simp only [cS] at h; cases h
  | .ImportFrom _ _ _ _, i, h => by simp only [cS] at h; cases h
  | .Global _ _, i, h => by simp only [cS] at h; cases h
  | .Nonlocal _ _, i, h => by simp only [cS] at h; cases h
termination_by s => sizeOf s
theorem cSs_ok {X : Cx} (g : Good G Z W w k clsV X) : ∀ (ss : List Stmt) (is : List S), cSs G X.N X.env.scope ss = some is → PSs X ss (TS1 (kx X Z) W (evSs w is))
  | [], is, h => by
    simp only [cSs] at h
    cases h
    exact ss_nil
  | s :: ss, is, h => by
    simp only [cSs] at h
    split at h
    · rename_i i is' h1 h2
      cases h
      exact ss_cons (cS_ok g s i h1) (cSs_ok g ss is' h2)
    · cases h
termination_by ss => sizeOf ss
end
end
end HP

set_option Elab.async false
set_option linter.all false
set_option autoImplicit false
set_option maxRecDepth 100000
set_option maxHeartbeats 8000000
/-! The defs of a text, all at once; the law's end. -/
namespace HP
open PySem L2

/-- a def as it is read: where it stands, its names (parameters first), its plain form -/
structure Df where
  x : Str
  d : He.DefD
  N : List Str
  ps : List Str
  fn : Fn
def fscB (N P : List Str) (sc : Scope) : Bool :=
  (match sc.kind with | .function => true | _ => false) && !sc.isCoroutine && !sc.isGenerator && decide N.Nodup && decide (N.take P.length = P) &&
    (P.all fun x => locB sc x) && (sc.names.all fun y => !(match y.2 with | .free => true | _ => false))
theorem fscB_ok {N P : List Str} {sc : Scope} (h : fscB N P sc = true) : FnScope N P sc := by
  unfold fscB at h
  simp only [Bool.and_eq_true, Bool.not_eq_true', decide_eq_true_eq, List.all_eq_true] at h
  obtain ⟨⟨⟨⟨⟨⟨h1, h2⟩, h3⟩, h4⟩, h5⟩, h6⟩, h7⟩ := h
  refine ⟨?_, h2, h3, h4, h5, fun x hx => locB_ok (h6 x hx), fun y hy e => ?_⟩
  · split at h1
    · assumption
    · cases h1
  · have := h7 y hy
    rw [e] at this
    cases this
structure DfOk (G : Gt) (D : Df) : Prop where
  sc : fscB D.N D.ps D.d.scope = true
  rd : cSs G D.N D.d.scope D.d.body = some D.fn.body
  pn : D.fn.params = D.ps.length
  nn : D.fn.names = D.N.length
  bd : ∀ (kV doc pm : Value) (an : Option Addr) (cdv ct : Value) (us : List Value), us.length = D.ps.length → bindArgs (PySem.W.fnOf D.d.name D.d.qual D.d.params D.d.body D.d.scope .none kV doc pm an cdv ct) ⟨us, []⟩ = pure (D.ps.zip us)
  nd : D.d.dfl = []
  nk : D.d.kwd = []

theorem EnvR.start {K : Kx} {ρ : List Addr} {H : Hp} {as : List PV} {vs : List V} {N : List Str} (r : VRs K ρ H as vs) (hl : as.length ≤ N.length) : EnvR K ρ H (as.map some ++ List.replicate (N.length - as.length) none) (start N vs) := by
  have hv := r.length
  refine ⟨by simp [L2.start, hv], fun i v e => ?_⟩
  by_cases hi : i < as.length
  · rw [List.getElem?_append_left (by simpa using hi), List.getElem?_map] at e
    cases h : as[i]? with
    | none => rw [h] at e; cases e
    | some a =>
      rw [h] at e
      simp at e
      subst e
      obtain ⟨u, hu, ru⟩ := r.get h
      refine ⟨u, ?_, ru⟩
      unfold L2.start
      rw [List.getElem?_append_left (by simp [hv, hi]), List.getElem?_map, hu]
      rfl
  · rw [List.getElem?_append_right (by simpa using hi)] at e
    rw [List.getElem?_replicate] at e
    split at e <;> cases e
theorem PC.of_out {K : Kx} {W : XW} {ρ : List Addr} {H : Hp} {c : Ctl} {k : PV → Mem → List Addr → Hp → Prop} {Q : VK} (h : Ps K W [] ρ H c.out k) (hk : ∀ v M ρ' H', k v M ρ' H' → ∀ u, VR K ρ' H' v u → Q u H') (hW : ∀ c σ H', W c [] H' → W c σ H') : PC K W ρ H c { nx := fun _ H' => Q .non H', rt := Q } := by
  cases c with
  | nxt env M => exact fun ρ' H' σ' f m e => hk _ _ _ _ (h ρ' H' f m) _ vr_non
  | ret v M => exact fun ρ' H' u f m r => hk _ _ _ _ (h ρ' H' f m) _ r
  | brk env M => exact h.elim
  | cnt env M => exact h.elim
  | exc c env M => exact fun ρ' H' σ' f m e => hW c σ' H' (h ρ' H' f m)
  | fail => exact h.elim

section
variable {P : Program} {w : World} {K : PySem.W.Frag} {mg : Str → Option Value} {base : Heap} {Z : Zx} {G : Gt} {fs : List Fn} {glob : Nat → Option PV} {fuel : Nat} {clsV : Nat → Value}
/-- a def keeps what its plain form says, if those that it calls do one level lower -/
theorem df_ok {k : Nat} {D : Df} {f : Addr} {fd : FuncData} {fi : Nat} (F : FunD K D.d.name D.d.qual D.d.params D.d.body D.d.scope [] [] f fd) (o : DfOk G D) (hf : fs[fi]? = some D.fn)
    (free : ∀ x, G.free.contains x = true → mg x = none)
    (fn : ∀ x fi n, G.fns.lookup x = some (fi, n) → ∃ f fd ps, FnOk P w K mg base (L2.CX P w) k f fd ps (spF ⟨K, Z⟩ clsV (run fs glob fuel k fi) n) ∧ mg x = some (.ref f) ∧ PySem.W.keepIn K (.ref f) = true ∧ Binds K fd ps [])
    (cn : ∀ x g, G.cns.lookup x = some g → ∃ v u uv, glob g = some v ∧ mg x = some uv ∧ RelV u uv ∧ ∀ ρ H, VR ⟨K, Z⟩ ρ H v u) :
    FnOk P w K mg base (L2.CX P w) (k + 1) f fd D.ps (spF ⟨K, Z⟩ clsV (run fs glob fuel (k + 1) fi) D.ps.length) := by
  have S := fscB_ok o.sc
  refine F.ok S (fun vs H Q E h => ?_) (fun cdv A outer s H vs Q E hr h => ?_)
  · obtain ⟨as, M, ρ, hl, _, r, _⟩ := h
    rw [r.length, hl]
  · obtain ⟨as, M, ρ, hl, m, r, p⟩ := h
    refine ⟨_, cSs_ok (G := G) (Z := Z) (W := fun c _ H' => E (clsV c) none H') (w := ⟨run fs glob fuel k, glob, fuel⟩) (k := k) (clsV := clsV) ?_ _ _ o.rd, ?_⟩
    · exact { nd := S.nd, calm := rfl, room := hr, kind := S.kind, cell := fun _ _ => rfl
              tk := Takes.imp (takes_of rfl rfl rfl rfl) fun cls d σ H ⟨c, e1, e2, z⟩ => by
                subst e1 e2
                exact z
              own := passes_of rfl
              free := free, fn := fn, cn := cn }
    · have hle : as.length ≤ D.N.length := by
        have := congrArg List.length S.pre
        rw [List.length_take] at this
        omega
      refine ⟨as.map some ++ List.replicate (D.N.length - as.length) none, M, ρ, EnvR.start r hle, m, ?_⟩
      unfold run at p
      rw [hf] at p
      simp only at p
      rw [if_pos ⟨by rw [hl, o.pn], by rw [o.pn, o.nn, ← hl]; exact hle⟩, o.nn] at p
      exact PC.of_out p (fun v M ρ' H' z => z) (fun c σ H' z => z)
/-- all defs, at every level -/
theorem fns_ok {DS : List Df} (hD : ∀ D ∈ DS, DfOk G D) (hF : ∀ D ∈ DS, ∃ f fd, FunD K D.d.name D.d.qual D.d.params D.d.body D.d.scope [] [] f fd ∧ mg D.x = some (.ref f))
    (hG : ∀ x fi n, G.fns.lookup x = some (fi, n) → ∃ D ∈ DS, D.x = x ∧ fs[fi]? = some D.fn ∧ n = D.ps.length)
    (free : ∀ x, G.free.contains x = true → mg x = none)
    (cn : ∀ x g, G.cns.lookup x = some g → ∃ v u uv, glob g = some v ∧ mg x = some uv ∧ RelV u uv ∧ ∀ ρ H, VR ⟨K, Z⟩ ρ H v u) :
    ∀ (k : Nat) (x : Str) (fi n : Nat), G.fns.lookup x = some (fi, n) → ∃ f fd ps, FnOk P w K mg base (L2.CX P w) k f fd ps (spF ⟨K, Z⟩ clsV (run fs glob fuel k fi) n) ∧ mg x = some (.ref f) ∧ PySem.W.keepIn K (.ref f) = true ∧ Binds K fd ps []
  | 0, x, fi, n, h => by
    obtain ⟨D, hm, hx, hf, hn⟩ := hG x fi n h
    obtain ⟨f, fd, F, hmg⟩ := hF D hm
    refine ⟨f, fd, D.ps, ⟨fun vs H Q E h => ?_, fun A outer s H args us vs Q E _ _ _ _ h => ?_⟩, hx ▸ hmg, F.kp, F.bindsN (hD D hm).bd⟩
    · obtain ⟨as, M, ρ, _, _, _, p⟩ := h
      exact p.elim
    · obtain ⟨as, M, ρ, _, _, _, p⟩ := h
      exact p.elim
  | k + 1, x, fi, n, h => by
    obtain ⟨D, hm, hx, hf, hn⟩ := hG x fi n h
    obtain ⟨f, fd, F, hmg⟩ := hF D hm
    subst hn
    exact ⟨f, fd, D.ps, df_ok F (hD D hm) hf free (fns_ok hD hF hG free cn k) cn, hx ▸ hmg, F.kp, F.bindsN (hD D hm).bd⟩
end
theorem vrs_ints {K : Kx} {ρ : List Addr} {H : Hp} : ∀ ns : List Int, VRs K ρ H (ns.map PV.int) (ns.map V.int)
  | [] => vrs_nil
  | n :: ns => vrs_cons vr_int (vrs_ints ns)
/-- the law's promise, from what its plain form comes to -/
def spLaw (K : PySem.W.Frag) : Sp := fun vs H Q _ => ∃ (a : Addr) (ns : List Int), vs = [.ref a] ∧ ns.length ≤ 63 ∧ Only H ∧ SqL K H a (ns.map V.int) ∧ ∀ H', Q (.bl true) H'
theorem law_imp {P : Program} {w : World} {K : PySem.W.Frag} {mg : Str → Option Value} {base : Heap} {Z : Zx} {clsV : Nat → Value} {k : Nat} {f : Addr} {fd : FuncData} {ps : List Str} {r : List PV → Mem → Res PV}
    (F : FnOk P w K mg base (L2.CX P w) k f fd ps (spF ⟨K, Z⟩ clsV r 1)) (h : ∀ ns : List Int, ns.length ≤ 63 → ∃ M, r [scriptV ns] [] = .ok (.bl true) M) : FnOk P w K mg base (L2.CX P w) k f fd ps (spLaw K) := by
  refine F.imp fun vs H Q E hs => ?_
  obtain ⟨a, ns, rfl, hl, ho, hq, q⟩ := hs
  obtain ⟨M, hr⟩ := h ns hl
  have hL : LR ⟨K, Z⟩ H a (ns.map V.int) := by
    rcases hq with (z | ⟨o, z⟩) | z
    · rcases ho a with y | ⟨o, xs, y⟩
      · rw [y] at z; cases z
      · rw [y] at z; cases z
    · exact .inl ⟨o, z⟩
    · exact .inr fun H' => .inr z
  refine ⟨[scriptV ns], [], [], rfl, ⟨rfl, List.nodup_nil, fun n c a e => by simp at e⟩, vrs_cons (vr_rol hL (vrs_ints ns)) vrs_nil, ?_⟩
  rw [hr]
  exact fun ρ' H' f m u ru => by
    cases ru.bl_
    exact q H'
end HP

set_option Elab.async false
set_option linter.all false
set_option autoImplicit false
set_option maxRecDepth 100000
set_option maxHeartbeats 8000000
/-! What the top leaves, read by one look; the law's end. -/
namespace HP
open PySem L2

/-! ### the module's constants -/
mutual
/-- a plain value, as the written part has it -/
def pvB (K : PySem.W.Frag) : PV → Value → Bool
  | .non, u => (match u with | .none => true | _ => false)
  | .bl b, u => (match u with | .bool c => b == c | _ => false)
  | .int i, u => (match u with | .int j _ => decide (i = j) | _ => false)
  | .str s, u => (match u with | .str y _ => decide (y.cps.toList = s) && vstr s | _ => false)
  | .tup vs, u => (match u with
    | .ref a => (match K.lookup a with
      | some ⟨.type c, _, .seq its _, _⟩ => decide (c = "tuple") && decide (its.size ≤ sizeLine) && pvsB K vs its.toList
      | _ => false)
    | _ => false)
  | .rol _, _ => false
  | .ref _, _ => false
  | .obj _ _, _ => false
  | .ty _, _ => false
def pvsB (K : PySem.W.Frag) : List PV → List Value → Bool
  | [], us => us.isEmpty
  | v :: vs, us => (match us with
    | [] => false
    | u :: ur => pvB K v u && pvsB K vs ur)
end
mutual
theorem pvB_ok {K : PySem.W.Frag} {Z : Zx} : ∀ (v : PV) (uv : Value), pvB K v uv = true → ∃ u, RelV u uv ∧ ∀ ρ H, VR ⟨K, Z⟩ ρ H v u
  | .non, uv, h => by
    simp only [pvB] at h
    split at h
    · exact ⟨.non, rfl, fun _ _ => vr_non⟩
    · cases h
  | .bl b, uv, h => by
    simp only [pvB] at h
    split at h
    · have e := eq_of_beq h
      subst e
      exact ⟨.bl b, rfl, fun _ _ => vr_bl⟩
    · cases h
  | .int i, uv, h => by
    simp only [pvB] at h
    split at h
    · have e := of_decide_eq_true h
      subst e
      exact ⟨.int i, ⟨_, rfl⟩, fun _ _ => vr_int⟩
    · cases h
  | .str s, uv, h => by
    simp only [pvB] at h
    split at h
    · rename_i y _
      obtain ⟨h, hv⟩ := and_inv h
      have e := of_decide_eq_true h
      exact ⟨.str y, ⟨_, rfl⟩, fun _ _ => vr_str e hv⟩
    · cases h
  | .tup vs, uv, h => by
    simp only [pvB] at h
    split at h
    · rename_i a
      split at h
      · rename_i c od its n sl hk
        simp only [Bool.and_eq_true, decide_eq_true_eq] at h
        obtain ⟨⟨h1, h2⟩, h3⟩ := h
        subst h1
        obtain ⟨us, r, q⟩ := pvsB_ok (Z := Z) vs its.toList h3
        refine ⟨.ref a, rfl, fun ρ H => vr_tup (.inr (.inr fun H' => .inr ⟨_, its, n, hk, rfl, rfl, h2, r⟩)) (q ρ H)⟩
      · cases h
    · cases h
  | .rol _, uv, h => by simp only [pvB] at h; cases h
  | .ref _, uv, h => by simp only [pvB] at h; cases h
  | .obj _ _, uv, h => by simp only [pvB] at h; cases h
  | .ty _, uv, h => by simp only [pvB] at h; cases h
theorem pvsB_ok {K : PySem.W.Frag} {Z : Zx} : ∀ (vs : List PV) (uvs : List Value), pvsB K vs uvs = true → ∃ us, Vals us uvs ∧ ∀ ρ H, VRs ⟨K, Z⟩ ρ H vs us
  | [], uvs, h => by
    simp only [pvsB] at h
    have e := List.isEmpty_iff.mp h
    subst e
    exact ⟨[], .nil, fun _ _ => vrs_nil⟩
  | v :: vs, uvs, h => by
    simp only [pvsB] at h
    split at h
    · cases h
    · rename_i u ur
      obtain ⟨h1, h2⟩ := and_inv h
      obtain ⟨w, r, q⟩ := pvB_ok (Z := Z) v u h1
      obtain ⟨ws, rs, qs⟩ := pvsB_ok (Z := Z) vs ur h2
      exact ⟨w :: ws, .cons r rs, fun ρ H => vrs_cons (q ρ H) (qs ρ H)⟩
end
def conB (K : PySem.W.Frag) (c : Str × PV) : Bool := match PySem.W.nsIn K mainGlobals c.1 with
  | some (some u) => pvB K c.2 u
  | _ => false
theorem conB_ok {K : PySem.W.Frag} {Z : Zx} {h : Heap} {mg : Str → Option Value} (X : K.In h) (G : h.Ns mainGlobals mg) {c : Str × PV} (b : conB K c = true) : ∃ u uv, mg c.1 = some uv ∧ RelV u uv ∧ ∀ ρ H, VR ⟨K, Z⟩ ρ H c.2 u := by
  unfold conB at b
  split at b
  · rename_i u e
    obtain ⟨w, r, q⟩ := pvB_ok (Z := Z) c.2 u b
    exact ⟨w, u, PySem.W.mg_of X G e, r, q⟩
  · cases b

/-! ### the text's table -/
def localsOf (ps : List Str) (sc : Scope) : List Str := sc.names.filterMap fun y => match y.2 with
  | .local => if ps.contains y.1 then none else some y.1
  | .cell => if ps.contains y.1 then none else some y.1
  | _ => none
/-- a def of the top -/
def mkDf (x : Str) (st : Stmt) (fn : Fn) : Df :=
  let ps := (defArgs st).args.map (·.arg)
  { x := x, d := { at_ := (x, none), name := x, qual := x, params := defArgs st, body := defBody st, scope := defScope st }, N := ps ++ localsOf ps (defScope st), ps := ps, fn := fn }
def mkG (DS : List Df) (CS : List (Str × PV)) (FR : List Str) : Gt :=
  { fns := DS.zipIdx.map fun p => (p.1.x, p.2, p.1.ps.length), cns := CS.zipIdx.map fun p => (p.1.1, p.2), free := FR }
def globOf (CS : List (Str × PV)) (i : Nat) : Option PV := CS[i]?.map (·.2)
theorem globOf_glv {CS : List (Str × PV)} {vs : List PV} (h : CS.map (·.2) = vs) : glv vs = globOf CS := by
  subst h
  funext i
  unfold glv globOf
  rw [List.getElem?_map]
theorem lookup_mem {α β : Type} [BEq α] [LawfulBEq α] : ∀ {l : List (α × β)} {a : α} {b : β}, l.lookup a = some b → (a, b) ∈ l
  | [], a, b, h => by cases h
  | (c, d) :: r, a, b, h => by
    rw [List.lookup_cons] at h
    split at h
    · rename_i e
      cases h
      rw [eq_of_beq e]
      exact List.mem_cons_self
    · exact List.mem_cons_of_mem _ (lookup_mem h)
theorem mkG_fns {DS : List Df} {CS : List (Str × PV)} {FR : List Str} {x : Str} {fi n : Nat} (h : (mkG DS CS FR).fns.lookup x = some (fi, n)) : ∃ D ∈ DS, D.x = x ∧ (DS.map (·.fn))[fi]? = some D.fn ∧ n = D.ps.length := by
  have hm := lookup_mem h
  obtain ⟨⟨D, i⟩, hD, e⟩ := List.mem_map.mp hm
  simp only [Prod.mk.injEq] at e
  obtain ⟨e1, e2, e3⟩ := e
  subst e2
  have hi := List.mem_zipIdx_iff_getElem?.mp hD
  refine ⟨D, List.mem_of_getElem? hi, e1, ?_, e3.symm⟩
  rw [List.getElem?_map, hi]
  rfl
theorem mkG_cns {DS : List Df} {CS : List (Str × PV)} {FR : List Str} {x : Str} {g : Nat} (h : (mkG DS CS FR).cns.lookup x = some g) : ∃ v, (x, v) ∈ CS ∧ globOf CS g = some v := by
  have hm := lookup_mem h
  obtain ⟨⟨c, i⟩, hD, e⟩ := List.mem_map.mp hm
  simp only [Prod.mk.injEq] at e
  obtain ⟨e1, e2⟩ := e
  subst e1 e2
  have hi := List.mem_zipIdx_iff_getElem?.mp hD
  refine ⟨c.2, List.mem_of_getElem? hi, ?_⟩
  unfold globOf
  rw [hi]
  rfl

/-! ### the look -/
def hookP (n : Nat) (fa : List He.Fa) (fn : List He.DefD) (cs : List (Str × PV)) : PySem.W.Hook where
  α := He.AlD × Bool
  obs := fun s => (He.obsDG n fa fn s.heap.get?, cs.all fun c => conB (He.frG s.heap.get? (He.asD s.heap.get? n)) c)
  val := fun _ => (He.valD fn, true)
  says := fun _ h => ∃ K : PySem.W.Frag, K.In h ∧ He.SaysD fa fn K ∧ cs.all (fun c => conB K c) = true
  of := fun _ _ e => ⟨_, He.frG_in, congrArg Prod.fst e, congrArg Prod.snd e⟩
  keeps := fun _ _ _ ⟨K, hK, c⟩ k => ⟨K, PySem.W.Frag.In.keeps hK k, c⟩
def obP (n : Nat) (fa : List He.Fa) (fn : List He.DefD) (cs : List (Str × PV)) (s : PySem.W.SharedT) : He.AlD × Bool := (He.obsDG n fa fn (HandSHeadRun.getT s), cs.all fun c => conB (He.frG (HandSHeadRun.getT s) (He.asD (HandSHeadRun.getT s) n)) c)
theorem obP_eq {n : Nat} {fa : List He.Fa} {fn : List He.DefD} {cs : List (Str × PV)} (s : PySem.W.SharedT) : obP n fa fn cs s = (hookP n fa fn cs).obs s.abs := by
  have e : HandSHeadRun.getT s = s.abs.heap.get? := funext (HandSHeadRun.getT_eq s)
  show (He.obsDG n fa fn (HandSHeadRun.getT s), _) = (He.obsDG n fa fn s.abs.heap.get?, _)
  rw [e]

/-- no exception leaves a def whose promise does not speak of them -/
theorem FnOk.cx0 {P : Program} {w : World} {K : PySem.W.Frag} {mg : Str → Option Value} {base : Heap} {k : Nat} {f : Addr} {fd : FuncData} {ps : List Str} {sp : Sp} (F : FnOk P w K mg base (L2.CX P w) k f fd ps sp) (h : ∀ vs H Q E E', sp vs H Q E → sp vs H Q E') : FnOk P w K mg base CX0 k f fd ps sp := by
  refine ⟨F.len, fun A outer s H args us vs Q E hr e0 hb r hs => ?_⟩
  refine codeAny_mono (F.run A outer s H args us vs Q E0 hr e0 hb r (h _ _ _ _ _ hs)) fun r s' q => ?_
  cases r with
  | error e =>
    obtain ⟨_, _, _, _, _, _, _, _, _, _, _, _, z⟩ := (show L2.CX P w outer H s E0 e s' from q)
    exact z.elim
  | ok fl =>
    cases fl with
    | ret u => exact q
    | next => exact False.elim q
    | brk => exact False.elim q
    | cont => exact False.elim q

/-- the law's end: the facts of the head, the readings, what the plain form comes to -/
theorem law_end {P : Program} {w : World} {K : PySem.W.Frag} {h : Heap} {mg : Str → Option Value} {fa : Addr} {Z : Zx} {DS : List Df} {CS : List (Str × PV)} {FR : List Str} {k fuel li : Nat} {L : Df}
    (hDS : ∀ D ∈ DS, DfOk (mkG DS CS FR) D) (hL : DS[li]? = some L) (hps : L.ps = [("script" : Str)]) (hat : ∀ D ∈ DS, D.d.at_ = (D.x, none))
    (plain : ∀ ns : List Int, ns.length ≤ 63 → ∃ M, run (DS.map (·.fn)) (globOf CS) fuel (k + 1) li [scriptV ns] [] = .ok (.bl true) M)
    (X : K.In h) (G : h.Ns mainGlobals mg) (hfa : mg L.x = some (.ref fa)) (c : He.SaysD (FR.map He.Fa.free ++ DS.map fun D => He.Fa.glo D.x) (DS.map (·.d)) K) (cc : CS.all (fun c => conB K c) = true) :
    ∃ fd : FuncData, (∀ (s : Shared) (v : Value), BindsTo s fd ⟨[v], []⟩ [("script", v)]) ∧ ∀ base : Heap, K.In base → base.Ns mainGlobals mg → FnOk P w K mg base CX0 (k + 1) fa fd ["script"] (spLaw K) := by
  have c1 := (He.ba (show (((FR.map He.Fa.free ++ DS.map fun D => He.Fa.glo D.x).all fun f => f.ok K) && (DS.map (·.d)).all fun d => d.ok K) = true from congrArg (fun z : He.AlD => z.1) c)).1
  have free : ∀ x, (mkG DS CS FR).free.contains x = true → mg x = none := fun x hx => by
    have hm : x ∈ FR := by simpa [mkG] using hx
    exact He.free_ok X G (List.all_eq_true.mp c1 _ (List.mem_append_left _ (List.mem_map_of_mem hm)))
  have glo : ∀ D ∈ DS, mg D.x = some (.ref (He.ga K D.x)) := fun D hm =>
    He.glo_ok X G (List.all_eq_true.mp c1 _ (List.mem_append_right _ (List.mem_map_of_mem (f := fun D => He.Fa.glo D.x) hm)))
  have hF : ∀ D ∈ DS, ∃ f fd, FunD K D.d.name D.d.qual D.d.params D.d.body D.d.scope [] [] f fd ∧ mg D.x = some (.ref f) := fun D hm => by
    obtain ⟨i, hi⟩ := List.mem_iff_getElem?.mp hm
    obtain ⟨fd, F⟩ := c.def_ i (d := D.d) (by rw [List.getElem?_map, hi]; rfl)
    have o := hDS D hm
    unfold He.DefD.dvs He.DefD.kws at F
    rw [o.nd, o.nk] at F
    refine ⟨_, fd, F, ?_⟩
    rw [hat D hm]
    exact glo D hm
  have cn : ∀ x g, (mkG DS CS FR).cns.lookup x = some g → ∃ v u uv, globOf CS g = some v ∧ mg x = some uv ∧ RelV u uv ∧ ∀ ρ H, VR ⟨K, Z⟩ ρ H v u := fun x g hx => by
    obtain ⟨v, hm, hv⟩ := mkG_cns hx
    obtain ⟨u, uv, q1, q2, q3⟩ := conB_ok (Z := Z) X G (List.all_eq_true.mp cc _ hm)
    exact ⟨v, u, uv, hv, q1, q2, q3⟩
  obtain ⟨f, fd, F, hmg⟩ := hF L (List.mem_of_getElem? hL)
  have hf : f = fa := by
    rw [hfa] at hmg
    cases hmg
    rfl
  subst hf
  refine ⟨fd, fun s v => ?_, fun base KX hB => ?_⟩
  · have b := F.bindsA (hDS L (List.mem_of_getElem? hL)).bd s [v] (by rw [hps]; rfl)
    rw [hps] at b
    exact b
  · have all := fns_ok (P := P) (w := w) (K := K) (mg := mg) (base := base) (Z := Z) (fs := DS.map (·.fn)) (glob := globOf CS) (fuel := fuel) (clsV := fun _ => Value.none) hDS hF (fun x fi n hx => mkG_fns hx) free cn
    have F' := df_ok F (hDS L (List.mem_of_getElem? hL)) (fs := DS.map (·.fn)) (fi := li) (by rw [List.getElem?_map, hL]; rfl) free (all k) cn
    rw [hps] at F'
    exact FnOk.cx0 (law_imp F' plain) fun vs H Q E E' h => h
end HP

set_option Elab.async false
set_option linter.all false
set_option autoImplicit false
set_option maxRecDepth 100000
set_option maxHeartbeats 4000000
/-! Rows for plain proofs: what each operation comes to on values that are known. -/
namespace HP
section
variable {M : Mem} {i j : Int} {x y s : List Nat} {xs ys : List PV} {b c : Bool} {v w : PV} {n m : Nat}
@[simp] theorem op2_add_i : op2 .add (.int i) (.int j) M = .ok (.int (i + j)) M := rfl
@[simp] theorem op2_add_s : op2 .add (.str x) (.str y) M = if x.length + y.length ≤ lim then .ok (.str (x ++ y)) M else .fail := rfl
@[simp] theorem op2_add_t : op2 .add (.tup xs) (.tup ys) M = if xs.length + ys.length ≤ lim then .ok (.tup (xs ++ ys)) M else .fail := rfl
@[simp] theorem op2_sub_i : op2 .sub (.int i) (.int j) M = .ok (.int (i - j)) M := rfl
@[simp] theorem op2_mul_i : op2 .mul (.int i) (.int j) M = if small i || small j then .ok (.int (i * j)) M else .fail := rfl
@[simp] theorem op2_fdiv_i : op2 .fdiv (.int i) (.int j) M = if 0 < j ∧ j < 2 ^ 64 then .ok (.int (i / j)) M else .fail := rfl
@[simp] theorem op2_mod_i : op2 .mod (.int i) (.int j) M = if 0 < j then .ok (.int (i % j)) M else .fail := rfl
@[simp] theorem op2_pow_i : op2 .pow (.int i) (.int j) M = if 0 ≤ j ∧ j ≤ 1000000 ∧ i.natAbs < 2 ^ 64 then .ok (.int (i ^ j.toNat)) M else .fail := rfl
@[simp] theorem op2_lt_i : op2 .lt (.int i) (.int j) M = .ok (.bl (decide (i < j))) M := rfl
@[simp] theorem op2_le_i : op2 .le (.int i) (.int j) M = .ok (.bl (decide (i ≤ j))) M := rfl
@[simp] theorem op2_gt_i : op2 .gt (.int i) (.int j) M = .ok (.bl (decide (j < i))) M := rfl
@[simp] theorem op2_ge_i : op2 .ge (.int i) (.int j) M = .ok (.bl (decide (j ≤ i))) M := rfl
@[simp] theorem op2_lt_s : op2 .lt (.str x) (.str y) M = .ok (.bl (ltL x y)) M := rfl
@[simp] theorem op2_le_s : op2 .le (.str x) (.str y) M = .ok (.bl (!ltL y x)) M := rfl
@[simp] theorem op2_gt_s : op2 .gt (.str x) (.str y) M = .ok (.bl (ltL y x)) M := rfl
@[simp] theorem op2_ge_s : op2 .ge (.str x) (.str y) M = .ok (.bl (!ltL x y)) M := rfl
def eqRes (r : Option Bool) (M : Mem) : Res PV := match r with | some r => .ok (.bl r) M | none => .fail
def neRes (r : Option Bool) (M : Mem) : Res PV := match r with | some r => .ok (.bl (!r)) M | none => .fail
@[simp] theorem eqRes_some : eqRes (some b) M = .ok (.bl b) M := rfl
@[simp] theorem neRes_some : neRes (some b) M = .ok (.bl (!b)) M := rfl
@[simp] theorem op2_eq : op2 .eq v w M = eqRes (eqPV M v w) M := rfl
@[simp] theorem op2_ne : op2 .ne v w M = neRes (eqPV M v w) M := rfl
@[simp] theorem eqPV_ii : eqPV M (.int i) (.int j) = some (decide (i = j)) := rfl
@[simp] theorem eqPV_bb : eqPV M (.bl b) (.bl c) = some (b == c) := rfl
@[simp] theorem eqPV_ss : eqPV M (.str x) (.str y) = some (decide (x = y)) := by
  show some (x == y) = _
  rw [Option.some.injEq, Bool.eq_iff_iff]
  simp
@[simp] theorem eqPV_nn : eqPV M .non .non = some true := rfl
@[simp] theorem eqPV_ni : eqPV M .non (.int i) = some false := rfl
@[simp] theorem eqPV_in : eqPV M (.int i) .non = some false := rfl
@[simp] theorem eqPV_nb : eqPV M .non (.bl b) = some false := rfl
@[simp] theorem eqPV_bn : eqPV M (.bl b) .non = some false := rfl
@[simp] theorem eqPV_ns : eqPV M .non (.str s) = some false := rfl
@[simp] theorem eqPV_sn : eqPV M (.str s) .non = some false := rfl
@[simp] theorem eqPV_is : eqPV M (.int i) (.str s) = some false := rfl
@[simp] theorem eqPV_si : eqPV M (.str s) (.int i) = some false := rfl
@[simp] theorem eqPV_bs : eqPV M (.bl b) (.str s) = some false := rfl
@[simp] theorem eqPV_sb : eqPV M (.str s) (.bl b) = some false := rfl
@[simp] theorem eqPV_bi : eqPV M (.bl b) (.int i) = some (decide ((if b then 1 else 0 : Int) = i)) := rfl
@[simp] theorem eqPV_ib : eqPV M (.int i) (.bl b) = some (decide (i = (if b then 1 else 0 : Int))) := rfl
/-- == where one side is a scalar, by the data -/
theorem eqPV_data (h : eqS v w = none) {d e : PD} (h1 : toD M 60 v = some d) (h2 : toD M 60 w = some e) : eqPV M v w = some (eqD d e) := by
  unfold eqPV
  rw [h, h1, h2]
def isN : PV → Bool | .non => true | _ => false
@[simp] theorem op2_is : op2 .is v .non M = .ok (.bl (isN v)) M := by cases v <;> rfl
@[simp] theorem op2_isnot : op2 .isnot v .non M = .ok (.bl (!isN v)) M := by cases v <;> rfl
@[simp] theorem isN_non : isN .non = true := rfl
@[simp] theorem isN_bl : isN (.bl b) = false := rfl
@[simp] theorem isN_int : isN (.int i) = false := rfl
@[simp] theorem isN_str : isN (.str x) = false := rfl
@[simp] theorem isN_tup : isN (.tup xs) = false := rfl
@[simp] theorem isN_rol : isN (.rol xs) = false := rfl
@[simp] theorem isN_ref : isN (.ref n) = false := rfl
/-- what an optional value comes to -/
def opRes (r : Option PV) (M : Mem) : Res PV := match r with | some v => .ok v M | none => .fail
@[simp] theorem opRes_some : opRes (some v) M = .ok v M := rfl
@[simp] theorem op2_idx_t : op2 .idx (.tup xs) (.int i) M = opRes (getI xs i) M := rfl
@[simp] theorem op2_idx_r : op2 .idx (.rol xs) (.int i) M = opRes (getI xs i) M := rfl
theorem op2_idx_l (h : M[n]? = some (.lst xs)) : op2 .idx (.ref n) (.int i) M = opRes (getI xs i) M := by
  show (match M[n]? with | some (Cell.lst xs) => _ | _ => _) = _
  rw [h]
  rfl
theorem getI_nat (xs : List PV) (k : Nat) : getI xs (k : Int) = xs[k]? := by
  unfold getI ixP
  rw [if_pos (Int.natCast_nonneg k)]
  by_cases h : k < xs.length
  · rw [if_pos (by omega)]
    simp
  · rw [if_neg (by omega)]
    exact (List.getElem?_eq_none (by omega)).symm
theorem getI_int {xs : List PV} {i : Int} (h : 0 ≤ i) : getI xs i = xs[i.toNat]? := by
  have := getI_nat xs i.toNat
  rwa [Int.toNat_of_nonneg h] at this
@[simp] theorem getI_0 : getI (v :: xs) 0 = some v := getI_nat (v :: xs) 0
@[simp] theorem getI_0n : getI [] 0 = none := getI_nat [] 0
@[simp] theorem getI_1 : getI xs 1 = xs[1]? := getI_nat xs 1
@[simp] theorem getI_2 : getI xs 2 = xs[2]? := getI_nat xs 2
@[simp] theorem getI_3 : getI xs 3 = xs[3]? := getI_nat xs 3
@[simp] theorem getI_4 : getI xs 4 = xs[4]? := getI_nat xs 4
@[simp] theorem getI_5 : getI xs 5 = xs[5]? := getI_nat xs 5
@[simp] theorem getI_6 : getI xs 6 = xs[6]? := getI_nat xs 6
@[simp] theorem getI_7 : getI xs 7 = xs[7]? := getI_nat xs 7
@[simp] theorem op1_neg : op1 .neg (.int i) M = .ok (.int (-i)) M := rfl
@[simp] theorem kd_non : kd .non M = some .non := rfl
@[simp] theorem kd_bl : kd (.bl b) M = some .bl := rfl
@[simp] theorem kd_int : kd (.int i) M = some .int := rfl
@[simp] theorem kd_str : kd (.str s) M = some .str := rfl
@[simp] theorem kd_tup : kd (.tup xs) M = some .tup := rfl
@[simp] theorem kd_rol : kd (.rol xs) M = some .lst := rfl
theorem kd_lst (h : M[n]? = some (.lst xs)) : kd (.ref n) M = some .lst := by
  show (match M[n]? with | some (Cell.lst xs) => some Kd.lst | _ => none) = _
  rw [h]
def isiRes (r : Option Kd) (T : Ty) (M : Mem) : Res PV := match r with | some k => (match isK k T with | some b => .ok (.bl b) M | none => .fail) | none => .fail
@[simp] theorem opn_isi {T : Ty} : opn .isi [v, .ty T] M = isiRes (kd v M) T M := by
  show (match isi v M T with | some b => _ | none => _) = _
  unfold isi isiRes
  cases kd v M <;> rfl
@[simp] theorem isiRes_int {k : Kd} : isiRes (some k) .int M = .ok (.bl (k = Kd.int || k = Kd.bl)) M := by cases k <;> rfl
@[simp] theorem isiRes_bool {k : Kd} : isiRes (some k) .bool M = .ok (.bl (k = Kd.bl)) M := by cases k <;> rfl
@[simp] theorem isiRes_str {k : Kd} : isiRes (some k) .str M = .ok (.bl (k = Kd.str)) M := by cases k <;> rfl
@[simp] theorem isiRes_tuple {k : Kd} : isiRes (some k) .tuple M = .ok (.bl (k = Kd.tup)) M := by cases k <;> rfl
@[simp] theorem isiRes_list {k : Kd} : isiRes (some k) .list M = .ok (.bl (k = Kd.lst)) M := by cases k <;> rfl
@[simp] theorem opn_len_t : opn .len [.tup xs] M = .ok (.int xs.length) M := rfl
@[simp] theorem opn_len_r : opn .len [.rol xs] M = .ok (.int xs.length) M := rfl
@[simp] theorem opn_len_s : opn .len [.str s] M = if s.length ≤ lim then .ok (.int s.length) M else .fail := rfl
theorem opn_len_l (h : M[n]? = some (.lst xs)) : opn .len [.ref n] M = .ok (.int xs.length) M := by
  show (match M[n]? with | some (Cell.lst xs) => Res.ok (PV.int xs.length) M | _ => _) = _
  rw [h]
@[simp] theorem opn_abs : opn .abs [.int i] M = .ok (.int (if i < 0 then -i else i)) M := rfl
@[simp] theorem opn_int_i : opn .int [.int i] M = .ok (.int i) M := rfl
@[simp] theorem opn_int_b : opn .int [.bl b] M = .ok (.int (if b then 1 else 0)) M := rfl
@[simp] theorem opn_list_t : opn .list [.tup xs] M = .ok (.ref M.length) (M ++ [.lst xs]) := rfl
@[simp] theorem opn_list_r : opn .list [.rol xs] M = .ok (.ref M.length) (M ++ [.lst xs]) := rfl
theorem opn_list_l (h : M[n]? = some (.lst xs)) : opn .list [.ref n] M = .ok (.ref M.length) (M ++ [.lst xs]) := by
  show (match M[n]? with | some (Cell.lst xs) => Res.ok (PV.ref M.length) (M ++ [Cell.lst xs]) | _ => _) = _
  rw [h]
@[simp] theorem opn_tuple_t : opn .tuple [.tup xs] M = .ok (.tup xs) M := rfl
@[simp] theorem opn_tuple_r : opn .tuple [.rol xs] M = .ok (.tup xs) M := rfl
theorem opn_tuple_l (h : M[n]? = some (.lst xs)) : opn .tuple [.ref n] M = .ok (.tup xs) M := by
  show (match M[n]? with | some (Cell.lst xs) => Res.ok (PV.tup xs) M | _ => _) = _
  rw [h]
theorem opn_append_l (h : M[n]? = some (.lst xs)) : opn .append [.ref n, v] M = if xs.length < lim then .ok .non (M.set n (.lst (xs ++ [v]))) else .fail := by
  show (match M[n]? with | some (Cell.lst xs) => _ | _ => _) = _
  rw [h]
theorem tyM_list (h : M[n]? = some (.lst xs)) : tyM .list (.ref n) M = true := by
  show (match M[n]? with | some (Cell.lst xs) => true | _ => _) = _
  rw [h]
@[simp] theorem tru_non : tru .non M = some false := rfl
@[simp] theorem tru_bl : tru (.bl b) M = some b := rfl
@[simp] theorem tru_int : tru (.int i) M = some (decide (i ≠ 0)) := by
  show some (i != 0) = _
  rw [Option.some.injEq, Bool.eq_iff_iff]
  simp
@[simp] theorem tru_str : tru (.str s) M = if s.length ≤ lim then some (!s.isEmpty) else none := rfl
@[simp] theorem tru_tup : tru (.tup xs) M = some (!xs.isEmpty) := rfl
@[simp] theorem tru_rol : tru (.rol xs) M = some (!xs.isEmpty) := rfl
@[simp] theorem iop_add_i : iop .add (.int i) (.int j) M = .ok (.int (i + j)) M := rfl
@[simp] theorem iop_sub_i : iop .sub (.int i) (.int j) M = .ok (.int (i - j)) M := rfl
@[simp] theorem iop_add_s : iop .add (.str x) (.str y) M = if x.length + y.length ≤ lim then .ok (.str (x ++ y)) M else .fail := rfl
theorem setL_l (h : M[n]? = some (.lst xs)) {k : Nat} (hk : k < xs.length) : setL (.ref n) (.int k) v M = some (M.set n (.lst (xs.set k v))) := by
  unfold setL ixP
  simp only [h]
  rw [if_pos (Int.natCast_nonneg k), if_pos (by omega)]
  simp
@[simp] theorem bind_ite {α β : Type} {p : Prop} [Decidable p] {a b : Res α} {f : α → Mem → Res β} : Res.bind (if p then a else b) f = if p then a.bind f else b.bind f := by split <;> rfl
@[simp] theorem thn_ite {α : Type} {p : Prop} [Decidable p] {a b : Res α} {env : Env} {f : α → Mem → Ctl} : Res.thn (if p then a else b) env f = if p then a.thn env f else b.thn env f := by split <;> rfl
@[simp] theorem seq_ite {p : Prop} [Decidable p] {a b : Ctl} {f : Env → Mem → Ctl} : Ctl.seq (if p then a else b) f = if p then a.seq f else b.seq f := by split <;> rfl
@[simp] theorem out_ite {p : Prop} [Decidable p] {a b : Ctl} : Ctl.out (if p then a else b) = if p then a.out else b.out := by split <;> rfl
@[simp] theorem turn_ite {p : Prop} [Decidable p] {a b : Ctl} {f g : Env → Mem → Ctl} : Ctl.turn (if p then a else b) f g = if p then a.turn f g else b.turn f g := by split <;> rfl
end
section
variable {env : Env} {M : Mem} {v : PV} {c : Nat} {f g : Env → Mem → Ctl}
@[simp] theorem seq_nxt : Ctl.seq (.nxt env M) f = f env M := rfl
@[simp] theorem seq_ret : Ctl.seq (.ret v M) f = .ret v M := rfl
@[simp] theorem seq_brk : Ctl.seq (.brk env M) f = .brk env M := rfl
@[simp] theorem seq_cnt : Ctl.seq (.cnt env M) f = .cnt env M := rfl
@[simp] theorem seq_exc : Ctl.seq (.exc c env M) f = .exc c env M := rfl
@[simp] theorem seq_fail : Ctl.seq .fail f = .fail := rfl
@[simp] theorem turn_nxt : Ctl.turn (.nxt env M) f g = f env M := rfl
@[simp] theorem turn_ret : Ctl.turn (.ret v M) f g = .ret v M := rfl
@[simp] theorem turn_brk : Ctl.turn (.brk env M) f g = g env M := rfl
@[simp] theorem turn_cnt : Ctl.turn (.cnt env M) f g = f env M := rfl
@[simp] theorem turn_exc : Ctl.turn (.exc c env M) f g = .exc c env M := rfl
@[simp] theorem turn_fail : Ctl.turn .fail f g = .fail := rfl
@[simp] theorem out_nxt : Ctl.out (.nxt env M) = .ok .non M := rfl
@[simp] theorem out_ret : Ctl.out (.ret v M) = .ok v M := rfl
@[simp] theorem out_exc : Ctl.out (.exc c env M) = .exc c M := rfl
@[simp] theorem out_fail : Ctl.out .fail = .fail := rfl
end
section
variable {M : Mem} {k : Nat}
@[simp] theorem toD_non : toD M (k + 1) .non = some .non := rfl
@[simp] theorem toD_bl {b : Bool} : toD M (k + 1) (.bl b) = some (.bl b) := rfl
@[simp] theorem toD_int {i : Int} : toD M (k + 1) (.int i) = some (.int i) := rfl
@[simp] theorem toD_str {s : List Nat} : toD M (k + 1) (.str s) = some (.str s) := rfl
def tupO (r : Option (List PD)) : Option PD := match r with | some ds => some (.tup ds) | none => none
def lstO (r : Option (List PD)) : Option PD := match r with | some ds => some (.lst ds) | none => none
@[simp] theorem tupO_some {ds : List PD} : tupO (some ds) = some (.tup ds) := rfl
@[simp] theorem lstO_some {ds : List PD} : lstO (some ds) = some (.lst ds) := rfl
@[simp] theorem toD_tup {vs : List PV} : toD M (k + 1) (.tup vs) = tupO (allD (toD M k) vs) := rfl
@[simp] theorem toD_rol {vs : List PV} : toD M (k + 1) (.rol vs) = lstO (allD (toD M k) vs) := rfl
theorem toD_lst {n : Nat} {xs : List PV} (h : M[n]? = some (.lst xs)) : toD M (k + 1) (.ref n) = lstO (allD (toD M k) xs) := by
  unfold toD
  simp only [h]
  rfl
@[simp] theorem allD_nil {f : PV → Option PD} : allD f [] = some [] := rfl
theorem allD_cons {f : PV → Option PD} {x : PV} {xs : List PV} {d : PD} {ds : List PD} (h1 : f x = some d) (h2 : allD f xs = some ds) : allD f (x :: xs) = some (d :: ds) := by
  unfold allD
  rw [h1, h2]
end
/-- an item at a place that there is -/
theorem getI_mem {xs : List PV} {i : Int} (h0 : 0 ≤ i) (h1 : i < xs.length) : ∃ x, x ∈ xs ∧ getI xs i = some x := by
  rw [getI_int h0, List.getElem?_eq_getElem (by omega)]
  exact ⟨_, List.getElem_mem _, rfl⟩
theorem rangeL_get {lo : Int} {n j : Nat} {x : PV} (h : (rangeL lo n)[j]? = some x) : j < n ∧ x = .int (lo + j) := by
  unfold rangeL at h
  rw [List.getElem?_map] at h
  by_cases hj : j < n
  · rw [List.getElem?_eq_getElem (by simpa using hj)] at h
    simp at h
    exact ⟨hj, h.symm⟩
  · rw [List.getElem?_eq_none (by simpa using hj)] at h
    cases h
@[simp] theorem rangeL_len {lo : Int} {n : Nat} : (rangeL lo n).length = n := by simp [rangeL]
/-- a loop over items that runs to its end -/
theorem loopX_inv {g : Tg} {body : Env → Mem → Ctl} {P : Nat → Env → Mem → Prop} : ∀ (xs : List PV) (i : Nat) (env : Env) (M : Mem), P i env M →
    (∀ j x env M, xs[j]? = some x → P (i + j) env M → ∃ e1 env' M', bindT g x env = some e1 ∧ (body e1 M = .nxt env' M' ∨ body e1 M = .cnt env' M') ∧ P (i + j + 1) env' M') →
    ∃ env' M', loopX g body xs env M = .nxt env' M' ∧ P (i + xs.length) env' M'
  | [], i, env, M, h, _ => ⟨env, M, rfl, h⟩
  | x :: xs, i, env, M, h, hs => by
    obtain ⟨e1, env', M', h1, h2, h3⟩ := hs 0 x env M rfl h
    obtain ⟨env2, M2, q1, q2⟩ := loopX_inv (P := P) xs (i + 1) env' M' h3 fun j y e m hy hp => by
      have := hs (j + 1) y e m hy (by rw [show i + (j + 1) = i + 1 + j by omega]; exact hp)
      rwa [show i + (j + 1) + 1 = i + 1 + j + 1 by omega] at this
    refine ⟨env2, M2, ?_, by rw [List.length_cons, show i + (xs.length + 1) = i + 1 + xs.length by omega]; exact q2⟩
    unfold loopX
    rw [h1]
    simp only
    rcases h2 with h2 | h2 <;> rw [h2] <;> exact q1
theorem evSs_cons {w : Wd} {s : S} {ss : List S} {env : Env} {M : Mem} : evSs w (s :: ss) env M = (evS w s env M).seq fun env' M' => evSs w ss env' M' := by rw [evSs]
/-- for g in range(n) that runs to its end -/
theorem for_range {w : Wd} {g : Tg} {b : List S} {e : E} {n : Int} {env : Env} {M M1 : Mem} (P : Nat → Env → Mem → Prop) (he : evE w e env M = .ok (.int n) M1) (hn : -(2 ^ 62) ≤ n ∧ n < 2 ^ 62) (h0 : P 0 env M1)
    (hs : ∀ (j : Nat) env M, (j : Int) < n → P j env M → ∃ e1 env' M', bindT g (.int j) env = some e1 ∧ (evSs w b e1 M = .nxt env' M' ∨ evSs w b e1 M = .cnt env' M') ∧ P (j + 1) env' M') :
    ∃ env' M', evS w (.forr g (.range [e]) b) env M = .nxt env' M' ∧ P n.toNat env' M' := by
  obtain ⟨env', M', h1, h2⟩ := loopX_inv (g := g) (body := fun env M => evSs w b env M) (P := P) (rangeL 0 n.toNat) 0 env M1 h0 (by
    intro j x env M hx hp
    obtain ⟨hj, rfl⟩ := rangeL_get hx
    rw [Nat.zero_add] at hp ⊢
    rw [Int.zero_add]
    exact hs j env M (by omega) hp)
  refine ⟨env', M', ?_, by simpa using h2⟩
  simp only [evS, evI, evEs, he, Res.bind_ok, if_pos hn, Res.thn_ok]
  exact h1
@[simp] theorem glv_0 {v : PV} {vs : List PV} : glv (v :: vs) 0 = some v := rfl
@[simp] theorem glv_s {v : PV} {vs : List PV} {n : Nat} : glv (v :: vs) (n + 1) = glv vs n := rfl
/-! the head first: what comes after stands as a name with its arguments -/
section
variable (w : Wd) (env : Env)
def kOp1 (o : O1) (x : PV) (M : Mem) : Res PV := op1 o x M
def kOp2b (o : O2) (x y : PV) (M : Mem) : Res PV := op2 o x y M
def kOp2 (o : O2) (b : E) (x : PV) (M : Mem) : Res PV := (evE w b env M).bind (kOp2b o x)
def notRes (r : Option Bool) (M : Mem) : Res PV := match r with | some b => .ok (.bl (!b)) M | none => .fail
def kNot (v : PV) (M : Mem) : Res PV := notRes (tru v M) M
def andRes (r : Option Bool) (b : E) (x : PV) (M : Mem) : Res PV := match r with | some c => if c then evE w b env M else .ok x M | none => .fail
def orRes (r : Option Bool) (b : E) (x : PV) (M : Mem) : Res PV := match r with | some c => if c then .ok x M else evE w b env M | none => .fail
def kAnd (b : E) (x : PV) (M : Mem) : Res PV := andRes w env (tru x M) b x M
def kOr (b : E) (x : PV) (M : Mem) : Res PV := orRes w env (tru x M) b x M
def chRes (p : O2) (y : PV) (c : E) (r : PV) (M : Mem) : Res PV := match r with | .bl k => if k then (evE w c env M).bind (kOp2b p y) else .ok (.bl false) M | _ => .fail
def kCh1 (o p : O2) (c : E) (x y : PV) (M : Mem) : Res PV := (op2 o x y M).bind (chRes w env p y c)
def kCh (o p : O2) (b c : E) (x : PV) (M : Mem) : Res PV := (evE w b env M).bind (kCh1 w env o p c x)
def kIfe (a b : E) (c : Bool) (M : Mem) : Res PV := if c then evE w a env M else evE w b env M
def kTup (vs : List PV) (M : Mem) : Res PV := if vs.length ≤ lim then .ok (.tup vs) M else .fail
def kLst (vs : List PV) (M : Mem) : Res PV := if vs.length ≤ lim then .ok (.ref M.length) (M ++ [.lst vs]) else .fail
def kMeth1 (o : On) (v : PV) (vs : List PV) (M : Mem) : Res PV := opn o (v :: vs) M
def kMeth (k : MT) (o : On) (es : List E) (v : PV) (M : Mem) : Res PV := if tyM k v M then (evEs w es env M).bind (kMeth1 o v) else .fail
def kEs1 (v : PV) (vs : List PV) (M : Mem) : Res (List PV) := .ok (v :: vs) M
def kEs (es : List E) (v : PV) (M : Mem) : Res (List PV) := (evEs w es env M).bind (kEs1 v)
def kT (v : PV) (M : Mem) : Res Bool := match tru v M with | some b => .ok b M | none => .fail
def kBl (r : PV) (M : Mem) : Res Bool := match r with | .bl k => .ok k M | _ => .fail
def kCmp1 (o : O2) (x y : PV) (M : Mem) : Res Bool := (op2 o x y M).bind kBl
def kCmp (o : O2) (b : E) (x : PV) (M : Mem) : Res Bool := (evE w b env M).bind (kCmp1 o x)
def kTCh2 (p : O2) (y : PV) (c : E) (r : PV) (M : Mem) : Res Bool := match r with | .bl k => if k then (evE w c env M).bind (kCmp1 p y) else .ok false M | _ => .fail
def kTCh1 (o p : O2) (c : E) (x y : PV) (M : Mem) : Res Bool := (op2 o x y M).bind (kTCh2 w env p y c)
def kTCh (o p : O2) (b c : E) (x : PV) (M : Mem) : Res Bool := (evE w b env M).bind (kTCh1 w env o p c x)
def kTAnd (b : T) (c : Bool) (M : Mem) : Res Bool := if c then evT w b env M else .ok false M
def kTOr (b : T) (c : Bool) (M : Mem) : Res Bool := if c then .ok true M else evT w b env M
def kTNot (c : Bool) (M : Mem) : Res Bool := .ok (!c) M
def nxtO (r : Option Env) (M : Mem) : Ctl := match r with | some env' => .nxt env' M | none => .fail
def kAsg (g : Tg) (v : PV) (M : Mem) : Ctl := nxtO (bindT g v env) M
def kPar1 (i j : Nat) (x y : PV) (M : Mem) : Ctl := .nxt ((env.set i (some x)).set j (some y)) M
def kPar (i j : Nat) (b : E) (x : PV) (M : Mem) : Ctl := (evE w b env M).thn env (kPar1 env i j x)
def kP32 (i j l : Nat) (x y z : PV) (M : Mem) : Ctl := .nxt (((env.set i (some x)).set j (some y)).set l (some z)) M
def kP31 (i j l : Nat) (c : E) (x y : PV) (M : Mem) : Ctl := (evE w c env M).thn env (kP32 env i j l x y)
def kP3 (i j l : Nat) (b c : E) (x : PV) (M : Mem) : Ctl := (evE w b env M).thn env (kP31 w env i j l c x)
def stO (r : Option Mem) : Ctl := match r with | some M => .nxt env M | none => .fail
def kSet2 (x v j : PV) (M : Mem) : Ctl := stO env (setL v j x M)
def kSet1 (i : E) (x v : PV) (M : Mem) : Ctl := (evE w i env M).thn env (kSet2 env x v)
def kSet (a i : E) (x : PV) (M : Mem) : Ctl := (evE w a env M).thn env (kSet1 w env i x)
def kAug1 (i : Nat) (z : PV) (M : Mem) : Ctl := .nxt (env.set i (some z)) M
def kAug (i : Nat) (o : O2) (x y : PV) (M : Mem) : Ctl := (iop o x y M).thn env (kAug1 env i)
def augO (r : Option (Option PV)) (i : Nat) (o : O2) (e : E) (M : Mem) : Ctl := match r with | some (some x) => (evE w e env M).thn env (kAug env i o x) | _ => .fail
def kAgI4 (n : Nat) (j z : PV) (M : Mem) : Ctl := stO env (setL (.ref n) j z M)
def kAgI3 (o : O2) (n : Nat) (j x y : PV) (M : Mem) : Ctl := (iop o x y M).thn env (kAgI4 env n j)
def kAgI2 (o : O2) (e : E) (n : Nat) (j x : PV) (M : Mem) : Ctl := (evE w e env M).thn env (kAgI3 env o n j x)
def kAgI1 (o : O2) (e : E) (v j : PV) (M : Mem) : Ctl := match v with | .ref n => (op2 .idx (.ref n) j M).thn env (kAgI2 w env o e n j) | _ => .fail
def kAgI (i : E) (o : O2) (e : E) (v : PV) (M : Mem) : Ctl := (evE w i env M).thn env (kAgI1 w env o e v)
def kExp (v : PV) (M : Mem) : Ctl := .nxt env M
def kRet (v : PV) (M : Mem) : Ctl := .ret v M
def kIf (a b : List S) (c : Bool) (M : Mem) : Ctl := if c then evSs w a env M else evSs w b env M
def kFor (g : Tg) (b : List S) (s : Src) (M : Mem) : Ctl := match s with
  | .mem n => loopM g (fun env M => evSs w b env M) n w.fuel 0 env M
  | .items xs => loopX g (fun env M => evSs w b env M) xs env M
def kItV (v : PV) (M : Mem) : Res Src := match v with
    | .tup xs => .ok (.items xs) M
    | .rol xs => .ok (.items xs) M
    | .str s => .ok (.items (s.map fun c => .str [c])) M
    | .ref n => match M[n]? with
      | some (.lst _) => .ok (.mem n) M
      | _ => .fail
    | _ => .fail
end
section
variable {w : Wd} {env : Env} {M : Mem}
def varRes (r : Option (Option PV)) (M : Mem) : Res PV := match r with | some (some v) => .ok v M | _ => .fail
@[simp] theorem varRes_some {v : PV} : varRes (some (some v)) M = .ok v M := rfl
@[simp] theorem evE_var {i : Nat} : evE w (.var i) env M = varRes env[i]? M := by rw [evE]; rfl
@[simp] theorem evE_lit {v : PV} : evE w (.lit v) env M = .ok v M := by rw [evE]
@[simp] theorem evE_glob {g : Nat} : evE w (.glob g) env M = opRes (w.glob g) M := by rw [evE]; rfl
@[simp] theorem evE_op1 {o : O1} {a : E} : evE w (.op1 o a) env M = (evE w a env M).bind (kOp1 o) := by rw [evE]; rfl
@[simp] theorem evE_op2 {o : O2} {a b : E} : evE w (.op2 o a b) env M = (evE w a env M).bind (kOp2 w env o b) := by rw [evE]; rfl
@[simp] theorem evE_nott {a : E} : evE w (.nott a) env M = (evE w a env M).bind kNot := by rw [evE]; rfl
@[simp] theorem evE_and {a b : E} : evE w (.and a b) env M = (evE w a env M).bind (kAnd w env b) := by rw [evE]; rfl
@[simp] theorem evE_or {a b : E} : evE w (.or a b) env M = (evE w a env M).bind (kOr w env b) := by rw [evE]; rfl
@[simp] theorem evE_chain {o p : O2} {a b c : E} : evE w (.chain o p a b c) env M = (evE w a env M).bind (kCh w env o p b c) := by rw [evE]; rfl
@[simp] theorem evE_ife {t : T} {a b : E} : evE w (.ife t a b) env M = (evT w t env M).bind (kIfe w env a b) := by rw [evE]; rfl
@[simp] theorem evE_tup {es : List E} : evE w (.tup es) env M = (evEs w es env M).bind kTup := by rw [evE]; rfl
@[simp] theorem evE_lst {es : List E} : evE w (.lst es) env M = (evEs w es env M).bind kLst := by rw [evE]; rfl
@[simp] theorem evE_call {f : Nat} {es : List E} : evE w (.call f es) env M = (evEs w es env M).bind (w.call f) := by rw [evE]
@[simp] theorem evE_opn {o : On} {es : List E} : evE w (.opn o es) env M = (evEs w es env M).bind (opn o) := by rw [evE]
@[simp] theorem evE_meth {k : MT} {o : On} {a : E} {es : List E} : evE w (.meth k o a es) env M = (evE w a env M).bind (kMeth w env k o es) := by rw [evE]; rfl
@[simp] theorem evEs_nil : evEs w [] env M = .ok [] M := by rw [evEs]
@[simp] theorem evEs_cons {e : E} {es : List E} : evEs w (e :: es) env M = (evE w e env M).bind (kEs w env es) := by rw [evEs]; rfl
@[simp] theorem evT_val {e : E} : evT w (.val e) env M = (evE w e env M).bind kT := by rw [evT]; rfl
@[simp] theorem evT_cmp {o : O2} {a b : E} : evT w (.cmp o a b) env M = (evE w a env M).bind (kCmp w env o b) := by rw [evT]; rfl
@[simp] theorem evT_chain {o p : O2} {a b c : E} : evT w (.chain o p a b c) env M = (evE w a env M).bind (kTCh w env o p b c) := by rw [evT]; rfl
@[simp] theorem evT_and {a b : T} : evT w (.and a b) env M = (evT w a env M).bind (kTAnd w env b) := by rw [evT]; rfl
@[simp] theorem evT_or {a b : T} : evT w (.or a b) env M = (evT w a env M).bind (kTOr w env b) := by rw [evT]; rfl
@[simp] theorem evT_not {a : T} : evT w (.not a) env M = (evT w a env M).bind kTNot := by rw [evT]; rfl
@[simp] theorem kOp1_ {o : O1} {x : PV} : kOp1 o x M = op1 o x M := rfl
@[simp] theorem kOp2b_ {o : O2} {x y : PV} : kOp2b o x y M = op2 o x y M := rfl
@[simp] theorem kOp2_ {o : O2} {b : E} {x : PV} : kOp2 w env o b x M = (evE w b env M).bind (kOp2b o x) := rfl
@[simp] theorem notRes_ {b : Bool} : notRes (some b) M = .ok (.bl (!b)) M := rfl
@[simp] theorem kNot_ {v : PV} : kNot v M = notRes (tru v M) M := rfl
@[simp] theorem andRes_ {b : E} {x : PV} {c : Bool} : andRes w env (some c) b x M = if c then evE w b env M else .ok x M := rfl
@[simp] theorem orRes_ {b : E} {x : PV} {c : Bool} : orRes w env (some c) b x M = if c then .ok x M else evE w b env M := rfl
@[simp] theorem kAnd_ {b : E} {x : PV} : kAnd w env b x M = andRes w env (tru x M) b x M := rfl
@[simp] theorem kOr_ {b : E} {x : PV} : kOr w env b x M = orRes w env (tru x M) b x M := rfl
@[simp] theorem chRes_ {p : O2} {y : PV} {c : E} {k : Bool} : chRes w env p y c (.bl k) M = if k then (evE w c env M).bind (kOp2b p y) else .ok (.bl false) M := rfl
@[simp] theorem kCh1_ {o p : O2} {c : E} {x y : PV} : kCh1 w env o p c x y M = (op2 o x y M).bind (chRes w env p y c) := rfl
@[simp] theorem kCh_ {o p : O2} {b c : E} {x : PV} : kCh w env o p b c x M = (evE w b env M).bind (kCh1 w env o p c x) := rfl
@[simp] theorem kIfe_ {a b : E} {c : Bool} : kIfe w env a b c M = if c then evE w a env M else evE w b env M := rfl
@[simp] theorem kTup_ {vs : List PV} : kTup vs M = if vs.length ≤ lim then .ok (.tup vs) M else .fail := rfl
@[simp] theorem kLst_ {vs : List PV} : kLst vs M = if vs.length ≤ lim then .ok (.ref M.length) (M ++ [.lst vs]) else .fail := rfl
@[simp] theorem kMeth1_ {o : On} {v : PV} {vs : List PV} : kMeth1 o v vs M = opn o (v :: vs) M := rfl
@[simp] theorem kMeth_ {k : MT} {o : On} {es : List E} {v : PV} : kMeth w env k o es v M = if tyM k v M then (evEs w es env M).bind (kMeth1 o v) else .fail := rfl
@[simp] theorem kEs1_ {v : PV} {vs : List PV} : kEs1 v vs M = .ok (v :: vs) M := rfl
@[simp] theorem kEs_ {es : List E} {v : PV} : kEs w env es v M = (evEs w es env M).bind (kEs1 v) := rfl
def okO (r : Option Bool) (M : Mem) : Res Bool := match r with | some b => .ok b M | none => .fail
@[simp] theorem okO_ {b : Bool} : okO (some b) M = .ok b M := rfl
@[simp] theorem kT_ {v : PV} : kT v M = okO (tru v M) M := rfl
@[simp] theorem kBl_ {k : Bool} : kBl (.bl k) M = .ok k M := rfl
@[simp] theorem kCmp1_ {o : O2} {x y : PV} : kCmp1 o x y M = (op2 o x y M).bind kBl := rfl
@[simp] theorem kCmp_ {o : O2} {b : E} {x : PV} : kCmp w env o b x M = (evE w b env M).bind (kCmp1 o x) := rfl
@[simp] theorem kTCh2_ {p : O2} {y : PV} {c : E} {k : Bool} : kTCh2 w env p y c (.bl k) M = if k then (evE w c env M).bind (kCmp1 p y) else .ok false M := rfl
@[simp] theorem kTCh1_ {o p : O2} {c : E} {x y : PV} : kTCh1 w env o p c x y M = (op2 o x y M).bind (kTCh2 w env p y c) := rfl
@[simp] theorem kTCh_ {o p : O2} {b c : E} {x : PV} : kTCh w env o p b c x M = (evE w b env M).bind (kTCh1 w env o p c x) := rfl
@[simp] theorem kTAnd_ {b : T} {c : Bool} : kTAnd w env b c M = if c then evT w b env M else .ok false M := rfl
@[simp] theorem kTOr_ {b : T} {c : Bool} : kTOr w env b c M = if c then .ok true M else evT w b env M := rfl
@[simp] theorem kTNot_ {c : Bool} : kTNot c M = .ok (!c) M := rfl
@[simp] theorem nxtO_ {e : Env} : nxtO (some e) M = .nxt e M := rfl
@[simp] theorem kAsg_ {g : Tg} {v : PV} : kAsg env g v M = nxtO (bindT g v env) M := rfl
@[simp] theorem kPar1_ {i j : Nat} {x y : PV} : kPar1 env i j x y M = .nxt ((env.set i (some x)).set j (some y)) M := rfl
@[simp] theorem kPar_ {i j : Nat} {b : E} {x : PV} : kPar w env i j b x M = (evE w b env M).thn env (kPar1 env i j x) := rfl
@[simp] theorem kP32_ {i j l : Nat} {x y z : PV} : kP32 env i j l x y z M = .nxt (((env.set i (some x)).set j (some y)).set l (some z)) M := rfl
@[simp] theorem kP31_ {i j l : Nat} {c : E} {x y : PV} : kP31 w env i j l c x y M = (evE w c env M).thn env (kP32 env i j l x y) := rfl
@[simp] theorem kP3_ {i j l : Nat} {b c : E} {x : PV} : kP3 w env i j l b c x M = (evE w b env M).thn env (kP31 w env i j l c x) := rfl
@[simp] theorem stO_ {M : Mem} : stO env (some M) = .nxt env M := rfl
@[simp] theorem kSet2_ {x v j : PV} : kSet2 env x v j M = stO env (setL v j x M) := rfl
@[simp] theorem kSet1_ {i : E} {x v : PV} : kSet1 w env i x v M = (evE w i env M).thn env (kSet2 env x v) := rfl
@[simp] theorem kSet_ {a i : E} {x : PV} : kSet w env a i x M = (evE w a env M).thn env (kSet1 w env i x) := rfl
@[simp] theorem kAug1_ {i : Nat} {z : PV} : kAug1 env i z M = .nxt (env.set i (some z)) M := rfl
@[simp] theorem kAug_ {i : Nat} {o : O2} {x y : PV} : kAug env i o x y M = (iop o x y M).thn env (kAug1 env i) := rfl
@[simp] theorem augO_ {i : Nat} {o : O2} {e : E} {x : PV} : augO w env (some (some x)) i o e M = (evE w e env M).thn env (kAug env i o x) := rfl
@[simp] theorem kAgI4_ {n : Nat} {j z : PV} : kAgI4 env n j z M = stO env (setL (.ref n) j z M) := rfl
@[simp] theorem kAgI3_ {o : O2} {n : Nat} {j x y : PV} : kAgI3 env o n j x y M = (iop o x y M).thn env (kAgI4 env n j) := rfl
@[simp] theorem kAgI2_ {o : O2} {e : E} {n : Nat} {j x : PV} : kAgI2 w env o e n j x M = (evE w e env M).thn env (kAgI3 env o n j x) := rfl
@[simp] theorem kAgI1_ {o : O2} {e : E} {n : Nat} {j : PV} : kAgI1 w env o e (.ref n) j M = (op2 .idx (.ref n) j M).thn env (kAgI2 w env o e n j) := rfl
@[simp] theorem kAgI_ {i : E} {o : O2} {e : E} {v : PV} : kAgI w env i o e v M = (evE w i env M).thn env (kAgI1 w env o e v) := rfl
@[simp] theorem kExp_ {v : PV} : kExp env v M = .nxt env M := rfl
@[simp] theorem kRet_ {v : PV} : kRet v M = .ret v M := rfl
@[simp] theorem kIf_ {a b : List S} {c : Bool} : kIf w env a b c M = if c then evSs w a env M else evSs w b env M := rfl
@[simp] theorem evSs_nil : evSs w [] env M = .nxt env M := by rw [evSs]
@[simp] theorem evSs_c {s : S} {ss : List S} : evSs w (s :: ss) env M = (evS w s env M).seq (evSs w ss) := by rw [evSs]
@[simp] theorem evS_asg {g : Tg} {e : E} : evS w (.asg g e) env M = (evE w e env M).thn env (kAsg env g) := by rw [evS]; rfl
@[simp] theorem evS_par {i j : Nat} {a b : E} : evS w (.par i j a b) env M = (evE w a env M).thn env (kPar w env i j b) := by rw [evS]; rfl
@[simp] theorem evS_par3 {i j l : Nat} {a b c : E} : evS w (.par3 i j l a b c) env M = (evE w a env M).thn env (kP3 w env i j l b c) := by rw [evS]; rfl
@[simp] theorem evS_setI {a i e : E} : evS w (.setI a i e) env M = (evE w e env M).thn env (kSet w env a i) := by rw [evS]; rfl
@[simp] theorem evS_aug {i : Nat} {o : O2} {e : E} : evS w (.aug i o e) env M = augO w env env[i]? i o e M := by
  rw [evS]
  rfl
@[simp] theorem evS_augI {a i : E} {o : O2} {e : E} : evS w (.augI a i o e) env M = (evE w a env M).thn env (kAgI w env i o e) := by rw [evS]; rfl
@[simp] theorem evS_expr {e : E} : evS w (.expr e) env M = (evE w e env M).thn env (kExp env) := by rw [evS]; rfl
@[simp] theorem evS_ret {e : E} : evS w (.ret e) env M = (evE w e env M).thn env kRet := by rw [evS]; rfl
@[simp] theorem evS_retN : evS w .retN env M = .ret .non M := by rw [evS]
@[simp] theorem evS_ifs {t : T} {a b : List S} : evS w (.ifs t a b) env M = (evT w t env M).thn env (kIf w env a b) := by rw [evS]; rfl
theorem evS_for {g : Tg} {it : I} {b : List S} : evS w (.forr g it b) env M = (evI w it env M).thn env (kFor w env g b) := by rw [evS]; rfl
@[simp] theorem evS_pass : evS w .pass env M = .nxt env M := by rw [evS]
@[simp] theorem evS_brk : evS w .brk env M = .brk env M := by rw [evS]
@[simp] theorem evS_cnt : evS w .cnt env M = .cnt env M := by rw [evS]
@[simp] theorem bindT_name {i : Nat} {v : PV} : bindT (.name i) v env = if i < env.length then some (env.set i (some v)) else none := by rw [bindT]
@[simp] theorem bindT_tup {ts : List Tg} {vs : List PV} : bindT (.tup ts) (.tup vs) env = bindTs ts vs env := by rw [bindT]
@[simp] theorem bindTs_nil : bindTs [] [] env = some env := by rw [bindTs]
def bindO (r : Option Env) (ts : List Tg) (vs : List PV) : Option Env := match r with | some env => bindTs ts vs env | none => none
@[simp] theorem bindO_ {e : Env} {ts : List Tg} {vs : List PV} : bindO (some e) ts vs = bindTs ts vs e := rfl
@[simp] theorem bindTs_cons {t : Tg} {ts : List Tg} {v : PV} {vs : List PV} : bindTs (t :: ts) (v :: vs) env = bindO (bindT t v env) ts vs := by rw [bindTs]; rfl
end
/-- a call's start -/
theorem run_fn {fs : List Fn} {glob : Nat → Option PV} {fuel k f : Nat} {d : Fn} {vs : List PV} {M : Mem} (h : fs[f]? = some d) (h1 : vs.length = d.params) (h2 : d.params ≤ d.names) :
    run fs glob fuel (k + 1) f vs M = (evSs ⟨run fs glob fuel k, glob, fuel⟩ d.body (vs.map some ++ List.replicate (d.names - vs.length) none) M).out := by
  unfold run
  rw [h]
  simp only
  rw [if_pos ⟨h1, h2⟩]
end HP

set_option Elab.async false
set_option linter.all false
set_option autoImplicit false
set_option maxRecDepth 100000
set_option maxHeartbeats 4000000
/-! The tape of the laws: a list of a list of ints and three ints. -/
namespace HP
def nextFn : Fn := ⟨2, 4, [.asg (.name 2) (.op2 .idx (.var 0) (.lit (.int (2)))),
    .ifs (.cmp .gt (.var 2) (.lit (.int (0)))) [.setI (.var 0) (.lit (.int (2))) (.op2 .fdiv (.var 2) (.var 1)), .ret (.op2 .mod (.opn .int [(.var 2)]) (.var 1))] [],
    .asg (.name 3) (.lit (.int (0))),
    .ifs (.cmp .lt (.op2 .idx (.var 0) (.lit (.int (1)))) (.opn .len [(.op2 .idx (.var 0) (.lit (.int (0))))])) [.asg (.name 3) (.opn .abs [(.op2 .idx (.op2 .idx (.var 0) (.lit (.int (0)))) (.op2 .idx (.var 0) (.lit (.int (1)))))]), .augI (.var 0) (.lit (.int (1))) .add (.lit (.int (1)))] [],
    .ifs (.cmp .ge (.var 3) (.op2 .pow (.lit (.int (10))) (.lit (.int (18))))) [.setI (.var 0) (.lit (.int (2))) (.op2 .fdiv (.var 3) (.var 1)), .ret (.op2 .mod (.opn .int [(.var 3)]) (.var 1))] [],
    .setI (.var 0) (.lit (.int (3))) (.op2 .mod (.opn .int [(.op2 .add (.op2 .add (.op2 .mul (.op2 .idx (.var 0) (.lit (.int (3)))) (.lit (.int (48271)))) (.op2 .mul (.var 3) (.lit (.int (69621))))) (.lit (.int (11))))]) (.lit (.int (2147483647)))),
    .ret (.op2 .mod (.opn .int [(.op2 .fdiv (.op2 .mod (.op2 .mul (.op2 .idx (.var 0) (.lit (.int (3)))) (.lit (.int (16807)))) (.lit (.int (2147483647)))) (.lit (.int (7))))]) (.var 1))]⟩
/-- the tape stands at t -/
structure Tape (t l : Nat) (M : Mem) : Prop where
  ex : ∃ (i r s : Int) (ns : List Int), M[t]? = some (.lst [.ref l, .int i, .int r, .int s]) ∧ M[l]? = some (.lst (ns.map PV.int)) ∧ l ≠ t ∧ 0 ≤ i ∧ 0 ≤ r
/-- what was there, but the tape, is kept -/
structure Go (t l : Nat) (M M' : Mem) : Prop where
  tape : Tape t l M'
  len : M.length ≤ M'.length
  keep : ∀ n, n < M.length → n ≠ t → M'[n]? = M[n]?
theorem Go.refl {t l : Nat} {M : Mem} (h : Tape t l M) : Go t l M M := ⟨h, Nat.le_refl _, fun _ _ _ => rfl⟩
theorem Go.trans {t l : Nat} {M M1 M2 : Mem} (a : Go t l M M1) (b : Go t l M1 M2) : Go t l M M2 :=
  ⟨b.tape, Nat.le_trans a.len b.len, fun n h k => by rw [b.keep n (Nat.lt_of_lt_of_le h a.len) k, a.keep n h k]⟩
theorem Go.get {t l n : Nat} {M M1 : Mem} {c : Cell} (a : Go t l M M1) (h : M[n]? = some c) (k : n ≠ t) : M1[n]? = some c := by
  rw [a.keep n (List.getElem?_eq_some_iff.mp h).1 k, h]
/-- a new cell -/
theorem Tape.lt {t l : Nat} {M : Mem} (h : Tape t l M) : t < M.length ∧ l < M.length := by
  obtain ⟨i, r, s, ns, h1, h2, h3⟩ := h.ex
  exact ⟨(List.getElem?_eq_some_iff.mp h1).1, (List.getElem?_eq_some_iff.mp h2).1⟩
/-- a store in a cell that is younger -/
theorem Go.write {t l p : Nat} {M M1 : Mem} {c : Cell} (T : Tape t l M) (a : Go t l M M1) (hp : M.length ≤ p) : Go t l M (M1.set p c) := by
  obtain ⟨i, r, s, ns, h1, h2, h3⟩ := a.tape.ex
  have hl := T.lt
  refine ⟨⟨i, r, s, ns, ?_, ?_, h3⟩, by simpa using a.len, fun n hn k => ?_⟩
  · rw [List.getElem?_set_ne (by omega), h1]
  · rw [List.getElem?_set_ne (by omega), h2]
  · rw [List.getElem?_set_ne (by omega), a.keep n hn k]
theorem Go.push {t l : Nat} {M : Mem} (h : Tape t l M) (cs : List Cell) : Go t l M (M ++ cs) := by
  obtain ⟨i, r, s, ns, h1, h2, h3⟩ := h.ex
  refine ⟨⟨i, r, s, ns, ?_, ?_, h3⟩, by simp, fun n hn _ => List.getElem?_append_left hn⟩
  · rw [List.getElem?_append_left (List.getElem?_eq_some_iff.mp h1).1, h1]
  · rw [List.getElem?_append_left (List.getElem?_eq_some_iff.mp h2).1, h2]
theorem small_lit {i : Int} (h : -(2 ^ 64) < i) (k : i < 2 ^ 64) : small i = true := by unfold small; simp only [h, k, decide_true, Bool.and_self]
theorem tape_set {M : Mem} {t l : Nat} {i r s i' r' s' : Int} {ns : List Int} (h1 : M[t]? = some (.lst [.ref l, .int i, .int r, .int s])) (h2 : M[l]? = some (.lst (ns.map PV.int))) (h3 : l ≠ t) (h4 : 0 ≤ i') (h5 : 0 ≤ r') : Go t l M (M.set t (.lst [.ref l, .int i', .int r', .int s'])) := by
  have ht := (List.getElem?_eq_some_iff.mp h1).1
  refine ⟨⟨i', r', s', ns, ?_, ?_, h3, h4, h5⟩, by simp, fun n hn k => ?_⟩
  · simp [ht]
  · rw [List.getElem?_set_ne (Ne.symm h3), h2]
  · rw [List.getElem?_set_ne (Ne.symm k)]
structure TF (M : Mem) (t : Nat) (u : PV) (i r s : Int) : Prop where
  x0 : op2 .idx (.ref t) (.int 0) M = .ok u M
  x1 : op2 .idx (.ref t) (.int 1) M = .ok (.int i) M
  x2 : op2 .idx (.ref t) (.int 2) M = .ok (.int r) M
  x3 : op2 .idx (.ref t) (.int 3) M = .ok (.int s) M
  s1 : ∀ v, setL (.ref t) (.int 1) v M = some (M.set t (.lst [u, v, .int r, .int s]))
  s2 : ∀ v, setL (.ref t) (.int 2) v M = some (M.set t (.lst [u, .int i, v, .int s]))
  s3 : ∀ v, setL (.ref t) (.int 3) v M = some (M.set t (.lst [u, .int i, .int r, v]))
theorem tape_facts {M : Mem} {t : Nat} {u : PV} {i r s : Int} (h : M[t]? = some (.lst [u, .int i, .int r, .int s])) : TF M t u i r s :=
  have st : ∀ (k : Nat) v, k < 4 → setL (.ref t) (.int k) v M = some (M.set t (.lst ([u, .int i, .int r, .int s].set k v))) := fun k v hk => setL_l h hk
  ⟨op2_idx_l (i := 0) h, op2_idx_l (i := 1) h, op2_idx_l (i := 2) h, op2_idx_l (i := 3) h, fun v => st 1 v (by decide), fun v => st 2 v (by decide), fun v => st 3 v (by decide)⟩
theorem next_ok {fs : List Fn} {glob : Nat → Option PV} {fuel k f t l : Nat} {M : Mem} {many : Int} (hf : fs[f]? = some nextFn) (T : Tape t l M) (h0 : 0 < many) (h1 : many < 2 ^ 62) :
    ∃ v M', run fs glob fuel (k + 1) f [.ref t, .int many] M = .ok (.int v) M' ∧ 0 ≤ v ∧ v < many ∧ Go t l M M' := by
  obtain ⟨i, r, s, ns, e1, e2, e3, hi, hr⟩ := T.ex
  have ht := (List.getElem?_eq_some_iff.mp e1).1
  have hm : ∀ x : Int, 0 ≤ x % many ∧ x % many < many := fun x => ⟨Int.emod_nonneg _ (by omega), Int.emod_lt_of_pos _ h0⟩
  have hd : ∀ x : Int, 0 ≤ x → 0 ≤ x / many := fun x hx => Int.ediv_nonneg hx (by omega)
  have pw : (10 : Int) ^ (18 : Int).toNat = 1000000000000000000 := by decide
  have l1 := small_lit (i := 48271) (by decide) (by decide)
  have l2 := small_lit (i := 69621) (by decide) (by decide)
  have l3 := small_lit (i := 16807) (by decide) (by decide)
  obtain ⟨x0, x1, x2, x3, s1, s2, s3⟩ := tape_facts e1
  have ln := opn_len_l e2
  have lb : many < 18446744073709551616 := by omega
  rw [run_fn hf rfl (by decide)]
  by_cases c1 : 0 < r
  · simp [nextFn, x2, c1, h0, lb, s2]
    exact ⟨_, _, ⟨rfl, rfl⟩, (hm r).1, (hm r).2, tape_set e1 e2 e3 hi (hd r hr)⟩
  · by_cases c2 : i < ns.length
    · have e4 : (M.set t (.lst [.ref l, .int (i + 1), .int r, .int s]))[t]? = some (.lst [.ref l, .int (i + 1), .int r, .int s]) := by simp [ht]
      obtain ⟨y0, y1, y2, y3, z1, z2, z3⟩ := tape_facts e4
      have gi : getI (ns.map PV.int) i = some (.int (ns[i.toNat]'(by omega))) := by
        rw [getI_int hi, List.getElem?_map, List.getElem?_eq_getElem (by omega)]
        rfl
      have xl := op2_idx_l (i := i) e2
      rw [gi] at xl
      generalize (ns[i.toNat]'(by omega)) = n at xl
      by_cases c3 : 1000000000000000000 ≤ (if n < 0 then -n else n)
      · simp [nextFn, x0, x1, x2, c1, h0, lb, s1, z2, ln, c2, xl, c3, pw]
        refine ⟨_, _, ⟨rfl, rfl⟩, (hm _).1, (hm _).2, ?_⟩
        exact tape_set e1 e2 e3 (by omega) (hd _ (by omega))
      · have e5 : ∀ v, ((M.set t (.lst [.ref l, .int (i + 1), .int r, .int s])).set t (.lst [.ref l, .int (i + 1), .int r, .int v]))[t]? = some (.lst [.ref l, .int (i + 1), .int r, .int v]) := by simp [ht]
        have f3 : ∀ v, op2 .idx (.ref t) (.int 3) (M.set t (.lst [.ref l, .int (i + 1), .int r, .int v])) = .ok (.int v) (M.set t (.lst [.ref l, .int (i + 1), .int r, .int v])) := fun v => (tape_facts (u := .ref l) (i := i + 1) (r := r) (by simp [ht])).x3
        simp [nextFn, x0, x1, x2, y3, c1, h0, lb, s1, z3, ln, c2, xl, c3, pw, l1, l2, l3, f3]
        refine ⟨_, _, ⟨rfl, rfl⟩, (hm _).1, (hm _).2, ?_⟩
        exact tape_set e1 e2 e3 (by omega) hr
    · have f3 : ∀ v, op2 .idx (.ref t) (.int 3) (M.set t (.lst [.ref l, .int i, .int r, .int v])) = .ok (.int v) (M.set t (.lst [.ref l, .int i, .int r, .int v])) := fun v => (tape_facts (u := .ref l) (i := i) (r := r) (by simp [ht])).x3
      simp [nextFn, x0, x1, x2, x3, c1, h0, lb, s1, s3, ln, c2, pw, l1, l2, l3, f3]
      refine ⟨_, _, ⟨rfl, rfl⟩, (hm _).1, (hm _).2, ?_⟩
      exact tape_set e1 e2 e3 hi hr
end HP

set_option maxRecDepth 100000
namespace Lk21
open HP
/-- 0 place_of([page]) names [page] -/
def f_place_of : Fn := ⟨1, 1, [.ret (.tup [(.op2 .fdiv (.var 0) (.glob 1)), (.op2 .mod (.var 0) (.glob 1))])]⟩
/-- 1 is_granule([value]) names [value] -/
def f_is_granule : Fn := ⟨1, 1, [.ret (.and (.opn .isi [(.var 0), (.lit (.ty .int))]) (.and (.nott (.opn .isi [(.var 0), (.lit (.ty .bool))])) (.chain .le .lt (.lit (.int (0))) (.var 0) (.glob 0))))]⟩
/-- 2 is_pair([value, kind]) names [value, kind] -/
def f_is_pair : Fn := ⟨2, 2, [.ret (.and (.opn .isi [(.var 0), (.lit (.ty .tuple))]) (.and (.op2 .eq (.opn .len [(.var 0)]) (.lit (.int (2)))) (.and (.op2 .eq (.op2 .idx (.var 0) (.lit (.int (0)))) (.var 1)) (.call 1 [(.op2 .idx (.var 0) (.lit (.int (1))))]))))]⟩
/-- 3 is_leaving([value]) names [value, number] -/
def f_is_leaving : Fn := ⟨1, 2, [.ifs (.or (.not (.val (.opn .isi [(.var 0), (.lit (.ty .tuple))]))) (.or (.cmp .ne (.opn .len [(.var 0)]) (.lit (.int (3)))) (.or (.cmp .ne (.op2 .idx (.var 0) (.lit (.int (0)))) (.lit (.str [108, 101, 97, 118, 105, 110, 103]))) (.not (.val (.call 1 [(.op2 .idx (.var 0) (.lit (.int (1))))])))))) [.ret (.lit (.bl false))] [],
    .asg (.name 1) (.op2 .idx (.var 0) (.lit (.int (2)))),
    .ret (.or (.op2 .is (.var 1) (.lit .non)) (.and (.opn .isi [(.var 1), (.lit (.ty .int))]) (.and (.nott (.opn .isi [(.var 1), (.lit (.ty .bool))])) (.op2 .ge (.var 1) (.lit (.int (1)))))))]⟩
/-- 4 is_out([value]) names [value] -/
def f_is_out : Fn := ⟨1, 1, [.ifs (.or (.not (.val (.opn .isi [(.var 0), (.lit (.ty .tuple))]))) (.or (.cmp .ne (.opn .len [(.var 0)]) (.lit (.int (2)))) (.cmp .ne (.op2 .idx (.var 0) (.lit (.int (0)))) (.lit (.str [111, 117, 116]))))) [.ret (.lit (.bl false))] [],
    .ret (.and (.opn .isi [(.op2 .idx (.var 0) (.lit (.int (1)))), (.lit (.ty .int))]) (.and (.nott (.opn .isi [(.op2 .idx (.var 0) (.lit (.int (1)))), (.lit (.ty .bool))])) (.op2 .ge (.op2 .idx (.var 0) (.lit (.int (1)))) (.lit (.int (1))))))]⟩
/-- 5 leaf_of([word]) names [word] -/
def f_leaf_of : Fn := ⟨1, 1, [.ifs (.val (.call 2 [(.var 0), (.lit (.str [116, 97, 98, 108, 101]))])) [.ret (.op2 .idx (.var 0) (.lit (.int (1))))] [],
    .ret (.lit .non)]⟩
/-- 6 is_root_word([value]) names [value] -/
def f_is_root_word : Fn := ⟨1, 1, [.ret (.or (.op2 .is (.var 0) (.lit .non)) (.or (.call 2 [(.var 0), (.lit (.str [116, 97, 98, 108, 101]))]) (.call 3 [(.var 0)])))]⟩
/-- 7 is_entry([value]) names [value] -/
def f_is_entry : Fn := ⟨1, 1, [.ifs (.or (.cmp .is (.var 0) (.lit .non)) (.or (.val (.call 2 [(.var 0), (.lit (.str [100, 97, 116, 97]))])) (.or (.val (.call 2 [(.var 0), (.lit (.str [115, 104, 97, 114, 101, 100]))])) (.or (.val (.call 3 [(.var 0)])) (.val (.call 4 [(.var 0)])))))) [.ret (.lit (.bl true))] [],
    .ret (.and (.opn .isi [(.var 0), (.lit (.ty .str))]) (.op2 .eq (.var 0) (.lit (.str [100, 101, 115, 116, 114, 111, 121, 101, 100]))))]⟩
/-- 8 _law_next([tape, many]) names [tape, many, rest, cell] -/
def f__law_next : Fn := ⟨2, 4, [.asg (.name 2) (.op2 .idx (.var 0) (.lit (.int (2)))),
    .ifs (.cmp .gt (.var 2) (.lit (.int (0)))) [.setI (.var 0) (.lit (.int (2))) (.op2 .fdiv (.var 2) (.var 1)), .ret (.op2 .mod (.opn .int [(.var 2)]) (.var 1))] [],
    .asg (.name 3) (.lit (.int (0))),
    .ifs (.cmp .lt (.op2 .idx (.var 0) (.lit (.int (1)))) (.opn .len [(.op2 .idx (.var 0) (.lit (.int (0))))])) [.asg (.name 3) (.opn .abs [(.op2 .idx (.op2 .idx (.var 0) (.lit (.int (0)))) (.op2 .idx (.var 0) (.lit (.int (1)))))]), .augI (.var 0) (.lit (.int (1))) .add (.lit (.int (1)))] [],
    .ifs (.cmp .ge (.var 3) (.op2 .pow (.lit (.int (10))) (.lit (.int (18))))) [.setI (.var 0) (.lit (.int (2))) (.op2 .fdiv (.var 3) (.var 1)), .ret (.op2 .mod (.opn .int [(.var 3)]) (.var 1))] [],
    .setI (.var 0) (.lit (.int (3))) (.op2 .mod (.opn .int [(.op2 .add (.op2 .add (.op2 .mul (.op2 .idx (.var 0) (.lit (.int (3)))) (.lit (.int (48271)))) (.op2 .mul (.var 3) (.lit (.int (69621))))) (.lit (.int (11))))]) (.lit (.int (2147483647)))),
    .ret (.op2 .mod (.opn .int [(.op2 .fdiv (.op2 .mod (.op2 .mul (.op2 .idx (.var 0) (.lit (.int (3)))) (.lit (.int (16807)))) (.lit (.int (2147483647)))) (.lit (.int (7))))]) (.var 1))]⟩
/-- 9 _law_number([tape]) names [tape] -/
def f__law_number : Fn := ⟨1, 1, [.ret (.op2 .idx (.tup [(.lit .non), (.op1 .neg (.lit (.int (1)))), (.lit (.int (0))), (.lit (.int (1))), (.lit (.int (7))), (.lit (.int (23))), (.lit (.int (24))), (.lit (.bl true)), (.lit (.str [55])), (.tup [(.lit (.int (7)))])]) (.call 8 [(.var 0), (.lit (.int (10)))]))]⟩
def b1__law_value : List S := [.expr (.meth .list .append (.var 2) [(.call 9 [(.var 0)])])]
/-- 10 _law_value([tape]) names [tape, kind, parts, turn, way] -/
def f__law_value : Fn := ⟨1, 5, [.asg (.name 1) (.op2 .idx (.tup [(.lit (.str [116, 97, 98, 108, 101])), (.lit (.str [100, 97, 116, 97])), (.lit (.str [115, 104, 97, 114, 101, 100])), (.lit (.str [108, 101, 97, 118, 105, 110, 103])), (.lit (.str [100, 101, 115, 116, 114, 111, 121, 101, 100])), (.lit (.str [])), (.lit (.int (5))), (.lit .non), (.lit (.str [111, 117, 116]))]) (.call 8 [(.var 0), (.lit (.int (9)))])),
    .asg (.name 2) (.lst [(.var 1)]),
    .forr (.name 3) (.range [(.call 8 [(.var 0), (.lit (.int (4)))])]) b1__law_value,
    .asg (.name 4) (.call 8 [(.var 0), (.lit (.int (6)))]),
    .ifs (.cmp .eq (.var 4) (.lit (.int (0)))) [.ret (.var 1)] [],
    .ifs (.cmp .eq (.var 4) (.lit (.int (1)))) [.ret (.opn .list [(.var 2)])] [],
    .ret (.opn .tuple [(.var 2)])]⟩
/-- 11 _law_is_granule([value]) names [value] -/
def f__law_is_granule : Fn := ⟨1, 1, [.ret (.and (.opn .isi [(.var 0), (.lit (.ty .int))]) (.and (.nott (.opn .isi [(.var 0), (.lit (.ty .bool))])) (.chain .le .lt (.lit (.int (0))) (.var 0) (.lit (.int (24))))))]⟩
/-- 12 _law_is_pair([value, kind]) names [value, kind] -/
def f__law_is_pair : Fn := ⟨2, 2, [.ifs (.or (.not (.val (.opn .isi [(.var 0), (.lit (.ty .tuple))]))) (.or (.cmp .ne (.opn .len [(.var 0)]) (.lit (.int (2)))) (.or (.not (.val (.opn .isi [(.op2 .idx (.var 0) (.lit (.int (0)))), (.lit (.ty .str))]))) (.cmp .ne (.op2 .idx (.var 0) (.lit (.int (0)))) (.var 1))))) [.ret (.lit (.bl false))] [],
    .ret (.call 11 [(.op2 .idx (.var 0) (.lit (.int (1))))])]⟩
/-- 13 _law_is_leaving([value]) names [value, number] -/
def f__law_is_leaving : Fn := ⟨1, 2, [.ifs (.or (.not (.val (.opn .isi [(.var 0), (.lit (.ty .tuple))]))) (.or (.cmp .ne (.opn .len [(.var 0)]) (.lit (.int (3)))) (.or (.not (.val (.opn .isi [(.op2 .idx (.var 0) (.lit (.int (0)))), (.lit (.ty .str))]))) (.cmp .ne (.op2 .idx (.var 0) (.lit (.int (0)))) (.lit (.str [108, 101, 97, 118, 105, 110, 103])))))) [.ret (.lit (.bl false))] [],
    .asg (.name 1) (.op2 .idx (.var 0) (.lit (.int (2)))),
    .ifs (.and (.cmp .isnot (.var 1) (.lit .non)) (.or (.not (.val (.opn .isi [(.var 1), (.lit (.ty .int))]))) (.or (.val (.opn .isi [(.var 1), (.lit (.ty .bool))])) (.cmp .lt (.var 1) (.lit (.int (1))))))) [.ret (.lit (.bl false))] [],
    .ret (.call 11 [(.op2 .idx (.var 0) (.lit (.int (1))))])]⟩
/-- 14 _law_is_out([value]) names [value] -/
def f__law_is_out : Fn := ⟨1, 1, [.ifs (.or (.not (.val (.opn .isi [(.var 0), (.lit (.ty .tuple))]))) (.or (.cmp .ne (.opn .len [(.var 0)]) (.lit (.int (2)))) (.or (.not (.val (.opn .isi [(.op2 .idx (.var 0) (.lit (.int (0)))), (.lit (.ty .str))]))) (.cmp .ne (.op2 .idx (.var 0) (.lit (.int (0)))) (.lit (.str [111, 117, 116])))))) [.ret (.lit (.bl false))] [],
    .ret (.and (.opn .isi [(.op2 .idx (.var 0) (.lit (.int (1)))), (.lit (.ty .int))]) (.and (.nott (.opn .isi [(.op2 .idx (.var 0) (.lit (.int (1)))), (.lit (.ty .bool))])) (.op2 .gt (.op2 .idx (.var 0) (.lit (.int (1)))) (.lit (.int (0))))))]⟩
def b1_law : List S := [.ifs (.cmp .ne (.call 0 [(.var 2)]) (.tup [(.op2 .fdiv (.var 2) (.lit (.int (4)))), (.op2 .sub (.var 2) (.op2 .mul (.op2 .fdiv (.var 2) (.lit (.int (4)))) (.lit (.int (4)))))])) [.ret (.lit (.bl false))] []]
def b2_law : List S := [.asg (.name 4) (.call 10 [(.var 1)]), .asg (.name 5) (.ife (.val (.call 12 [(.var 4), (.lit (.str [116, 97, 98, 108, 101]))])) (.op2 .idx (.var 4) (.lit (.int (1)))) (.lit .non)), .ifs (.cmp .ne (.call 5 [(.var 4)]) (.var 5)) [.ret (.lit (.bl false))] [], .asg (.name 6) (.or (.op2 .is (.var 4) (.lit .non)) (.or (.call 12 [(.var 4), (.lit (.str [116, 97, 98, 108, 101]))]) (.call 13 [(.var 4)]))), .ifs (.or (.not (.val (.opn .isi [(.call 6 [(.var 4)]), (.lit (.ty .bool))]))) (.cmp .ne (.call 6 [(.var 4)]) (.var 6))) [.ret (.lit (.bl false))] [], .asg (.name 7) (.or (.op2 .is (.var 4) (.lit .non)) (.or (.call 12 [(.var 4), (.lit (.str [100, 97, 116, 97]))]) (.or (.call 12 [(.var 4), (.lit (.str [115, 104, 97, 114, 101, 100]))]) (.call 13 [(.var 4)])))), .asg (.name 7) (.or (.var 7) (.call 14 [(.var 4)])), .asg (.name 7) (.or (.var 7) (.and (.opn .isi [(.var 4), (.lit (.ty .str))]) (.op2 .eq (.var 4) (.lit (.str [100, 101, 115, 116, 114, 111, 121, 101, 100]))))), .ifs (.or (.not (.val (.opn .isi [(.call 7 [(.var 4)]), (.lit (.ty .bool))]))) (.cmp .ne (.call 7 [(.var 4)]) (.var 7))) [.ret (.lit (.bl false))] []]
/-- 15 law([script]) names [script, tape, page, turn, value, due, root, entry] -/
def f_law : Fn := ⟨1, 8, [.asg (.name 1) (.lst [(.opn .list [(.var 0)]), (.lit (.int (0))), (.lit (.int (0))), (.lit (.int (5)))]),
    .forr (.name 2) (.range [(.lit (.int (16)))]) b1_law,
    .forr (.name 3) (.range [(.lit (.int (60)))]) b2_law,
    .ret (.lit (.bl true))]⟩
def fns : List Fn := [f_place_of, f_is_granule, f_is_pair, f_is_leaving, f_is_out, f_leaf_of, f_is_root_word, f_is_entry, f__law_next, f__law_number, f__law_value, f__law_is_granule, f__law_is_pair, f__law_is_leaving, f__law_is_out, f_law]
end Lk21

set_option Elab.async false
set_option linter.all false
set_option autoImplicit false
set_option maxRecDepth 100000
set_option maxHeartbeats 4000000
namespace Lk21
open HP
abbrev gl : Nat → Option PV := glv [.int 24, .int 4]
def fuel : Nat := 1
def depth : Nat := 8
abbrev rn (k f : Nat) (vs : List PV) (M : Mem) : Res PV := run fns gl fuel k f vs M
/-- simple parts -/
def Sc : PV → Prop | .non => True | .bl _ => True | .int _ => True | .str _ => True | .tup _ => True | _ => False
def Sc1 : PV → Prop | .non => True | .int _ => True | .str _ => True | _ => False
inductive Vl (M : Mem) : PV → Prop
  | sc {v} (h : Sc1 v) : Vl M v
  | rf {n xs} (h : M[n]? = some (.lst xs)) : Vl M (.ref n)
  | tp {a xs} (h : Sc1 a) (hx : ∀ x ∈ xs, Sc x) (hl : xs.length ≤ 3) : Vl M (.tup (a :: xs))
def isGr : PV → Bool | .int i => decide (0 ≤ i) && decide (i < 24) | _ => false
def isS (a : PV) (s : List Nat) : Bool := match a with | .str x => decide (x = s) | _ => false
def isPair (v : PV) (s : List Nat) : Bool := match v with | .tup [a, b] => isS a s && isGr b | _ => false
def isPos : PV → Bool | .int i => decide (1 ≤ i) | _ => false
def isLv (v : PV) : Bool := match v with | .tup [a, b, c] => isS a [108, 101, 97, 118, 105, 110, 103] && isGr b && (isN c || isPos c) | _ => false
def isOut (v : PV) : Bool := match v with | .tup [a, b] => isS a [111, 117, 116] && isPos b | _ => false
section
variable {k : Nat} {M : Mem} {v : PV} {s : List Nat}
theorem m_gr (h : Sc v) : rn (k + 1) 1 [v] M = .ok (.bl (isGr v)) M := by
  rw [rn, run_fn rfl rfl (by decide)]
  cases v <;> first | exact h.elim | simp [f_is_granule, isGr]
  rename_i i
  by_cases c : 0 ≤ i <;> simp [c]
theorem m_lgr (h : Sc v) : rn (k + 1) 11 [v] M = .ok (.bl (isGr v)) M := by
  rw [rn, run_fn rfl rfl (by decide)]
  cases v <;> first | exact h.elim | simp [f__law_is_granule, isGr]
  rename_i i
  by_cases c : 0 ≤ i <;> simp [c]
theorem m_pair (h : Vl M v) : rn (k + 2) 2 [v, .str s] M = .ok (.bl (isPair v s)) M := by
  rw [rn, run_fn rfl rfl (by decide)]
  cases h with
  | sc h => cases v <;> first | exact h.elim | simp [f_is_pair, isPair]
  | rf h => simp [f_is_pair, isPair, kd_lst h]
  | @tp a xs h hx hl =>
    rcases xs with _ | ⟨b, _ | ⟨c, xs⟩⟩
    · simp [f_is_pair, isPair]
    · have q := m_gr (k := k) (M := M) (hx b (by simp))
      rw [rn] at q
      cases a <;> first | exact h.elim | simp [f_is_pair, isPair, isS, q]
      rename_i x
      by_cases c : x = s <;> simp [c, q]
    · have : ¬ ((xs.length : Int) + 1 + 1 + 1 = 2) := by omega
      simp [f_is_pair, isPair, this]
theorem m_lpair (h : Vl M v) : rn (k + 2) 12 [v, .str s] M = .ok (.bl (isPair v s)) M := by
  rw [rn, run_fn rfl rfl (by decide)]
  cases h with
  | sc h => cases v <;> first | exact h.elim | simp [f__law_is_pair, isPair]
  | rf h => simp [f__law_is_pair, isPair, kd_lst h]
  | @tp a xs h hx hl =>
    rcases xs with _ | ⟨b, _ | ⟨c, xs⟩⟩
    · simp [f__law_is_pair, isPair]
    · have q := m_lgr (k := k) (M := M) (hx b (by simp))
      rw [rn] at q
      cases a <;> first | exact h.elim | simp [f__law_is_pair, isPair, isS, q]
      rename_i x
      by_cases c : x = s <;> simp [c, q]
    · have : ¬ ((xs.length : Int) + 1 + 1 + 1 = 2) := by omega
      simp [f__law_is_pair, isPair, this]
theorem m_lv (h : Vl M v) : rn (k + 2) 3 [v] M = .ok (.bl (isLv v)) M := by
  rw [rn, run_fn rfl rfl (by decide)]
  cases h with
  | sc h => cases v <;> first | exact h.elim | simp [f_is_leaving, isLv]
  | rf h => simp [f_is_leaving, isLv, kd_lst h]
  | @tp a xs h hx hl =>
    rcases xs with _ | ⟨b, _ | ⟨c, _ | ⟨d, xs⟩⟩⟩
    · simp [f_is_leaving, isLv]
    · simp [f_is_leaving, isLv]
    · have q := m_gr (k := k) (M := M) (hx b (by simp))
      have hc := hx c (by simp)
      rw [rn] at q
      cases a <;> first | exact h.elim | simp [f_is_leaving, isLv, isS, q]
      rename_i x
      by_cases e : x = [108, 101, 97, 118, 105, 110, 103] <;> simp [e, q]
      by_cases e2 : isGr b = true <;> simp [e2]
      cases c <;> first | exact hc.elim | simp [isPos]
    · have : ¬ ((xs.length : Int) + 1 + 1 + 1 + 1 = 3) := by omega
      simp [f_is_leaving, isLv, this]
theorem m_llv (h : Vl M v) : rn (k + 2) 13 [v] M = .ok (.bl (isLv v)) M := by
  rw [rn, run_fn rfl rfl (by decide)]
  cases h with
  | sc h => cases v <;> first | exact h.elim | simp [f__law_is_leaving, isLv]
  | rf h => simp [f__law_is_leaving, isLv, kd_lst h]
  | @tp a xs h hx hl =>
    rcases xs with _ | ⟨b, _ | ⟨c, _ | ⟨d, xs⟩⟩⟩
    · simp [f__law_is_leaving, isLv]
    · simp [f__law_is_leaving, isLv]
    · have q := m_lgr (k := k) (M := M) (hx b (by simp))
      have hc := hx c (by simp)
      rw [rn] at q
      cases a <;> first | exact h.elim | simp [f__law_is_leaving, isLv, isS, q]
      rename_i x
      by_cases e : x = [108, 101, 97, 118, 105, 110, 103] <;> simp [e]
      cases c <;> first | exact hc.elim | simp [isPos, q]
      rename_i i
      by_cases e3 : i < 1 <;> simp [e3, q] <;> omega
    · have : ¬ ((xs.length : Int) + 1 + 1 + 1 + 1 = 3) := by omega
      simp [f__law_is_leaving, isLv, this]
theorem m_out (h : Vl M v) : rn (k + 2) 4 [v] M = .ok (.bl (isOut v)) M := by
  rw [rn, run_fn rfl rfl (by decide)]
  cases h with
  | sc h => cases v <;> first | exact h.elim | simp [f_is_out, isOut]
  | rf h => simp [f_is_out, isOut, kd_lst h]
  | @tp a xs h hx hl =>
    rcases xs with _ | ⟨b, _ | ⟨c, xs⟩⟩
    · simp [f_is_out, isOut]
    · have hb := hx b (by simp)
      cases a <;> first | exact h.elim | simp [f_is_out, isOut, isS]
      rename_i x
      by_cases c : x = [111, 117, 116] <;> simp [c]
      cases b <;> first | exact hb.elim | simp [isPos]
    · have : ¬ ((xs.length : Int) + 1 + 1 + 1 = 2) := by omega
      simp [f_is_out, isOut, this]
theorem m_lout (h : Vl M v) : rn (k + 2) 14 [v] M = .ok (.bl (isOut v)) M := by
  rw [rn, run_fn rfl rfl (by decide)]
  cases h with
  | sc h => cases v <;> first | exact h.elim | simp [f__law_is_out, isOut]
  | rf h => simp [f__law_is_out, isOut, kd_lst h]
  | @tp a xs h hx hl =>
    rcases xs with _ | ⟨b, _ | ⟨c, xs⟩⟩
    · simp [f__law_is_out, isOut]
    · have hb := hx b (by simp)
      cases a <;> first | exact h.elim | simp [f__law_is_out, isOut, isS]
      rename_i x
      by_cases c : x = [111, 117, 116] <;> simp [c]
      cases b <;> first | exact hb.elim | simp [isPos]
      omega
    · have : ¬ ((xs.length : Int) + 1 + 1 + 1 = 2) := by omega
      simp [f__law_is_out, isOut, this]
/-- the granule of a table's word -/
def lf (v : PV) : PV := if isPair v [116, 97, 98, 108, 101] then (match v with | .tup [_, b] => b | _ => .non) else .non
theorem lf_eq : eqPV M (lf v) (lf v) = some true := by
  unfold lf
  split
  · rename_i h
    unfold isPair at h
    split at h
    · rename_i a b
      cases b <;> simp [isGr] at h
      simp
    · cases h
  · simp
theorem idx_lf (h : isPair v [116, 97, 98, 108, 101] = true) : op2 .idx v (.int 1) M = .ok (lf v) M := by
  have h' := h
  unfold isPair at h
  split at h
  · simp [lf, h']
  · cases h
theorem m_leaf (h : Vl M v) : rn (k + 3) 5 [v] M = .ok (lf v) M := by
  rw [rn, run_fn rfl rfl (by decide)]
  have q := m_pair (k := k) (s := [116, 97, 98, 108, 101]) h
  rw [rn] at q
  by_cases c : isPair v [116, 97, 98, 108, 101] = true
  · simp [f_leaf_of, q, c, idx_lf c]
  · simp [f_leaf_of, q, c, lf]
def rootW (v : PV) : Bool := isN v || isPair v [116, 97, 98, 108, 101] || isLv v
theorem m_root (h : Vl M v) : rn (k + 3) 6 [v] M = .ok (.bl (rootW v)) M := by
  rw [rn, run_fn rfl rfl (by decide)]
  have q := m_pair (k := k) (s := [116, 97, 98, 108, 101]) h
  have q2 := m_lv (k := k) h
  rw [rn] at q q2
  simp [f_is_root_word, q, q2, rootW]
  cases isN v <;> cases isPair v [116, 97, 98, 108, 101] <;> simp
def isDes (v : PV) : Bool := isS v [100, 101, 115, 116, 114, 111, 121, 101, 100]
def entW (v : PV) : Bool := isN v || isPair v [100, 97, 116, 97] || isPair v [115, 104, 97, 114, 101, 100] || isLv v || isOut v || isDes v
theorem m_ent (h : Vl M v) : rn (k + 3) 7 [v] M = .ok (.bl (entW v)) M := by
  rw [rn, run_fn rfl rfl (by decide)]
  have q := m_pair (k := k) (s := [100, 97, 116, 97]) h
  have q1 := m_pair (k := k) (s := [115, 104, 97, 114, 101, 100]) h
  have q2 := m_lv (k := k) h
  have q3 := m_out (k := k) h
  rw [rn] at q q1 q2 q3
  have q4 : ∃ K, kd v M = some K ∧ (K = .str → ∃ s, v = .str s) ∧ (isDes v = true → K = .str) := by
    cases h with
    | sc h => cases v <;> first | exact h.elim | simp [isDes, isS]
    | rf h => exact ⟨_, kd_lst h, by simp, by simp [isDes, isS]⟩
    | tp => simp [isDes, isS]
  obtain ⟨K, e1, e2, e3⟩ := q4
  simp [f_is_entry, q, q1, q2, q3, entW, e1]
  cases isN v <;> cases isPair v [100, 97, 116, 97] <;> cases isPair v [115, 104, 97, 114, 101, 100] <;> cases isLv v <;> cases isOut v <;> simp
  by_cases c : K = .str
  · obtain ⟨s, rfl⟩ := e2 c
    simp [c, isDes, isS]
  · have : isDes v = false := by
      cases hd : isDes v
      · rfl
      · exact absurd (e3 hd) c
    simp [c, this]
end

theorem next21 {k t l : Nat} {M : Mem} {many : Int} (T : Tape t l M) (h0 : 0 < many) (h1 : many < 2 ^ 62) : ∃ v M', rn (k + 1) 8 [.ref t, .int many] M = .ok (.int v) M' ∧ 0 ≤ v ∧ v < many ∧ Go t l M M' := next_ok rfl T h0 h1
theorem m_num {k t l : Nat} {M : Mem} (T : Tape t l M) : ∃ v M', rn (k + 2) 9 [.ref t] M = .ok v M' ∧ Sc v ∧ Go t l M M' := by
  obtain ⟨n, M', e, a, b, g⟩ := next21 (k := k) T (many := 10) (by decide) (by decide)
  obtain ⟨x, hx, ex⟩ := getI_mem (xs := [.non, .int (-1), .int 0, .int 1, .int 7, .int 23, .int 24, .bl true, .str [55], .tup [.int 7]]) a (by simpa using b)
  refine ⟨x, M', ?_, ?_, g⟩
  · rw [rn] at e ⊢
    rw [run_fn rfl rfl (by decide)]
    simp [f__law_number, e, ex, lim]
  · simp only [List.mem_cons, List.not_mem_nil, or_false] at hx
    rcases hx with rfl | rfl | rfl | rfl | rfl | rfl | rfl | rfl | rfl | rfl <;> trivial
theorem m_val {k t l : Nat} {M : Mem} (T : Tape t l M) : ∃ v M', rn (k + 3) 10 [.ref t] M = .ok v M' ∧ Vl M' v ∧ Go t l M M' := by
  obtain ⟨n, M1, e, a, b, g⟩ := next21 (k := k + 1) T (many := 9) (by decide) (by decide)
  obtain ⟨x, hx, ex⟩ := getI_mem (xs := [(.str [116, 97, 98, 108, 101]), (.str [100, 97, 116, 97]), (.str [115, 104, 97, 114, 101, 100]), (.str [108, 101, 97, 118, 105, 110, 103]), (.str [100, 101, 115, 116, 114, 111, 121, 101, 100]), (.str []), (.int (5)), .non, (.str [111, 117, 116])]) a (by simpa using b)
  have sx : Sc1 x := by
    simp only [List.mem_cons, List.not_mem_nil, or_false] at hx
    rcases hx with rfl | rfl | rfl | rfl | rfl | rfl | rfl | rfl | rfl <;> trivial
  clear hx
  have T1 := g.tape
  have g2 := Go.push T1 [.lst [x]]
  have hp : M1.length ≠ t := by have := T1.lt; omega
  obtain ⟨m, M2, e2, a2, b2, g3⟩ := next21 (k := k + 1) g2.tape (many := 4) (by decide) (by decide)
  have p2 : M2[M1.length]? = some (.lst [x]) := g3.get (by simp) hp
  obtain ⟨env, M3, lp, xs, hl, hs, p3, g4, w, ev⟩ := for_range (w := ⟨run fns gl fuel (k + 2), gl, fuel⟩) (g := .name 3) (b := b1__law_value) (e := .call 8 [(.var 0), (.lit (.int (4)))]) (env := [some (.ref t), some x, some (.ref M1.length), none, none]) (M := M1 ++ [.lst [x]])
    (fun i env M => ∃ xs : List PV, xs.length = i ∧ (∀ y ∈ xs, Sc y) ∧ M[M1.length]? = some (.lst (x :: xs)) ∧ Go t l M1 M ∧ ∃ w, env = [some (.ref t), some x, some (.ref M1.length), w, none])
    (by simpa using e2) (by omega) ⟨[], rfl, by simp, p2, g2.trans g3, none, rfl⟩ (by
      intro j env M hj hP
      obtain ⟨xs, hl, hs, pm, gm, w, rfl⟩ := hP
      obtain ⟨v, M', e, sv, g'⟩ := m_num (k := k) gm.tape
      rw [rn] at e
      have pm' := g'.get pm hp
      have hlen := (List.getElem?_eq_some_iff.mp pm').1
      have hlim : xs.length + 1 < lim := by unfold lim; omega
      refine ⟨_, [some (.ref t), some x, some (.ref M1.length), some (.int j), none], M'.set M1.length (.lst (x :: (xs ++ [v]))), rfl, .inl ?_, xs ++ [v], by simp [hl], ?_, ?_, ?_, _, rfl⟩
      · simp [b1__law_value, e, tyM_list pm, opn_append_l pm', hlim]
      · intro y hy
        rcases List.mem_append.mp hy with h | h
        · exact hs y h
        · simp at h
          rw [h]; exact sv
      · simp [hlen]
      · exact Go.write T1 (gm.trans g') (Nat.le_refl _))
  subst ev
  obtain ⟨q, M4, e5, a5, b5, g5⟩ := next21 (k := k + 1) g4.tape (many := 6) (by decide) (by decide)
  have p4 : M4[M1.length]? = some (.lst (x :: xs)) := g5.get p3 hp
  rw [rn] at e e2 e5
  have g6 := g.trans (g4.trans g5)
  rw [rn, run_fn rfl rfl (by decide)]
  have hl3 : xs.length ≤ 3 := by omega
  simp [f__law_value, e, ex, lim]
  rw [lp]
  simp [e5, opn_list_l p4, opn_tuple_l p4]
  by_cases c1 : q = 0
  · simp [c1]
    exact ⟨_, _, ⟨rfl, rfl⟩, .sc sx, g6⟩
  · by_cases c2 : q = 1
    · simp [c1, c2]
      exact ⟨_, _, ⟨rfl, rfl⟩, .rf (xs := x :: xs) (by simp), g6.trans (Go.push g5.tape _)⟩
    · simp [c1, c2]
      exact ⟨_, _, ⟨rfl, rfl⟩, .tp sx hs hl3, g6⟩
abbrev wd (k : Nat) : Wd := ⟨run fns gl fuel k, gl, fuel⟩
theorem m_place {k : Nat} {M : Mem} {j : Int} : run fns gl fuel (k + 1) 0 [.int j] M = .ok (.tup [.int (j / 4), .int (j % 4)]) M := by
  rw [run_fn rfl rfl (by decide)]
  simp [f_place_of, lim]
theorem step1 {k : Nat} {a b d e f g h : Option PV} {M : Mem} {j : Int} : evSs (wd (k + 1)) b1_law [a, b, some (.int j), d, e, f, g, h] M = .nxt [a, b, some (.int j), d, e, f, g, h] M := by
  have s4 : small 4 = true := by decide
  have m4 : j % 4 = j - j / 4 * 4 := by omega
  simp [b1_law, m_place, lim, s4]
  rw [eqPV_data (by rfl) (d := .tup [.int (j / 4), .int (j % 4)]) (e := .tup [.int (j / 4), .int (j - j / 4 * 4)]) (by simp [allD]) (by simp [allD])]
  simp [eqD, eqDs]
  exact m4
theorem step2 {k t l : Nat} {a c d e f g h : Option PV} {M : Mem} (T : Tape t l M) : ∃ v M', evSs (wd (k + 4)) b2_law [a, some (.ref t), c, d, e, f, g, h] M = .nxt [a, some (.ref t), c, d, some v, some (lf v), some (.bl (rootW v)), some (.bl (entW v))] M' ∧ Tape t l M' := by
  obtain ⟨v, M', q0, hv, go⟩ := m_val (k := k + 1) T
  have q1 := m_lpair (k := k + 2) (s := [116, 97, 98, 108, 101]) hv
  have q2 := m_lpair (k := k + 2) (s := [100, 97, 116, 97]) hv
  have q3 := m_lpair (k := k + 2) (s := [115, 104, 97, 114, 101, 100]) hv
  have q4 := m_llv (k := k + 2) hv
  have q5 := m_lout (k := k + 2) hv
  have q6 := m_leaf (k := k + 1) hv
  have q7 := m_root (k := k + 1) hv
  have q8 := m_ent (k := k + 1) hv
  have q9 : ∃ K, kd v M' = some K ∧ (if K = .str then ∃ s, v = .str s else isDes v = false) := by
    cases hv with
    | sc h => cases v <;> first | exact h.elim | simp [isDes, isS]
    | rf h => exact ⟨_, kd_lst h, by simp [isDes, isS]⟩
    | tp => simp [isDes, isS]
  obtain ⟨K, e1, e2⟩ := q9
  rw [rn] at q0 q1 q2 q3 q4 q5 q6 q7 q8
  have lfi := fun h => idx_lf (M := M') (v := v) h
  have lfe := lf_eq (M := M') (v := v)
  refine ⟨v, M', ?_, go.tape⟩
  have c1 : evE (wd (k + 4)) (.ife (.val (.call 12 [(.var 4), (.lit (.str [116, 97, 98, 108, 101]))])) (.op2 .idx (.var 4) (.lit (.int (1)))) (.lit .non)) [a, some (.ref t), c, d, some v, f, g, h] M' = .ok (lf v) M' := by
    by_cases z : isPair v [116, 97, 98, 108, 101] = true
    · simp [q1, z, lfi z]
    · simp [q1, z, lf]
  have c2 : evE (wd (k + 4)) (.or (.op2 .is (.var 4) (.lit .non)) (.or (.call 12 [(.var 4), (.lit (.str [116, 97, 98, 108, 101]))]) (.call 13 [(.var 4)]))) [a, some (.ref t), c, d, some v, some (lf v), g, h] M' = .ok (.bl (rootW v)) M' := by
    simp [q1, q4, rootW]
    cases isN v <;> cases isPair v [116, 97, 98, 108, 101] <;> simp
  have c3 : evE (wd (k + 4)) (.or (.op2 .is (.var 4) (.lit .non)) (.or (.call 12 [(.var 4), (.lit (.str [100, 97, 116, 97]))]) (.or (.call 12 [(.var 4), (.lit (.str [115, 104, 97, 114, 101, 100]))]) (.call 13 [(.var 4)])))) [a, some (.ref t), c, d, some v, some (lf v), some (.bl (rootW v)), h] M' = .ok (.bl (isN v || isPair v [100, 97, 116, 97] || isPair v [115, 104, 97, 114, 101, 100] || isLv v)) M' := by
    simp [q2, q3, q4]
    cases isN v <;> cases isPair v [100, 97, 116, 97] <;> cases isPair v [115, 104, 97, 114, 101, 100] <;> simp
  obtain ⟨X, hX⟩ : ∃ X, X = (isN v || isPair v [100, 97, 116, 97] || isPair v [115, 104, 97, 114, 101, 100] || isLv v) := ⟨_, rfl⟩
  rw [← hX] at c3
  have c4 : evE (wd (k + 4)) (.or (.var 7) (.and (.opn .isi [(.var 4), (.lit (.ty .str))]) (.op2 .eq (.var 4) (.lit (.str [100, 101, 115, 116, 114, 111, 121, 101, 100]))))) [a, some (.ref t), c, d, some v, some (lf v), some (.bl (rootW v)), some (.bl (X || isOut v))] M' = .ok (.bl (entW v)) M' := by
    simp only [entW, ← hX]
    generalize (X || isOut v) = Y
    simp [e1]

    cases Y <;> simp
    split at e2
    · rename_i hk
      obtain ⟨s, rfl⟩ := e2
      simp [hk, isDes, isS]
    · rename_i hk
      simp [hk, e2]
  have c5 : evE (wd (k + 4)) (.or (.var 7) (.call 14 [(.var 4)])) [a, some (.ref t), c, d, some v, some (lf v), some (.bl (rootW v)), some (.bl X)] M' = .ok (.bl (X || isOut v)) M' := by
    simp [q5]
    cases X <;> simp
  simp [b2_law, q0, -evE_or, -evE_ife, c1, c2, c3, c4, c5, q6, q7, q8, lfe]
theorem plain : ∀ ns : List Int, ns.length ≤ 63 → ∃ M, run fns gl fuel (depth + 1) 15 [scriptV ns] [] = .ok (.bl true) M := by
  intro ns hn
  rw [run_fn rfl rfl (by decide)]
  have T0 : Tape 1 0 [.lst (ns.map PV.int), .lst [.ref 0, .int 0, .int 0, .int 5]] := ⟨0, 0, 5, ns, rfl, rfl, by decide, by decide, by decide⟩
  obtain ⟨env1, M1, l1, T1, w1, rfl⟩ := for_range (w := wd depth) (g := .name 2) (b := b1_law) (e := .lit (.int 16)) (n := 16) (env := [some (scriptV ns), some (.ref 1), none, none, none, none, none, none]) (M := [.lst (ns.map PV.int), .lst [.ref 0, .int 0, .int 0, .int 5]])
    (fun i env M => Tape 1 0 M ∧ ∃ w, env = [some (scriptV ns), some (.ref 1), w, none, none, none, none, none])
    (by simp) (by decide) ⟨T0, none, rfl⟩ (by
      intro j env M hj ⟨T, w, h⟩
      subst h
      exact ⟨_, _, M, rfl, .inl step1, T, _, rfl⟩)
  obtain ⟨env2, M2, l2, T2, h2⟩ := for_range (w := wd depth) (g := .name 3) (b := b2_law) (e := .lit (.int 60)) (n := 60) (env := [some (scriptV ns), some (.ref 1), w1, none, none, none, none, none]) (M := M1)
    (fun i env M => Tape 1 0 M ∧ ∃ w a b c d e, env = [some (scriptV ns), some (.ref 1), w, a, b, c, d, e])
    (by simp) (by decide) ⟨T1, _, _, _, _, _, _, rfl⟩ (by
      intro j env M hj ⟨T, w, a, b, c, d, e, h⟩
      subst h
      obtain ⟨v, M', q, T'⟩ := step2 (k := 4) T
      exact ⟨_, _, M', rfl, .inl q, T', _, _, _, _, _, _, rfl⟩)
  obtain ⟨w, a, b, c, d, e, rfl⟩ := h2
  refine ⟨M2, ?_⟩
  have hs : opn .list [scriptV ns] [] = .ok (.ref 0) [.lst (ns.map PV.int)] := rfl
  simp [f_law, lim, hs]
  rw [l1]
  simp
  rw [l2]
  simp
end Lk21

set_option Elab.async false
set_option linter.all false
set_option maxRecDepth 100000
set_option maxHeartbeats 0

namespace Lk21
open PySem L2 HP
def top (i : Nat) : Stmt := PySem.Challenge.pw_hermithall_k21_words_of_tables.main.body.getD i (.Pass ⟨0, 0, 0, 0⟩)
abbrev d_place_of : Df := mkDf "place_of" (top 3) f_place_of
abbrev d_is_granule : Df := mkDf "is_granule" (top 4) f_is_granule
abbrev d_is_pair : Df := mkDf "is_pair" (top 5) f_is_pair
abbrev d_is_leaving : Df := mkDf "is_leaving" (top 6) f_is_leaving
abbrev d_is_out : Df := mkDf "is_out" (top 7) f_is_out
abbrev d_leaf_of : Df := mkDf "leaf_of" (top 8) f_leaf_of
abbrev d_is_root_word : Df := mkDf "is_root_word" (top 9) f_is_root_word
abbrev d_is_entry : Df := mkDf "is_entry" (top 10) f_is_entry
abbrev d__law_next : Df := mkDf "_law_next" (top 12) f__law_next
abbrev d__law_number : Df := mkDf "_law_number" (top 13) f__law_number
abbrev d__law_value : Df := mkDf "_law_value" (top 14) f__law_value
abbrev d__law_is_granule : Df := mkDf "_law_is_granule" (top 15) f__law_is_granule
abbrev d__law_is_pair : Df := mkDf "_law_is_pair" (top 16) f__law_is_pair
abbrev d__law_is_leaving : Df := mkDf "_law_is_leaving" (top 17) f__law_is_leaving
abbrev d__law_is_out : Df := mkDf "_law_is_out" (top 18) f__law_is_out
abbrev d_law : Df := mkDf "law" (top 19) f_law
abbrev DS : List Df := [d_place_of, d_is_granule, d_is_pair, d_is_leaving, d_is_out, d_leaf_of, d_is_root_word, d_is_entry, d__law_next, d__law_number, d__law_value, d__law_is_granule, d__law_is_pair, d__law_is_leaving, d__law_is_out, d_law]
abbrev CS : List (Str × PV) := [("GRANULES", (.int (24))), ("WORDS", (.int (4)))]
abbrev FR : List Str := ["abs", "bool", "int", "isinstance", "len", "list", "range", "str", "tuple"]
abbrev G : Gt := mkG DS CS FR
theorem ok_place_of : DfOk G d_place_of :=
  ⟨by decide +kernel, by kernel_rfl, rfl, rfl, fun _ _ _ _ _ _ us hl => match us, hl with | [_], _ => rfl, rfl, rfl⟩
theorem ok_is_granule : DfOk G d_is_granule :=
  ⟨by decide +kernel, by kernel_rfl, rfl, rfl, fun _ _ _ _ _ _ us hl => match us, hl with | [_], _ => rfl, rfl, rfl⟩
theorem ok_is_pair : DfOk G d_is_pair :=
  ⟨by decide +kernel, by kernel_rfl, rfl, rfl, fun _ _ _ _ _ _ us hl => match us, hl with | [_, _], _ => rfl, rfl, rfl⟩
theorem ok_is_leaving : DfOk G d_is_leaving :=
  ⟨by decide +kernel, by kernel_rfl, rfl, rfl, fun _ _ _ _ _ _ us hl => match us, hl with | [_], _ => rfl, rfl, rfl⟩
theorem ok_is_out : DfOk G d_is_out :=
  ⟨by decide +kernel, by kernel_rfl, rfl, rfl, fun _ _ _ _ _ _ us hl => match us, hl with | [_], _ => rfl, rfl, rfl⟩
theorem ok_leaf_of : DfOk G d_leaf_of :=
  ⟨by decide +kernel, by kernel_rfl, rfl, rfl, fun _ _ _ _ _ _ us hl => match us, hl with | [_], _ => rfl, rfl, rfl⟩
theorem ok_is_root_word : DfOk G d_is_root_word :=
  ⟨by decide +kernel, by kernel_rfl, rfl, rfl, fun _ _ _ _ _ _ us hl => match us, hl with | [_], _ => rfl, rfl, rfl⟩
theorem ok_is_entry : DfOk G d_is_entry :=
  ⟨by decide +kernel, by kernel_rfl, rfl, rfl, fun _ _ _ _ _ _ us hl => match us, hl with | [_], _ => rfl, rfl, rfl⟩
theorem ok__law_next : DfOk G d__law_next :=
  ⟨by decide +kernel, by kernel_rfl, rfl, rfl, fun _ _ _ _ _ _ us hl => match us, hl with | [_, _], _ => rfl, rfl, rfl⟩
theorem ok__law_number : DfOk G d__law_number :=
  ⟨by decide +kernel, by kernel_rfl, rfl, rfl, fun _ _ _ _ _ _ us hl => match us, hl with | [_], _ => rfl, rfl, rfl⟩
theorem ok__law_value : DfOk G d__law_value :=
  ⟨by decide +kernel, by kernel_rfl, rfl, rfl, fun _ _ _ _ _ _ us hl => match us, hl with | [_], _ => rfl, rfl, rfl⟩
theorem ok__law_is_granule : DfOk G d__law_is_granule :=
  ⟨by decide +kernel, by kernel_rfl, rfl, rfl, fun _ _ _ _ _ _ us hl => match us, hl with | [_], _ => rfl, rfl, rfl⟩
theorem ok__law_is_pair : DfOk G d__law_is_pair :=
  ⟨by decide +kernel, by kernel_rfl, rfl, rfl, fun _ _ _ _ _ _ us hl => match us, hl with | [_, _], _ => rfl, rfl, rfl⟩
theorem ok__law_is_leaving : DfOk G d__law_is_leaving :=
  ⟨by decide +kernel, by kernel_rfl, rfl, rfl, fun _ _ _ _ _ _ us hl => match us, hl with | [_], _ => rfl, rfl, rfl⟩
theorem ok__law_is_out : DfOk G d__law_is_out :=
  ⟨by decide +kernel, by kernel_rfl, rfl, rfl, fun _ _ _ _ _ _ us hl => match us, hl with | [_], _ => rfl, rfl, rfl⟩
theorem ok_law : DfOk G d_law :=
  ⟨by decide +kernel, by kernel_rfl, rfl, rfl, fun _ _ _ _ _ _ us hl => match us, hl with | [_], _ => rfl, rfl, rfl⟩
theorem all_ok : ∀ D ∈ DS, DfOk G D := by
  intro D hD
  simp only [DS, List.mem_cons, List.not_mem_nil, or_false] at hD
  rcases hD with rfl | rfl | rfl | rfl | rfl | rfl | rfl | rfl | rfl | rfl | rfl | rfl | rfl | rfl | rfl | rfl
  · exact ok_place_of
  · exact ok_is_granule
  · exact ok_is_pair
  · exact ok_is_leaving
  · exact ok_is_out
  · exact ok_leaf_of
  · exact ok_is_root_word
  · exact ok_is_entry
  · exact ok__law_next
  · exact ok__law_number
  · exact ok__law_value
  · exact ok__law_is_granule
  · exact ok__law_is_pair
  · exact ok__law_is_leaving
  · exact ok__law_is_out
  · exact ok_law
def names : List PySem.Str := (["GRANULES", "WORDS", "place_of", "is_granule", "is_pair", "is_leaving", "is_out", "leaf_of", "is_root_word", "is_entry", "_law_next", "_law_number", "_law_value", "_law_is_granule", "_law_is_pair", "_law_is_leaving", "_law_is_out"] : List PySem.Str)
abbrev R : PySem.W.OpenRow := PySem.W.OpenLaw.row PySem.Challenge.rw_hermithall_k21_words_of_tables
abbrev FA : List He.Fa := FR.map He.Fa.free ++ DS.map fun D => He.Fa.glo D.x
abbrev hk : PySem.W.Hook := hookP 4 FA (DS.map (·.d)) CS
def ob : PySem.W.SharedT → hk.α := obP 4 FA (DS.map (·.d)) CS
theorem run_top (w : World) : HandSHeadRun.RunEq R (PySem.W.view R.prog [19]) hk ob 20000 names w := by
  intro os
  kernel_rfl
theorem ho : ∀ s, ob s = hk.obs s.abs := fun s => obP_eq s
open PySem.W PyProof.Rows in
theorem a1 : opening R.prog = plainProg R.prog.main.scope.names := by kernel_rfl
open PySem.W PyProof.Rows in
theorem a2 : ∀ s, fenceModules? R.prog s = some s := fun s => by kernel_rfl
open PySem.W PyProof.Rows in
theorem a3 : defOf (view R.prog [19]) R.name = some (HandSHeadRun.topDef R.prog 19, []) := by kernel_rfl
open PySem.W PyProof.Rows in
theorem a4 : R.prog.theDef R.name = some ((HandSHeadRun.topDef R.prog 19).params, (HandSHeadRun.topDef R.prog 19).body, (HandSHeadRun.topDef R.prog 19).scope) := by kernel_rfl
open PySem.W PyProof.Rows in
theorem a5 : kwWritten? (HandSHeadRun.topDef R.prog 19).params.kwonlyargs (HandSHeadRun.topDef R.prog 19).params.kw_defaults = some [] := by kernel_rfl
open PySem.W PyProof.Rows in
theorem a6 : (!R.writes || R.records.isEmpty) = true := by rfl
open PySem.W PyProof.Rows in
theorem a8 : (chainsOk (view R.prog [19]) && opensWell R.prog && (frees R.toRowW && R.within.isEmpty)) = true := by decide +kernel
open PySem.W PyProof.Rows in
theorem a9 : R.prog.bare := ⟨rfl, rfl, rfl, rfl, rfl, by decide +kernel⟩
end Lk21

set_option Elab.async false
set_option linter.all false
set_option maxRecDepth 100000
set_option maxHeartbeats 0

open PySem PySem.W PySem.Calls PyProof.Rows
set_option maxRecDepth 100000 in
set_option maxHeartbeats 0 in
theorem PySem.Challenge.cw_hermithall_k21_words_of_tables_holds : PySem.Challenge.rw_hermithall_k21_words_of_tables.Holds := by
  w_on; o_law
  refine @HandSHeadRun.head_any Lk21.R (view Lk21.R.prog [19]) Lk21.hk Lk21.ob 20000 Lk21.names (HandSHeadRun.topDef Lk21.R.prog 19) [] Lk21.ho Lk21.a1 Lk21.a2 Lk21.run_top Lk21.a3 Lk21.a4 Lk21.a5 Lk21.a6 (by first | assumption | decide +kernel) Lk21.a8 Lk21.a9 ?hw ?hc
  case hw => w_witness2
  case hc =>
    refine L2.walk_ofE (l := PySem.Challenge.rw_hermithall_k21_words_of_tables) (n := 63) (k := Lk21.depth + 1) (x := "script") (CX := L2.CX0) rfl (by decide) (by kernel_rfl) ⟨rfl, by decide, by decide⟩ ?F (fun _ _ _ _ z => z)
    intro w mg fa h Y G hmg0
    obtain ⟨K, KX, c, cc⟩ := Y
    have hmg : mg ("law" : PySem.Str) = some (.ref fa) := by
      have e : (HandSHeadRun.topDef (OpenLaw.row PySem.Challenge.rw_hermithall_k21_words_of_tables).prog 19).name = ("law" : PySem.Str) := by kernel_rfl
      rw [← e]
      exact hmg0
    obtain ⟨fd, hb, hF⟩ := HP.law_end (P := (PySem.Challenge.rw_hermithall_k21_words_of_tables).prog) (w := w) (Z := ⟨fun _ => 0, fun _ => []⟩) (DS := Lk21.DS) (CS := Lk21.CS) (FR := Lk21.FR) (k := Lk21.depth) (fuel := Lk21.fuel) (li := 15) (L := Lk21.d_law) Lk21.all_ok rfl rfl (by intro D hD; simp only [Lk21.DS, List.mem_cons, List.not_mem_nil, or_false] at hD; rcases hD with rfl | rfl | rfl | rfl | rfl | rfl | rfl | rfl | rfl | rfl | rfl | rfl | rfl | rfl | rfl | rfl <;> rfl)
      (fun ns hn => by have h := Lk21.plain ns hn; rw [show Lk21.gl = HP.globOf Lk21.CS from HP.globOf_glv rfl] at h; exact h) KX G hmg c cc
    exact ⟨K, fd, HP.spLaw K, KX, hb, fun H a ns hl ho hS => ⟨a, ns, rfl, hl, ho, hS, fun _ => rfl⟩, hF⟩

