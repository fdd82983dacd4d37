import PyProof.Rows.All
import Wide.All
import OpenK.AllK
import Wide.FinOn
import HandS.ForMost
import HandS.ForExc
import HandS.Wide
import HandS.IsInst
import HandS.Property
import HandS.ClsMeth
import HandS.Comp
import HandS.Defaults
import PySem.Challenge.RW_ringfates_k03_sums_and_products
set_option Elab.async false
set_option linter.all false
section
set_option maxRecDepth 100000
/-! Values without a heap, a small language of its own, and its weakest preconditions. -/
namespace RF
open PySem

/-- a value: what never changes is written out; what may change stands in a cell of the store -/
inductive PV where
  | non | bl (b : Bool) | int (i : Int) | str (x : Str)
  | tup (xs : List PV) | lst (xs : List PV) | ins (c : Nat) (fs : List PV)
  | rol (xs : List PV)
  | ref (j : Nat) | cls (c : Nat) | ty (n : String)

structure Exc where
  cls : Nat
  fs : List PV

abbrev Store := List PV
/-- what a def is worth: the arguments, the store, what is wanted of the answer, of an exception -/
abbrev Spec := List PV → Store → (PV → Store → Prop) → (Exc → Store → Prop) → Prop
/-- what an __init__ is worth: it hands back the attributes -/
abbrev ISpec := List PV → Store → (List (Option PV) → Store → Prop) → (Exc → Store → Prop) → Prop

/-- a local: not assigned, a value, a list of its own, an object that is being made -/
inductive SV where
  | no | val (v : PV) | own (v : PV) | ini (a c : Nat) (fs : List (Option PV))

structure Env where
  sl : List SV
  st : Store

/-- the tables of a program: specs by number, methods and properties of a class by name's number, attributes' places -/
structure Sig where
  fn : Nat → Spec
  init : Nat → ISpec
  meth : Nat → Nat → Option Nat
  prop : Nat → Nat → Option Nat
  fld : Nat → Nat → Option Nat
  /-- is an instance of class c one of class d; a class that isinstance may be asked of -/
  sub : Nat → Nat → Option Bool
  isc : Nat → Bool

/-- special methods' numbers: add 0, sub 1, mul 2, floordiv 3, mod 4, neg 5, abs 6, eq 7, bool 8, str 9, repr 10, len 11, contains 12, getitem 13 -/
inductive Pr where
  | add | sub | mul | fdiv | mod | pow | neg
  | lt | le | gt | ge | eq | ne
  | idx | slc (lo hi : Bool) | tup | lst
  | len | abs | min2 | max2 | int1 | repr1 | tup1
  | isi

inductive Tg where
  | nm (i : Nat)
  | tp (is : List Nat)

/-- what a loop walks -/
inductive It where
  | seq | rng1

inductive Ex where
  | var (i : Nat) | pk (i : Nat) | cst (v : PV)
  | pr (p : Pr) (as : List Ex)
  | and (a b : Ex) | or (a b : Ex) | not (a : Ex)
  | ite (c a b : Ex)
  | call (f : Nat) (as : List Ex) (dv : List PV)
  | make (c : Nat) (as : List Ex) (dv : List PV)
  | meth (m : Nat) (o : Ex) (as : List Ex) (dv : List PV)
  | attr (m : Nat) (o : Ex)
  | cmeth (f : Nat) (c : Nat) (as : List Ex) (dv : List PV)
  | comp (elt : Ex) (t : Tg) (k : It) (it : List Ex) (cs : List Ex) (own : List Nat)

inductive Sm where
  | asg (t : Tg) (e : Ex)
  | asgo (i : Nat) (e : Ex)
  | par (is : List Nat) (es : List Ex)
  | seti (o k e : Ex)
  | setf (i m : Nat) (e : Ex)
  | app (i : Nat) (e : Ex) | ext (i : Nat) (e : Ex)
  | ex (e : Ex)
  | ite (c : Ex) (a b : List Sm)
  | whl (c : Ex) (b : List Sm)
  | for (t : Tg) (k : It) (it : List Ex) (b : List Sm)
  | ret (e : Ex) | retc (e : Ex)
  | pass | brk | cnt
  | never

/-! ### values -/
def truth : PV → Option Bool
  | .non => some false
  | .bl b => some b
  | .int i => some (i != 0)
  | .str x => if x.length ≤ sizeLine then some ((x.length : Int) != 0) else none
  | .tup xs => some (!xs.isEmpty)
  | .lst xs => some (!xs.isEmpty)
  | _ => none

def asL (st : Store) : PV → Option (List PV)
  | .lst xs => some xs
  | .rol xs => some xs
  | .ref j => match st[j]? with
    | some (.lst xs) => some xs
    | _ => none
  | _ => none
def asT : PV → Option (List PV)
  | .tup xs => some xs
  | _ => none

/-- xs[i] -/
def pIdx {α : Type} (xs : List α) (i : Int) : Option α := L2.atI xs i
def pCut {α : Type} (xs : List α) (lo hi : Option Int) : List α :=
  (xs.drop (HT.sIx xs.length 0 lo)).take (HT.sIx xs.length xs.length hi - HT.sIx xs.length 0 lo)

mutual
/-- plain data -/
def datum : PV → Option PyData
  | .non => some .none
  | .bl b => some (.bool b)
  | .int i => some (.int i)
  | .str x => some (.str x)
  | .tup xs => (data xs).map .tuple
  | .lst xs => (data xs).map .list
  | _ => none
def data : List PV → Option (List PyData)
  | [] => some []
  | x :: xs => match datum x, data xs with
    | some d, some ds => some (d :: ds)
    | _, _ => none
end

/-- products that the machine reckons -/
def MulOk (i j : Int) : Prop := (i.natAbs < 2 ^ 64 ∨ j.natAbs < 2 ^ 64) ∨ i.natAbs.log2 + j.natAbs.log2 < 1000000
/-- quotients that it reckons -/
def DivOk (j : Int) : Prop := j ≠ 0 ∧ j.natAbs.log2 < 9000

/-- an own special method -/
def dun (G : Sig) (c m : Nat) (vs : List PV) (st : Store) (Q : PV → Store → Prop) (X : Exc → Store → Prop) : Prop :=
  match G.meth c m with
  | some f => G.fn f vs st Q X
  | none => False

def slcArgs (lo hi : Bool) : List PV → Option (Option Int × Option Int)
  | [] => match lo, hi with
    | false, false => some (none, none)
    | _, _ => none
  | [.int a] => match lo, hi with
    | true, false => some (some a, none)
    | false, true => some (none, some a)
    | _, _ => none
  | [.int a, .int b] => match lo, hi with
    | true, true => some (some a, some b)
    | _, _ => none
  | _ => none

/-- is the value an instance of the class c -/
def isIns (G : Sig) (c : Nat) (v : PV) : Option Bool := match G.isc c with
  | true => match v with
    | .ins d _ => G.sub d c
    | .int _ => some false
    | .bl _ => some false
    | .str _ => some false
    | .non => some false
    | .tup _ => some false
    | .lst _ => some false
    | _ => none
  | false => none

/-- an own == that is asked about the value -/
def eqOk (G : Sig) (c : Nat) : PV → Bool
  | .ins d _ => d == c || G.sub d c == some false
  | .int _ => G.isc c
  | .bl _ => G.isc c
  | .str _ => G.isc c
  | .non => G.isc c
  | .tup _ => G.isc c
  | _ => false

def prS (G : Sig) (p : Pr) (vs : List PV) (st : Store) (Q : PV → Store → Prop) (X : Exc → Store → Prop) : Prop :=
  match p with
  | .add => match vs with
    | [.int a, .int b] => Q (.int (a + b)) st
    | [.str a, .str b] => a.length + b.length ≤ sizeLine ∧ Q (.str (a ++ b)) st
    | [.tup a, .tup b] => a ≠ [] ∧ a.length + b.length ≤ sizeLine ∧ Q (.tup (a ++ b)) st
    | [.lst a, .lst b] => a.length + b.length ≤ sizeLine ∧ Q (.lst (a ++ b)) st
    | [.ins c fs, .ins d gs] => c = d ∧ dun G c 0 [.ins c fs, .ins d gs] st Q X
    | _ => False
  | .sub => match vs with
    | [.int a, .int b] => Q (.int (a - b)) st
    | [.ins c fs, .ins d gs] => c = d ∧ dun G c 1 [.ins c fs, .ins d gs] st Q X
    | _ => False
  | .mul => match vs with
    | [.int a, .int b] => MulOk a b ∧ Q (.int (a * b)) st
    | [.ins c fs, .ins d gs] => c = d ∧ dun G c 2 [.ins c fs, .ins d gs] st Q X
    | _ => False
  | .fdiv => match vs with
    | [.int a, .int b] => DivOk b ∧ Q (.int (a.fdiv b)) st
    | [.ins c fs, .ins d gs] => c = d ∧ dun G c 3 [.ins c fs, .ins d gs] st Q X
    | _ => False
  | .mod => match vs with
    | [.int a, .int b] => b ≠ 0 ∧ Q (.int (a.fmod b)) st
    | [.ins c fs, .ins d gs] => c = d ∧ dun G c 4 [.ins c fs, .ins d gs] st Q X
    | _ => False
  | .pow => match vs with
    | [.int a, .int b] => (0 ≤ b ∧ b ≤ 1000000 ∧ a.natAbs < 2 ^ 64) ∧ Q (.int (a ^ b.toNat)) st
    | _ => False
  | .neg => match vs with
    | [.int a] => Q (.int (-a)) st
    | _ => False
  | .lt => match vs with
    | [.int a, .int b] => Q (.bl (decide (a < b))) st
    | _ => False
  | .le => match vs with
    | [.int a, .int b] => Q (.bl (decide (a ≤ b))) st
    | _ => False
  | .gt => match vs with
    | [.int a, .int b] => Q (.bl (decide (b < a))) st
    | _ => False
  | .ge => match vs with
    | [.int a, .int b] => Q (.bl (decide (b ≤ a))) st
    | _ => False
  | .eq => match vs with
    | [.ins c fs, b] => eqOk G c b = true ∧ dun G c 7 [.ins c fs, b] st Q X
    | [.str a, .str b] => Q (.bl (a == b)) st
    | [a, b] => match datum a, datum b with
      | some d, some e => SeqAt.shaped d = true ∧ SeqAt.shaped e = true ∧ Q (.bl (PyData.eqv d e)) st
      | _, _ => False
    | _ => False
  | .ne => match vs with
    | [.ins c fs, b] => eqOk G c b = true ∧ dun G c 7 [.ins c fs, b] st (fun v st' => match v with | .bl k => Q (.bl (!k)) st' | _ => False) X
    | [.str a, .str b] => Q (.bl (!(a == b))) st
    | [a, b] => match datum a, datum b with
      | some d, some e => SeqAt.shaped d = true ∧ SeqAt.shaped e = true ∧ Q (.bl (!PyData.eqv d e)) st
      | _, _ => False
    | _ => False
  | .idx => match vs with
    | [.tup xs, .int i] => match pIdx xs i with
      | some v => Q v st
      | none => False
    | [a, .int i] => match asL st a with
      | some xs => match pIdx xs i with
        | some v => Q v st
        | none => False
      | none => False
    | _ => False
  | .slc lo hi => match vs with
    | [] => False
    | a :: r => match slcArgs lo hi r with
      | none => False
      | some (l, h) => match asL st a with
        | some xs => Q (.lst (pCut xs l h)) st
        | none => False
  | .tup => vs.length ≤ sizeLine ∧ Q (.tup vs) st
  | .lst => vs.length ≤ sizeLine ∧ Q (.lst vs) st
  | .len => match vs with
    | [.tup xs] => Q (.int xs.length) st
    | [a] => match asL st a with
      | some xs => Q (.int xs.length) st
      | none => False
    | _ => False
  | .abs => match vs with
    | [.int a] => Q (.int (if a < 0 then -a else a)) st
    | _ => False
  | .min2 => match vs with
    | [.int a, .int b] => Q (.int (if b < a then b else a)) st
    | _ => False
  | .max2 => match vs with
    | [.int a, .int b] => Q (.int (if b > a then b else a)) st
    | _ => False
  | .int1 => match vs with
    | [.int a] => Q (.int a) st
    | [.bl k] => Q (.int (if k then 1 else 0)) st
    | _ => False
  | .repr1 => match vs with
    | [.tup xs] => match data xs with
      | some ds => ((PyData.tuple ds).showable = true ∧ (PyData.tuple ds).hasDict = false ∧ (PyData.tuple ds).depth ≤ 64) ∧ (PyData.tuple ds).shown.length ≤ sizeLine ∧ Q (.str (PyData.tuple ds).shown) st
      | none => False
    | [.lst xs] => match data xs with
      | some ds => ((PyData.list ds).showable = true ∧ (PyData.list ds).hasDict = false ∧ (PyData.list ds).depth ≤ 64) ∧ (PyData.list ds).shown.length ≤ sizeLine ∧ Q (.str (PyData.list ds).shown) st
      | none => False
    | _ => False
  | .tup1 => match vs with
    | [.tup xs] => Q (.tup xs) st
    | [a] => match asL st a with
      | some xs => Q (.tup xs) st
      | none => False
    | _ => False
  | .isi => match vs with
    | [a, .cls c] => match isIns G c a with
      | some k => Q (.bl k) st
      | none => False
    | _ => False

/-! ### locals -/
def Env.get (env : Env) (i : Nat) : Option PV := match env.sl[i]? with
  | some (.val v) => some v
  | some (.own v) => some v
  | _ => none
def Env.put (env : Env) (i : Nat) (v : SV) : Env := { env with sl := env.sl.set i v }
/-- the place i is a value from now on -/
def Env.frz (env : Env) (i : Nat) : Env := match env.sl[i]? with
  | some (.own v) => env.put i (.val v)
  | _ => env
def Env.puts (env : Env) : List Nat → List PV → Option Env
  | [], [] => some env
  | i :: is, v :: vs => (env.put i (.val v)).puts is vs
  | _, _ => none
def asg (t : Tg) (v : PV) (env : Env) : Option Env := match t with
  | .nm i => some (env.put i (.val v))
  | .tp is => match v with
    | .tup vs => env.puts is vs
    | _ => none
def Env.wipe (env : Env) : List Nat → Env
  | [] => env
  | i :: is => (env.wipe is).put i .no
/-- behind a comprehension: its own names' places as they were ahead of it (values alone) -/
def Env.back (env old : Env) : List Nat → Env
  | [] => env
  | i :: is => match old.sl[i]? with
    | some (.val v) => ((env.put i .no).back old is).put i (.val v)
    | _ => (env.put i .no).back old is

/-- the items that a loop walks -/
def items (k : It) (vs : List PV) (st : Store) : Option (List PV) := match k with
  | .seq => match vs with
    | [.tup xs] => some xs
    | [a] => match a with
      | .lst xs => some xs
      | _ => none
    | _ => none
  | .rng1 => match vs with
    | [.int n] => if n < 2 ^ 62 ∧ -(2 ^ 62) ≤ n then some ((List.range n.toNat).map fun (i : Nat) => PV.int (i : Int)) else none
    | _ => none

/-- turn by turn -/
def loopL {α β : Type} (step : α → β → (β → Prop) → Prop) : List α → β → (β → Prop) → Prop
  | [], b, Q => Q b
  | a :: as, b, Q => step a b fun b' => loopL step as b' Q

def isPk : Ex → Option Nat
  | .pk i => some i
  | _ => none

mutual
def wpE (G : Sig) (X : Exc → Env → Prop) : Ex → Env → (PV → Env → Prop) → Prop
  | .var i, env, Q => match env.get i with
    | some v => Q v (env.frz i)
    | none => False
  | .pk _, _, _ => False
  | .cst v, env, Q => Q v env
  | .pr p as, env, Q => wpAs G X as env fun vs e1 => prS G p vs e1.st (fun v st => Q v { e1 with st := st }) fun e st => X e { e1 with st := st }
  | .and a b, env, Q => wpE G X a env fun v e1 => match truth v with
    | some true => wpE G X b e1 Q
    | some false => Q v e1
    | none => False
  | .or a b, env, Q => wpE G X a env fun v e1 => match truth v with
    | some true => Q v e1
    | some false => wpE G X b e1 Q
    | none => False
  | .not a, env, Q => wpE G X a env fun v e1 => match truth v with
    | some b => Q (.bl (!b)) e1
    | none => False
  | .ite c a b, env, Q => wpT G X c env fun k e1 => match k with
    | true => wpE G X a e1 Q
    | false => wpE G X b e1 Q
  | .call f as dv, env, Q => wpAs G X as env fun vs e1 => G.fn f (vs ++ dv) e1.st (fun v st => Q v { e1 with st := st }) fun e st => X e { e1 with st := st }
  | .make c as dv, env, Q => wpAs G X as env fun vs e1 => G.init c (vs ++ dv) e1.st (fun fs st => match fs.mapM id with
      | some ws => Q (.ins c ws) { e1 with st := st }
      | none => False) fun e st => X e { e1 with st := st }
  | .meth m o as dv, env, Q => wpE G X o env fun v e1 => match v with
    | .ins c fs => match G.meth c m with
      | some f => wpAs G X as e1 fun vs e2 => G.fn f (.ins c fs :: (vs ++ dv)) e2.st (fun v st => Q v { e2 with st := st }) fun e st => X e { e2 with st := st }
      | none => False
    | _ => False
  | .attr m o, env, Q => wpE G X o env fun v e1 => match v with
    | .ins c fs => match G.fld c m with
      | some k => match fs[k]? with
        | some w => Q w e1
        | none => False
      | none => match G.prop c m with
        | some f => G.fn f [.ins c fs] e1.st (fun v st => Q v { e1 with st := st }) fun _ _ => False
        | none => False
    | _ => False
  | .cmeth f c as dv, env, Q => wpAs G X as env fun vs e1 => G.fn f (.cls c :: (vs ++ dv)) e1.st (fun v st => Q v { e1 with st := st }) fun e st => X e { e1 with st := st }
  | .comp elt t k it cs own, env, Q => wpAs G X it env fun vs e1 => match items k vs e1.st with
    | none => False
    | some xs => loopL (fun x (p : Env × List PV) K => match asg t x p.1 with
        | none => False
        | some e2 => wpCs G (fun _ _ => False) cs e2 fun b e3 => match b with
          | true => wpE G (fun _ _ => False) elt e3 fun v e4 => p.2.length < sizeLine ∧ K (e4.wipe own, p.2 ++ [v])
          | false => K (e3.wipe own, p.2)) xs (e1.wipe own, []) fun p => Q (.lst p.2) (p.1.back e1 own)
/-- as a test -/
def wpT (G : Sig) (X : Exc → Env → Prop) : Ex → Env → (Bool → Env → Prop) → Prop
  | .not a, env, Q => wpT G X a env fun b e1 => Q (!b) e1
  | .and a b, env, Q => wpT G X a env fun k e1 => match k with
    | true => wpT G X b e1 Q
    | false => Q false e1
  | .or a b, env, Q => wpT G X a env fun k e1 => match k with
    | true => Q true e1
    | false => wpT G X b e1 Q
  | .var i, env, Q => match env.get i with
    | some v => match truth v with
      | some b => Q b (env.frz i)
      | none => False
    | none => False
  | .cst v, env, Q => match truth v with
    | some b => Q b env
    | none => False
  | .pr p as, env, Q => wpAs G X as env fun vs e1 => prS G p vs e1.st (fun v st => match truth v with
      | some b => Q b { e1 with st := st }
      | none => False) fun e st => X e { e1 with st := st }
  | .call f as dv, env, Q => wpAs G X as env fun vs e1 => G.fn f (vs ++ dv) e1.st (fun v st => match truth v with
      | some b => Q b { e1 with st := st }
      | none => False) fun e st => X e { e1 with st := st }
  | .meth m o as dv, env, Q => wpE G X o env fun v e1 => match v with
    | .ins c fs => match G.meth c m with
      | some f => wpAs G X as e1 fun vs e2 => G.fn f (.ins c fs :: (vs ++ dv)) e2.st (fun v st => match truth v with
          | some b => Q b { e2 with st := st }
          | none => False) fun e st => X e { e2 with st := st }
      | none => False
    | _ => False
  | .attr m o, env, Q => wpE G X o env fun v e1 => match v with
    | .ins c fs => match G.fld c m with
      | some k => match fs[k]? with
        | some w => match truth w with
          | some b => Q b e1
          | none => False
        | none => False
      | none => match G.prop c m with
        | some f => G.fn f [.ins c fs] e1.st (fun v st => match truth v with
          | some b => Q b { e1 with st := st }
          | none => False) fun _ _ => False
        | none => False
    | _ => False
  | _, _, _ => False
/-- a clause's tests -/
def wpCs (G : Sig) (X : Exc → Env → Prop) : List Ex → Env → (Bool → Env → Prop) → Prop
  | [], env, Q => Q true env
  | c :: cs, env, Q => wpT G X c env fun b e1 => match b with
    | true => wpCs G X cs e1 Q
    | false => Q false e1
/-- operands: those that are only looked at are read at the end -/
def wpAs (G : Sig) (X : Exc → Env → Prop) : List Ex → Env → (List PV → Env → Prop) → Prop
  | [], env, Q => Q [] env
  | e :: es, env, Q => match isPk e with
    | some i => (env.get i).isSome = true ∧ wpAs G X es env fun vs e1 => match e1.get i with
      | some v => Q (v :: vs) e1
      | none => False
    | none => wpE G X e env fun v e1 => wpAs G X es e1 fun vs e2 => Q (v :: vs) e2
end

structure Dn where
  nx : Env → Prop
  rt : PV → Store → Prop
  bk : Env → Prop := fun _ => False
  ct : Env → Prop := fun _ => False

def seti (o k v : PV) (st : Store) : Option Store := match o, k with
  | .ref j, .int i => match st[j]? with
    | some (.lst xs) => match L2.ixN xs.length i with
      | some n => some (st.set j (.lst (xs.set n v)))
      | none => none
    | _ => none
  | _, _ => none

mutual
def wpS (G : Sig) (X : Exc → Env → Prop) : Sm → Dn → Env → Prop
  | .asg t e, D, env => wpE G X e env fun v e1 => match asg t v e1 with
    | some e2 => D.nx e2
    | none => False
  | .asgo i e, D, env => wpE G X e env fun v e1 => match v with
    | .lst xs => D.nx (e1.put i (.own (.lst xs)))
    | _ => False
  | .par is es, D, env => wpAs G X es env fun vs e1 => match e1.puts is vs with
    | some e2 => D.nx e2
    | none => False
  | .seti o k e, D, env => wpE G X e env fun v e1 => match isPk o with
    | some i => wpE G X k e1 fun w e2 => match e2.sl[i]?, w with
      | some (.own (.lst xs)), .int n => match L2.ixN xs.length n with
        | some j => D.nx (e2.put i (.own (.lst (xs.set j v))))
        | none => False
      | _, _ => False
    | none => wpE G X o e1 fun u e2 => wpE G X k e2 fun w e3 => match seti u w v e3.st with
      | some st => D.nx { e3 with st := st }
      | none => False
  | .setf i m e, D, env => wpE G X e env fun v e1 => match e1.sl[i]? with
    | some (.ini a c fs) => match G.fld c m with
      | some k => k < fs.length ∧ D.nx (e1.put i (.ini a c (fs.set k (some v))))
      | none => False
    | _ => False
  | .app i e, D, env => wpE G X e env fun v e1 => match e1.sl[i]? with
    | some (.own (.lst xs)) => xs.length < sizeLine ∧ D.nx (e1.put i (.own (.lst (xs ++ [v]))))
    | _ => False
  | .ext i e, D, env => wpE G X e env fun v e1 => match e1.sl[i]?, v with
    | some (.own (.lst xs)), .lst ys => xs.length + ys.length ≤ sizeLine ∧ D.nx (e1.put i (.own (.lst (xs ++ ys))))
    | _, _ => False
  | .ex e, D, env => wpE G X e env fun _ e1 => D.nx e1
  | .ite c a b, D, env => wpT G X c env fun k e1 => match k with
    | true => wpB G X a D e1
    | false => wpB G X b D e1
  | .whl c b, D, env => ∃ W : Nat → Env → Prop, (∃ m, W m env) ∧ ∀ m e1, W m e1 → wpT G X c e1 fun k e2 => match k with
    | true => wpB G X b { D with nx := fun e3 => ∃ m', m' < m ∧ W m' e3, ct := fun e3 => ∃ m', m' < m ∧ W m' e3, bk := D.nx } e2
    | false => D.nx e2
  | .for t k it b, D, env => wpAs G X it env fun vs e1 => match items k vs e1.st with
    | none => False
    | some xs => loopL (fun x e2 K => match asg t x e2 with
        | none => False
        | some e3 => wpB G X b { D with nx := K, ct := K, bk := D.nx } e3) xs e1 D.nx
  | .ret e, D, env => wpE G X e env fun v e1 => D.rt v e1.st
  | .retc e, D, env => wpE G X e env fun v e1 => D.rt (.ref e1.st.length) (e1.st ++ [v])
  | .pass, D, env => D.nx env
  | .brk, D, env => D.bk env
  | .cnt, D, env => D.ct env
  | .never, _, _ => False
def wpB (G : Sig) (X : Exc → Env → Prop) : List Sm → Dn → Env → Prop
  | [], D, env => D.nx env
  | s :: ss, D, env => wpS G X s { D with nx := wpB G X ss D } env
end
end RF

end
section
set_option maxRecDepth 100000
/-! How the clean values lie in the heap. -/
namespace RF
open PySem PySem.Spec L2

/-- what is fixed through a law -/
structure Ctx where
  P : Program
  w : World
  K : PySem.W.Frag
  mg : Str → Option Value
  base : Heap
  /-- a class by its number: where it stands, its attributes -/
  ca : Nat → Addr
  fl : Nat → List Str
  /-- a def by its number: where it stands, its parameters, their defaults; a name by its number -/
  fa : Nat → Addr
  fd : Nat → FuncData
  ps : Nat → List Str
  df : Nat → List PV
  mn : Nat → Str
  /-- the number of the __init__ of a class -/
  ini : Nat → Nat

/-- attributes by their places -/
structure Flds (names : List Str) (vs : List (Option V)) (gs : List (Str × V)) : Prop where
  len : vs.length = names.length
  small : gs.length ≤ vs.countP (·.isSome)
  few : names.length ≤ 900
  nd : names.Nodup
  out : ∀ m, m ∉ names → gs.lookup m = none
  at_ : ∀ (i : Nat) (m : Str) (o : Option V), names[i]? = some m → vs[i]? = some o → gs.lookup m = o

mutual
inductive Rep (C : Ctx) (F : Hp) (mu : List Addr) : PV → V → Prop
  | non : Rep C F mu .non .non
  | bl (b : Bool) : Rep C F mu (.bl b) (.bl b)
  | int (i : Int) : Rep C F mu (.int i) (.int i)
  | str (x : Str) : Rep C F mu (.str x) (.str x)
  | tup {a : Addr} {xs : List PV} {vs : List V} : F a = some (.tup vs) → Reps C F mu xs vs → Rep C F mu (.tup xs) (.ref a)
  | lst {a : Addr} {xs : List PV} {vs : List V} : F a = some (.lst vs) → Reps C F mu xs vs → Rep C F mu (.lst xs) (.ref a)
  | rol {a : Addr} {xs : List PV} {vs : List V} : SqL C.K F a vs → Reps C F mu xs vs → Rep C F mu (.rol xs) (.ref a)
  | ins {a dx : Addr} {c : Nat} {fs : List PV} {vs : List V} {gs : List (Str × V)} : F a = some (.ins (C.ca c) dx gs) → Flds (C.fl c) (vs.map some) gs → Reps C F mu fs vs → Rep C F mu (.ins c fs) (.ref a)
  | ref {j : Nat} {a : Addr} : mu[j]? = some a → Rep C F mu (.ref j) (.ref a)
  | cls (c : Nat) : Rep C F mu (.cls c) (.ref (C.ca c))
  | ty (n : String) : Rep C F mu (.ty n) (.ty n)
inductive Reps (C : Ctx) (F : Hp) (mu : List Addr) : List PV → List V → Prop
  | nil : Reps C F mu [] []
  | cons {x : PV} {v : V} {xs : List PV} {vs : List V} : Rep C F mu x v → Reps C F mu xs vs → Reps C F mu (x :: xs) (v :: vs)
end
/-- attributes, some of them not yet set -/
inductive ORs (C : Ctx) (F : Hp) (mu : List Addr) : List (Option PV) → List (Option V) → Prop
  | nil : ORs C F mu [] []
  | no {xs : List (Option PV)} {vs : List (Option V)} : ORs C F mu xs vs → ORs C F mu (none :: xs) (none :: vs)
  | cons {x : PV} {v : V} {xs : List (Option PV)} {vs : List (Option V)} : Rep C F mu x v → ORs C F mu xs vs → ORs C F mu (some x :: xs) (some v :: vs)

section
variable {C : Ctx} {F F' H H' : Hp} {mu mu' : List Addr}
theorem SqT.same {K : PySem.W.Frag} {a : Addr} {xs : List V} (e : Same F F') (h : SqT K F a xs) : SqT K F' a xs :=
  h.elim (fun z => .inl (z.elim (fun y => .inl (e _ _ y)) fun ⟨o, y⟩ => .inr ⟨o, e _ _ y⟩)) .inr
mutual
theorem Rep.mono (e : Same F F') (m : ∀ (j : Nat) (a : Addr), mu[j]? = some a → mu'[j]? = some a) : ∀ {x : PV} {v : V}, Rep C F mu x v → Rep C F' mu' x v
  | _, _, .non => .non
  | _, _, .bl b => .bl b
  | _, _, .int i => .int i
  | _, _, .str x => .str x
  | _, _, .tup h r => .tup (e _ _ h) (Reps.mono e m r)
  | _, _, .lst h r => .lst (e _ _ h) (Reps.mono e m r)
  | _, _, .rol h r => .rol (e.seq h) (Reps.mono e m r)
  | _, _, .ins h f r => .ins (e _ _ h) f (Reps.mono e m r)
  | _, _, .ref h => .ref (m _ _ h)
  | _, _, .cls c => .cls c
  | _, _, .ty n => .ty n
theorem Reps.mono (e : Same F F') (m : ∀ (j : Nat) (a : Addr), mu[j]? = some a → mu'[j]? = some a) : ∀ {xs : List PV} {vs : List V}, Reps C F mu xs vs → Reps C F' mu' xs vs
  | _, _, .nil => .nil
  | _, _, .cons r t => .cons (Rep.mono e m r) (Reps.mono e m t)
end
theorem ORs.mono (e : Same F F') (m : ∀ (j : Nat) (a : Addr), mu[j]? = some a → mu'[j]? = some a) : ∀ {xs : List (Option PV)} {vs : List (Option V)}, ORs C F mu xs vs → ORs C F' mu' xs vs
  | _, _, .nil => .nil
  | _, _, .no t => .no (ORs.mono e m t)
  | _, _, .cons r t => .cons (r.mono e m) (ORs.mono e m t)
theorem Reps.len : ∀ {xs : List PV} {vs : List V}, Reps C F mu xs vs → xs.length = vs.length
  | _, _, .nil => rfl
  | _, _, .cons _ t => by rw [List.length_cons, List.length_cons, Reps.len t]
theorem Reps.app : ∀ {xs : List PV} {vs : List V} {ys : List PV} {ws : List V}, Reps C F mu xs vs → Reps C F mu ys ws → Reps C F mu (xs ++ ys) (vs ++ ws)
  | _, _, _, _, .nil, t => t
  | _, _, _, _, .cons r s, t => .cons r (Reps.app s t)
theorem Reps.tail {n : Nat} : ∀ {xs : List PV} {vs : List V}, Reps C F mu xs vs → Reps C F mu (xs.drop n) (vs.drop n) := by
  induction n with
  | zero => intro xs vs r; exact r
  | succ n ih =>
    intro xs vs r
    cases r with
    | nil => exact .nil
    | cons _ t => exact ih t
theorem Reps.head {n : Nat} : ∀ {xs : List PV} {vs : List V}, Reps C F mu xs vs → Reps C F mu (xs.take n) (vs.take n) := by
  induction n with
  | zero => intro xs vs r; exact .nil
  | succ n ih =>
    intro xs vs r
    cases r with
    | nil => exact .nil
    | cons h t => exact .cons h (ih t)
theorem Reps.get : ∀ {xs : List PV} {vs : List V} {i : Nat} {x : PV}, Reps C F mu xs vs → xs[i]? = some x → ∃ v, vs[i]? = some v ∧ Rep C F mu x v
  | _, _, _, _, .nil, e => by simp at e
  | _, _, 0, _, .cons r _, e => by simp at e; subst e; exact ⟨_, rfl, r⟩
  | _, _, i + 1, _, .cons _ t, e => by
    obtain ⟨v, h1, h2⟩ := Reps.get (i := i) t (by simpa using e)
    exact ⟨v, by simpa using h1, h2⟩
theorem Reps.set {y : PV} {w : V} (r : Rep C F mu y w) : ∀ {xs : List PV} {vs : List V} (i : Nat), Reps C F mu xs vs → Reps C F mu (xs.set i y) (vs.set i w)
  | _, _, _, .nil => .nil
  | _, _, 0, .cons _ t => .cons r t
  | _, _, i + 1, .cons q t => .cons q (Reps.set r i t)
theorem Reps.split : ∀ {xs ys : List PV} {vs : List V}, Reps C F mu (xs ++ ys) vs → ∃ v1 v2, vs = v1 ++ v2 ∧ Reps C F mu xs v1 ∧ Reps C F mu ys v2
  | [], _, vs, r => ⟨[], vs, rfl, .nil, r⟩
  | x :: xs, ys, vs, r => by
    cases r with
    | cons h t =>
      obtain ⟨v1, v2, e, r1, r2⟩ := Reps.split t
      subst e
      exact ⟨_ :: v1, v2, rfl, .cons h r1, r2⟩
theorem Reps.split' {xs ys : List PV} {v1 v2 : List V} (h : Reps C F mu (xs ++ ys) (v1 ++ v2)) (l : xs.length = v1.length) : Reps C F mu xs v1 ∧ Reps C F mu ys v2 := by
  obtain ⟨w1, w2, e, r1, r2⟩ := h.split
  have l1 := r1.len
  have e1 : w1 = v1 := by
    have := congrArg (List.take v1.length) e
    rw [List.take_left' rfl, ← l, l1, List.take_left' rfl] at this
    exact this.symm
  subst e1
  exact ⟨r1, by rw [List.append_cancel_left e]; exact r2⟩
theorem ORs.len : ∀ {xs : List (Option PV)} {vs : List (Option V)}, ORs C F mu xs vs → xs.length = vs.length
  | _, _, .nil => rfl
  | _, _, .no t => by rw [List.length_cons, List.length_cons, ORs.len t]
  | _, _, .cons _ t => by rw [List.length_cons, List.length_cons, ORs.len t]
theorem ORs.set {y : PV} {w : V} (r : Rep C F mu y w) : ∀ {xs : List (Option PV)} {vs : List (Option V)} (i : Nat), ORs C F mu xs vs → ORs C F mu (xs.set i (some y)) (vs.set i (some w))
  | _, _, _, .nil => .nil
  | _, _, 0, .no t => .cons r t
  | _, _, 0, .cons _ t => .cons r t
  | _, _, i + 1, .no t => .no (ORs.set r i t)
  | _, _, i + 1, .cons q t => .cons q (ORs.set r i t)
theorem ORs.none_at : ∀ {xs : List (Option PV)} {vs : List (Option V)} {i : Nat}, ORs C F mu xs vs → xs[i]? = some none → vs[i]? = some none
  | _, _, _, .nil, e => by simp at e
  | _, _, 0, .no _, e => rfl
  | _, _, 0, .cons _ _, e => by simp at e
  | _, _, i + 1, .no t, e => by
    have := ORs.none_at (i := i) t (by simpa using e)
    simpa using this
  | _, _, i + 1, .cons _ t, e => by
    have := ORs.none_at (i := i) t (by simpa using e)
    simpa using this
theorem ORs.full : ∀ {xs : List (Option PV)} {vs : List (Option V)} {ws : List PV}, ORs C F mu xs vs → xs.mapM id = some ws → ∃ us, vs = us.map some ∧ Reps C F mu ws us
  | _, _, ws, .nil, e => by
    have : ws = [] := by simpa using e.symm
    subst this
    exact ⟨[], rfl, .nil⟩
  | _, _, ws, .no t, e => by simp [List.mapM_cons] at e
  | _, _, ws, .cons (x := x) (xs := xs) (v := v) r t, e => by
    rw [List.mapM_cons] at e
    cases h : xs.mapM id with
    | none => rw [h] at e; simp at e
    | some zs =>
      rw [h] at e
      have e2 : x :: zs = ws := by simpa using e
      subst e2
      obtain ⟨us, e3, r3⟩ := ORs.full t h
      subst e3
      exact ⟨v :: us, rfl, .cons r r3⟩
theorem ORs.fresh : ∀ n : Nat, ORs C F mu (List.replicate n none) (List.replicate n none)
  | 0 => .nil
  | n + 1 => .no (ORs.fresh n)
end

/-- a live thing: a cell of the store, a list of one's own, an object that is being made -/
inductive Live (C : Ctx) (F : Hp) (mu : List Addr) (H : Hp) : SV → Addr → Prop
  | lst {a : Addr} {xs : List PV} {vs : List V} : H a = some (.lst vs) → Reps C F mu xs vs → Live C F mu H (.own (.lst xs)) a
  | ini {a dx : Addr} {c : Nat} {fs : List (Option PV)} {vs : List (Option V)} {gs : List (Str × V)} : H a = some (.ins (C.ca c) dx gs) → Flds (C.fl c) vs gs → ORs C F mu fs vs → Live C F mu H (.ini a c fs) a
theorem Live.mono {C : Ctx} {F F' H H' : Hp} {mu mu' : List Addr} {s : SV} {a : Addr} (h : Live C F mu H s a) (e : Same F F') (m : ∀ (j : Nat) (a : Addr), mu[j]? = some a → mu'[j]? = some a) (k : ∀ o, H a = some o → H' a = some o) : Live C F' mu' H' s a := by
  cases h with
  | lst h r => exact .lst (k _ h) (r.mono e m)
  | ini h f r => exact .ini (k _ h) f (r.mono e m)
theorem Live.there {C : Ctx} {F H : Hp} {mu : List Addr} {s : SV} {a : Addr} (h : Live C F mu H s a) : ∃ o, H a = some o := by
  cases h with
  | lst h _ => exact ⟨_, h⟩
  | ini h _ _ => exact ⟨_, h⟩

def SV.live : SV → Bool
  | .own _ => true
  | .ini _ _ _ => true
  | _ => false

/-- what a def's run leaves alone, and what its callers know of the things that nobody changes -/
structure Frm where
  R : Hp
  P : Hp → List Addr → Prop
  mono : ∀ (F F' : Hp) (mu mu' : List Addr), Same F F' → (∀ (j : Nat) (a : Addr), mu[j]? = some a → mu'[j]? = some a) → P F mu → P F' mu'

structure RelF (C : Ctx) (phi : Frm) (F : Hp) (mu : List Addr) (env : Env) (T : List PV) (sig : L2.St) (T' : List V) (H : Hp) : Prop where
  ext : Same F H
  extR : Same phi.R H
  dis : ∀ a o, phi.R a = some o → F a = none
  len : mu.length = env.st.length
  cel : ∀ (j : Nat) (v : PV) (a : Addr), env.st[j]? = some v → mu[j]? = some a → Live C F mu H (.own v) a ∧ F a = none ∧ phi.R a = none
  nd : mu.Nodup
  sl : env.sl.length = sig.length
  val : ∀ (i : Nat) (v : PV), env.sl[i]? = some (.val v) → ∃ v', sig[i]? = some (some v') ∧ Rep C F mu v v'
  liv : ∀ (i : Nat) (s : SV), env.sl[i]? = some s → s.live = true → ∃ a, sig[i]? = some (some (.ref a)) ∧ Live C F mu H s a ∧ F a = none ∧ phi.R a = none ∧ a ∉ mu
  sep : ∀ (i j : Nat) (s u : SV) (a : Addr), i ≠ j → env.sl[i]? = some s → s.live = true → env.sl[j]? = some u → u.live = true → sig[i]? = some (some (.ref a)) → sig[j]? = some (some (.ref a)) → False
  tmp : Reps C F mu T T'
  frm : phi.P F mu
def Rel (C : Ctx) (phi : Frm) (env : Env) (T : List PV) (sig : L2.St) (T' : List V) (H : Hp) : Prop := ∃ F mu, RelF C phi F mu env T sig T' H

section
variable {C : Ctx} {phi : Frm} {F : Hp} {mu : List Addr} {env : Env} {T : List PV} {sig : L2.St} {T' : List V} {H H' : Hp}
theorem updF {F H : Hp} {a : Addr} {o : HO} (e : Same F H) (h : H a = some o) : Same (upd F a o) H := fun b u hb => by
  by_cases z : b = a
  · subst z; rw [upd_same] at hb; cases hb; exact h
  · rw [upd_ne z] at hb; exact e _ _ hb
theorem Same.updN {F : Hp} {a : Addr} {o : HO} (h : F a = none) : Same F (upd F a o) := fun b u hb => by
  rw [upd_ne (ne_of_none hb h)]; exact hb

/-- the heap has grown -/
theorem RelF.grow (r : RelF C phi F mu env T sig T' H) (e : Same H H') : RelF C phi F mu env T sig T' H' where
  ext := r.ext.trans e
  extR := r.extR.trans e
  dis := r.dis
  len := r.len
  cel := fun j v a h1 h2 => let ⟨l, f, g⟩ := r.cel j v a h1 h2; ⟨l.mono (.refl _) (fun _ _ z => z) (e a), f, g⟩
  nd := r.nd
  sl := r.sl
  val := r.val
  liv := fun i s h1 h2 => let ⟨a, h, l, f⟩ := r.liv i s h1 h2; ⟨a, h, l.mono (.refl _) (fun _ _ z => z) (e a), f⟩
  sep := r.sep
  tmp := r.tmp
  frm := r.frm
/-- a thing that nobody changes is noted as such -/
theorem RelF.add {a : Addr} {o : HO} (r : RelF C phi F mu env T sig T' H) (h : H a = some o) (hF : F a = none) (hR : phi.R a = none) (hmu : a ∉ mu)
    (hs : ∀ (i : Nat) (s : SV), env.sl[i]? = some s → s.live = true → sig[i]? ≠ some (some (.ref a))) : RelF C phi (upd F a o) mu env T sig T' H := by
  have eF : Same F (upd F a o) := Same.updN hF
  refine ⟨updF r.ext h, r.extR, fun b u hb => ?_, r.len, fun j v b h1 h2 => ?_, r.nd, r.sl, fun i v h1 => ?_, fun i s h1 h2 => ?_, r.sep, r.tmp.mono eF fun _ _ z => z, phi.mono _ _ _ _ eF (fun _ _ z => z) r.frm⟩
  · have ne : b ≠ a := fun z => by rw [z, hR] at hb; cases hb
    rw [upd_ne ne]; exact r.dis b u hb
  · obtain ⟨l, f, g⟩ := r.cel j v b h1 h2
    have ne : b ≠ a := fun z => hmu (by rw [← z]; exact List.mem_of_getElem? h2)
    exact ⟨l.mono eF (fun _ _ z => z) fun _ z => z, by rw [upd_ne ne]; exact f, g⟩
  · obtain ⟨v', e, q⟩ := r.val i v h1
    exact ⟨v', e, q.mono eF fun _ _ z => z⟩
  · obtain ⟨b, e, l, f, g, n⟩ := r.liv i s h1 h2
    have ne : b ≠ a := fun z => hs i s h1 h2 (by rw [← z]; exact e)
    exact ⟨b, e, l.mono eF (fun _ _ z => z) fun _ z => z, by rw [upd_ne ne]; exact f, g, n⟩
theorem RelF.notR (r : RelF C phi F mu env T sig T' H) {p : Addr} (h : H p = none) : F p = none ∧ phi.R p = none ∧ p ∉ mu ∧ ∀ (i : Nat) (s : SV), env.sl[i]? = some s → s.live = true → sig[i]? ≠ some (some (.ref p)) := by
  refine ⟨r.ext.free h, r.extR.free h, fun hm => ?_, fun i s h1 h2 q => ?_⟩
  · obtain ⟨j, hj, e⟩ := List.mem_iff_getElem.mp hm
    have h1 : mu[j]? = some p := by rw [List.getElem?_eq_getElem hj, e]
    have h2 : j < env.st.length := by rw [← r.len]; exact hj
    obtain ⟨o, z⟩ := (r.cel j env.st[j] p (List.getElem?_eq_getElem h2) h1).1.there
    rw [h] at z; cases z
  · obtain ⟨b, e, l, _⟩ := r.liv i s h1 h2
    rw [q] at e
    cases e
    obtain ⟨o, z⟩ := l.there
    rw [h] at z; cases z
/-- a new thing that nobody will change -/
theorem RelF.new {p : Addr} {o : HO} (r : RelF C phi F mu env T sig T' H) (h : H p = none) : RelF C phi (upd F p o) mu env T sig T' (upd H p o) := by
  obtain ⟨a, b, c, d⟩ := r.notR h
  exact (r.grow (Same.updN h)).add upd_same a b c d
theorem RelF.temps {T2 : List PV} {T2' : List V} (r : RelF C phi F mu env T sig T' H) (h : Reps C F mu T2 T2') : RelF C phi F mu env T2 sig T2' H :=
  ⟨r.ext, r.extR, r.dis, r.len, r.cel, r.nd, r.sl, r.val, r.liv, r.sep, h, r.frm⟩
theorem RelF.push {v : PV} {v' : V} (r : RelF C phi F mu env T sig T' H) (h : Rep C F mu v v') : RelF C phi F mu env (v :: T) sig (v' :: T') H := r.temps (.cons h r.tmp)
theorem RelF.pop {v : PV} {v' : V} (r : RelF C phi F mu env (v :: T) sig (v' :: T') H) : RelF C phi F mu env T sig T' H := r.temps (by
  have z := r.tmp
  cases z with
  | cons _ t => exact t)
theorem RelF.top {v : PV} {v' : V} (r : RelF C phi F mu env (v :: T) sig (v' :: T') H) : Rep C F mu v v' := by
  have z := r.tmp
  cases z with
  | cons h _ => exact h
theorem RelF.pops {vs : List PV} {vs' : List V} (r : RelF C phi F mu env (vs ++ T) sig (vs' ++ T') H) (l : vs.length = vs'.length) : Reps C F mu vs vs' ∧ RelF C phi F mu env T sig T' H := by
  obtain ⟨z1, z2⟩ := r.tmp.split' l
  exact ⟨z1, r.temps z2⟩
theorem RelF.pushs {vs : List PV} {vs' : List V} (r : RelF C phi F mu env T sig T' H) (h : Reps C F mu vs vs') : RelF C phi F mu env (vs ++ T) sig (vs' ++ T') H := r.temps (h.app r.tmp)

/-- the i-th local is what v says -/
theorem RelF.put {i : Nat} {v : PV} {v' : V} (r : RelF C phi F mu env T sig T' H) (h : Rep C F mu v v') (hi : i < sig.length) : RelF C phi F mu (env.put i (.val v)) T (sig.set i (some v')) T' H := by
  have li : i < env.sl.length := by rw [r.sl]; exact hi
  have key : ∀ (j : Nat) (s : SV), (env.sl.set i (.val v))[j]? = some s → (j = i ∧ s = .val v) ∨ (j ≠ i ∧ env.sl[j]? = some s) := fun j s e => by
    by_cases z : j = i
    · subst z
      rw [List.getElem?_set_self li] at e
      exact .inl ⟨rfl, (Option.some.inj e).symm⟩
    · rw [List.getElem?_set_ne (Ne.symm z)] at e
      exact .inr ⟨z, e⟩
  refine ⟨r.ext, r.extR, r.dis, r.len, r.cel, r.nd, by show (env.sl.set i _).length = (sig.set i _).length; rw [List.length_set, List.length_set]; exact r.sl, fun j w e => ?_, fun j s e hl => ?_, fun j k s u a ne e1 l1 e2 l2 s1 s2 => ?_, r.tmp, r.frm⟩
  · rcases key j _ e with ⟨z, q⟩ | ⟨z, q⟩
    · subst z
      cases q
      exact ⟨v', by rw [List.getElem?_set_self hi], h⟩
    · obtain ⟨w', e2, q2⟩ := r.val j w q
      exact ⟨w', by rw [List.getElem?_set_ne (Ne.symm z)]; exact e2, q2⟩
  · rcases key j _ e with ⟨z, q⟩ | ⟨z, q⟩
    · subst q; cases hl
    · obtain ⟨a, e2, q2⟩ := r.liv j s q hl
      exact ⟨a, by rw [List.getElem?_set_ne (Ne.symm z)]; exact e2, q2⟩
  · rcases key j _ e1 with ⟨z, q⟩ | ⟨z, q⟩
    · subst q; cases l1
    · rcases key k _ e2 with ⟨z', q'⟩ | ⟨z', q'⟩
      · subst q'; cases l2
      · rw [List.getElem?_set_ne (Ne.symm z)] at s1
        rw [List.getElem?_set_ne (Ne.symm z')] at s2
        exact r.sep j k s u a ne q l1 q' l2 s1 s2
/-- .. is forgotten -/
theorem RelF.wipe1 {i : Nat} {o : Option V} (r : RelF C phi F mu env T sig T' H) : RelF C phi F mu (env.put i .no) T (sig.set i o) T' H := by
  have key : ∀ (j : Nat) (s : SV), (env.sl.set i .no)[j]? = some s → s = .no ∨ (j ≠ i ∧ env.sl[j]? = some s) := fun j s e => by
    by_cases z : j = i
    · subst z
      by_cases l : j < env.sl.length
      · rw [List.getElem?_set_self l] at e
        exact .inl (Option.some.inj e).symm
      · rw [List.getElem?_eq_none (by simpa using l)] at e; cases e
    · rw [List.getElem?_set_ne (Ne.symm z)] at e
      exact .inr ⟨z, e⟩
  refine ⟨r.ext, r.extR, r.dis, r.len, r.cel, r.nd, by show (env.sl.set i _).length = (sig.set i _).length; rw [List.length_set, List.length_set]; exact r.sl, fun j w e => ?_, fun j s e hl => ?_, fun j k s u a ne e1 l1 e2 l2 s1 s2 => ?_, r.tmp, r.frm⟩
  · rcases key j _ e with q | ⟨z, q⟩
    · cases q
    · obtain ⟨w', e2, q2⟩ := r.val j w q
      exact ⟨w', by rw [List.getElem?_set_ne (Ne.symm z)]; exact e2, q2⟩
  · rcases key j _ e with q | ⟨z, q⟩
    · subst q; cases hl
    · obtain ⟨a, e2, q2⟩ := r.liv j s q hl
      exact ⟨a, by rw [List.getElem?_set_ne (Ne.symm z)]; exact e2, q2⟩
  · rcases key j _ e1 with q | ⟨z, q⟩
    · subst q; cases l1
    · rcases key k _ e2 with q' | ⟨z', q'⟩
      · subst q'; cases l2
      · rw [List.getElem?_set_ne (Ne.symm z)] at s1
        rw [List.getElem?_set_ne (Ne.symm z')] at s2
        exact r.sep j k s u a ne q l1 q' l2 s1 s2
/-- a list (an object) of one's own comes to stand at the i-th local -/
theorem RelF.putL {i : Nat} {s : SV} {a : Addr} (r : RelF C phi F mu env T sig T' H) (hl : Live C F mu H s a) (hF : F a = none) (hR : phi.R a = none) (hmu : a ∉ mu)
    (hs : ∀ (j : Nat) (u : SV), j ≠ i → env.sl[j]? = some u → u.live = true → sig[j]? ≠ some (some (.ref a))) (hi : i < sig.length) (hsl : s.live = true) : RelF C phi F mu (env.put i s) T (sig.set i (some (.ref a))) T' H := by
  have li : i < env.sl.length := by rw [r.sl]; exact hi
  have key : ∀ (j : Nat) (u : SV), (env.sl.set i s)[j]? = some u → (j = i ∧ u = s) ∨ (j ≠ i ∧ env.sl[j]? = some u) := fun j u e => by
    by_cases z : j = i
    · subst z
      rw [List.getElem?_set_self li] at e
      exact .inl ⟨rfl, (Option.some.inj e).symm⟩
    · rw [List.getElem?_set_ne (Ne.symm z)] at e
      exact .inr ⟨z, e⟩
  refine ⟨r.ext, r.extR, r.dis, r.len, r.cel, r.nd, by show (env.sl.set i _).length = (sig.set i _).length; rw [List.length_set, List.length_set]; exact r.sl, fun j w e => ?_, fun j u e h2 => ?_, fun j k u u2 b ne e1 l1 e2 l2 s1 s2 => ?_, r.tmp, r.frm⟩
  · rcases key j _ e with ⟨z, q⟩ | ⟨z, q⟩
    · rw [← q] at hsl; cases hsl
    · obtain ⟨w', e2, q2⟩ := r.val j w q
      exact ⟨w', by rw [List.getElem?_set_ne (Ne.symm z)]; exact e2, q2⟩
  · rcases key j _ e with ⟨z, q⟩ | ⟨z, q⟩
    · subst z; subst q
      exact ⟨a, by rw [List.getElem?_set_self hi], hl, hF, hR, hmu⟩
    · obtain ⟨b, e2, q2⟩ := r.liv j u q h2
      exact ⟨b, by rw [List.getElem?_set_ne (Ne.symm z)]; exact e2, q2⟩
  · rcases key j _ e1 with ⟨z, q⟩ | ⟨z, q⟩
    · subst z
      rcases key k _ e2 with ⟨z', q'⟩ | ⟨z', q'⟩
      · exact ne z'.symm
      · rw [List.getElem?_set_self hi] at s1
        rw [List.getElem?_set_ne (Ne.symm z')] at s2
        cases s1
        exact hs k u2 z' q' l2 s2
    · rcases key k _ e2 with ⟨z', q'⟩ | ⟨z', q'⟩
      · subst z'
        rw [List.getElem?_set_self hi] at s2
        rw [List.getElem?_set_ne (Ne.symm z)] at s1
        cases s2
        exact hs j u z q l1 s1
      · rw [List.getElem?_set_ne (Ne.symm z)] at s1
        rw [List.getElem?_set_ne (Ne.symm z')] at s2
        exact r.sep j k u u2 b ne q l1 q' l2 s1 s2
end
end RF

end
section
set_option maxRecDepth 100000
set_option maxHeartbeats 1000000
/-! The judgements over the clean values; calls. -/
namespace RF
open PySem PySem.Spec L2 PyProof.Rows

/-- an operand as it lies: a value, or a list of one's own that is only looked at -/
inductive Sh (C : Ctx) (F : Hp) (mu : List Addr) (H : Hp) : PV → V → Prop
  | rep {v : PV} {v' : V} : Rep C F mu v v' → Sh C F mu H v v'
  | own {a : Addr} {xs : List PV} {vs : List V} : H a = some (.lst vs) → Reps C F mu xs vs → Sh C F mu H (.lst xs) (.ref a)
inductive Shs (C : Ctx) (F : Hp) (mu : List Addr) (H : Hp) : List Ex → List PV → List V → Prop
  | nil : Shs C F mu H [] [] []
  | cons {i : Ex} {is : List Ex} {v : PV} {v' : V} {vs : List PV} {vs' : List V} : Sh C F mu H v v' → (isPk i = none → Rep C F mu v v') → Shs C F mu H is vs vs' → Shs C F mu H (i :: is) (v :: vs) (v' :: vs')
theorem Shs.reps {C : Ctx} {F : Hp} {mu : List Addr} {H : Hp} : ∀ {is : List Ex} {vs : List PV} {vs' : List V}, Shs C F mu H is vs vs' → (∀ i ∈ is, isPk i = none) → Reps C F mu vs vs'
  | _, _, _, .nil, _ => .nil
  | _, _, _, .cons _ r t, h => .cons (r (h _ List.mem_cons_self)) (Shs.reps t fun i hi => h i (List.mem_cons_of_mem _ hi))

theorem Shs.len {C : Ctx} {F : Hp} {mu : List Addr} {H : Hp} : ∀ {is : List Ex} {vs : List PV} {vs' : List V}, Shs C F mu H is vs vs' → is.length = vs.length
  | _, _, _, .nil => rfl
  | _, _, _, .cons _ _ t => by rw [List.length_cons, List.length_cons, Shs.len t]

/-- the operands have come -/
def Got (C : Ctx) (phi : Frm) (env : Env) (T : List PV) (sig : L2.St) (T' : List V) (H : Hp) (is : List Ex) (vs : List PV) (vs' : List V) : Prop := ∃ F mu, RelF C phi F mu env T sig T' H ∧ Shs C F mu H is vs vs'

section
variable (C : Ctx) (phi : Frm) (G : Sig) (Kx : Exc → Env → Prop)
def tE (e : Ex) : TE := fun sig H Q => ∃ env T T' K, Rel C phi env T sig T' H ∧ wpE G Kx e env K ∧ ∀ v env' v' H', K v env' → Rel C phi env' (v :: T) sig (v' :: T') H' → Q v' H'
def tT (e : Ex) : TT := fun sig H Q => ∃ env T T' K, Rel C phi env T sig T' H ∧ wpT G Kx e env K ∧ ∀ b env' H', K b env' → Rel C phi env' T sig T' H' → Q b H'
def tO (e : Ex) : TE := match isPk e with
  | some i => tVar i
  | none => tE C phi G Kx e
def tA (es : List Ex) : TA := fun sig H Q => ∃ env T T' K, Rel C phi env T sig T' H ∧ wpAs G Kx es env K ∧ ∀ vs env' vs' H', K vs env' → Got C phi env' T sig T' H' es vs vs' → Q vs' H'
/-- a statement's ends -/
structure Lnk (T : List PV) (T' : List V) (DD : Dn) (D : Ends) : Prop where
  nx : ∀ env sig H, DD.nx env → Rel C phi env T sig T' H → D.nx sig H
  rt : ∀ v v' env sig H, DD.rt v env.st → Rel C phi env (v :: T) sig (v' :: T') H → D.rt v' H
  bk : ∀ env sig H, DD.bk env → Rel C phi env T sig T' H → D.bk sig H
  ct : ∀ env sig H, DD.ct env → Rel C phi env T sig T' H → D.ct sig H
def tS (s : Sm) : TS := fun D sig H => ∃ env T T' DD, Rel C phi env T sig T' H ∧ wpS G Kx s DD env ∧ Lnk C phi T T' DD D
def tB (s : List Sm) : TS := fun D sig H => ∃ env T T' DD, Rel C phi env T sig T' H ∧ wpB G Kx s DD env ∧ Lnk C phi T T' DD D
end

section
variable {C : Ctx} {phi : Frm} {G : Sig} {Kx : Exc → Env → Prop} {F H : Hp} {mu : List Addr} {env : Env} {T : List PV} {sig : L2.St} {T' : List V}
theorem Got.nil (r : Rel C phi env T sig T' H) : Got C phi env T sig T' H [] [] [] := let ⟨F, mu, z⟩ := r; ⟨F, mu, z, .nil⟩
theorem Got.rel {is : List Ex} {vs : List PV} {vs' : List V} (g : Got C phi env T sig T' H is vs vs') : Rel C phi env T sig T' H := let ⟨F, mu, z, _⟩ := g; ⟨F, mu, z⟩
theorem Got.cons {i : Ex} {is : List Ex} {v : PV} {v' : V} {vs : List PV} {vs' : List V} (g : Got C phi env (v :: T) sig (v' :: T') H is vs vs') : Got C phi env T sig T' H (i :: is) (v :: vs) (v' :: vs') := by
  obtain ⟨F, mu, r, s⟩ := g
  exact ⟨F, mu, r.pop, .cons (.rep r.top) (fun _ => r.top) s⟩
theorem RelF.get {i : Nat} {v : PV} (r : RelF C phi F mu env T sig T' H) (h : env.get i = some v) : ∃ v', sig[i]? = some (some v') ∧ Sh C F mu H v v' := by
  unfold Env.get at h
  cases e : env.sl[i]? with
  | none => rw [e] at h; cases h
  | some s =>
    rw [e] at h
    cases s with
    | no => cases h
    | ini a c fs => cases h
    | val w =>
      cases h
      obtain ⟨v', h1, h2⟩ := r.val i _ e
      exact ⟨v', h1, .rep h2⟩
    | own w =>
      cases h
      obtain ⟨a, h1, h2, _⟩ := r.liv i _ e rfl
      cases h2 with
      | lst h2 h3 => exact ⟨_, h1, .own h2 h3⟩
theorem tA_nil {Q : List V → Hp → Prop} (h : tA C phi G Kx [] sig H Q) : Q [] H := by
  obtain ⟨env, T, T', K, r, w, k⟩ := h
  exact k [] env [] H w (Got.nil r)
theorem tA_cons {i : Ex} {is : List Ex} {Q : List V → Hp → Prop} (h : tA C phi G Kx (i :: is) sig H Q) : tO C phi G Kx i sig H fun v' H1 => tA C phi G Kx is sig H1 fun vs' H2 => Q (v' :: vs') H2 := by
  obtain ⟨env, T, T', K, r, w, k⟩ := h
  unfold tO
  cases e : isPk i with
  | some n =>
    have w' : (env.get n).isSome = true ∧ wpAs G Kx is env fun vs e1 => match e1.get n with
      | some v => K (v :: vs) e1
      | none => False := by
      have w0 := w
      rw [wpAs, e] at w0
      exact w0
    obtain ⟨hs, w'⟩ := w'
    obtain ⟨v0, hv0⟩ := Option.isSome_iff_exists.mp hs
    obtain ⟨F, mu, rf⟩ := id r
    obtain ⟨x', hx, _⟩ := rf.get hv0
    refine ⟨x', hx, env, T, T', _, r, w', fun vs e1 vs' H2 hk hg => ?_⟩
    obtain ⟨F2, mu2, rf2, sh2⟩ := hg
    cases e2 : e1.get n with
    | none => simp only [e2] at hk
    | some v =>
      simp only [e2] at hk
      obtain ⟨y', hy, shy⟩ := rf2.get e2
      rw [hx] at hy
      cases hy
      exact k _ _ _ _ hk ⟨F2, mu2, rf2, .cons shy (fun z => by rw [e] at z; cases z) sh2⟩
  | none =>
    have w' : wpE G Kx i env fun v e1 => wpAs G Kx is e1 fun vs e2 => K (v :: vs) e2 := by
      have w0 := w
      rw [wpAs, e] at w0
      exact w0
    exact ⟨env, T, T', _, r, w', fun v e1 v' H1 hk hr => ⟨e1, v :: T, v' :: T', _, hr, hk, fun vs e2 vs' H2 hk2 hg => k _ _ _ _ hk2 hg.cons⟩⟩

theorem RelF.bare (r : RelF C phi F mu env T sig T' H) : RelF C phi F mu ⟨[], env.st⟩ T [] T' H :=
  ⟨r.ext, r.extR, r.dis, r.len, r.cel, r.nd, rfl, fun i v e => by simp at e, fun i s e => by simp at e, fun i j s u a _ e => by simp at e, r.tmp, r.frm⟩
theorem Rel.bare (r : Rel C phi env T sig T' H) : Rel C phi ⟨[], env.st⟩ T [] T' H := let ⟨F, mu, z⟩ := r; ⟨F, mu, z.bare⟩
end

/-! ### what a def promises, over clean values -/
def RelX (C : Ctx) (phi : Frm) (e : Exc) (env : Env) (T : List PV) (sig : L2.St) (T' : List V) (cls : Value) (d : Option Addr) (H : Hp) : Prop :=
  ∃ F mu, RelF C phi F mu env T sig T' H ∧ cls = .ref (C.ca e.cls) ∧ match d with
    | none => e.fs = []
    | some dx => ∃ gs vs, F dx = some (.xd gs) ∧ Flds (C.fl e.cls) (vs.map some) gs ∧ Reps C F mu e.fs vs
def spH (C : Ctx) (n : Nat) (sp : Spec) : Sp := fun vs' H Q E => vs'.length = n ∧ ∃ phi st vs K KX, Rel C phi ⟨[], st⟩ vs [] vs' H ∧ sp vs st K KX ∧
  (∀ v st' v' H', K v st' → Rel C phi ⟨[], st'⟩ [v] [] [v'] H' → Q v' H') ∧ ∀ e st' cls d H', KX e st' → RelX C phi e ⟨[], st'⟩ [] [] [] cls d H' → E cls d H'
/-- as FnOk, with the guards told -/
structure FG (C : Ctx) (k : Nat) (f : Addr) (fd : FuncData) (ps : List Str) (sp : Sp) : Prop where
  len : ∀ vs H Q E, sp vs H Q E → vs.length = ps.length
  run : ∀ (A : Around) (outer : List PySem.Env) (s : Shared) (H : Hp) (args : Args) (us : List Value) (vs : List V) (Q : VK) (E : XK), Room k A → A.guards = some [] → Env0 C.P C.w C.K C.mg C.base A outer s H →
    BindsTo s fd args (ps.zip us) → Vals vs us → sp vs H Q E → codeAny (model C.P C.w) A (.call (.ref f) args) (CR (L2.CX C.P C.w) outer C.P C.w H s Q E) s
section
variable {C : Ctx} {phi : Frm} {G : Sig} {Kx : Exc → Env → Prop} {F H : Hp} {mu : List Addr} {env : Env} {T : List PV} {sig : L2.St} {T' : List V}
open Classical in
/-- what a callee must leave alone: what we must, and the things of our own -/
noncomputable def overR (R : Hp) (env : Env) (sig : L2.St) (H : Hp) : Hp := fun b => if (∃ (i : Nat) (s : SV), env.sl[i]? = some s ∧ s.live = true ∧ sig[i]? = some (some (.ref b))) then H b else R b
/-- the frame of a call -/
theorem RelF.call (r : RelF C phi F mu env T sig T' H) : ∃ phi2 : Frm, (∀ vs vs', Reps C F mu vs vs' → Rel C phi2 ⟨[], env.st⟩ vs [] vs' H) ∧
    (∀ st' X X' H', Rel C phi2 ⟨[], st'⟩ X [] X' H' → Rel C phi { env with st := st' } (X ++ T) sig (X' ++ T') H') ∧
    ∀ e st' cls d H', RelX C phi2 e ⟨[], st'⟩ [] [] [] cls d H' → RelX C phi e { env with st := st' } T sig T' cls d H' := by
  have own : ∀ b, (∃ (i : Nat) (s : SV), env.sl[i]? = some s ∧ s.live = true ∧ sig[i]? = some (some (.ref b))) → F b = none ∧ phi.R b = none ∧ b ∉ mu := by
    rintro b ⟨i, s, h1, h2, h3⟩
    obtain ⟨a, e, _, f, g, n⟩ := r.liv i s h1 h2
    rw [h3] at e
    cases e
    exact ⟨f, g, n⟩
  let phi2 : Frm := ⟨overR phi.R env sig H, fun F' mu' => phi.P F' mu' ∧ Same F F' ∧ ∀ (j : Nat) (a : Addr), mu[j]? = some a → mu'[j]? = some a,
    fun F1 F2 m1 m2 e m h => ⟨phi.mono _ _ _ _ e m h.1, h.2.1.trans e, fun j a z => m _ _ (h.2.2 j a z)⟩⟩
  have back : ∀ F' mu' st' X X' H', RelF C phi2 F' mu' ⟨[], st'⟩ X [] X' H' → RelF C phi F' mu' { env with st := st' } (X ++ T) sig (X' ++ T') H' := by
    intro F' mu' st' X X' H' q
    obtain ⟨hP, eF, em⟩ := q.frm
    have kept : ∀ b, (∃ (i : Nat) (s : SV), env.sl[i]? = some s ∧ s.live = true ∧ sig[i]? = some (some (.ref b))) → (∀ o, H b = some o → H' b = some o) ∧ F' b = none ∧ b ∉ mu' := fun b hb => by
      have eq : phi2.R b = H b := if_pos hb
      obtain ⟨i, s, h1, h2, h3⟩ := hb
      obtain ⟨a, e, l, _⟩ := r.liv i s h1 h2
      rw [h3] at e
      cases e
      obtain ⟨o, ho⟩ := l.there
      refine ⟨fun o' z => q.extR b o' (by rw [eq]; exact z), q.dis b o (by rw [eq]; exact ho), fun hm => ?_⟩
      obtain ⟨j, hj, ej⟩ := List.mem_iff_getElem.mp hm
      have g1 : mu'[j]? = some b := by rw [List.getElem?_eq_getElem hj, ej]
      have g2 : j < st'.length := by rw [← q.len]; exact hj
      have := (q.cel j st'[j] b (List.getElem?_eq_getElem g2) g1).2.2
      rw [eq, ho] at this; cases this
    have oldR : ∀ a o, phi.R a = some o → phi2.R a = some o := fun a o z => by
      have : ¬ ∃ (i : Nat) (s : SV), env.sl[i]? = some s ∧ s.live = true ∧ sig[i]? = some (some (.ref a)) := fun hb => by
        rw [(own a hb).2.1] at z; cases z
      exact (if_neg this).trans z
    have noR : ∀ a, phi2.R a = none → phi.R a = none := fun a z => by
      cases e : phi.R a with
      | none => rfl
      | some o => rw [oldR a o e] at z; cases z
    refine ⟨q.ext, fun a o z => q.extR a o (oldR a o z), fun a o z => q.dis a o (oldR a o z), q.len, fun j v a h1 h2 => ?_, q.nd, r.sl, fun i v h1 => ?_, fun i s h1 h2 => ?_, r.sep, q.tmp.app (r.tmp.mono eF em), hP⟩
    · obtain ⟨l, f, g⟩ := q.cel j v a h1 h2
      exact ⟨l, f, noR a g⟩
    · obtain ⟨v', e, p⟩ := r.val i v h1
      exact ⟨v', e, p.mono eF em⟩
    · obtain ⟨a, e, l, f, g, n⟩ := r.liv i s h1 h2
      obtain ⟨k1, k2, k3⟩ := kept a ⟨i, s, h1, h2, e⟩
      exact ⟨a, e, l.mono eF em k1, k2, g, k3⟩
  refine ⟨phi2, fun vs vs' h => ⟨F, mu, ⟨r.ext, fun b o z => ?_, fun b o z => ?_, r.len, fun j v a h1 h2 => ?_, r.nd, rfl, fun i v e => by simp at e, fun i s e => by simp at e, fun i j s u a _ e => by simp at e, h, ⟨r.frm, .refl _, fun _ _ z => z⟩⟩⟩,
    fun st' X X' H' ⟨F', mu', q⟩ => ⟨F', mu', back F' mu' st' X X' H' q⟩, fun e st' cls d H' ⟨F', mu', q, rest⟩ => ⟨F', mu', back F' mu' st' [] [] H' q, rest⟩⟩
  · by_cases hb : ∃ (i : Nat) (s : SV), env.sl[i]? = some s ∧ s.live = true ∧ sig[i]? = some (some (.ref b))
    · have eq : phi2.R b = H b := if_pos hb
      rw [eq] at z; exact z
    · have eq : phi2.R b = phi.R b := if_neg hb
      rw [eq] at z; exact r.extR _ _ z
  · by_cases hb : ∃ (i : Nat) (s : SV), env.sl[i]? = some s ∧ s.live = true ∧ sig[i]? = some (some (.ref b))
    · exact (own b hb).1
    · have eq : phi2.R b = phi.R b := if_neg hb
      rw [eq] at z; exact r.dis _ _ z
  · obtain ⟨l, f, g⟩ := r.cel j v a h1 h2
    refine ⟨l, f, ?_⟩
    by_cases hb : ∃ (i : Nat) (s : SV), env.sl[i]? = some s ∧ s.live = true ∧ sig[i]? = some (some (.ref a))
    · exact absurd (List.mem_of_getElem? h2) (own a hb).2.2
    · exact (if_neg hb).trans g
end
end RF

end
section
set_option maxRecDepth 100000
set_option maxHeartbeats 1000000
/-! Calls of the text's own defs. -/
namespace RF
open PySem PySem.Spec L2 PyProof.Rows

structure XIs (C : Ctx) (X : Cx) : Prop where
  prog : X.prog = C.P
  w : X.w = C.w
  K : X.K = C.K
  mg : X.mg = C.mg
  base : X.base = C.base
  gd : X.A.guards = some []

/-- an answer has come -/
def GPost (C : Ctx) (phi : Frm) (X : Cx) (pins : List (Addr × Obj)) (sig : L2.St) (T : List PV) (T' : List V) (K : PV → Env → Prop) : Value → Shared → Prop :=
  EP X pins sig fun v' H' => ∃ v env', K v env' ∧ Rel C phi env' (v :: T) sig (v' :: T') H'
def EXc (C : Ctx) (phi : Frm) (Kx : Exc → Env → Prop) (sig : L2.St) : XK := fun cls d H' => ∃ e env T T', RelX C phi e env T sig T' cls d H' ∧ Kx e env
/-- an exception of a callee is taken -/
def XPass (C : Ctx) (phi : Frm) (X : Cx) (Kx : Exc → Env → Prop) : Prop := ∀ sig, PassesAt (L2.CX X.prog X.w) X sig (EXc C phi Kx sig)

section
variable {C : Ctx} {phi : Frm} {X : Cx} {G : Sig} {Kx : Exc → Env → Prop} {F H : Hp} {mu : List Addr} {env : Env} {T : List PV} {sig : L2.St} {T' : List V} {pins : List (Addr × Obj)} {s : Shared}
theorem tE_post {e : Expr} {i : Ex} (h : PE X e (tE C phi G Kx i)) {K : PV → Env → Prop} (I : Inv X pins sig H s) (r : Rel C phi env T sig T' H) (w : wpE G Kx i env K) :
    wpAny (model X.prog X.w) X.A (eval e X.env) (GPost C phi X pins sig T T' K) X.xe s :=
  h.run pins s sig H _ I ⟨env, T, T', K, r, w, fun v env' v' H' k r => ⟨v, env', k, r⟩⟩
theorem post_tE {Q : VK} {K : PV → Env → Prop} {u : Value} {s' : Shared} (h : GPost C phi X pins sig T T' K u s') (k : ∀ v env' v' H', K v env' → Rel C phi env' (v :: T) sig (v' :: T') H' → Q v' H') : EP X pins sig Q u s' := by
  obtain ⟨v', H', I, r, v, env', hk, hr⟩ := h
  exact ⟨v', H', I, r, k _ _ _ _ hk hr⟩

/-- a def of the text is called, somewhere in X -/
theorem run_at {A' : Around} {k : Nat} {f : Addr} {fd : FuncData} {ps : List Str} {sp : Sp} {args : Args} {us : List Value} {vs' : List V} {Q : VK}
    (hX : XIs C X) (FF : FG C k f fd ps sp) (hr : Room k A') (hg : A'.guards = some []) (hfr : A'.frames = X.A.frames) (I : Inv X pins sig H s) (hb : BindsTo s fd args (ps.zip us)) (rv : Vals vs' us)
    (hsp : sp vs' H Q (EXc C phi Kx sig)) (hx : XPass C phi X Kx) :
    codeAny (model X.prog X.w) A' (.call (.ref f) args) (fun r s' => match r with
      | .ok (.ret u) => EP X pins sig Q u s'
      | .ok _ => False
      | .error e => X.xe e s') s := by
  have e0 : Env0 C.P C.w C.K C.mg C.base A' X.stack s H := by
    have e := I.env0
    rw [hX.prog, hX.w, hX.K, hX.mg, hX.base] at e
    exact ⟨hfr.trans e.frames, e.mod, e.bs, e.bsz, e.funs, e.frf, e.hok, e.bare⟩
  have run := FF.run A' X.stack s H args us vs' _ _ hr hg e0 hb rv hsp
  rw [hX.prog, hX.w]
  refine codeAny_mono run fun r s' hq => ?_
  cases r with
  | error e =>
    have hq' : L2.CX C.P C.w X.stack H s (EXc C phi Kx sig) e s' := hq
    rw [← hX.prog, ← hX.w] at hq'
    exact hx sig pins H s e s' I hq'
  | ok fl =>
    cases fl with
    | ret u =>
      have hq' : CE X.stack C.P C.w H s _ u s' := hq
      rw [← hX.prog, ← hX.w] at hq'
      exact I.after hq'
    | next => exact False.elim hq
    | brk => exact False.elim hq
    | cont => exact False.elim hq
theorem spH_of {n : Nat} {sp : Spec} {vs : List PV} {vs' : List V} {K : PV → Env → Prop} (rf : RelF C phi F mu env T sig T' H) (hv : Reps C F mu vs vs') (hn : vs'.length = n)
    (w : sp vs env.st (fun v st => K v { env with st := st }) fun e st => Kx e { env with st := st }) : spH C n sp vs' H (fun v' H' => ∃ v env', K v env' ∧ Rel C phi env' (v :: T) sig (v' :: T') H') (EXc C phi Kx sig) := by
  obtain ⟨phi2, h1, h2, h3⟩ := rf.call
  exact ⟨hn, phi2, env.st, vs, _, _, h1 _ _ hv, w, fun v st' v' H' k q => ⟨v, _, k, h2 st' [v] [v'] H' q⟩, fun e st' cls d H' k q => ⟨e, _, T, T', h3 e st' cls d H' q, k⟩⟩
theorem call_at {A' : Around} {k n : Nat} {f : Addr} {fd : FuncData} {ps : List Str} {sp : Spec} {args : Args} {us : List Value} {vs : List PV} {vs' : List V} {K : PV → Env → Prop}
    (hX : XIs C X) (FF : FG C k f fd ps (spH C n sp)) (hr : Room k A') (hg : A'.guards = some []) (hfr : A'.frames = X.A.frames) (I : Inv X pins sig H s) (hb : BindsTo s fd args (ps.zip us)) (rv : Vals vs' us)
    (rf : RelF C phi F mu env T sig T' H) (hv : Reps C F mu vs vs') (hn : vs'.length = n) (w : sp vs env.st (fun v st => K v { env with st := st }) fun e st => Kx e { env with st := st }) (hx : XPass C phi X Kx) :
    codeAny (model X.prog X.w) A' (.call (.ref f) args) (fun r s' => match r with
      | .ok (.ret u) => GPost C phi X pins sig T T' K u s'
      | .ok _ => False
      | .error e => X.xe e s') s := run_at hX FF hr hg hfr I hb rv (spH_of rf hv hn w) hx
/-- .. by its address, with values -/
theorem call_fn {A' : Around} {k n : Nat} {f : Addr} {fd : FuncData} {ps : List Str} {sp : Spec} {us ds : List Value} {dvs : List V} {vs : List PV} {vs' : List V} {K : PV → Env → Prop}
    (hX : XIs C X) (FF : FG C k f fd ps (spH C n sp)) (hr : Room k A') (hg : A'.guards = some []) (hfr : A'.frames = X.A.frames) (I : Inv X pins sig H s) (hb : Binds C.K fd ps ds) (rd : Vals dvs ds) (rv : Vals vs' us)
    (rf : RelF C phi F mu env T sig T' H) (hv : Reps C F mu vs (vs' ++ dvs)) (hn : (vs' ++ dvs).length = n) (hp : ps.length = n) (w : sp vs env.st (fun v st => K v { env with st := st }) fun e st => Kx e { env with st := st }) (hx : XPass C phi X Kx) :
    wpAny (model X.prog X.w) A' (call (.ref f) us) (GPost C phi X pins sig T T' K) X.xe s := by
  have r2 : Vals (vs' ++ dvs) (us ++ ds) := rv.append rd
  refine wpAny_call (codeAny_mono (call_at hX FF hr hg hfr I (args := ⟨us, []⟩) (us := us ++ ds) (hb s us (by rw [← hX.K]; exact I.kIn) (by rw [← r2.length, hn, hp])) r2 rf hv hn w hx) fun r s' hq => ?_)
  cases r with
  | error e => exact hq
  | ok fl =>
    cases fl with
    | ret u => exact hq
    | next => exact hq.elim
    | brk => exact hq.elim
    | cont => exact hq.elim
end

/-! ### the facts of a def as it stands behind the top -/
/-- any number of the last parameters may be left to their defaults -/
structure FT (C : Ctx) (f : Addr) (fd : FuncData) (ps : List Str) (df : List PV) : Prop where
  kp : PySem.W.keepIn C.K (.ref f) = true
  binds : ∀ m, ps.length ≤ m + df.length → m ≤ ps.length → ∃ ds dvs, Binds C.K fd ps ds ∧ Vals dvs ds ∧ (∀ F mu, Reps C F mu (df.drop (m + df.length - ps.length)) dvs)
theorem FT.plain {C : Ctx} {f : Addr} {fd : FuncData} {ps : List Str} (kp : PySem.W.keepIn C.K (.ref f) = true) (b : Binds C.K fd ps []) : FT C f fd ps [] :=
  ⟨kp, fun _ _ _ => ⟨[], [], b, .nil, fun _ _ => by rw [List.drop_nil]; exact .nil⟩⟩

/-- what an __init__ promises: self stands in the frame's first slot -/
def spI (C : Ctx) (c n : Nat) (isp : ISpec) : Sp := fun vs' H Q E => vs'.length = n ∧ ∃ phi st vs x ws' K KX, vs' = .ref x :: ws' ∧ Rel C phi ⟨[.ini x c (List.replicate (C.fl c).length none)], st⟩ vs [some (.ref x)] ws' H ∧ isp vs st K KX ∧
  (∀ fs st' H', K fs st' → Rel C phi ⟨[.ini x c fs], st'⟩ [] [some (.ref x)] [] H' → Q .non H') ∧ ∀ e st' cls d H', KX e st' → RelX C phi e ⟨[], st'⟩ [] [] [] cls d H' → E cls d H'
/-- the facts of all that a body may lean on -/
structure Tab (C : Ctx) (G : Sig) (k : Nat) : Prop where
  fn : ∀ f, (∃ vs st Q X, G.fn f vs st Q X) → FT C (C.fa f) (C.fd f) (C.ps f) (C.df f) ∧ FG C k (C.fa f) (C.fd f) (C.ps f) (spH C (C.ps f).length (G.fn f)) ∧ ∀ vs st Q X, G.fn f vs st Q X → vs.length = (C.ps f).length
  ini : ∀ c, (∃ vs st Q X, G.init c vs st Q X) → Mk C.K (C.ca c) (C.fa (C.ini c)) ∧ FT C (C.fa (C.ini c)) (C.fd (C.ini c)) (C.ps (C.ini c)) (C.df (C.ini c)) ∧ FG C k (C.fa (C.ini c)) (C.fd (C.ini c)) (C.ps (C.ini c)) (spI C c (C.ps (C.ini c)).length (G.init c)) ∧ ∀ vs st Q X, G.init c vs st Q X → vs.length + 1 = (C.ps (C.ini c)).length
  prop : ∀ c m f, G.prop c m = some f → Cls C.K (C.ca c) ∧ ∃ p, PropOf C.K (C.ca c) (C.mn m) p (C.fa f)
  meth : ∀ c m f, G.meth c m = some f → Cls C.K (C.ca c) ∧ Meth C.K (C.ca c) (C.mn m) (C.fa f) ∧ C.mn m ∉ C.fl c ∧ PySem.W.selfFirst C.K (C.ca c) = true
  fld : ∀ c m i, G.fld c m = some i → Cls C.K (C.ca c) ∧ NoAttr C.K (C.ca c) (C.mn m) ∧ (C.fl c)[i]? = some (C.mn m)
  isb : ∀ c, G.isc c = true → ∀ n, n ∈ ["int", "bool", "str", "NoneType", "tuple", "list"] → PySem.W.kitOne C.K (.type n) (.ref (C.ca c)) = some false ∧ PySem.W.subIn C.K (.type n) (.ref (C.ca c)) = some false
  isi : ∀ d c b, G.sub d c = some b → PySem.W.kitOne C.K (.ref (C.ca d)) (.ref (C.ca c)) = some b ∧ PySem.W.subIn C.K (.ref (C.ca d)) (.ref (C.ca c)) = some b ∧ Cls C.K (C.ca d) ∧ PySem.W.findIn C.K (.ref (C.ca d)) "__class__" = some (some (.builtin "object.__class__")) ∧
    PySem.W.specialIn C.K (.builtin "object.__class__") "__get__" = some (some (.builtin "getset_descriptor.__get__")) ∧ PySem.W.takesIn C.K (.builtin "object.__class__") = some true ∧ PySem.W.mroIn C.K (C.ca d) (.type "object") = some true
  fls : ∀ c, (C.fl c).length ≤ 900 ∧ (C.fl c).Nodup
  ne : ∀ c f, G.meth c 7 = some f → PySem.W.findIn C.K (.ref (C.ca c)) "__ne__" = some (some (.builtin "object.__ne__")) ∧ PySem.W.mroIn C.K (C.ca c) (.type "object") = some true
  mn0 : C.mn 0 = ("__add__" : Str)
  mn1 : C.mn 1 = ("__sub__" : Str)
  mn2 : C.mn 2 = ("__mul__" : Str)
  mn3 : C.mn 3 = ("__floordiv__" : Str)
  mn4 : C.mn 4 = ("__mod__" : Str)
  mn5 : C.mn 5 = ("__neg__" : Str)
  mn7 : C.mn 7 = ("__eq__" : Str)
end RF

end
section
set_option maxRecDepth 100000
set_option maxHeartbeats 1000000
/-! Expressions: what the clean semantics says holds in the machine. -/
namespace RF
open PySem PySem.Spec L2 PyProof.Rows

/-- what a body's walk leans on -/
structure XOk (C : Ctx) (G : Sig) (k : Nat) (phi : Frm) (Kx : Exc → Env → Prop) (X : Cx) : Prop extends XIs C X where
  calm : X.calm = true
  room1 : Room (k + 1) X.A
  tab : Tab C G k
  pass : XPass C phi X Kx

theorem XOk.room {C : Ctx} {G : Sig} {k : Nat} {phi : Frm} {Kx : Exc → Env → Prop} {X : Cx} (o : XOk C G k phi Kx X) : Room k X.A := o.room1.mono (Nat.le_succ k)
section
variable {C : Ctx} {phi : Frm} {X : Cx} {G : Sig} {Kx : Exc → Env → Prop} {k : Nat} {F H : Hp} {mu : List Addr} {env : Env} {T : List PV} {sig : L2.St} {T' : List V} {pins : List (Addr × Obj)} {s : Shared}

/-! ### locals -/
theorem set_get {α : Type} {l : List α} {i : Nat} {x : α} (h : l[i]? = some x) : l.set i x = l := by
  apply List.ext_getElem?
  intro j
  by_cases e : i = j
  · subst e
    have hl : i < l.length := (List.getElem?_eq_some_iff.mp h).1
    rw [List.getElem?_set_self hl, h]
  · rw [List.getElem?_set_ne e]
theorem RelF.drop1 {i : Nat} (r : RelF C phi F mu env T sig T' H) : RelF C phi F mu (env.put i .no) T sig T' H := by
  cases h : sig[i]? with
  | some o =>
    have q := r.wipe1 (i := i) (o := o)
    rw [set_get h] at q
    exact q
  | none =>
    have hl : env.sl.set i .no = env.sl := by
      apply List.set_eq_of_length_le
      rw [r.sl]
      exact List.getElem?_eq_none_iff.mp h
    have e : env.put i .no = env := by
      unfold Env.put
      rw [hl]
    rw [e]
    exact r
theorem put_put {env : Env} {i : Nat} {a b : SV} : (env.put i a).put i b = env.put i b := by
  unfold Env.put
  simp [List.set_set]
/-- a list of one's own becomes a value -/
theorem RelF.freeze {i : Nat} {v : PV} (r : RelF C phi F mu env T sig T' H) (h : env.sl[i]? = some (.own v)) : ∃ F' a, RelF C phi F' mu (env.put i (.val v)) T sig T' H ∧ sig[i]? = some (some (.ref a)) ∧ Rep C F' mu v (.ref a) := by
  obtain ⟨a, e, l, hF, hR, hm⟩ := r.liv i _ h rfl
  have hi : i < sig.length := (List.getElem?_eq_some_iff.mp e).1
  have r1 := r.drop1 (i := i)
  have key : ∀ (j : Nat) (u : SV), (env.put i .no).sl[j]? = some u → u.live = true → sig[j]? ≠ some (some (.ref a)) := fun j u h1 h2 h3 => by
    by_cases z : j = i
    · subst z
      have : (env.sl.set j .no)[j]? = some u := h1
      rw [List.getElem?_set_self (by rw [r.sl]; exact hi)] at this
      cases this
      cases h2
    · have h1' : (env.sl.set i .no)[j]? = some u := h1
      rw [List.getElem?_set_ne (Ne.symm z)] at h1'
      exact r.sep i j _ u a (Ne.symm z) h rfl h1' h2 e h3
  cases l with
  | @lst _ xs vs hl rl =>
    have r2 := r1.add hl hF hR hm key
    have eF : Same F (upd F a (.lst vs)) := Same.updN hF
    have rep : Rep C (upd F a (.lst vs)) mu (.lst xs) (.ref a) := .lst upd_same (rl.mono eF fun _ _ z => z)
    have r3 := r2.put (i := i) rep hi
    rw [set_get e, put_put] at r3
    exact ⟨_, a, r3, e, rep⟩
theorem e_var {x : Str} {pos : Pos} {i : Nat} (hN : X.N[i]? = some x) (hv : Vis X.env.scope x) (hd : (x == ("__debug__" : Str)) = false) (hcd : (x == ("__classdict__" : Str)) = false) : PE X (.Name x pos) (tE C phi G Kx (.var i)) := by
  refine ⟨fun pins s σ H Q I h => ?_⟩
  obtain ⟨env, T, T', K, ⟨F, mu, r⟩, w, k⟩ := h
  have w' : match env.get i with | some v => K v (env.frz i) | none => False := by
    rw [wpE] at w; exact w
  cases e : env.get i with
  | none => simp only [e] at w'
  | some v =>
    simp only [e] at w'
    have : tVar i σ H Q := by
      unfold Env.get at e
      cases e2 : env.sl[i]? with
      | none => rw [e2] at e; cases e
      | some sv =>
        rw [e2] at e
        cases sv with
        | no => cases e
        | ini a c fs => cases e
        | val u =>
          cases e
          obtain ⟨v', h1, h2⟩ := r.val i _ e2
          refine ⟨v', h1, k _ _ _ _ w' ?_⟩
          have : env.frz i = env := by unfold Env.frz; rw [e2]
          rw [this]
          exact ⟨F, mu, r.push h2⟩
        | own u =>
          cases e
          obtain ⟨F', a, r2, h1, h2⟩ := r.freeze e2
          refine ⟨.ref a, h1, k _ _ _ _ w' ?_⟩
          have : env.frz i = env.put i (.val v) := by unfold Env.frz; rw [e2]
          rw [this]
          exact ⟨F', mu, r2.push h2⟩
    exact (pe_var hN hv hd hcd).run pins s σ H Q I this
/-- an operand that is only looked at -/
theorem o_pk {x : Str} {pos : Pos} {i : Nat} (hN : X.N[i]? = some x) (hv : Vis X.env.scope x) (hd : (x == ("__debug__" : Str)) = false) (hcd : (x == ("__classdict__" : Str)) = false) : PE X (.Name x pos) (tO C phi G Kx (.pk i)) := pe_var hN hv hd hcd
theorem tO_of {e : Expr} {i : Ex} (h : isPk i = none) (p : PE X e (tE C phi G Kx i)) : PE X e (tO C phi G Kx i) := by
  unfold tO
  rw [h]
  exact p
/-- a constant -/
theorem peImp {e : Expr} {t t' : TE} (h : PE X e t) (i : ∀ sig H Q, t' sig H Q → t sig H Q) : PE X e t' := ⟨fun pins s sig H Q I q => h.run pins s sig H Q I (i _ _ _ q)⟩
theorem e_cst {e : Expr} {v : PV} {v' : V} (h : PE X e (tC v')) (r : ∀ F mu, Rep C F mu v v') : PE X e (tE C phi G Kx (.cst v)) := peImp h fun sig H Q ⟨env, T, T', K, ⟨F, mu, rf⟩, w, k⟩ => by
  rw [wpE] at w
  exact k v env v' H w ⟨F, mu, rf.push (r F mu)⟩

/-! ### operations -/
/-- an operation keeps what prS says -/
def PrOk (C : Ctx) (phi : Frm) (G : Sig) (Kx : Exc → Env → Prop) (X : Cx) (p : Pr) (f : List Value → Sem Value) : Prop :=
  ∀ (pins : List (Addr × Obj)) (s : Shared) (sig : L2.St) (H : Hp) (env : Env) (T : List PV) (T' : List V) (K : PV → Env → Prop) (is : List Ex) (vs : List PV) (vs' : List V) (us : List Value),
    Inv X pins sig H s → Got C phi env T sig T' H is vs vs' → Vals vs' us → prS G p vs env.st (fun v st => K v { env with st := st }) (fun e st => Kx e { env with st := st }) →
    wpAny (model X.prog X.w) X.A (f us) (GPost C phi X pins sig T T' K) X.xe s
theorem gp {K : PV → Env → Prop} {v : PV} {v' : V} {u : Value} {s' : Shared} (I : Inv X pins sig H s') (rv : RelV v' u) (r : Rel C phi env (v :: T) sig (v' :: T') H) (k : K v env) : GPost C phi X pins sig T T' K u s' :=
  ⟨v', H, I, rv, v, env, k, r⟩
/-- two operands, then the operation -/
theorem ops2 {a b : Expr} {ia ib : Ex} (ha : PE X a (tO C phi G Kx ia)) (hb : PE X b (tO C phi G Kx ib)) (I : Inv X pins sig H s) {K : List PV → Env → Prop} (r : Rel C phi env T sig T' H) (w : wpAs G Kx [ia, ib] env K)
    {α : Type} {Q : α → Shared → Prop} {f : Value → Value → Sem α}
    (hf : ∀ v u s2 x y H2 vs env2, Inv X pins sig H2 s2 → RelV x v → RelV y u → Got C phi env2 T sig T' H2 [ia, ib] vs [x, y] → K vs env2 → wpAny (model X.prog X.w) X.A (f v u) Q X.xe s2) :
    wpAny (model X.prog X.w) X.A (eval a X.env) (fun v s1 => wpAny (model X.prog X.w) X.A (eval b X.env) (fun u s2 => wpAny (model X.prog X.w) X.A (f v u) Q X.xe s2) X.xe s1) X.xe s := by
  have h : tA C phi G Kx [ia, ib] sig H fun vs' H' => ∃ vs env2, K vs env2 ∧ Got C phi env2 T sig T' H' [ia, ib] vs vs' := ⟨env, T, T', K, r, w, fun vs env2 vs' H' k g => ⟨vs, env2, k, g⟩⟩
  refine thn (ha.run pins s sig H _ I (tA_cons h)) fun v s1 ⟨x, H1, I1, r1, q1⟩ => ?_
  refine thn (hb.run pins s1 sig H1 _ I1 (tA_cons q1)) fun u s2 ⟨y, H2, I2, r2, q2⟩ => ?_
  obtain ⟨vs, env2, k, g⟩ := tA_nil q2
  exact hf v u s2 x y H2 vs env2 I2 r1 r2 g k
theorem ops1 {a : Expr} {ia : Ex} (ha : PE X a (tO C phi G Kx ia)) (I : Inv X pins sig H s) {K : List PV → Env → Prop} (r : Rel C phi env T sig T' H) (w : wpAs G Kx [ia] env K)
    {α : Type} {Q : α → Shared → Prop} {f : Value → Sem α}
    (hf : ∀ v s2 x H2 vs env2, Inv X pins sig H2 s2 → RelV x v → Got C phi env2 T sig T' H2 [ia] vs [x] → K vs env2 → wpAny (model X.prog X.w) X.A (f v) Q X.xe s2) :
    wpAny (model X.prog X.w) X.A (eval a X.env) (fun v s1 => wpAny (model X.prog X.w) X.A (f v) Q X.xe s1) X.xe s := by
  have h : tA C phi G Kx [ia] sig H fun vs' H' => ∃ vs env2, K vs env2 ∧ Got C phi env2 T sig T' H' [ia] vs vs' := ⟨env, T, T', K, r, w, fun vs env2 vs' H' k g => ⟨vs, env2, k, g⟩⟩
  refine thn (ha.run pins s sig H _ I (tA_cons h)) fun v s1 ⟨x, H1, I1, r1, q1⟩ => ?_
  obtain ⟨vs, env2, k, g⟩ := tA_nil q1
  exact hf v s1 x H1 vs env2 I1 r1 g k
theorem e_bin {op : Operator} {p : Pr} {a b : Expr} {ia ib : Ex} {pos : Pos} (hp : PrOk C phi G Kx X p fun us => match us with | [v, u] => binaryOp op v u | _ => pure .none) (ha : PE X a (tO C phi G Kx ia)) (hb : PE X b (tO C phi G Kx ib)) :
    PE X (.BinOp a op b pos) (tE C phi G Kx (.pr p [ia, ib])) := by
  refine ⟨fun pins s sig H Q I ⟨env, T, T', K, r, w, k⟩ => ?_⟩
  rw [wpE] at w
  exact wpAny_BinOp (ops2 ha hb I r w fun v u s2 x y H2 vs env2 I2 rx ry g q => thn (hp pins s2 sig H2 env2 T T' K _ vs [x, y] [v, u] I2 g (.cons rx (.cons ry .nil)) q) fun u s' z => post_tE z k)
theorem e_un {op : UnaryOp} {p : Pr} {a : Expr} {ia : Ex} {pos : Pos} (hp : PrOk C phi G Kx X p fun us => match us with | [v] => unaryOp op v | _ => pure .none) (ha : PE X a (tO C phi G Kx ia)) :
    PE X (.UnaryOp op a pos) (tE C phi G Kx (.pr p [ia])) := by
  refine ⟨fun pins s sig H Q I ⟨env, T, T', K, r, w, k⟩ => ?_⟩
  rw [wpE] at w
  exact UnaryOp_ (ops1 ha I r w fun v s2 x H2 vs env2 I2 rx g q => thn (hp pins s2 sig H2 env2 T T' K _ vs [x] [v] I2 g (.cons rx .nil) q) fun u s' z => post_tE z k)
theorem e_cmp {op : CmpOp} {p : Pr} {a b : Expr} {ia ib : Ex} {pos : Pos} (hm : behindInMarks op b = false) (hp : PrOk C phi G Kx X p fun us => match us with | [v, u] => compareOp op v u | _ => pure .none) (ha : PE X a (tO C phi G Kx ia)) (hb : PE X b (tO C phi G Kx ib)) :
    PE X (.Compare a [op] [b] pos) (tE C phi G Kx (.pr p [ia, ib])) := by
  refine ⟨fun pins s sig H Q I ⟨env, T, T', K, r, w, k⟩ => ?_⟩
  rw [wpE] at w
  exact wpAny_Compare1 (ops2 ha hb I r w fun v u s2 x y H2 vs env2 I2 rx ry g q => thn (hp pins s2 sig H2 env2 T T' K _ vs [x, y] [v, u] I2 g (.cons rx (.cons ry .nil)) q) fun u s' z => post_tE z k) hm
end
end RF

end
section
set_option maxRecDepth 100000
set_option maxHeartbeats 1000000
/-! Operations by values. -/
namespace RF
open PySem PySem.Spec L2 PyProof.Rows

section
variable {C : Ctx} {phi : Frm} {X : Cx} {G : Sig} {Kx : Exc → Env → Prop} {k : Nat} {F H : Hp} {mu : List Addr} {env : Env} {T : List PV} {sig : L2.St} {T' : List V} {pins : List (Addr × Obj)} {s : Shared}

/-! ### what an operand is -/
theorem Sh.int {i : Int} {v : V} (h : Sh C F mu H (.int i) v) : v = .int i := by
  cases h with
  | rep h => cases h; rfl
theorem Sh.bl {i : Bool} {v : V} (h : Sh C F mu H (.bl i) v) : v = .bl i := by
  cases h with
  | rep h => cases h; rfl
theorem Sh.str {i : Str} {v : V} (h : Sh C F mu H (.str i) v) : v = .str i := by
  cases h with
  | rep h => cases h; rfl
theorem Sh.tup {xs : List PV} {v : V} (h : Sh C F mu H (.tup xs) v) : ∃ a vs, v = .ref a ∧ F a = some (.tup vs) ∧ Reps C F mu xs vs := by
  cases h with
  | rep h =>
    cases h with
    | tup h r => exact ⟨_, _, rfl, h, r⟩
theorem Sh.lst {xs : List PV} {v : V} (e : Same F H) (h : Sh C F mu H (.lst xs) v) : ∃ a vs, v = .ref a ∧ H a = some (.lst vs) ∧ Reps C F mu xs vs := by
  cases h with
  | rep h =>
    cases h with
    | lst h r => exact ⟨_, _, rfl, e _ _ h, r⟩
  | own h r => exact ⟨_, _, rfl, h, r⟩
theorem Sh.ins {c : Nat} {fs : List PV} {v : V} (h : Sh C F mu H (.ins c fs) v) : Rep C F mu (.ins c fs) v := by
  cases h with
  | rep h => exact h
theorem Shs.two {is : List Ex} {x y : PV} {vs' : List V} (h : Shs C F mu H is [x, y] vs') : ∃ a b, vs' = [a, b] ∧ Sh C F mu H x a ∧ Sh C F mu H y b := by
  cases h with
  | cons h1 _ t =>
    cases t with
    | cons h2 _ t2 =>
      cases t2
      exact ⟨_, _, rfl, h1, h2⟩
theorem Shs.one {is : List Ex} {x : PV} {vs' : List V} (h : Shs C F mu H is [x] vs') : ∃ a, vs' = [a] ∧ Sh C F mu H x a := by
  cases h with
  | cons h1 _ t =>
    cases t
    exact ⟨_, rfl, h1⟩
/-- a list as it can be read -/
theorem RelF.asL {v : PV} {v' : V} {xs : List PV} (r : RelF C phi F mu env T sig T' H) (h : Sh C F mu H v v') (e : asL env.st v = some xs) : ∃ a vs, v' = .ref a ∧ SqL C.K H a vs ∧ Reps C F mu xs vs := by
  unfold RF.asL at e
  cases v with
  | lst ys =>
    cases e
    obtain ⟨a, vs, e1, e2, e3⟩ := h.lst r.ext
    exact ⟨a, vs, e1, SqL.of e2, e3⟩
  | rol ys =>
    cases e
    cases h with
    | rep h =>
      cases h with
      | rol h q => exact ⟨_, _, rfl, r.ext.seq h, q⟩
  | ref j =>
    cases h with
    | rep h =>
      cases h with
      | ref h =>
        dsimp only at e
        cases q : env.st[j]? with
        | none => rw [q] at e; cases e
        | some w =>
          rw [q] at e
          cases w with
          | lst ys =>
            cases e
            obtain ⟨l, _⟩ := r.cel j _ _ q h
            cases l with
            | lst hl rl => exact ⟨_, _, rfl, SqL.of hl, rl⟩
          | _ => cases e
  | _ => cases e
theorem isIns_of {a : Addr} {c : Nat} {dx : Addr} {gs : List (Str × V)} (I : Inv X pins sig H s) (hX : X.K = C.K) (e : H a = some (.ins (C.ca c) dx gs)) : ∃ ox od, PySem.W.InstAt s.heap a ox (C.ca c) od := by
  obtain ⟨mA, O, _⟩ := ins_get I.hok e
  obtain ⟨od, J, _⟩ := O.look
  exact ⟨_, _, J⟩

theorem relRef (a : Addr) : RelV (.ref a) (.ref a) := rfl
theorem vals2 {a b : V} {us : List Value} (h : Vals [a, b] us) : ∃ u v, us = [u, v] ∧ RelV a u ∧ RelV b v := by
  cases h with
  | cons h1 t =>
    cases t with
    | cons h2 t2 =>
      cases t2
      exact ⟨_, _, rfl, h1, h2⟩
theorem vals1 {a : V} {us : List Value} (h : Vals [a] us) : ∃ u, us = [u] ∧ RelV a u := by
  cases h with
  | cons h1 t =>
    cases t
    exact ⟨_, rfl, h1⟩
/-- new things -/
theorem RelF.tup {p : Addr} {xs : List PV} {vs : List V} (r : RelF C phi F mu env T sig T' H) (h : H p = none) (q : Reps C F mu xs vs) : Rel C phi env (.tup xs :: T) sig (.ref p :: T') (upd H p (.tup vs)) :=
  ⟨_, mu, (r.new h).push (.tup upd_same (q.mono (Same.updN (r.notR h).1) fun _ _ z => z))⟩
theorem RelF.lst {p : Addr} {xs : List PV} {vs : List V} (r : RelF C phi F mu env T sig T' H) (h : H p = none) (q : Reps C F mu xs vs) : Rel C phi env (.lst xs :: T) sig (.ref p :: T') (upd H p (.lst vs)) :=
  ⟨_, mu, (r.new h).push (.lst upd_same (q.mono (Same.updN (r.notR h).1) fun _ _ z => z))⟩
/-! ### calls by the tables -/
/-- a def of the tables, all its parameters given -/
theorem call_tab {A' : Around} {f : Nat} {us : List Value} {vs : List PV} {vs' : List V} {K : PV → Env → Prop} (ok : XOk C G k phi Kx X) (hr : Room k A') (hg : A'.guards = some []) (hfr : A'.frames = X.A.frames) (I : Inv X pins sig H s)
    (rv : Vals vs' us) (rf : RelF C phi F mu env T sig T' H) (hv : Reps C F mu vs vs') (w : G.fn f vs env.st (fun v st => K v { env with st := st }) fun e st => Kx e { env with st := st }) :
    wpAny (model X.prog X.w) A' (call (.ref (C.fa f)) us) (GPost C phi X pins sig T T' K) X.xe s := by
  obtain ⟨ft, fg, ar⟩ := ok.tab.fn f ⟨_, _, _, _, w⟩
  have hl := ar _ _ _ _ w
  have hl2 : vs'.length = (C.ps f).length := by rw [← hv.len, hl]
  obtain ⟨ds, dvs, b, rd, rp⟩ := ft.binds (C.ps f).length (by omega) (Nat.le_refl _)
  have e0 : (C.df f).drop ((C.ps f).length + (C.df f).length - (C.ps f).length) = [] := List.drop_eq_nil_of_le (by omega)
  have rp0 := rp F mu
  rw [e0] at rp0
  cases rp0
  have rd0 := rd
  cases rd0
  exact call_fn ok.toXIs fg hr hg hfr I b .nil rv rf (by rw [List.append_nil]; exact hv) (by rw [List.append_nil]; exact hl2) rfl w ok.pass
theorem GPost.real {K : PV → Env → Prop} {u : Value} {s' : Shared} (h : GPost C phi X pins sig T T' K u s') : PySem.W.CmpBack (GPost C phi X pins sig T T' K) u s' := by
  obtain ⟨v, H', I, r, q⟩ := id h
  cases v with
  | non => obtain rfl : u = Value.none := r; exact h
  | bl b => obtain rfl : u = Value.bool b := r; exact h
  | int i => obtain ⟨t, rfl⟩ := r; exact h
  | str x => obtain ⟨t, rfl⟩ := r; exact h
  | byt x => obtain ⟨t, rfl⟩ := r; exact h
  | flt x => obtain ⟨t, rfl⟩ := r; exact h
  | ref a => obtain rfl : u = Value.ref a := r; exact h
  | ty n => obtain rfl : u = Value.type n := r; exact h
/-- a + b .. by the text's own special method, both of one class -/
theorem own_bin {op : Operator} {m c : Nat} {fs gs : List PV} {x y : V} {u v : Value} {K : PV → Env → Prop} (hm : C.mn m = PySem.dunder op.info.2) (ok : XOk C G k phi Kx X) (I : Inv X pins sig H s) (rf : RelF C phi F mu env T sig T' H)
    (hx : Rep C F mu (.ins c fs) x) (hy : Rep C F mu (.ins c gs) y) (rx : RelV x u) (ry : RelV y v) (w : dun G c m [.ins c fs, .ins c gs] env.st (fun v st => K v { env with st := st }) fun e st => Kx e { env with st := st }) :
    wpAny (model X.prog X.w) X.A (binaryOp op u v) (GPost C phi X pins sig T T' K) X.xe s := by
  have hx' := hx
  have hy' := hy
  cases hx with
  | @ins a dx _ _ vs1 g1 ha hf1 hr1 =>
  cases hy with
  | @ins b dy _ _ vs2 g2 hb hf2 hr2 =>
  cases rx
  cases ry
  unfold dun at w
  cases e : G.meth c m with
  | none => rw [e] at w; exact w.elim
  | some f =>
    rw [e] at w
    obtain ⟨cl, me, _, sf⟩ := ok.tab.meth c m f e
    obtain ⟨ox, od, J⟩ := isIns_of (X := X) I ok.K (rf.ext _ _ ha)
    obtain ⟨oy, oe, J2⟩ := isIns_of (X := X) I ok.K (rf.ext _ _ hb)
    obtain ⟨m', fr⟩ := I.fr
    rw [← ok.K] at me sf
    refine PySem.W.binop_K fr I.mod.kin J J2.type sf (by rw [← hm]; exact me.at_) me.fn ?_
    exact thn (call_tab ok ok.room ok.gd rfl I (.cons (relRef a) (.cons (relRef b) .nil)) rf (.cons hx' (.cons hy' .nil)) w) fun u s' z => z.real

/-! ### arithmetic -/
theorem mulOk {i j : Int} (h : MulOk i j) : IntMulOk i j := by
  rcases h with (h | h) | h
  · exact .of_left (intBits_le_64 (by omega) (by omega))
  · exact .of_right (intBits_le_64 (by omega) (by omega))
  · exact CMulW.ok h
abbrev PQ (C : Ctx) (phi : Frm) (sig : L2.St) (T : List PV) (T' : List V) (K : PV → Env → Prop) : VK := fun v' H' => ∃ v env', K v env' ∧ Rel C phi env' (v :: T) sig (v' :: T') H'
theorem RelF.pq {v : PV} {v' : V} {K : PV → Env → Prop} (r : RelF C phi F mu env T sig T' H) (h : Rep C F mu v v') (q : K v env) : PQ C phi sig T T' K v' H := ⟨v, env, q, F, mu, r.push h⟩
theorem p_add (ok : XOk C G k phi Kx X) : PrOk C phi G Kx X .add fun us => match us with | [v, u] => binaryOp .Add v u | _ => pure .none := by
  intro pins s sig H env T T' K is vs vs' us I ⟨F, mu, rf, sh⟩ rv w
  simp only [prS] at w
  split at w
  · obtain ⟨_, _, rfl, h1, h2⟩ := sh.two
    obtain rfl := h1.int
    obtain rfl := h2.int
    obtain ⟨u, v, rfl, r1, r2⟩ := vals2 rv
    exact op_add pins s sig H _ _ _ _ _ I r1 r2 ⟨_, _, rfl, rfl, rf.pq (.int _) w⟩
  · obtain ⟨_, _, rfl, h1, h2⟩ := sh.two
    obtain rfl := h1.str
    obtain rfl := h2.str
    obtain ⟨u, v, rfl, r1, r2⟩ := vals2 rv
    exact op_add_str pins s sig H _ _ _ _ _ I r1 r2 ⟨_, _, rfl, rfl, w.1, rf.pq (.str _) w.2⟩
  · rename_i xs ys
    obtain ⟨_, _, rfl, h1, h2⟩ := sh.two
    obtain ⟨a, vs1, rfl, q1, p1⟩ := h1.tup
    obtain ⟨b, vs2, rfl, q2, p2⟩ := h2.tup
    obtain ⟨u, v, rfl, r1, r2⟩ := vals2 rv
    obtain ⟨w1, w2, w3⟩ := w
    refine op_catT pins s sig H _ _ _ _ _ I r1 r2 ⟨a, b, vs1, vs2, rfl, rfl, SqT.of (rf.ext _ _ q1), SqT.of (rf.ext _ _ q2), fun z => w1 ?_, by rw [← p1.len, ← p2.len]; exact w2, fun z => ?_, fun z p hp => ?_⟩
    · subst z; exact List.eq_nil_of_length_eq_zero p1.len
    · subst z
      have : ys = [] := List.eq_nil_of_length_eq_zero p2.len
      subst this
      rw [List.append_nil] at w3
      exact rf.pq (.tup q1 p1) w3
    · exact ⟨_, _, w3, rf.tup hp (p1.app p2)⟩
  · rename_i xs ys
    obtain ⟨_, _, rfl, h1, h2⟩ := sh.two
    obtain ⟨a, vs1, rfl, q1, p1⟩ := h1.lst rf.ext
    obtain ⟨b, vs2, rfl, q2, p2⟩ := h2.lst rf.ext
    obtain ⟨u, v, rfl, r1, r2⟩ := vals2 rv
    exact op_cat pins s sig H _ _ _ _ _ I r1 r2 ⟨a, b, vs1, vs2, rfl, rfl, q1, q2, by rw [← p1.len, ← p2.len]; exact w.1, fun p hp => ⟨_, _, w.2, rf.lst hp (p1.app p2)⟩⟩
  · rename_i c fs d gs
    obtain ⟨_, _, rfl, h1, h2⟩ := sh.two
    obtain ⟨u, v, rfl, r1, r2⟩ := vals2 rv
    obtain ⟨rfl, w⟩ := w
    exact own_bin ok.tab.mn0 ok I rf h1.ins h2.ins r1 r2 w
  · exact w.elim
theorem ints2 {is : List Ex} {a b : Int} {vs' : List V} {us : List Value} (sh : Shs C F mu H is [.int a, .int b] vs') (rv : Vals vs' us) : ∃ u v, us = [u, v] ∧ RelV (.int a) u ∧ RelV (.int b) v := by
  obtain ⟨_, _, rfl, h1, h2⟩ := sh.two
  obtain rfl := h1.int
  obtain rfl := h2.int
  exact vals2 rv
theorem ints1 {is : List Ex} {a : Int} {vs' : List V} {us : List Value} (sh : Shs C F mu H is [.int a] vs') (rv : Vals vs' us) : ∃ u, us = [u] ∧ RelV (.int a) u := by
  obtain ⟨_, rfl, h1⟩ := sh.one
  obtain rfl := h1.int
  exact vals1 rv
theorem p_sub (ok : XOk C G k phi Kx X) : PrOk C phi G Kx X .sub fun us => match us with | [v, u] => binaryOp .Sub v u | _ => pure .none := by
  intro pins s sig H env T T' K is vs vs' us I ⟨F, mu, rf, sh⟩ rv w
  simp only [prS] at w
  split at w
  · obtain ⟨u, v, rfl, r1, r2⟩ := ints2 sh rv
    exact op_sub pins s sig H _ _ _ _ _ I r1 r2 ⟨_, _, rfl, rfl, rf.pq (.int _) w⟩
  · obtain ⟨_, _, rfl, h1, h2⟩ := sh.two
    obtain ⟨u, v, rfl, r1, r2⟩ := vals2 rv
    obtain ⟨rfl, w⟩ := w
    exact own_bin ok.tab.mn1 ok I rf h1.ins h2.ins r1 r2 w
  · exact w.elim
theorem op_mulM : OpR X (binaryOp .Mult) (rI MulOk fun i j => .int (i * j)) := opI fun _ _ _ _ _ _ _ hc q => PyProof.Rows.mul_int q (mulOk hc)
theorem p_mul (ok : XOk C G k phi Kx X) : PrOk C phi G Kx X .mul fun us => match us with | [v, u] => binaryOp .Mult v u | _ => pure .none := by
  intro pins s sig H env T T' K is vs vs' us I ⟨F, mu, rf, sh⟩ rv w
  simp only [prS] at w
  split at w
  · obtain ⟨u, v, rfl, r1, r2⟩ := ints2 sh rv
    exact op_mulM pins s sig H _ _ _ _ _ I r1 r2 ⟨_, _, rfl, rfl, w.1, rf.pq (.int _) w.2⟩
  · obtain ⟨_, _, rfl, h1, h2⟩ := sh.two
    obtain ⟨u, v, rfl, r1, r2⟩ := vals2 rv
    obtain ⟨rfl, w⟩ := w
    exact own_bin ok.tab.mn2 ok I rf h1.ins h2.ins r1 r2 w
  · exact w.elim
theorem op_divM : OpR X (binaryOp .FloorDiv) (rI (fun _ j => DivOk j) fun i j => .int (i.fdiv j)) := opI fun _ _ _ _ _ _ _ hc q => PyProof.Rows.floordiv_int hc.1 q (.inl (PyProof.noPylong_of_log2 hc.2))
theorem p_fdiv (ok : XOk C G k phi Kx X) : PrOk C phi G Kx X .fdiv fun us => match us with | [v, u] => binaryOp .FloorDiv v u | _ => pure .none := by
  intro pins s sig H env T T' K is vs vs' us I ⟨F, mu, rf, sh⟩ rv w
  simp only [prS] at w
  split at w
  · obtain ⟨u, v, rfl, r1, r2⟩ := ints2 sh rv
    exact op_divM pins s sig H _ _ _ _ _ I r1 r2 ⟨_, _, rfl, rfl, w.1, rf.pq (.int _) w.2⟩
  · obtain ⟨_, _, rfl, h1, h2⟩ := sh.two
    obtain ⟨u, v, rfl, r1, r2⟩ := vals2 rv
    obtain ⟨rfl, w⟩ := w
    exact own_bin ok.tab.mn3 ok I rf h1.ins h2.ins r1 r2 w
  · exact w.elim
theorem p_mod (ok : XOk C G k phi Kx X) : PrOk C phi G Kx X .mod fun us => match us with | [v, u] => binaryOp .Mod v u | _ => pure .none := by
  intro pins s sig H env T T' K is vs vs' us I ⟨F, mu, rf, sh⟩ rv w
  simp only [prS] at w
  split at w
  · obtain ⟨u, v, rfl, r1, r2⟩ := ints2 sh rv
    exact op_modN pins s sig H _ _ _ _ _ I r1 r2 ⟨_, _, rfl, rfl, w.1, rf.pq (.int _) w.2⟩
  · obtain ⟨_, _, rfl, h1, h2⟩ := sh.two
    obtain ⟨u, v, rfl, r1, r2⟩ := vals2 rv
    obtain ⟨rfl, w⟩ := w
    exact own_bin ok.tab.mn4 ok I rf h1.ins h2.ins r1 r2 w
  · exact w.elim
theorem p_pow : PrOk C phi G Kx X .pow fun us => match us with | [v, u] => binaryOp .Pow v u | _ => pure .none := by
  intro pins s sig H env T T' K is vs vs' us I ⟨F, mu, rf, sh⟩ rv w
  simp only [prS] at w
  split at w
  · obtain ⟨u, v, rfl, r1, r2⟩ := ints2 sh rv
    exact op_pow pins s sig H _ _ _ _ _ I r1 r2 ⟨_, _, rfl, rfl, w.1, rf.pq (.int _) w.2⟩
  · exact w.elim
theorem p_lt : PrOk C phi G Kx X .lt fun us => match us with | [v, u] => compareOp .Lt v u | _ => pure .none := by
  intro pins s sig H env T T' K is vs vs' us I ⟨F, mu, rf, sh⟩ rv w
  simp only [prS] at w
  split at w
  · obtain ⟨u, v, rfl, r1, r2⟩ := ints2 sh rv
    exact op_lt pins s sig H _ _ _ _ _ I r1 r2 ⟨_, _, rfl, rfl, rf.pq (.bl _) w⟩
  · exact w.elim
theorem p_le : PrOk C phi G Kx X .le fun us => match us with | [v, u] => compareOp .LtE v u | _ => pure .none := by
  intro pins s sig H env T T' K is vs vs' us I ⟨F, mu, rf, sh⟩ rv w
  simp only [prS] at w
  split at w
  · obtain ⟨u, v, rfl, r1, r2⟩ := ints2 sh rv
    exact op_le pins s sig H _ _ _ _ _ I r1 r2 ⟨_, _, rfl, rfl, rf.pq (.bl _) w⟩
  · exact w.elim
theorem p_gt : PrOk C phi G Kx X .gt fun us => match us with | [v, u] => compareOp .Gt v u | _ => pure .none := by
  intro pins s sig H env T T' K is vs vs' us I ⟨F, mu, rf, sh⟩ rv w
  simp only [prS] at w
  split at w
  · obtain ⟨u, v, rfl, r1, r2⟩ := ints2 sh rv
    exact op_gt pins s sig H _ _ _ _ _ I r1 r2 ⟨_, _, rfl, rfl, rf.pq (.bl _) w⟩
  · exact w.elim
theorem p_ge : PrOk C phi G Kx X .ge fun us => match us with | [v, u] => compareOp .GtE v u | _ => pure .none := by
  intro pins s sig H env T T' K is vs vs' us I ⟨F, mu, rf, sh⟩ rv w
  simp only [prS] at w
  split at w
  · obtain ⟨u, v, rfl, r1, r2⟩ := ints2 sh rv
    exact op_ge pins s sig H _ _ _ _ _ I r1 r2 ⟨_, _, rfl, rfl, rf.pq (.bl _) w⟩
  · exact w.elim
end
end RF

end
section
set_option maxRecDepth 100000
set_option maxHeartbeats 1000000
/-! != by an own equality; types of values. -/
namespace RF
open PySem PySem.Spec PySem.W PyProof.Rows

section
variable {prog : Program} {w : World} {A : Around} {E : Value → Shared → Prop} {s : Shared} {K : Frag} {x C L f : Addr} {h₀ : Heap} {m : Str → Option Value} {ox : Obj} {od : Option Obj} {b tb : Value}
theorem ne_body {Q : Value → Shared → Prop} (hu : A.units + 1 < cLine) (X : K.In s.heap) (I : InstAt s.heap x ox C od) (hs : findIn K (.ref C) "__eq__" = some (some (.ref f))) (hf : isFn K (.ref f) = true)
    (h : wpAny (model prog w) A.in1 (call (.ref f) [.ref x, b]) (fun v s' => ∃ k, v = .bool k ∧ Q (.bool (!k)) s') E s) :
    wpAny (model prog w) A.in1 (Builtin.«object.__ne__» ⟨[.ref x, b], []⟩) (fun fin s' => match fin with | .done r => (match r with | .ret v => Q v s' | _ => False) | .again _ => False) E s := by
  unfold Builtin.«object.__ne__»
  refine wpAny_bind (wpAny_pure ?_)
  refine wpAny_bind (wpAny_cRoomFor (by show A.units + 1 < cLine; exact hu) ?_)
  refine wpAny_bind (ifBound_K X I hs hf (wpAny_mono h (fun v s' hv => ?_) fun _ _ e => e))
  obtain ⟨k, rfl, q⟩ := hv
  refine wpAny_bind (wpAny_truthy_bool (wpAny_pure ?_))
  exact q
theorem ne_call {Q : Value → Shared → Prop} (hu : A.units + 1 < cLine) (X : K.In s.heap) (I : InstAt s.heap x ox C od) (ho : mroIn K C (.type "object") = some true) (hs : findIn K (.ref C) "__eq__" = some (some (.ref f))) (hf : isFn K (.ref f) = true)
    (h : wpAny (model prog w) A.in1 (call (.ref f) [.ref x, b]) (fun v s' => ∃ k, v = .bool k ∧ Q (.bool (!k)) s') E s) :
    wpAny (model prog w) A (call (.builtin "object.__ne__") [.ref x, b]) Q E s := by
  have sub : Looks (model prog w) s.heap (isInstance (.ref x) (.type "object")) true := I.type.andThen (looks_mroIn X ho)
  refine wpAny_call (codeAny_call_builtin (F.cmp_object.ne.plain) F.cmpEntry_ne (check_slot F.cmpKind_ne F.cmpSplit_ne sub (F.cmpArgs_ne _ _) ?_))
  refine wpAny_mono (ne_body hu X I hs hf h) (fun fin s' q => ?_) fun _ _ e => e
  cases fin with
  | done r =>
    cases r with
    | ret v => exact q
    | next => exact q.elim
    | brk => exact q.elim
    | cont => exact q.elim
  | again c => exact q.elim
/-- a != b by an own == -/
theorem ne_own {Q : Value → Shared → Prop} (hu : A.units + 1 < cLine) (FF : Fr h₀ L s.heap m) (X₀ : K.In h₀) (I : InstAt s.heap x ox C od) (hb : Looks (model prog w) s.heap (typeOf b) tb) (hn : notFirst K C tb = true)
    (hne : findIn K (.ref C) "__ne__" = some (some (.builtin "object.__ne__"))) (ho : mroIn K C (.type "object") = some true) (hs : findIn K (.ref C) "__eq__" = some (some (.ref f))) (hf : isFn K (.ref f) = true)
    (h : wpAny (model prog w) A.in1 (call (.ref f) [.ref x, b]) (fun v s' => ∃ k, v = .bool k ∧ Q (.bool (!k)) s') E s) : wpAny (model prog w) A (richCompare .NotEq (.ref x) b) Q E s := by
  have X := X₀.keeps FF.keep
  have fin := ne_call (Q := fun v s' => ∃ k, v = Value.bool k ∧ Q (.bool k) s') hu X I ho hs hf (wpAny_mono h (fun v s' hv => by
    obtain ⟨k, e, q⟩ := hv
    exact ⟨k, e, _, rfl, q⟩) fun _ _ e => e)
  have one : wpAny (model prog w) A (tryCompare (.ref x) (cmpInfo .NotEq).2.1 b) (fun r s' => ∃ v, r = some v ∧ Q v s') E s := by
    unfold tryCompare
    have fin2 : wpAny (model prog w) A (call (.builtin "object.__ne__") ([.ref x] ++ [b]) >>= fun v => pure (some v)) (fun r s' => ∃ k, r = some (Value.bool k) ∧ Q (.bool k) s') E s :=
      wpAny_bind (wpAny_mono fin (fun v s' hv => by
        obtain ⟨k, e, q⟩ := hv
        subst e
        exact wpAny_pure ⟨k, rfl, q⟩) fun _ _ e => e)
    refine wpAny_bind (wpAny_mono (Q := fun r s' => ∃ k, r = some (Value.bool k) ∧ Q (.bool k) s') ?_ (fun r s' hr => ?_) fun _ _ e => e)
    · simp only [callSpecialIfBound?, bindSpecialIfBound?]
      refine wpAny_holding (wpAny_bind (wpAny_bind (wpAny_bind (I.type.here ((looks_findIn X hne).here ?_)))))
      simp only [F.cmp_object.ne.bind]
      refine wpAny_bind (wpAny_askSetting (wpAny_ite ?_))
      split
      · exact wpAny_bind (wpAny_pure (wpAny_pure fin2))
      · exact wpAny_tryCatch (wpAny_bind (wpAny_pure (wpAny_pure fin2)))
    · obtain ⟨k, e, q⟩ := hr
      subst e
      exact wpAny_pure ⟨_, rfl, q⟩
  unfold richCompare
  simp only [oneThing_ref]
  refine wpAny_holding (wpAny_bind (wpAny_cRoomFor (by omega) ?_))
  refine wpAny_bind (I.type.here (wpAny_bind (hb.here ?_)))
  have tail : wpAny (model prog w) A (tryCompare (.ref x) (cmpInfo .NotEq).2.1 b) (fun r s' => ∃ v, r = some v ∧ Q v s') E s := one
  split
  · rename_i q
    have e : subIn K tb (.ref C) = some false := by
      rcases Bool.or_eq_true_iff.mp hn with e | e
      · rw [beq_iff_eq.mp e] at q; simp at q
      · exact beq_iff_eq.mp e
    refine wpAny_bind ((looks_subIn X e).here ?_)
    simp only [Bool.false_eq_true, if_false]
    refine wpAny_bind (wpAny_mono one (fun r s' z => ?_) fun _ _ e => e)
    obtain ⟨v, rfl, hq⟩ := z
    exact wpAny_pure hq
  · refine wpAny_bind (wpAny_pure ?_)
    simp only [Bool.false_eq_true, if_false]
    refine wpAny_bind (wpAny_mono one (fun r s' z => ?_) fun _ _ e => e)
    obtain ⟨v, rfl, hq⟩ := z
    exact wpAny_pure hq
end
end RF

end
section
set_option maxRecDepth 100000
set_option maxHeartbeats 1000000
/-! Further operations: data compared and shown, subscripts, displays, built-in functions. -/
namespace RF
open PySem PySem.Spec L2 PyProof.Rows

section
variable {C : Ctx} {phi : Frm} {X : Cx} {G : Sig} {Kx : Exc → Env → Prop} {k : Nat} {F H : Hp} {mu : List Addr} {env : Env} {T : List PV} {sig : L2.St} {T' : List V} {pins : List (Addr × Obj)} {s : Shared}

/-! ### plain data -/
mutual
theorem Rep.datum {K : PySem.W.Frag} (e : Same F H) (v : PV) (v' : V) (d : PyData) (r : Rep C F mu v v') (h : RF.datum v = some d) : Dp K H v' d := by
  cases v with
  | non => cases r; cases h; exact .non
  | bl b => cases r; cases h; exact .bl b
  | int i => cases r; cases h; exact .int i
  | str x => cases r; cases h; exact .str x
  | tup xs =>
    cases r with
    | tup a r =>
      rw [RF.datum] at h
      cases q : RF.data xs with
      | none => rw [q] at h; cases h
      | some ds => rw [q] at h; cases h; exact .tup (SqT.of (e _ _ a)) (Reps.data e xs _ _ r q)
  | lst xs =>
    cases r with
    | lst a r =>
      rw [RF.datum] at h
      cases q : RF.data xs with
      | none => rw [q] at h; cases h
      | some ds => rw [q] at h; cases h; exact .lst (SqL.of (e _ _ a)) (Reps.data e xs _ _ r q)
  | ins c fs => rw [RF.datum] at h <;> first | cases h | (intros; contradiction)
  | rol xs => rw [RF.datum] at h <;> first | cases h | (intros; contradiction)
  | ref j => rw [RF.datum] at h <;> first | cases h | (intros; contradiction)
  | cls c => rw [RF.datum] at h <;> first | cases h | (intros; contradiction)
  | ty n => rw [RF.datum] at h <;> first | cases h | (intros; contradiction)
termination_by structural v
theorem Reps.data {K : PySem.W.Frag} (e : Same F H) (vs : List PV) (vs' : List V) (ds : List PyData) (r : Reps C F mu vs vs') (h : RF.data vs = some ds) : DpAll K H vs' ds := by
  cases vs with
  | nil => cases r; cases h; exact .nil
  | cons x xs =>
    cases r with
    | cons r t =>
      rw [RF.data] at h
      cases q : RF.datum x with
      | none => rw [q] at h; cases h
      | some d =>
        cases q2 : RF.data xs with
        | none => rw [q, q2] at h; cases h
        | some ds => rw [q, q2] at h; cases h; exact .cons (Rep.datum e x _ _ r q) (Reps.data e xs _ _ t q2)
termination_by structural vs
end
theorem Sh.datum {K : PySem.W.Frag} (e : Same F H) {v : PV} {v' : V} {d : PyData} (h : Sh C F mu H v v') (q : RF.datum v = some d) : Dp K H v' d := by
  cases h with
  | rep h => exact Rep.datum e _ _ _ h q
  | @own a xs vs h r =>
    unfold RF.datum at q
    cases q2 : RF.data xs with
    | none => rw [q2] at q; cases q
    | some ds => rw [q2] at q; cases q; exact .lst (SqL.of h) (Reps.data e _ _ _ r q2)
theorem room64 (hr : Room k X.A) : X.A.units + 64 < cLine := by have := hr.un; omega
/-! ### == and != -/
/-- the type of a value, for an own == -/
theorem Sh.tyOf {M : Model} {c : Nat} {v : PV} {v' : V} {u : Value} (tab : Tab C G k) (I : Inv X pins sig H s) (hK : X.K = C.K) (e : Same F H) (h : Sh C F mu H v v') (r : RelV v' u) (ok : eqOk G c v = true) :
    ∃ tb, PySem.W.Looks M s.heap (typeOf u) tb ∧ PySem.W.notFirst C.K (C.ca c) tb = true := by
  have bi : ∀ n : String, n ∈ ["int", "bool", "str", "NoneType", "tuple", "list"] → G.isc c = true → PySem.W.notFirst C.K (C.ca c) (.type n) = true := fun n hn hc => by
    unfold PySem.W.notFirst
    rw [(tab.isb c hc n hn).2]
    simp
  have obj : ∀ {a : Addr} {o : Obj} {cls : Value}, s.heap.get? a = some o → o.cls = cls → PySem.W.Looks M s.heap (typeOf (.ref a)) cls := fun {a o cls} ha hc => fun A Q E s2 k2 q => wpAny_typeOf_ref (k2 _ _ ha) (by rw [hc]; exact q)
  have lstCase : ∀ {a : Addr} {xs : List V}, H a = some (.lst xs) → PySem.W.Looks M s.heap (typeOf (.ref a)) (.type "list") := fun {a xs} ha => by
    obtain ⟨_, its, n, _, h1⟩ := (show ObjOk X.prog X.w H s.heap a (.lst xs) from I.hok a _ ha)
    exact obj h1 rfl
  cases v with
  | non =>
    cases h with
    | rep h => cases h; cases r; exact ⟨.type "NoneType", .of_pure rfl, bi _ (by decide) ok⟩
  | bl b =>
    cases h with
    | rep h => cases h; cases r; exact ⟨.type "bool", .of_pure rfl, bi _ (by decide) ok⟩
  | int i =>
    cases h with
    | rep h => cases h; obtain ⟨t, rfl⟩ := r; exact ⟨.type "int", .of_pure rfl, bi _ (by decide) ok⟩
  | str i =>
    cases h with
    | rep h => cases h; obtain ⟨t, rfl⟩ := r; exact ⟨.type "str", .of_pure rfl, bi _ (by decide) ok⟩
  | tup xs =>
    obtain ⟨a, vs, rfl, q, _⟩ := h.tup
    cases r
    obtain ⟨_, its, _, o, h1, h2, _⟩ := (show ObjOk X.prog X.w H s.heap a (.tup vs) from I.hok a _ (e _ _ q))
    exact ⟨.type "tuple", obj h1 h2, bi _ (by decide) ok⟩
  | lst xs => cases ok
  | ins d fs =>
    have z := h.ins
    cases z with
    | ins ha _ _ =>
      cases r
      obtain ⟨ox, od, J⟩ := isIns_of (X := X) I hK (e _ _ ha)
      refine ⟨.ref (C.ca d), J.type, ?_⟩
      unfold PySem.W.notFirst
      unfold eqOk at ok
      rcases Bool.or_eq_true_iff.mp ok with q | q
      · rw [beq_iff_eq.mp q]; simp
      · rw [(tab.isi d c false (beq_iff_eq.mp q)).2.1]; simp
  | rol xs => cases ok
  | ref j => cases ok
  | cls c => cases ok
  | ty n => cases ok
theorem p_eq (ok : XOk C G k phi Kx X) : PrOk C phi G Kx X .eq fun us => match us with | [v, u] => compareOp .Eq v u | _ => pure .none := by
  intro pins s sig H env T T' K is vs vs' us I ⟨F, mu, rf, sh⟩ rv w
  simp only [prS] at w
  split at w
  · rename_i c fs b
    obtain ⟨x, y, rfl, h1, h2⟩ := sh.two
    obtain ⟨u, v, rfl, r1, r2⟩ := vals2 rv
    obtain ⟨w0, w⟩ := w
    obtain ⟨tb, lk, nf⟩ := h2.tyOf (M := model X.prog X.w) ok.tab I ok.K rf.ext r2 w0
    have rx := h1.ins
    have rx' := rx
    unfold dun at w
    cases e : G.meth c 7 with
    | none => rw [e] at w; exact w.elim
    | some f =>
      rw [e] at w
      obtain ⟨cl, me, _, sf⟩ := ok.tab.meth c 7 f e
      have fin : ∀ y2, y2 = y → Rep C F mu b y2 → wpAny (model X.prog X.w) X.A (call (.ref (C.fa f)) [u, v]) (PySem.W.CmpBack (GPost C phi X pins sig T T' K)) X.xe s := fun y2 e2 ry => by
        subst e2
        exact thn (call_tab ok ok.room ok.gd rfl I (.cons r1 (.cons r2 .nil)) rf (.cons rx' (.cons ry .nil)) w) fun u s' z => z.real
      cases rx with
      | ins ha _ _ =>
        cases r1
        obtain ⟨ox, od, J⟩ := isIns_of (X := X) I ok.K (rf.ext _ _ ha)
        obtain ⟨m', fr⟩ := I.fr
        rw [← ok.K] at me sf nf
        cases h2 with
        | rep ry => exact PySem.W.cmp_ofEq (PySem.W.cmp_K ok.room.units0 fr I.mod.kin J lk nf (by have z := me.at_; rw [ok.tab.mn7] at z; exact z) me.fn (fin _ rfl ry))
        | own ha rl => cases w0
  · obtain ⟨_, _, rfl, h1, h2⟩ := sh.two
    obtain rfl := h1.str
    obtain rfl := h2.str
    obtain ⟨u, v, rfl, r1, r2⟩ := vals2 rv
    exact op_eq pins s sig H _ _ _ _ _ I r1 r2 ⟨rfl, by rw [dec_str]; exact rf.pq (.bl _) w⟩
  · rename_i a b _ _
    obtain ⟨_, _, rfl, h1, h2⟩ := sh.two
    obtain ⟨u, v, rfl, r1, r2⟩ := vals2 rv
    split at w
    · rename_i d e hd he
      exact op_eqD (room64 ok.room) pins s sig H _ _ _ _ _ I r1 r2 ⟨d, e, h1.datum rf.ext hd, h2.datum rf.ext he, w.1, w.2.1, rf.pq (.bl _) w.2.2⟩
    · exact w.elim
  · exact w.elim
theorem p_ne (ok : XOk C G k phi Kx X) : PrOk C phi G Kx X .ne fun us => match us with | [v, u] => compareOp .NotEq v u | _ => pure .none := by
  intro pins s sig H env T T' K is vs vs' us I ⟨F, mu, rf, sh⟩ rv w
  simp only [prS] at w
  split at w
  · rename_i c fs b
    obtain ⟨x, y, rfl, h1, h2⟩ := sh.two
    obtain ⟨u, v, rfl, r1, r2⟩ := vals2 rv
    obtain ⟨w0, w⟩ := w
    obtain ⟨tb, lk, nf⟩ := h2.tyOf (M := model X.prog X.w) ok.tab I ok.K rf.ext r2 w0
    have rx := h1.ins
    have rx' := rx
    unfold dun at w
    cases e : G.meth c 7 with
    | none => rw [e] at w; exact w.elim
    | some f =>
      rw [e] at w
      obtain ⟨cl, me, _, sf⟩ := ok.tab.meth c 7 f e
      obtain ⟨n1, n2⟩ := ok.tab.ne c f e
      have fin : ∀ y2, y2 = y → Rep C F mu b y2 → wpAny (model X.prog X.w) X.A.in1 (call (.ref (C.fa f)) [u, v]) (fun z s' => ∃ q, z = .bool q ∧ GPost C phi X pins sig T T' K (.bool (!q)) s') X.xe s := fun y2 e2 ry => by
        subst e2
        refine thn (call_tab (K := fun v e2 => match v with | .bl q => K (.bl (!q)) e2 | _ => False) ok ok.room1.in1 ok.gd rfl I (.cons r1 (.cons r2 .nil)) rf (.cons rx' (.cons ry .nil)) ?_) fun u s' z => ?_
        · exact w
        · obtain ⟨v', H', J, r, v2, env', kk, rr⟩ := z
          cases v2 with
          | bl q =>
            obtain ⟨F2, mu2, rr⟩ := rr
            have t := rr.top
            cases t
            cases r
            exact ⟨q, rfl, .bl (!q), H', J, rfl, .bl (!q), env', kk, F2, mu2, rr.pop.push (.bl _)⟩
          | _ => exact kk.elim
      cases rx with
      | ins ha _ _ =>
        cases r1
        obtain ⟨ox, od, J⟩ := isIns_of (X := X) I ok.K (rf.ext _ _ ha)
        obtain ⟨m', fr⟩ := I.fr
        rw [← ok.K] at me sf nf n1 n2
        have u1 : X.A.units + 1 < cLine := by have := ok.room1.un; omega
        cases h2 with
        | rep ry => exact PySem.W.cmp_ofNotEq (ne_own u1 fr I.mod.kin J lk nf n1 n2 (by have z := me.at_; rw [ok.tab.mn7] at z; exact z) me.fn (fin _ rfl ry))
        | own ha rl => cases w0
  · obtain ⟨_, _, rfl, h1, h2⟩ := sh.two
    obtain rfl := h1.str
    obtain rfl := h2.str
    obtain ⟨u, v, rfl, r1, r2⟩ := vals2 rv
    exact op_ne pins s sig H _ _ _ _ _ I r1 r2 ⟨rfl, by rw [dec_str]; exact rf.pq (.bl _) w⟩
  · rename_i a b _ _
    obtain ⟨_, _, rfl, h1, h2⟩ := sh.two
    obtain ⟨u, v, rfl, r1, r2⟩ := vals2 rv
    split at w
    · rename_i d e hd he
      exact op_neD (room64 ok.room) pins s sig H _ _ _ _ _ I r1 r2 ⟨d, e, h1.datum rf.ext hd, h2.datum rf.ext he, w.1, w.2.1, rf.pq (.bl _) w.2.2⟩
    · exact w.elim
  · exact w.elim
end
end RF

end
section
set_option maxRecDepth 100000
set_option maxHeartbeats 1000000
/-! Operand lists, displays, subscripts, built-in functions. -/
namespace RF
open PySem PySem.Spec L2 PyProof.Rows

section
variable {C : Ctx} {phi : Frm} {X : Cx} {G : Sig} {Kx : Exc → Env → Prop} {k : Nat} {F H : Hp} {mu : List Addr} {env : Env} {T : List PV} {sig : L2.St} {T' : List V} {pins : List (Addr × Obj)} {s : Shared}

def notStar : Expr → Bool
  | .Starred _ _ => false
  | _ => true
theorem star_cons {e : Expr} {es : List Expr} {ev : PySem.Env} (h : notStar e = true) : starEach (e :: es) ev = (false, eval e ev) :: starEach es ev := by
  cases e <;> first | rfl | cases h
theorem star_any {pos : Pos} {ev : PySem.Env} : ∀ {es : List Expr}, es.all notStar = true → (backTo pos (starEach es ev)).any (·.1) = false
  | [], _ => rfl
  | e :: es, h => by
    rw [List.all_cons, Bool.and_eq_true] at h
    rw [star_cons h.1]
    have := star_any (pos := pos) (ev := ev) h.2
    unfold backTo at this ⊢
    simpa using this

/-- operands, one for one -/
inductive Os (C : Ctx) (phi : Frm) (G : Sig) (Kx : Exc → Env → Prop) (X : Cx) : List Expr → List Ex → Prop
  | nil : Os C phi G Kx X [] []
  | cons {e : Expr} {es : List Expr} {i : Ex} {is : List Ex} : notStar e = true → PE X e (tO C phi G Kx i) → Os C phi G Kx X es is → Os C phi G Kx X (e :: es) (i :: is)
theorem Os.star : ∀ {es : List Expr} {is : List Ex}, Os C phi G Kx X es is → es.all notStar = true
  | _, _, .nil => rfl
  | _, _, .cons h _ t => by rw [List.all_cons, h, Os.star t]; rfl
theorem paImp {es : List Expr} {t t' : TA} (h : PA X es t) (i : ∀ sig H Q, t' sig H Q → t sig H Q) : PA X es t' := ⟨fun pos pins s sig H Q I q => h.run pos pins s sig H Q I (i _ _ _ q)⟩
theorem Os.pa : ∀ {es : List Expr} {is : List Ex}, Os C phi G Kx X es is → PA X es (tA C phi G Kx is)
  | _, _, .nil => paImp pa_nil fun sig H Q h => tA_nil h
  | _, _, .cons h p t => paImp (pa_cons p (Os.pa t) (star_cons h)) fun sig H Q h => tA_cons h
/-- the operands are reckoned; what is asked of them -/
theorem Os.run {es : List Expr} {is : List Ex} (o : Os C phi G Kx X es is) (pos : Pos) (I : Inv X pins sig H s) {K : List PV → Env → Prop} (r : Rel C phi env T sig T' H) (w : wpAs G Kx is env K) :
    wpAny (model X.prog X.w) X.A (spliced (backTo pos (starEach es X.env))) (fun us s' => ∃ vs' H' vs env2, Inv X pins sig H' s' ∧ Vals vs' us ∧ Got C phi env2 T sig T' H' is vs vs' ∧ K vs env2) X.xe s := by
  refine thn (o.pa.run pos pins s sig H (fun vs' H' => ∃ vs env2, Got C phi env2 T sig T' H' is vs vs' ∧ K vs env2) I ⟨env, T, T', K, r, w, fun vs env2 vs' H' k g => ⟨vs, env2, g, k⟩⟩) fun us s' h => ?_
  obtain ⟨vs', H', J, rv, vs, env2, g, k⟩ := h
  exact ⟨vs', H', vs, env2, J, rv, g, k⟩

/-! ### displays -/
theorem e_tup {es : List Expr} {is : List Ex} {n : Nat} {pos : Pos} (o : Os C phi G Kx X es is) (hp : ∀ i ∈ is, isPk i = none) : PE X (.Tuple es n pos) (tE C phi G Kx (.pr .tup is)) :=
  peImp (pe_tup o.pa) fun sig H Q ⟨env, T, T', K, r, w, k⟩ => by
    rw [wpE] at w
    refine ⟨env, T, T', _, r, w, fun vs env2 vs' H' q g => ?_⟩
    obtain ⟨F, mu, rf, sh⟩ := g
    have rp := sh.reps hp
    simp only [prS] at q
    exact ⟨by rw [← rp.len]; exact q.1, fun p hp => k _ _ _ _ q.2 (rf.tup hp rp)⟩
theorem e_lst {es : List Expr} {is : List Ex} {pos : Pos} (o : Os C phi G Kx X es is) (hp : ∀ i ∈ is, isPk i = none) : PE X (.List es pos) (tE C phi G Kx (.pr .lst is)) :=
  peImp (pe_lst o.pa) fun sig H Q ⟨env, T, T', K, r, w, k⟩ => by
    rw [wpE] at w
    refine ⟨env, T, T', _, r, w, fun vs env2 vs' H' q g => ?_⟩
    obtain ⟨F, mu, rf, sh⟩ := g
    have rp := sh.reps hp
    simp only [prS] at q
    exact ⟨by rw [← rp.len]; exact q.1, fun p hp => k _ _ _ _ q.2 (rf.lst hp rp)⟩

/-! ### subscripts -/
theorem Reps.atI {xs : List PV} {vs : List V} {i : Int} {x : PV} (r : Reps C F mu xs vs) (h : pIdx xs i = some x) : ∃ v, L2.atI vs i = some v ∧ Rep C F mu x v := by
  unfold pIdx L2.atI at h
  unfold L2.atI
  rw [← r.len]
  cases e : L2.ixN xs.length i with
  | none => rw [e] at h; cases h
  | some j =>
    rw [e] at h
    obtain ⟨v, h1, h2⟩ := r.get (i := j) h
    exact ⟨v, h1, h2⟩
theorem Reps.cut {xs : List PV} {vs : List V} (lo hi : Option Int) (r : Reps C F mu xs vs) : Reps C F mu (pCut xs lo hi) (cutV vs lo hi) := by
  unfold pCut cutV
  rw [← r.len]
  exact r.tail.head
theorem e_idx {a b : Expr} {ia ib : Ex} {pos : Pos} (hs : PlainIx b) (ok : XOk C G k phi Kx X) (ha : PE X a (tO C phi G Kx ia)) (hb : PE X b (tO C phi G Kx ib)) : PE X (.Subscript a b pos) (tE C phi G Kx (.pr .idx [ia, ib])) := by
  refine ⟨fun pins s sig H Q I ⟨env, T, T', K, r, w, k⟩ => ?_⟩
  rw [wpE] at w
  refine Subscript_ (ops2 ha hb I r w fun v u s2 x y H2 vs env2 I2 rx ry g q => ?_)
  refine ix_seq a b pins s2 sig H2 x y v u Q I2 rx ry ?_ (hs _ _)
  obtain ⟨F, mu, rf, sh⟩ := g
  simp only [prS] at q
  split at q
  · rename_i xs i
    obtain ⟨_, _, e, h1, h2⟩ := sh.two
    cases e
    obtain ⟨a, vs1, rfl, q1, p1⟩ := h1.tup
    obtain rfl := h2.int
    split at q
    · rename_i v hv
      obtain ⟨v', e1, e2⟩ := p1.atI hv
      exact .inr (.inl ⟨a, vs1, i, v', rfl, rfl, SqT.of (rf.ext _ _ q1), e1, k _ _ _ _ q ⟨F, mu, rf.push e2⟩⟩)
    · exact q.elim
  · rename_i a i _
    obtain ⟨x, _, e, h1, h2⟩ := sh.two
    cases e
    obtain rfl := h2.int
    split at q
    · rename_i xs hxs
      obtain ⟨p, vs1, rfl, q1, p1⟩ := rf.asL h1 hxs
      rw [← ok.K] at q1
      split at q
      · rename_i v hv
        obtain ⟨v', e1, e2⟩ := p1.atI hv
        exact .inl ⟨p, vs1, i, v', rfl, rfl, q1, e1, k _ _ _ _ q ⟨F, mu, rf.push e2⟩⟩
      · exact q.elim
    · exact q.elim
  · exact q.elim
theorem vals1' {xs : List V} {u : Value} (h : Vals xs [u]) : ∃ x, xs = [x] ∧ RelV x u := by
  cases h with
  | cons h1 t =>
    cases t
    exact ⟨_, rfl, h1⟩
theorem Shs.oneR {is : List Ex} {vs : List PV} {a : V} (h : Shs C F mu H is vs [a]) : ∃ x, vs = [x] ∧ Sh C F mu H x a := by
  cases h with
  | cons h1 _ t =>
    cases t
    exact ⟨_, rfl, h1⟩
theorem Shs.twoR {is : List Ex} {vs : List PV} {a b : V} (h : Shs C F mu H is vs [a, b]) : ∃ x y, vs = [x, y] ∧ Sh C F mu H x a ∧ Sh C F mu H y b := by
  cases h with
  | cons h1 _ t =>
    cases t with
    | cons h2 _ t =>
      cases t
      exact ⟨_, _, rfl, h1, h2⟩
/-- a slice's part -/
inductive PPart (C : Ctx) (phi : Frm) (G : Sig) (Kx : Exc → Env → Prop) (X : Cx) : Option Expr → List Ex → Bool → Prop
  | none : PPart C phi G Kx X none [] false
  | some {e : Expr} {i : Ex} : PE X e (tO C phi G Kx i) → PPart C phi G Kx X (some e) [i] true
theorem PPart.run {e : Option Expr} {il is : List Ex} {b : Bool} {α : Type} {Q : Value → Shared → Prop} (h : PPart C phi G Kx X e il b) (I : Inv X pins sig H s) {R : List V → Hp → Prop} (w : tA C phi G Kx (il ++ is) sig H R)
    (k : ∀ vl s2 vs' H2, Inv X pins sig H2 s2 → Vals vs' (if b then [vl] else []) → (b = false → vl = .none) → vs'.length = il.length → tA C phi G Kx is sig H2 (fun ys H3 => R (vs' ++ ys) H3) → Q vl s2) :
    wpAny (model X.prog X.w) X.A (evalPart e X.env) Q X.xe s := by
  cases h with
  | none =>
    rw [evalPart_none]
    exact wpAny_pure (k _ _ [] _ I .nil (fun _ => rfl) rfl w)
  | some h =>
    rw [evalPart_some]
    refine thn (h.run pins s sig H _ I (tA_cons w)) fun u s1 ⟨x, H1, I1, r1, q1⟩ => ?_
    exact k u s1 [x] H1 I1 (.cons r1 .nil) (fun z => by cases z) rfl q1
theorem slc_parts {bl bh : Bool} {is : List Ex} {r : List PV} {xl xu : List V} {vl vu : Value} {l h : Option Int} (st : Shs C F mu H is r (xl ++ (xu ++ []))) (rl : Vals xl (if bl then [vl] else [])) (ru : Vals xu (if bh then [vu] else []))
    (nl : bl = false → vl = .none) (nu : bh = false → vu = .none) (e : slcArgs bl bh r = some (l, h)) : IsPart vl l ∧ IsPart vu h := by
  cases bl with
  | false =>
    have e1 := nl rfl
    subst e1
    cases rl
    cases bh with
    | false =>
      have e1 := nu rfl
      subst e1
      cases ru
      replace st : Shs C F mu H is r [] := st
      cases st
      cases e
      exact ⟨.none, .none⟩
    | true =>
      replace ru : Vals xu [vu] := ru
      obtain ⟨u, eu, ru2⟩ := vals1' ru
      subst eu
      replace st : Shs C F mu H is r [u] := st
      obtain ⟨w, rfl, sw⟩ := st.oneR
      cases w with
      | int i =>
        cases e
        obtain rfl := sw.int
        obtain ⟨t, e⟩ := ru2
        exact ⟨.none, e ▸ .int _ _⟩
      | _ => cases e
  | true =>
    replace rl : Vals xl [vl] := rl
    obtain ⟨x, ex, rl2⟩ := vals1' rl
    subst ex
    cases bh with
    | false =>
      have e1 := nu rfl
      subst e1
      cases ru
      replace st : Shs C F mu H is r [x] := st
      obtain ⟨w, rfl, sw⟩ := st.oneR
      cases w with
      | int i =>
        cases e
        obtain rfl := sw.int
        obtain ⟨t, e⟩ := rl2
        exact ⟨e ▸ .int _ _, .none⟩
      | _ => cases e
    | true =>
      replace ru : Vals xu [vu] := ru
      obtain ⟨u, eu, ru2⟩ := vals1' ru
      subst eu
      replace st : Shs C F mu H is r [x, u] := st
      obtain ⟨w, w2, rfl, sw, sw2⟩ := st.twoR
      cases w with
      | int i =>
        cases w2 with
        | int j =>
          cases e
          obtain rfl := sw.int
          obtain rfl := sw2.int
          obtain ⟨t, e⟩ := rl2
          obtain ⟨t, e2⟩ := ru2
          exact ⟨e ▸ .int _ _, e2 ▸ .int _ _⟩
        | _ => cases e
      | _ => cases e
theorem e_slc {a : Expr} {lo hi : Option Expr} {ia : Ex} {il ih : List Ex} {bl bh : Bool} {pos p2 : Pos} (ok : XOk C G k phi Kx X) (ha : PE X a (tO C phi G Kx ia)) (hl : PPart C phi G Kx X lo il bl) (hh : PPart C phi G Kx X hi ih bh) :
    PE X (.Subscript a (.Slice lo hi none p2) pos) (tE C phi G Kx (.pr (.slc bl bh) (ia :: (il ++ (ih ++ []))))) := by
  refine ⟨fun pins s sig H Q I ⟨env, T, T', K, r, w, k⟩ => ?_⟩
  rw [wpE] at w
  have h : tA C phi G Kx (ia :: (il ++ (ih ++ []))) sig H fun vs' H' => ∃ vs env2, prS G (.slc bl bh) vs env2.st (fun v st => K v { env2 with st := st }) (fun e st => Kx e { env2 with st := st }) ∧ Got C phi env2 T sig T' H' (ia :: (il ++ (ih ++ []))) vs vs' := ⟨env, T, T', _, r, w, fun vs env2 vs' H' k g => ⟨vs, env2, k, g⟩⟩
  refine Subscript_ (thn (ha.run pins s sig H _ I (tA_cons h)) fun v s1 ⟨x, H1, I1, r1, q1⟩ => ?_)
  refine wpAny_Slice (hl.run (α := Unit) I1 q1 fun vl s2 xl H2 I2 rl nl ll q2 => hh.run (α := Unit) I2 q2 fun vu s3 xu H3 I3 ru nu lu q3 => ?_)
  rw [evalPart_none]
  refine wpAny_pure ?_
  obtain ⟨vs, env2, q, g⟩ := tA_nil q3
  obtain ⟨F, mu, rf, sh⟩ := g
  simp only [prS] at q
  have I4 : Inv X pins sig H3 { s3 with heap := s3.heap.push { cls := .type "slice", data := .fields #[vl, vu, .none] } } := I3.kept (t' := s3.toks) fun b ob q => Heap.get?_push_of_some _ q
  cases sh with
  | @cons _ _ pa _ pr _ sa _ st =>
  dsimp only at q
  split at q
  · exact q.elim
  · rename_i l h hlh
    split at q
    · rename_i xs hxs
      obtain ⟨p, vs1, rfl, q1, p1⟩ := rf.asL sa hxs
      have parts : IsPart vl l ∧ IsPart vu h := slc_parts st rl ru nl nu hlh
      rw [← ok.K] at q1
      obtain ⟨T2, id, hT, ht, hg⟩ := sl_list pins { s3 with heap := s3.heap.push { cls := .type "slice", data := .fields #[vl, vu, .none] } } sig H3 _ v vl vu l h s3.heap.objs.size Q I4 r1 (Heap.IsSliceOf.new ..) parts.1 parts.2
        ⟨p, vs1, rfl, q1, fun pn hp => k _ _ _ _ q (rf.lst hp (p1.cut l h))⟩
      show wpAny (model X.prog X.w) X.A (subscriptTail a (.Slice lo hi none p2) v (.ref s3.heap.objs.size)) (EP X pins sig Q) X.xe { s3 with heap := s3.heap.push { cls := .type "slice", data := .fields #[vl, vu, .none] } }
      exact tail_any (ops := [.ref s3.heap.objs.size, v]) ht hT hg (by with_unfolding_all rfl)
    · exact q.elim

/-! ### truth -/
theorem RelF.tru {K' : PySem.W.Frag} (hK : K' = C.K) (r : RelF C phi F mu env T sig T' H) {v : PV} {v' : V} {b : Bool} (h : Rep C F mu v v') (e : truth v = some b) : TruV K' v' H b := by
  subst hK
  cases v with
  | non => cases h; cases e; exact rfl
  | bl c => cases h; cases e; exact rfl
  | int i => cases h; cases e; exact rfl
  | str x =>
    cases h
    simp only [truth] at e
    split at e
    · rename_i hx
      cases e
      exact ⟨hx, rfl⟩
    · cases e
  | tup xs =>
    cases h with
    | tup a q =>
      cases e
      refine .inr (.inl ⟨_, SqT.of (r.ext _ _ a), ?_⟩)
      cases q <;> rfl
  | lst xs =>
    cases h with
    | lst a q =>
      cases e
      refine .inl ⟨_, SqL.of (r.ext _ _ a), ?_⟩
      cases q <;> rfl
  | _ => cases e
end
end RF

end
section
set_option maxRecDepth 100000
set_option maxHeartbeats 1000000
/-! Built-in functions; tests. -/
namespace RF
open PySem PySem.Spec L2 PyProof.Rows

section
variable {C : Ctx} {phi : Frm} {X : Cx} {G : Sig} {Kx : Exc → Env → Prop} {k : Nat} {F H : Hp} {mu : List Addr} {env : Env} {T : List PV} {sig : L2.St} {T' : List V} {pins : List (Addr × Obj)} {s : Shared}

/-- f(e, ..) of a built-in function (type) -/
theorem e_bfn {x : Str} {pf pos : Pos} {e : Expr} {es : List Expr} {is : List Ex} {p : Pr} {id : String} (hp : PrOk C phi G Kx X p fun us => call (.builtin id) us) (hg : Gl X x) (hm : X.mg x = none) (hv : bootBuiltins x = some (.builtin id))
    (o : Os C phi G Kx X (e :: es) is) (hn : x ≠ "__name__") (hdb : (x == ("__debug__" : Str)) = false) : PE X (.Call (.Name x pf) (e :: es) [] pos) (tE C phi G Kx (.pr p is)) := by
  refine ⟨fun pins s sig H Q I ⟨env, T, T', K, r, w, k⟩ => ?_⟩
  rw [wpE] at w
  refine wpAny_Call_Name_kw (ld_blt I hg hm hv ?_ hn hdb)
  have hs := o.star
  rw [List.all_cons, Bool.and_eq_true] at hs
  refine PyProof.Rows.callWith_builtin1 (thn (o.run pos I r w) fun us s1 ⟨vs', H1, vs, env2, I1, r1, g, q⟩ => thn (hp pins s1 sig H1 env2 T T' K is vs vs' us I1 g r1 q) fun u s' z => post_tE z k) (star_cons hs.1) (star_any hs.2)
theorem e_bty {x : Str} {pf pos : Pos} {e : Expr} {es : List Expr} {is : List Ex} {p : Pr} {ty : String} (hp : PrOk C phi G Kx X p fun us => call (.type ty) us) (hg : Gl X x) (hm : X.mg x = none) (hv : bootBuiltins x = some (.type ty))
    (o : Os C phi G Kx X (e :: es) is) (hn : x ≠ "__name__") (hdb : (x == ("__debug__" : Str)) = false) : PE X (.Call (.Name x pf) (e :: es) [] pos) (tE C phi G Kx (.pr p is)) := by
  refine ⟨fun pins s sig H Q I ⟨env, T, T', K, r, w, k⟩ => ?_⟩
  rw [wpE] at w
  refine wpAny_Call_Name_kw (ld_blt I hg hm hv ?_ hn hdb)
  have hs := o.star
  rw [List.all_cons, Bool.and_eq_true] at hs
  refine PyProof.Rows.callWith_type1 (thn (o.run pos I r w) fun us s1 ⟨vs', H1, vs, env2, I1, r1, g, q⟩ => thn (hp pins s1 sig H1 env2 T T' K is vs vs' us I1 g r1 q) fun u s' z => post_tE z k) (star_cons hs.1) (star_any hs.2)
theorem p_len (ok : XOk C G k phi Kx X) : PrOk C phi G Kx X .len fun us => call (.builtin "len") us := by
  intro pins s sig H env T T' K is vs vs' us I ⟨F, mu, rf, sh⟩ rv w
  simp only [prS] at w
  split at w
  · obtain ⟨_, rfl, h1⟩ := sh.one
    obtain ⟨a, vs1, rfl, q1, p1⟩ := h1.tup
    exact call_len_seq pins s sig H _ _ _ I rv ⟨a, vs1, rfl, .inr (SqT.of (rf.ext _ _ q1)), by rw [← p1.len]; exact rf.pq (.int _) w⟩
  · obtain ⟨x, rfl, h1⟩ := sh.one
    split at w
    · rename_i xs hxs
      obtain ⟨a, vs1, rfl, q1, p1⟩ := rf.asL h1 hxs
      rw [← ok.K] at q1
      exact call_len_seq pins s sig H _ _ _ I rv ⟨a, vs1, rfl, .inl q1, by rw [← p1.len]; exact rf.pq (.int _) w⟩
    · exact w.elim
  · exact w.elim
theorem own_un {m c : Nat} {fs : List PV} {x : V} {u : Value} {K : PV → Env → Prop} {f : Value → Sem Value} (ok : XOk C G k phi Kx X) (I : Inv X pins sig H s) (rf : RelF C phi F mu env T sig T' H)
    (hx : Rep C F mu (.ins c fs) x) (rx : RelV x u) (w : dun G c m [.ins c fs] env.st (fun v st => K v { env with st := st }) fun e st => Kx e { env with st := st })
    (hf : ∀ a ox od g, u = .ref a → PySem.W.InstAt s.heap a ox (C.ca c) od → Meth C.K (C.ca c) (C.mn m) (C.fa g) → wpAny (model X.prog X.w) X.A (call (.ref (C.fa g)) [.ref a]) (GPost C phi X pins sig T T' K) X.xe s → wpAny (model X.prog X.w) X.A (f u) (GPost C phi X pins sig T T' K) X.xe s) :
    wpAny (model X.prog X.w) X.A (f u) (GPost C phi X pins sig T T' K) X.xe s := by
  have hx' := hx
  cases hx with
  | @ins a dx _ _ vs1 g1 ha hf1 hr1 =>
  cases rx
  unfold dun at w
  cases e : G.meth c m with
  | none => rw [e] at w; exact w.elim
  | some g =>
    rw [e] at w
    obtain ⟨cl, me, _, sf⟩ := ok.tab.meth c m g e
    obtain ⟨ox, od, J⟩ := isIns_of (X := X) I ok.K (rf.ext _ _ ha)
    exact hf a ox od g rfl J me (call_tab ok ok.room ok.gd rfl I (.cons (relRef a) .nil) rf (.cons hx' .nil) w)
theorem p_abs : PrOk C phi G Kx X .abs fun us => call (.builtin "abs") us := by
  intro pins s sig H env T T' K is vs vs' us I ⟨F, mu, rf, sh⟩ rv w
  simp only [prS] at w
  split at w
  · obtain ⟨_, rfl, h1⟩ := sh.one
    obtain rfl := h1.int
    exact call_abs pins s sig H _ _ _ I rv ⟨_, rfl, rf.pq (.int _) w⟩
  · exact w.elim
theorem p_neg : PrOk C phi G Kx X .neg fun us => match us with | [v] => unaryOp .USub v | _ => pure .none := by
  intro pins s sig H env T T' K is vs vs' us I ⟨F, mu, rf, sh⟩ rv w
  simp only [prS] at w
  split at w
  · obtain ⟨u, rfl, r1⟩ := ints1 sh rv
    exact un_neg pins s sig H _ _ _ I r1 ⟨_, rfl, rf.pq (.int _) w⟩
  · exact w.elim
theorem p_min2 (ok : XOk C G k phi Kx X) : PrOk C phi G Kx X .min2 fun us => call (.builtin "min") us := by
  intro pins s sig H env T T' K is vs vs' us I ⟨F, mu, rf, sh⟩ rv w
  simp only [prS] at w
  split at w
  · obtain ⟨_, _, rfl, h1, h2⟩ := sh.two
    obtain rfl := h1.int
    obtain rfl := h2.int
    exact call_min2 ok.calm pins s sig H _ _ _ I rv ⟨_, _, rfl, rf.pq (.int _) w⟩
  · exact w.elim
theorem p_max2 (ok : XOk C G k phi Kx X) : PrOk C phi G Kx X .max2 fun us => call (.builtin "max") us := by
  intro pins s sig H env T T' K is vs vs' us I ⟨F, mu, rf, sh⟩ rv w
  simp only [prS] at w
  split at w
  · obtain ⟨_, _, rfl, h1, h2⟩ := sh.two
    obtain rfl := h1.int
    obtain rfl := h2.int
    exact call_max2 ok.calm pins s sig H _ _ _ I rv ⟨_, _, rfl, rf.pq (.int _) w⟩
  · exact w.elim
theorem p_int1 : PrOk C phi G Kx X .int1 fun us => call (.type "int") us := by
  intro pins s sig H env T T' K is vs vs' us I ⟨F, mu, rf, sh⟩ rv w
  simp only [prS] at w
  split at w
  · obtain ⟨_, rfl, h1⟩ := sh.one
    obtain rfl := h1.int
    exact call_int1 pins s sig H _ _ _ I rv (.inl ⟨_, rfl, rf.pq (.int _) w⟩)
  · obtain ⟨_, rfl, h1⟩ := sh.one
    obtain rfl := h1.bl
    exact call_int1 pins s sig H _ _ _ I rv (.inr ⟨_, rfl, rf.pq (.int _) w⟩)
  · exact w.elim
theorem p_tup1 (ok : XOk C G k phi Kx X) : PrOk C phi G Kx X .tup1 fun us => call (.type "tuple") us := by
  intro pins s sig H env T T' K is vs vs' us I ⟨F, mu, rf, sh⟩ rv w
  simp only [prS] at w
  split at w
  · obtain ⟨_, rfl, h1⟩ := sh.one
    obtain ⟨a, vs1, rfl, q1, p1⟩ := h1.tup
    exact call_tuple_of pins s sig H _ _ _ I rv ⟨a, vs1, rfl, .inr ⟨SqT.of (rf.ext _ _ q1), rf.pq (.tup q1 p1) w⟩⟩
  · obtain ⟨x, rfl, h1⟩ := sh.one
    split at w
    · rename_i xs hxs
      obtain ⟨a, vs1, rfl, q1, p1⟩ := rf.asL h1 hxs
      rw [← ok.K] at q1
      exact call_tuple_of pins s sig H _ _ _ I rv ⟨a, vs1, rfl, .inl ⟨q1, fun p hp => ⟨_, _, w, rf.tup hp p1⟩⟩⟩
    · exact w.elim
  · exact w.elim
theorem repr_seq {a : Addr} {d : PyData} {K : PV → Env → Prop} (ok : XOk C G k phi Kx X) (I : Inv X pins sig H s) (rf : RelF C phi F mu env T sig T' H) (hd : Dp X.K H (.ref a) d) (h : (d.showable = true ∧ d.hasDict = false ∧ d.depth ≤ 64) ∧ d.shown.length ≤ sizeLine ∧ K (.str d.shown) env) :
    wpAny (model X.prog X.w) X.A (call (.builtin "repr") [.ref a]) (GPost C phi X pins sig T T' K) X.xe s := by
  obtain ⟨⟨h1, h2, h3⟩, h4, q⟩ := h
  obtain ⟨as, r⟩ := Dp.reads I d _ _ hd (relRef a)
  refine repr_of_reads' r h1 (PyData.noDict_hsm h2) ok.gd (by have := ok.room.un; omega) (fun _ _ e => e) (fun h' u tk hk => ?_) h4
  exact ⟨.str d.shown, H, I.kept (t' := tk) hk, ⟨_, rfl⟩, .str d.shown, env, q, F, mu, rf.push (.str _)⟩
theorem p_repr1 (ok : XOk C G k phi Kx X) : PrOk C phi G Kx X .repr1 fun us => call (.builtin "repr") us := by
  intro pins s sig H env T T' K is vs vs' us I ⟨F, mu, rf, sh⟩ rv w
  simp only [prS] at w
  split at w
  · obtain ⟨x, rfl, h1⟩ := sh.one
    split at w
    · rename_i xs ds hd
      have z : Dp X.K H x (.tuple ds) := h1.datum rf.ext (by rw [RF.datum, hd]; rfl)
      obtain ⟨a, vs1, rfl, q1, p1⟩ := h1.tup
      obtain ⟨u, rfl, r1⟩ := RF.vals1 rv
      cases r1
      exact repr_seq ok I rf z w
    · exact w.elim
  · obtain ⟨x, rfl, h1⟩ := sh.one
    split at w
    · rename_i xs ds hd
      have z : Dp X.K H x (.list ds) := h1.datum rf.ext (by rw [RF.datum, hd]; rfl)
      obtain ⟨a, vs1, rfl, q1, p1⟩ := h1.lst rf.ext
      obtain ⟨u, rfl, r1⟩ := RF.vals1 rv
      cases r1
      exact repr_seq ok I rf z w
    · exact w.elim
  · exact w.elim
theorem p_isi (ok : XOk C G k phi Kx X) : PrOk C phi G Kx X .isi fun us => call (.builtin "isinstance") us := by
  intro pins s sig H env T T' K is vs vs' us I ⟨F, mu, rf, sh⟩ rv w
  simp only [prS] at w
  split at w
  · rename_i a c
    obtain ⟨x, y, rfl, h1, h2⟩ := sh.two
    have ey : y = .ref (C.ca c) := by
      cases h2 with
      | rep h => cases h; rfl
    subst ey
    split at w
    · rename_i b hb
      unfold isIns at hb
      split at hb
      · rename_i hc
        have go : ∀ t b', TyX X.K H x t → PySem.W.kitOne X.K t (.ref (C.ca c)) = some b' → b' = b → wpAny (model X.prog X.w) X.A (call (.builtin "isinstance") us) (GPost C phi X pins sig T T' K) X.xe s := fun t b' ty e eb => by
          subst eb
          exact call_isi pins s sig H _ _ _ I rv ⟨x, _, t, _, b', rfl, .own _, ty, e, rf.pq (.bl _) w⟩
        have gb : ∀ n, n ∈ ["int", "bool", "str", "NoneType", "tuple", "list"] → TyX X.K H x (.type n) → false = b → wpAny (model X.prog X.w) X.A (call (.builtin "isinstance") us) (GPost C phi X pins sig T T' K) X.xe s := fun n hn ty e =>
          go _ _ ty (by rw [ok.K]; exact (ok.tab.isb c hc n hn).1) e
        cases a with
        | ins d fs =>
          have z := h1.ins
          cases z with
          | ins ha _ _ =>
            obtain ⟨e1, _, cl, e2, e3, e4, e5⟩ := ok.tab.isi d c b hb
            rw [← ok.K] at e1 cl e2 e3 e4 e5
            exact go _ _ (.base (.ins (rf.ext _ _ ha) cl e2 e3 e4 e5)) e1 rfl
        | int i =>
          obtain rfl := h1.int
          exact gb "int" (by decide) (.base (.int i)) (Option.some.inj hb)
        | bl i =>
          obtain rfl := h1.bl
          exact gb "bool" (by decide) (.base (.bl i)) (Option.some.inj hb)
        | str i =>
          obtain rfl := h1.str
          exact gb "str" (by decide) (.base (.str i)) (Option.some.inj hb)
        | non =>
          have ex : x = .non := by
            cases h1 with
            | rep h => cases h; rfl
          subst ex
          exact gb "NoneType" (by decide) (.base .non) (Option.some.inj hb)
        | tup xs =>
          obtain ⟨a, vs1, rfl, q1, p1⟩ := h1.tup
          exact gb "tuple" (by decide) (.base (.tup (rf.ext _ _ q1))) (Option.some.inj hb)
        | lst xs =>
          obtain ⟨a, vs1, rfl, q1, p1⟩ := h1.lst rf.ext
          exact gb "list" (by decide) (.base (.lst q1)) (Option.some.inj hb)
        | _ => cases hb
      · cases hb
    · exact w.elim
  · exact w.elim
end
end RF

end
section
set_option maxRecDepth 100000
set_option maxHeartbeats 1000000
/-! Calls written in the text: of defs, classes, methods, classmethods; attributes. -/
namespace RF
open PySem PySem.Spec L2 PyProof.Rows

section
variable {C : Ctx} {phi : Frm} {X : Cx} {G : Sig} {Kx : Exc → Env → Prop} {k : Nat} {F H : Hp} {mu : List Addr} {env : Env} {T : List PV} {sig : L2.St} {T' : List V} {pins : List (Addr × Obj)} {s : Shared}

/-- the arguments of a call, one way or the other -/
theorem callW {es : List Expr} {is : List Ex} {pos : Pos} {f : Addr} {first : List Value} (o : Os C phi G Kx X es is) (hk : PySem.W.keepIn X.K (.ref f) = true) (I : Inv X pins sig H s) {K : List PV → Env → Prop} (r : Rel C phi env T sig T' H) (w : wpAs G Kx is env K)
    {Q : Value → Shared → Prop}
    (hf : ∀ us s2 vs' H2 vs env2, Inv X pins sig H2 s2 → Vals vs' us → Got C phi env2 T sig T' H2 is vs vs' → K vs env2 → wpAny (model X.prog X.w) X.A (call (.ref f) (first ++ us)) Q X.xe s2) :
    wpAny (model X.prog X.w) X.A (callWith pos (.ref f) first (backTo pos (starEach es X.env)) []) Q X.xe s := by
  cases o with
  | nil =>
    have h : tA C phi G Kx [] sig H fun vs' H' => ∃ vs env2, K vs env2 ∧ Got C phi env2 T sig T' H' [] vs vs' := ⟨env, T, T', K, r, w, fun vs env2 vs' H' k g => ⟨vs, env2, k, g⟩⟩
    obtain ⟨vs, env2, q, g⟩ := tA_nil h
    have z := hf [] s [] H vs env2 I .nil g q
    exact PySem.W.callWith_K0 I.kIn hk z
  | cons hs hp ht =>
    refine PySem.W.callWith_K (first := first) (h₀ := X.base) I.ok.mod.kin hk (thn (Os.run (.cons hs hp ht) pos I r w) fun us s1 ⟨vs', H1, vs, env2, I1, r1, g, q⟩ => ⟨I1.kIn, hf us s1 vs' H1 vs env2 I1 r1 g q⟩) (star_cons hs) (star_any ht.star)

theorem Reps.of_ft {vs : List PV} {vs' : List V} {n : Nat} {dv : List PV} {df : List PV} {dvs : List V} (h : Reps C F mu vs vs') (rp : ∀ F mu, Reps C F mu (df.drop n) dvs) (e : dv = df.drop n) : Reps C F mu (vs ++ dv) (vs' ++ dvs) := by
  subst e
  exact h.app (rp _ _)
/-- a def called with values -/
theorem call_tabD {A' : Around} {f : Nat} {us : List Value} {vs dv : List PV} {vs' : List V} {K : PV → Env → Prop} (ok : XOk C G k phi Kx X) (hr : Room k A') (hg : A'.guards = some []) (hfr : A'.frames = X.A.frames) (I : Inv X pins sig H s)
    (rv : Vals vs' us) (rf : RelF C phi F mu env T sig T' H) (hv : Reps C F mu vs vs') (hd : dv = (C.df f).drop (vs.length + (C.df f).length - (C.ps f).length)) (hd2 : (C.ps f).length ≤ vs.length + (C.df f).length)
    (w : G.fn f (vs ++ dv) env.st (fun v st => K v { env with st := st }) fun e st => Kx e { env with st := st }) :
    wpAny (model X.prog X.w) A' (call (.ref (C.fa f)) us) (GPost C phi X pins sig T T' K) X.xe s := by
  obtain ⟨ft, fg, ar⟩ := ok.tab.fn f ⟨_, _, _, _, w⟩
  have hl := ar _ _ _ _ w
  have hle : vs.length ≤ (C.ps f).length := by rw [← hl, List.length_append]; omega
  obtain ⟨ds, dvs, b, rd, rp⟩ := ft.binds vs.length hd2 hle
  have hv2 := hv.of_ft rp hd
  exact call_fn ok.toXIs fg hr hg hfr I b rd rv rf hv2 (by rw [← hv2.len, hl]) rfl w ok.pass
/-- f(..), a def of the module -/
theorem e_call {x : Str} {pf pos : Pos} {es : List Expr} {is : List Ex} {f : Nat} {dv : List PV} (ok : XOk C G k phi Kx X) (hg : Gl X x) (hm : X.mg x = some (.ref (C.fa f))) (hk : PySem.W.keepIn X.K (.ref (C.fa f)) = true) (o : Os C phi G Kx X es is) (hp : ∀ i ∈ is, isPk i = none)
    (hd : dv = (C.df f).drop (is.length + (C.df f).length - (C.ps f).length)) (hd2 : (C.ps f).length ≤ is.length + (C.df f).length) (hdb : (x == ("__debug__" : Str)) = false) : PE X (.Call (.Name x pf) es [] pos) (tE C phi G Kx (.call f is dv)) := by
  refine ⟨fun pins s sig H Q I ⟨env, T, T', K, r, w, kk⟩ => ?_⟩
  rw [wpE] at w
  refine wpAny_Call_Name_kw (ld_glob I hg hm ?_ hdb)
  refine callW (first := []) o hk I r w fun us s2 vs' H2 vs env2 I2 rv g q => ?_
  obtain ⟨F, mu, rf, sh⟩ := g
  have hl : vs.length = is.length := sh.len.symm
  rw [← hl] at hd hd2
  exact thn (call_tabD ok ok.room ok.gd rfl I2 rv rf (sh.reps hp) hd hd2 q) fun u s' z => post_tE z kk

/-! ### new instances -/
theorem RelF.slot0 {st : Store} (r : RelF C phi F mu ⟨[], st⟩ T [] T' H) : RelF C phi F mu ⟨[.no], st⟩ T [none] T' H where
  ext := r.ext
  extR := r.extR
  dis := r.dis
  len := r.len
  cel := r.cel
  nd := r.nd
  sl := rfl
  val := fun i v e => by
    cases i with
    | zero => simp at e
    | succ i => simp at e
  liv := fun i s e l => by
    cases i with
    | zero =>
      simp at e
      subst e
      cases l
    | succ i => simp at e
  sep := fun i j s u a ne e1 l1 => by
    cases i with
    | zero =>
      simp at e1
      subst e1
      cases l1
    | succ i => simp at e1
  tmp := r.tmp
  frm := r.frm
theorem RelF.bare1 {i : Nat} {st : Store} {s0 : SV} {o : Option V} (r : RelF C phi F mu ⟨[s0], st⟩ T [o] T' H) : RelF C phi F mu ⟨[], st⟩ T [] T' H :=
  ⟨r.ext, r.extR, r.dis, r.len, r.cel, r.nd, rfl, fun i v e => by simp at e, fun i s e => by simp at e, fun i j s u a _ e => by simp at e, r.tmp, r.frm⟩
theorem fresh_flds {c : Nat} (h : (C.fl c).length ≤ 900 ∧ (C.fl c).Nodup) : Flds (C.fl c) (List.replicate (C.fl c).length (none : Option V)) [] :=
  ⟨by simp, Nat.zero_le _, h.1, h.2, fun _ _ => rfl, fun i m o h1 h2 => by
    have : o = none := by
      rw [List.getElem?_replicate] at h2
      split at h2
      · exact (Option.some.inj h2).symm
      · cases h2
    rw [this]; rfl⟩
/-- the object is done -/
theorem RelF.done {i : Nat} {a0 c : Nat} {fs : List (Option PV)} {ws : List PV} (r : RelF C phi F mu env T sig T' H) (h : env.sl[i]? = some (.ini a0 c fs)) (e : fs.mapM id = some ws) :
    ∃ F' a, RelF C phi F' mu (env.put i .no) T sig T' H ∧ sig[i]? = some (some (.ref a)) ∧ Rep C F' mu (.ins c ws) (.ref a) := by
  obtain ⟨a, e1, l, hF, hR, hm⟩ := r.liv i _ h rfl
  have hi : i < sig.length := (List.getElem?_eq_some_iff.mp e1).1
  have r1 := r.drop1 (i := i)
  have key : ∀ (j : Nat) (u : SV), (env.put i .no).sl[j]? = some u → u.live = true → sig[j]? ≠ some (some (.ref a)) := fun j u h1 h2 h3 => by
    by_cases z : j = i
    · subst z
      have : (env.sl.set j .no)[j]? = some u := h1
      rw [List.getElem?_set_self (by rw [r.sl]; exact hi)] at this
      cases this
      cases h2
    · have h1' : (env.sl.set i .no)[j]? = some u := h1
      rw [List.getElem?_set_ne (Ne.symm z)] at h1'
      exact r.sep i j _ u a (Ne.symm z) h rfl h1' h2 e1 h3
  cases l with
  | @ini _ dx _ _ vs gs hl hf ho =>
    have r2 := r1.add hl hF hR hm key
    have eF : Same F (upd F a0 (.ins (C.ca c) dx gs)) := Same.updN hF
    obtain ⟨us, e2, ru⟩ := ho.full e
    subst e2
    exact ⟨_, a0, r2, e1, .ins upd_same hf (ru.mono eF fun _ _ z => z)⟩
theorem under_guards {A : Around} {c : Addr} {us : List Value} : (A.under (.builtin "type.__call__" ⟨.ref c :: us, []⟩)).guards = A.guards := by
  first | rfl | simp [Around.under, Code.weight, Code.isCreation, Code.isGuard, Code.isCaller, Code.frames, Code.isFrame, guardIds]
theorem under_frames {A : Around} {c : Addr} {us : List Value} : (A.under (.builtin "type.__call__" ⟨.ref c :: us, []⟩)).frames = A.frames := by
  first | rfl | simp [Around.under, Code.weight, Code.isCreation, Code.isGuard, Code.isCaller, Code.frames, Code.isFrame, guardIds]
theorem make_tab {c : Nat} {us : List Value} {vs dv : List PV} {vs' : List V} {K : PV → Env → Prop} (ok : XOk C G k phi Kx X) (I : Inv X pins sig H s)
    (rv : Vals vs' us) (rf : RelF C phi F mu env T sig T' H) (hv : Reps C F mu vs vs') (hd : dv = (C.df (C.ini c)).drop (vs.length + 1 + (C.df (C.ini c)).length - (C.ps (C.ini c)).length)) (hd2 : (C.ps (C.ini c)).length ≤ vs.length + 1 + (C.df (C.ini c)).length)
    (w : G.init c (vs ++ dv) env.st (fun fs st => match fs.mapM id with
      | some ws => K (.ins c ws) { env with st := st }
      | none => False) fun e st => Kx e { env with st := st }) :
    wpAny (model X.prog X.w) X.A (call (.ref (C.ca c)) us) (GPost C phi X pins sig T T' K) X.xe s := by
  obtain ⟨M, ft, fg, ar⟩ := ok.tab.ini c ⟨_, _, _, _, w⟩
  have hl := ar _ _ _ _ w
  have hle : vs.length + 1 ≤ (C.ps (C.ini c)).length := by rw [← hl, List.length_append]; omega
  obtain ⟨ds, dvs, b, rd, rp⟩ := ft.binds (vs.length + 1) hd2 hle
  have hv2 := hv.of_ft rp hd
  have hX := ok.toXIs
  have nx : H (s.heap.objs.size + 1) = none := I.hok.fresh (Nat.le_succ _)
  have ndx : H s.heap.objs.size = none := I.hok.fresh (Nat.le_refl _)
  have ne : s.heap.objs.size ≠ s.heap.objs.size + 1 := Nat.ne_of_lt (Nat.lt_succ_self _)
  have I2 := Inv.made (C := C.ca c) I
  obtain ⟨phi2, h1, h2, h3⟩ := rf.call
  obtain ⟨F0, mu0, q0⟩ := h1 _ _ hv2
  -- the new object joins
  have q1 := q0.slot0
  have g1 : Same H (upd H s.heap.objs.size (.own (s.heap.objs.size + 1))) := Same.updN ndx
  have nx' : (upd H s.heap.objs.size (.own (s.heap.objs.size + 1))) (s.heap.objs.size + 1) = none := by rw [upd_ne (Ne.symm ne)]; exact nx
  obtain ⟨a1, a2, a3, a4⟩ := (q1.grow g1).notR nx'
  have q2 := (q1.grow g1).grow (Same.updN (o := HO.ins (C.ca c) s.heap.objs.size []) nx')
  have q3 := q2.putL (i := 0) (s := .ini (s.heap.objs.size + 1) c (List.replicate (C.fl c).length none)) (a := s.heap.objs.size + 1) (.ini upd_same (fresh_flds (ok.tab.fls c)) (ORs.fresh _)) a1 a2 a3 (fun j u hj e hl => a4 j u e hl) (by decide) rfl
  have hn : (V.ref (s.heap.objs.size + 1) :: (vs' ++ dvs)).length = (C.ps (C.ini c)).length := by rw [List.length_cons, ← hv2.len, hl]
  have hsp : spI C c (C.ps (C.ini c)).length (G.init c) (V.ref (s.heap.objs.size + 1) :: (vs' ++ dvs)) (upd (upd H s.heap.objs.size (.own (s.heap.objs.size + 1))) (s.heap.objs.size + 1) (.ins (C.ca c) s.heap.objs.size []))
      (fun v' H' => v' = .non ∧ ∃ v env', K v env' ∧ Rel C phi env' (v :: T) sig (.ref (s.heap.objs.size + 1) :: T') H') (EXc C phi Kx sig) := by
    refine ⟨hn, phi2, env.st, vs ++ dv, s.heap.objs.size + 1, vs' ++ dvs, _, _, rfl, ⟨_, _, q3⟩, w, fun fs st' H' kk q => ⟨rfl, ?_⟩, fun e st' cls d H' kk q => ⟨e, _, T, T', h3 e st' cls d H' q, kk⟩⟩
    obtain ⟨F4, mu4, q⟩ := q
    cases em : fs.mapM id with
    | none => rw [em] at kk; exact kk.elim
    | some ws =>
      rw [em] at kk
      obtain ⟨F5, a, q5, ea, rp5⟩ := q.done (i := 0) rfl em
      cases ea
      exact ⟨_, _, kk, h2 st' [.ins c ws] [_] H' ⟨F5, mu4, (q5.push rp5).bare1 (i := 0)⟩⟩
  refine wpAny_call (make_map (f := C.fa (C.ini c)) I.kIn (by rw [hX.K]; exact M.makes) (by rw [hX.K]; exact M.init) (beq_iff_eq.mp (by rw [hX.K]; exact M.fn)) (codeAny_mono (run_at (args := ⟨Value.ref (s.heap.objs.size + 1) :: us, []⟩) (us := Value.ref (s.heap.objs.size + 1) :: (us ++ ds)) hX fg
    (ok.room1.make (C.ca c) us []) (under_guards.trans ok.gd) under_frames I2 (b _ (Value.ref (s.heap.objs.size + 1) :: us) (by rw [← hX.K]; exact I2.kIn) ?_) (.cons (relRef _) (rv.append rd)) hsp ok.pass) fun r s' hq => ?_))
  · have e := (Paired.length (.cons (relRef (s.heap.objs.size + 1)) (rv.append rd) : Vals _ _)).symm.trans hn
    exact e
  · cases r with
    | error e => exact hq
    | ok fl =>
      cases fl with
      | ret u =>
        obtain ⟨v', H', I3, rv3, ev, v, env', kk, rr⟩ := hq
        subst ev
        exact ⟨rv3, _, H', I3, relRef _, v, env', kk, rr⟩
      | next => exact False.elim hq
      | brk => exact False.elim hq
      | cont => exact False.elim hq
theorem e_make {x : Str} {pf pos : Pos} {es : List Expr} {is : List Ex} {c : Nat} {dv : List PV} (ok : XOk C G k phi Kx X) (hg : Gl X x) (hm : X.mg x = some (.ref (C.ca c))) (hk : PySem.W.keepIn X.K (.ref (C.ca c)) = true) (o : Os C phi G Kx X es is) (hp : ∀ i ∈ is, isPk i = none)
    (hd : dv = (C.df (C.ini c)).drop (is.length + 1 + (C.df (C.ini c)).length - (C.ps (C.ini c)).length)) (hd2 : (C.ps (C.ini c)).length ≤ is.length + 1 + (C.df (C.ini c)).length) (hdb : (x == ("__debug__" : Str)) = false) : PE X (.Call (.Name x pf) es [] pos) (tE C phi G Kx (.make c is dv)) := by
  refine ⟨fun pins s sig H Q I ⟨env, T, T', K, r, w, kk⟩ => ?_⟩
  rw [wpE] at w
  refine wpAny_Call_Name_kw (ld_glob I hg hm ?_ hdb)
  refine callW (first := []) o hk I r w fun us s2 vs' H2 vs env2 I2 rv g q => ?_
  obtain ⟨F, mu, rf, sh⟩ := g
  have hl : vs.length = is.length := sh.len.symm
  rw [← hl] at hd hd2
  exact thn (make_tab ok I2 rv rf (sh.reps hp) hd hd2 q) fun u s' z => post_tE z kk
end
end RF

end
section
set_option maxRecDepth 100000
set_option maxHeartbeats 1000000
/-! Attributes, properties, methods, classmethods. -/
namespace RF
open PySem PySem.Spec L2 PyProof.Rows

section
variable {C : Ctx} {phi : Frm} {X : Cx} {G : Sig} {Kx : Exc → Env → Prop} {k : Nat} {F H : Hp} {mu : List Addr} {env : Env} {T : List PV} {sig : L2.St} {T' : List V} {pins : List (Addr × Obj)} {s : Shared}

theorem xpass_no (X : Cx) : XPass C phi X.nox (fun _ _ => False) := by
  intro sig pins H s e s' I h
  obtain ⟨a, B, H', cls, d, _, _, _, _, _, _, _, e, env, T, T', _, z⟩ := h
  exact z
/-- e.f -/
theorem e_attr {e : Expr} {i : Ex} {m : Nat} {f : Str} {pos : Pos} (ok : XOk C G k phi Kx X) (hf : f = C.mn m) (he : PE X e (tE C phi G Kx i)) (hab : attributeBase e f X.env (eval e X.env) = eval e X.env) : PE X (.Attribute e f pos) (tE C phi G Kx (.attr m i)) := by
  subst hf
  refine ⟨fun pins s sig H Q I ⟨env, T, T', K, r, w, kk⟩ => ?_⟩
  rw [wpE] at w
  refine attr_of hab (thn (tE_post he I r w) fun u s1 ⟨v', H1, I1, r1, v, env1, q, r2⟩ => ?_)
  obtain ⟨F, mu, rf⟩ := r2
  cases v with
  | ins c fs =>
    have hv := rf.top
    cases hv with
    | @ins a dx _ _ vs gs ha hfl hrs =>
    cases r1
    have hX := ok.toXIs
    cases e1 : G.fld c m with
    | some j =>
      simp only [e1] at q
      obtain ⟨cl, na, hat⟩ := ok.tab.fld c m j e1
      cases e2 : fs[j]? with
      | none => simp only [e2] at q
      | some wv =>
        simp only [e2] at q
        obtain ⟨wv', e3, rw'⟩ := hrs.get e2
        have lk : gs.lookup (C.mn m) = some wv' := hfl.at_ j _ (some wv') hat (by rw [List.getElem?_map, e3]; rfl)
        refine getattr_ok I1 (rf.ext _ _ ha) (by rw [hX.K]; exact cl) (by rw [hX.K]; exact na) lk fun u s2 I2 ru => ⟨wv', H1, I2, ru, kk _ _ _ _ q ⟨F, mu, rf.pop.push rw'⟩⟩
    | none =>
      simp only [e1] at q
      cases e2 : G.prop c m with
      | none => simp only [e2] at q
      | some g =>
        simp only [e2] at q
        obtain ⟨cl, p, hp⟩ := ok.tab.prop c m g e2
        rw [← hX.K] at cl hp
        obtain ⟨mA, O, _, _, _, _⟩ := ins_get I1.hok (rf.ext _ _ ha)
        obtain ⟨od, J, _⟩ := O.look
        obtain ⟨rest, hrec⟩ := hp.rec_
        have I2 := I1.tok (s1.toks + 1)
        have hc : (PySem.W.clsIn X.K (C.ca c)).isSome = true := by
          obtain ⟨cd, hc, _⟩ := PySem.W.any_some cl.hd
          rw [hc]
          rfl
        obtain ⟨ft, fg, ar⟩ := ok.tab.fn g ⟨_, _, _, _, q⟩
        have hl := ar _ _ _ _ q
        have hl2 : [V.ref a].length = (C.ps g).length := hl
        obtain ⟨ds, dvs, b, rd, rp⟩ := ft.binds (C.ps g).length (by omega) (Nat.le_refl _)
        have e5 : (C.df g).drop ((C.ps g).length + (C.df g).length - (C.ps g).length) = [] := by
          rw [Nat.add_sub_cancel_left]; exact List.drop_length
        have rp0 := rp F mu
        rw [e5] at rp0
        cases rp0
        cases rd
        have hv := rf.top
        refine PySem.W.get_bind I1.kIn J (PySem.W.plainGet_of (cl.get (C.mn m))).1 (PySem.W.findObj_data hc hp.at_ hp.get hp.tak) (PySem.W.plainGet_of (cl.get (C.mn m))).2 (wpAny_call (PySem.W.prop_get (s := { s1 with toks := s1.toks + 1 }) I1.kIn hrec ?_))
        have bt : BindsTo { s1 with toks := s1.toks + 1 } (C.fd g) ⟨[.ref a], []⟩ ((C.ps g).zip [.ref a]) := by
          have z := b { s1 with toks := s1.toks + 1 } [.ref a] (by rw [← hX.K]; exact I2.kIn) (by rw [List.append_nil]; exact hl2)
          rw [List.append_nil] at z
          exact z
        refine codeAny_mono (call_at (X := X.nox) (Kx := fun _ _ => False) ⟨hX.prog, hX.w, hX.K, hX.mg, hX.base, hX.gd⟩ fg ok.room1.in1 ok.gd rfl (I2.wish _) bt (.cons (relRef a) .nil) rf.pop (.cons hv .nil) hl2 q (xpass_no X)) fun r s' hq => ?_
        cases r with
        | error er => exact False.elim hq
        | ok fl =>
          cases fl with
          | ret u =>
            obtain ⟨v', H', I3, rv, v, env', kq, rr⟩ := hq
            have I3 := I3.unwish
            have q3 := kk _ _ _ _ kq rr
            show wpAny _ _ (handedOut u) _ _ _
            rw [PySem.W.handedOut_of (handed_of rv)]
            exact wpAny_pure ⟨v', H', I3, rv, q3⟩
          | next => exact False.elim hq
          | brk => exact False.elim hq
          | cont => exact False.elim hq
  | _ => exact q.elim

/-- how a call of an attribute is read -/
def MethEq (o : Expr) (m : Str) (apos : Pos) (es : List Expr) (pos : Pos) (ev : PySem.Env) : Prop := ∃ pl : Sem Bool, eval (.Call (.Attribute o m apos) es [] pos) ev = (do
      let ov ← eval o ev
      standAt apos.atName
      let (f, first) ← holding [ov] (getMethod ov m pl)
      callWith pos f first (backTo pos (starEach es ev)) (backToKw pos (keywordEach [] ev)))
/-- o.m(..) -/
theorem e_meth {o : Expr} {io : Ex} {m : Nat} {f : Str} {es : List Expr} {is : List Ex} {dv : List PV} {apos pos : Pos} (ok : XOk C G k phi Kx X) (hf : f = C.mn m) (ho : PE X o (tE C phi G Kx io)) (os : Os C phi G Kx X es is) (hp : ∀ i ∈ is, isPk i = none)
    (hd : ∀ c g, G.meth c m = some g → dv = (C.df g).drop (is.length + 1 + (C.df g).length - (C.ps g).length) ∧ (C.ps g).length ≤ is.length + 1 + (C.df g).length) (he : MethEq o f apos es pos X.env) :
    PE X (.Call (.Attribute o f apos) es [] pos) (tE C phi G Kx (.meth m io is dv)) := by
  subst hf
  obtain ⟨pl, he⟩ := he
  refine ⟨fun pins s sig H Q I ⟨env, T, T', K, r, w, kk⟩ => ?_⟩
  rw [wpE] at w
  refine PySem.W.methodCall_KW (pl := pl) (thn (tE_post ho I r w) fun u s1 ⟨v', H1, I1, r1, v, env1, q, r2⟩ => ?_) he
  obtain ⟨F, mu, rf⟩ := r2
  cases v with
  | ins c fs =>
    have hv := rf.top
    cases hv with
    | @ins a dx _ _ vs gs ha hfl hrs =>
    cases r1
    have hX := ok.toXIs
    cases e1 : G.meth c m with
    | none => simp only [e1] at q
    | some g =>
      simp only [e1] at q
      obtain ⟨cl, me, nf, _⟩ := ok.tab.meth c m g e1
      rw [← hX.K] at cl me
      refine getmeth_ok I1 (rf.ext _ _ ha) cl me (hfl.out _ nf) ?_
      refine callW (first := [.ref a]) os me.kp I1 ⟨F, mu, rf⟩ q fun us s2 vs' H2 vs2 env2 I2 rv g2 q2 => ?_
      obtain ⟨F2, mu2, rf2, sh⟩ := g2
      have hv2 := rf2.top
      obtain ⟨hd1, hd2⟩ := hd c g e1
      have hl : vs2.length = is.length := sh.len.symm
      rw [← hl] at hd1 hd2
      exact thn (call_tabD ok ok.room ok.gd rfl I2 (us := .ref a :: us) (vs := .ins c fs :: vs2) (.cons (relRef a) rv) rf2.pop (.cons hv2 (sh.reps hp)) hd1 hd2 q2) fun u s' z => post_tE z kk
  | _ => exact q.elim

/-- K.m(..), a classmethod of the class c: what of the text it needs -/
structure CmFact (C : Ctx) (c : Nat) (m : Str) (f : Nat) : Prop where
  ex : ∃ mc p, ClX.CRead C.K (C.ca c) mc ∧ ClX.CMet C.K (C.ca c) mc m p (C.fa f)
theorem e_cmeth {x m : Str} {c f : Nat} {es : List Expr} {is : List Ex} {e : Expr} {dv : List PV} {px apos pos : Pos} (ok : XOk C G k phi Kx X) (cm : CmFact C c m f) (hg : Gl X x) (hm : X.mg x = some (.ref (C.ca c))) (os : Os C phi G Kx X (e :: es) is) (hp : ∀ i ∈ is, isPk i = none)
    (hd : dv = (C.df f).drop (is.length + 1 + (C.df f).length - (C.ps f).length)) (hd2 : (C.ps f).length ≤ is.length + 1 + (C.df f).length) (hdb : (x == ("__debug__" : Str)) = false) (he : MethEq (.Name x px) m apos (e :: es) pos X.env) :
    PE X (.Call (.Attribute (.Name x px) m apos) (e :: es) [] pos) (tE C phi G Kx (.cmeth f c is dv)) := by
  obtain ⟨pl, he⟩ := he
  obtain ⟨mc, p, cr, cmt⟩ := cm.ex
  have hX := ok.toXIs
  rw [← hX.K] at cr cmt
  refine ⟨fun pins s sig H Q I ⟨env, T, T', K, r, w, kk⟩ => ?_⟩
  rw [wpE] at w
  refine PySem.W.methodCall_KW (pl := pl) (ld_glob I hg hm ?_ hdb) he
  refine ClX.getmethcm_ok I cr cmt fun s2 I2 => ?_
  have hs := os.star
  rw [List.all_cons, Bool.and_eq_true] at hs
  refine ClX.callwith_cm I2 (ClX.base_none I (Nat.le_refl _)) cmt.fi (thn (os.run pos I2 r w) fun us s3 ⟨vs', H3, vs, env3, I3, rv, g, q⟩ => ⟨⟨ClX.pin_at I3, I3.kIn⟩, ?_⟩) (star_cons hs.1) (star_any hs.2)
  obtain ⟨F, mu, rf, sh⟩ := g
  have hl : vs.length = is.length := sh.len.symm
  rw [← hl] at hd hd2
  obtain ⟨ft, fg, ar⟩ := ok.tab.fn f ⟨_, _, _, _, q⟩
  have hl2 := ar _ _ _ _ q
  have hle : (PV.cls c :: vs).length ≤ (C.ps f).length := by
    rw [← hl2]
    simp only [List.length_cons, List.length_append]
    omega
  obtain ⟨ds, dvs, b, rd, rp⟩ := ft.binds (PV.cls c :: vs).length hd2 hle
  have hv2 : Reps C F mu ((PV.cls c :: vs) ++ dv) ((V.ref (C.ca c) :: vs') ++ dvs) := Reps.of_ft (.cons (.cls c) (sh.reps hp)) rp hd
  have r2 : Vals ((V.ref (C.ca c) :: vs') ++ dvs) ((Value.ref (C.ca c) :: us) ++ ds) := Vals.append (.cons (relRef _) rv) rd
  have hn : ((V.ref (C.ca c) :: vs') ++ dvs).length = (C.ps f).length := by rw [← hv2.len]; exact hl2
  have z : wpAny (model X.prog X.w) X.A (call (.ref s.heap.objs.size) us) (GPost C phi X ((s.heap.objs.size, PySem.W.methodObj (.ref (C.fa f)) (.ref (C.ca c))) :: pins) sig T T' K) X.xe s3 := by
    refine wpAny_call (PySem.W.method_call (ClX.pin_at I3) (codeAny_mono (call_at hX fg ok.room ok.gd rfl I3 (args := ⟨Value.ref (C.ca c) :: us, []⟩) (us := (Value.ref (C.ca c) :: us) ++ ds) (b s3 (Value.ref (C.ca c) :: us) (by rw [← hX.K]; exact I3.kIn) (by rw [← r2.length]; exact hn)) r2 rf hv2 hn q ok.pass) fun r s' hq => ?_))
    cases r with
    | error e => exact hq
    | ok fl =>
      cases fl with
      | ret u => exact hq
      | next => exact hq.elim
      | brk => exact hq.elim
      | cont => exact hq.elim
  exact thn z fun u s' y => ClX.unpinE (post_tE y kk)
/-- the name of a class -/
theorem e_cls {x : Str} {c : Nat} {pos : Pos} (ok : XOk C G k phi Kx X) (hg : Gl X x) (hm : X.mg x = some (.ref (C.ca c))) (hdb : (x == ("__debug__" : Str)) = false) : PE X (.Name x pos) (tE C phi G Kx (.cst (.cls c))) := by
  refine ⟨fun pins s sig H Q I ⟨env, T, T', K, ⟨F, mu, r⟩, w, kk⟩ => ?_⟩
  rw [wpE] at w
  exact ld_glob I hg hm ⟨_, H, I, relRef _, kk _ _ _ _ w ⟨F, mu, r.push (.cls c)⟩⟩ hdb
end
end RF

end
section
set_option maxRecDepth 100000
set_option maxHeartbeats 1000000
/-! and, or, not, a if c else b; tests. -/
namespace RF
open PySem PySem.Spec L2 PyProof.Rows

section
variable {C : Ctx} {phi : Frm} {X : Cx} {G : Sig} {Kx : Exc → Env → Prop} {k : Nat} {F H : Hp} {mu : List Addr} {env : Env} {T : List PV} {sig : L2.St} {T' : List V} {pins : List (Addr × Obj)} {s : Shared}

theorem truE (hK : X.K = C.K) (I : Inv X pins sig H s) {v : PV} {v' : V} {u : Value} {b : Bool} (rv : RelV v' u) (r : RelF C phi F mu env T sig T' H) (h : Rep C F mu v v') (e : truth v = some b) {Q : Bool → Shared → Prop} (k : ∀ s', Inv X pins sig H s' → Q b s') :
    wpAny (model X.prog X.w) X.A (truthy u) Q X.xe s := by
  refine thn (tru_ok pins s sig H v' u (fun c H2 => c = b ∧ H2 = H) I rv ⟨b, r.tru hK h e, rfl, rfl⟩) fun c s2 hc => ?_
  obtain ⟨H2, I2, e1, e2⟩ := hc
  rw [e2] at I2
  rw [e1]
  exact k _ I2
theorem e_one {op : BoolOp} {a : Expr} {ia : Ex} {pos : Pos} (ha : PE X a (tE C phi G Kx ia)) : PE X (.BoolOp op [a] pos) (tE C phi G Kx ia) := pe_one ha
theorem e_and {a b : Expr} {rest : List Expr} {ia ib : Ex} {pos : Pos} (ok : XOk C G k phi Kx X) (ha : PE X a (tE C phi G Kx ia)) (hb : PE X (.BoolOp .And (b :: rest) pos) (tE C phi G Kx ib)) : PE X (.BoolOp .And (a :: b :: rest) pos) (tE C phi G Kx (.and ia ib)) := by
  refine ⟨fun pins s sig H Q I ⟨env, T, T', K, r, w, kk⟩ => ?_⟩
  rw [wpE] at w
  refine BoolOp_and (thn (tE_post ha I r w) fun u s1 ⟨v', H1, I1, r1, v, env1, q, F, mu, rf⟩ => ?_)
  cases e : truth v with
  | none => simp only [e] at q
  | some b =>
    simp only [e] at q
    refine truE ok.K I1 r1 rf rf.top e fun s2 I2 => ?_
    cases b with
    | true => exact hb.run pins s2 sig H1 Q I2 ⟨env1, T, T', K, ⟨F, mu, rf.pop⟩, q, kk⟩
    | false => exact ⟨v', H1, I2, r1, kk _ _ _ _ q ⟨F, mu, rf⟩⟩
theorem e_or {a b : Expr} {rest : List Expr} {ia ib : Ex} {pos : Pos} (ok : XOk C G k phi Kx X) (ha : PE X a (tE C phi G Kx ia)) (hb : PE X (.BoolOp .Or (b :: rest) pos) (tE C phi G Kx ib)) : PE X (.BoolOp .Or (a :: b :: rest) pos) (tE C phi G Kx (.or ia ib)) := by
  refine ⟨fun pins s sig H Q I ⟨env, T, T', K, r, w, kk⟩ => ?_⟩
  rw [wpE] at w
  refine BoolOp_or (thn (tE_post ha I r w) fun u s1 ⟨v', H1, I1, r1, v, env1, q, F, mu, rf⟩ => ?_)
  cases e : truth v with
  | none => simp only [e] at q
  | some b =>
    simp only [e] at q
    refine truE ok.K I1 r1 rf rf.top e fun s2 I2 => ?_
    cases b with
    | false => exact hb.run pins s2 sig H1 Q I2 ⟨env1, T, T', K, ⟨F, mu, rf.pop⟩, q, kk⟩
    | true => exact ⟨v', H1, I2, r1, kk _ _ _ _ q ⟨F, mu, rf⟩⟩
theorem e_not {a : Expr} {ia : Ex} {pos : Pos} (ok : XOk C G k phi Kx X) (ha : PE X a (tE C phi G Kx ia)) : PE X (.UnaryOp .Not a pos) (tE C phi G Kx (.not ia)) := by
  refine ⟨fun pins s sig H Q I ⟨env, T, T', K, r, w, kk⟩ => ?_⟩
  rw [wpE] at w
  refine UnaryOp_ (thn (tE_post ha I r w) fun u s1 ⟨v', H1, I1, r1, v, env1, q, F, mu, rf⟩ => ?_)
  cases e : truth v with
  | none => simp only [e] at q
  | some b =>
    simp only [e] at q
    exact not_of (truE ok.K I1 r1 rf rf.top e fun s2 I2 => ⟨.bl (!b), H1, I2, rfl, kk _ _ _ _ q ⟨F, mu, rf.pop.push (.bl _)⟩⟩)
theorem e_ite {c a b : Expr} {ic ia ib : Ex} {pos : Pos} (hc : PT X c (tT C phi G Kx ic)) (ha : PE X a (tE C phi G Kx ia)) (hb : PE X b (tE C phi G Kx ib)) : PE X (.IfExp c a b pos) (tE C phi G Kx (.ite ic ia ib)) := by
  refine ⟨fun pins s sig H Q I ⟨env, T, T', K, r, w, kk⟩ => ?_⟩
  rw [wpE] at w
  refine wpAny_IfExp (thn (hc.run pins s sig H (fun b H' => ∃ env', (match b with
    | true => wpE G Kx ia env' K
    | false => wpE G Kx ib env' K) ∧ Rel C phi env' T sig T' H') I ⟨env, T, T', _, r, w, fun b env' H' q r => by cases b <;> exact ⟨env', q, r⟩⟩) fun d s1 ⟨H1, I1, env1, q, r1⟩ => ?_)
  cases d with
  | true => exact ha.run pins s1 sig H1 Q I1 ⟨env1, T, T', K, r1, q, kk⟩
  | false => exact hb.run pins s1 sig H1 Q I1 ⟨env1, T, T', K, r1, q, kk⟩

/-! ### tests -/
def plainT : Ex → Bool
  | .var _ => true
  | .cst _ => true
  | .pr _ _ => true
  | .call _ _ _ => true
  | .meth _ _ _ _ => true
  | .attr _ _ => true
  | _ => false
/-- a test by its value -/
theorem wpT_of {i : Ex} (h : plainT i = true) {Kt : Bool → Env → Prop} (w : wpT G Kx i env Kt) : wpE G Kx i env fun v e1 => match truth v with
    | some b => Kt b e1
    | none => False := by
  cases i with
  | var j =>
    rw [wpT] at w
    rw [wpE]
    exact w
  | cst v =>
    rw [wpT] at w
    rw [wpE]
    exact w
  | pr p as =>
    rw [wpT] at w
    rw [wpE]
    exact w
  | call f as dv =>
    rw [wpT] at w
    rw [wpE]
    exact w
  | meth m o as dv =>
    rw [wpT] at w
    rw [wpE]
    exact w
  | attr m o =>
    rw [wpT] at w
    rw [wpE]
    exact w
  | _ => cases h
theorem t_val {e : Expr} {i : Ex} (ok : XOk C G k phi Kx X) (hp : plainT i = true) (h : PE X e (tE C phi G Kx i)) (he : ∀ whole, isTrue e X.env whole = (do let v ← whole; standAt e.pos; holding [v] (truthy v))) : PT X e (tT C phi G Kx i) := by
  refine ⟨fun pins s sig H Q I ⟨env, T, T', K, r, w, kk⟩ => ?_⟩
  refine isTrue_plain (thn (tE_post h I r (wpT_of hp w)) fun u s1 ⟨v', H1, I1, r1, v, env1, q, F, mu, rf⟩ => ?_) (he _)
  cases e : truth v with
  | none => simp only [e] at q
  | some b =>
    simp only [e] at q
    exact truE ok.K I1 r1 rf rf.top e fun s2 I2 => ⟨H1, I2, kk _ _ _ q ⟨F, mu, rf.pop⟩⟩
theorem t_cmp {op : CmpOp} {p : Pr} {a b : Expr} {ia ib : Ex} {pos : Pos} (ok : XOk C G k phi Kx X) (hm : behindInMarks op b = false) (hp : PrOk C phi G Kx X p fun us => match us with | [v, u] => compareOp op v u | _ => pure .none) (ha : PE X a (tO C phi G Kx ia)) (hb : PE X b (tO C phi G Kx ib)) :
    PT X (.Compare a [op] [b] pos) (tT C phi G Kx (.pr p [ia, ib])) := by
  refine ⟨fun pins s sig H Q I ⟨env, T, T', K, r, w, kk⟩ => ?_⟩
  have w := wpT_of rfl w
  rw [wpE] at w
  refine wpAny_isTrue_Compare1 (ops2 ha hb I r w fun v u s2 x y H2 vs env2 I2 rx ry g q => thn (hp pins s2 sig H2 env2 T T' (fun v e1 => match truth v with
    | some b => K b e1
    | none => False) _ vs [x, y] [v, u] I2 g (.cons rx (.cons ry .nil)) q) fun u s3 ⟨v', H3, I3, r3, v, env3, q3, F, mu, rf⟩ => ?_) hm
  cases e : truth v with
  | none => simp only [e] at q3
  | some b =>
    simp only [e] at q3
    exact truE ok.K I3 r3 rf rf.top e fun s4 I4 => ⟨H3, I4, kk _ _ _ q3 ⟨F, mu, rf.pop⟩⟩
theorem t_not {a : Expr} {ia : Ex} {pos : Pos} (ha : PT X a (tT C phi G Kx ia)) : PT X (.UnaryOp .Not a pos) (tT C phi G Kx (.not ia)) := by
  refine ⟨fun pins s sig H Q I ⟨env, T, T', K, r, w, kk⟩ => ?_⟩
  rw [wpT] at w
  exact isTrue_not (thn (ha.run pins s sig H (fun b H' => Q (!b) H') I ⟨env, T, T', _, r, w, fun b env' H' q r => kk _ _ _ q r⟩) fun c s1 h => h)
/-- tests of and, or -/
theorem tw_and1 {a : Expr} {ia : Ex} {pos : Pos} (ha : PT X a (tT C phi G Kx ia)) : PW X (.BoolOp .And [a] pos) (tT C phi G Kx ia) := pw_and1 ha
theorem tw_or1 {a : Expr} {ia : Ex} {pos : Pos} (ha : PT X a (tT C phi G Kx ia)) : PW X (.BoolOp .Or [a] pos) (tT C phi G Kx ia) := pw_or1 ha
theorem tw_and {a b : Expr} {rest : List Expr} {ia ib : Ex} {pos : Pos} (ha : PT X a (tT C phi G Kx ia)) (hb : PW X (.BoolOp .And (b :: rest) pos) (tT C phi G Kx ib)) : PW X (.BoolOp .And (a :: b :: rest) pos) (tT C phi G Kx (.and ia ib)) := by
  refine ⟨fun wh pins s sig H Q I ⟨env, T, T', K, r, w, kk⟩ => ?_⟩
  rw [wpT] at w
  refine isTrue_and (thn (ha.run pins s sig H (fun b H' => ∃ env', (match b with
    | true => wpT G Kx ib env' K
    | false => K false env') ∧ Rel C phi env' T sig T' H') I ⟨env, T, T', _, r, w, fun b env' H' q r => by cases b <;> exact ⟨env', q, r⟩⟩) fun c s1 ⟨H1, I1, env1, q, r1⟩ => ?_)
  cases c with
  | true => exact hb.run wh pins s1 sig H1 Q I1 ⟨env1, T, T', K, r1, q, kk⟩
  | false => exact ⟨H1, I1, kk _ _ _ q r1⟩
theorem tw_or {a b : Expr} {rest : List Expr} {ia ib : Ex} {pos : Pos} (ha : PT X a (tT C phi G Kx ia)) (hb : PW X (.BoolOp .Or (b :: rest) pos) (tT C phi G Kx ib)) : PW X (.BoolOp .Or (a :: b :: rest) pos) (tT C phi G Kx (.or ia ib)) := by
  refine ⟨fun wh pins s sig H Q I ⟨env, T, T', K, r, w, kk⟩ => ?_⟩
  rw [wpT] at w
  refine isTrue_or (thn (ha.run pins s sig H (fun b H' => ∃ env', (match b with
    | true => K true env'
    | false => wpT G Kx ib env' K) ∧ Rel C phi env' T sig T' H') I ⟨env, T, T', _, r, w, fun b env' H' q r => by cases b <;> exact ⟨env', q, r⟩⟩) fun c s1 ⟨H1, I1, env1, q, r1⟩ => ?_)
  cases c with
  | false => exact hb.run wh pins s1 sig H1 Q I1 ⟨env1, T, T', K, r1, q, kk⟩
  | true => exact ⟨H1, I1, kk _ _ _ q r1⟩
end
end RF

end
section
set_option maxRecDepth 100000
set_option maxHeartbeats 1000000
/-! Statements. -/
namespace RF
open PySem PySem.Spec L2 PyProof.Rows

/-- what a body's statements lean on -/
structure SOk (C : Ctx) (G : Sig) (k : Nat) (phi : Frm) (Kx : Exc → Env → Prop) (X : Cx) : Prop extends XOk C G k phi Kx X where
  nd : X.N.Nodup
  fn : ∀ x, X.fn x = true
  po : PassesOwn (model X.prog X.w) X.A X.env X.xe

section
variable {C : Ctx} {phi : Frm} {X : Cx} {G : Sig} {Kx : Exc → Env → Prop} {k : Nat} {F H : Hp} {mu : List Addr} {env : Env} {T : List PV} {sig : L2.St} {T' : List V} {pins : List (Addr × Obj)} {s : Shared}

/-! ### targets -/
def Tg.slots : Tg → List Nat
  | .nm i => [i]
  | .tp is => is
def gNms (is : List Nat) : TGs := fun vs sig H Q => vs.length = is.length ∧ Q ((is.zip vs).foldl (fun s p => s.set p.1 (some p.2)) sig) H
def gT (K : PySem.W.Frag) : Tg → TG
  | .nm i => gName i
  | .tp is => gTup K is.length (gNms is)
/-- the names of a target -/
inductive NmsOk (X : Cx) : List Expr → List Nat → Prop
  | nil : NmsOk X [] []
  | cons {x : Str} {pos : Pos} {i : Nat} {es : List Expr} {is : List Nat} : X.N[i]? = some x → Loc X.env.scope x → (X.fn x = true ∨ X.env.scope.names.lookup x = some .local) → NmsOk X es is → NmsOk X (.Name x pos :: es) (i :: is)
inductive TgOk (X : Cx) : Expr → Tg → Prop
  | nm {x : Str} {pos : Pos} {i : Nat} : X.N[i]? = some x → Loc X.env.scope x → (X.fn x = true ∨ X.env.scope.names.lookup x = some .local) → TgOk X (.Name x pos) (.nm i)
  | tp {es : List Expr} {is : List Nat} {n : Nat} {pos : Pos} : NmsOk X es is → TgOk X (.Tuple es n pos) (.tp is)
theorem NmsOk.each {es : List Expr} {is : List Nat} (h : NmsOk X es is) : (assignEach es X.env).length = is.length ∧ (assignEach es X.env).findIdx? (·.1) = none := by
  induction h with
  | nil => exact ⟨rfl, rfl⟩
  | cons _ _ _ _ ih =>
    refine ⟨?_, ?_⟩
    · show (_ :: _).length = _
      rw [List.length_cons, ih.1, List.length_cons]
    · show List.findIdx? _ ((false, _) :: _) = none
      rw [List.findIdx?_cons]
      simp [ih.2]
theorem NmsOk.pgs (hN : X.N.Nodup) {es : List Expr} {is : List Nat} (h : NmsOk X es is) : PGs X es (gNms is) := by
  induction h with
  | nil =>
    refine ⟨fun pins s σ H vs us Q I r hw => ?_⟩
    obtain ⟨e, q⟩ := hw
    have e : vs = [] := List.eq_nil_of_length_eq_zero e
    subst e
    exact pgs_nil.run pins s σ H [] us Q I r ⟨rfl, q⟩
  | @cons x pos i es is h1 h2 h3 _ ih =>
    have z := pgs_cons (pg_name (pos := pos) hN h1 h2 h3) ih
    refine ⟨fun pins s σ H vs us Q I r hw => ?_⟩
    obtain ⟨e, q⟩ := hw
    cases vs with
    | nil => cases e
    | cons v vr => exact z.run pins s σ H _ us Q I r ⟨v, vr, rfl, Nat.succ.inj e, q⟩
theorem TgOk.pg (hN : X.N.Nodup) (hc : X.calm = true) {e : Expr} {t : Tg} (h : TgOk X e t) : PG X e (gT X.K t) := by
  cases h with
  | nm h1 h2 h3 => exact pg_name hN h1 h2 h3
  | tp h => exact pg_tup hc (h.pgs hN) h.each.1 h.each.2
theorem NmsOk.lt {es : List Expr} {is : List Nat} (h : NmsOk X es is) : ∀ i ∈ is, i < X.N.length := by
  induction h with
  | nil => intro i hi; cases hi
  | cons h1 _ _ _ ih =>
    intro j hj
    rcases List.mem_cons.mp hj with e | e
    · rw [e]; exact (List.getElem?_eq_some_iff.mp h1).1
    · exact ih j e
theorem TgOk.lt {e : Expr} {t : Tg} (h : TgOk X e t) : ∀ i ∈ t.slots, i < X.N.length := by
  cases h with
  | nm h1 =>
    intro i hi
    have e : i = _ := List.mem_singleton.mp hi
    rw [e]
    exact (List.getElem?_eq_some_iff.mp h1).1
  | tp h => exact h.lt
theorem wipe_set {σ : L2.St} {i : Nat} {o : Option V} : ∀ {vs : List Nat}, i ∈ vs → L2.wipe (σ.set i o) vs = L2.wipe σ vs
  | [], h => by cases h
  | v :: vs, h => by
    unfold L2.wipe
    by_cases e : i = v
    · subst e
      by_cases hm : i ∈ vs
      · rw [wipe_set hm]
      · have key : ∀ ws : List Nat, i ∉ ws → L2.wipe (σ.set i o) ws = (L2.wipe σ ws).set i o := by
          intro ws
          induction ws with
          | nil => intro _; rfl
          | cons w ws ih =>
            intro hn
            simp only [List.mem_cons, not_or] at hn
            unfold L2.wipe
            rw [ih hn.2, List.set_comm _ _ hn.1]
        rw [key vs hm, List.set_set]
    · rcases List.mem_cons.mp h with q | q
      · exact absurd q e
      · rw [wipe_set q]
theorem RelF.putA {i : Nat} {v : PV} {v' : V} (r : RelF C phi F mu env T sig T' H) (h : Rep C F mu v v') : RelF C phi F mu (env.put i (.val v)) T (sig.set i (some v')) T' H := by
  by_cases hi : i < sig.length
  · exact r.put h hi
  · have e1 : sig.set i (some v') = sig := List.set_eq_of_length_le (Nat.le_of_not_lt hi)
    have e2 : env.put i (.val v) = env := by
      unfold Env.put
      rw [List.set_eq_of_length_le (by rw [r.sl]; exact Nat.le_of_not_lt hi)]
    rw [e1, e2]
    exact r
/-- values come to stand at places -/
theorem RelF.putsN : ∀ {is : List Nat} {vs : List PV} {vs' : List V} {env env' : Env} {sig : L2.St}, RelF C phi F mu env T sig T' H → Reps C F mu vs vs' → env.puts is vs = some env' →
    vs'.length = is.length ∧ RelF C phi F mu env' T ((is.zip vs').foldl (fun s p => s.set p.1 (some p.2)) sig) T' H ∧ ((is.zip vs').foldl (fun s p => s.set p.1 (some p.2)) sig).length = sig.length ∧
    ∀ ws : List Nat, (∀ i ∈ is, i ∈ ws) → L2.wipe ((is.zip vs').foldl (fun s p => s.set p.1 (some p.2)) sig) ws = L2.wipe sig ws
  | [], [], _, env, env', sig, r, .nil, e => by
    have e : env = env' := by simpa [Env.puts] using e
    subst e
    exact ⟨rfl, r, rfl, fun _ _ => rfl⟩
  | i :: is, v :: vs, _, env, env', sig, r, .cons h1 h2, e => by
    have e : (env.put i (.val v)).puts is vs = some env' := e
    have r1 := r.putA (i := i) h1
    obtain ⟨a, b, c, d⟩ := RelF.putsN r1 h2 e
    refine ⟨by rw [List.length_cons, List.length_cons, a], b, ?_, fun ws hw => ?_⟩
    · exact c.trans (List.length_set ..)
    · exact (d ws fun j hj => hw j (List.mem_cons_of_mem _ hj)).trans (wipe_set (hw i List.mem_cons_self))
theorem RelF.asgT {t : Tg} {v : PV} {v' : V} {env' : Env} {K : PySem.W.Frag} (r : RelF C phi F mu env (v :: T) sig (v' :: T') H) (e : asg t v env = some env') {Q : L2.St → Hp → Prop}
    (k : ∀ sig', Rel C phi env' T sig' T' H → sig'.length = sig.length → (∀ ws : List Nat, (∀ i ∈ t.slots, i ∈ ws) → L2.wipe sig' ws = L2.wipe sig ws) → Q sig' H) : gT K t v' sig H Q := by
  cases t with
  | nm i =>
    cases e
    exact k _ ⟨F, mu, r.pop.putA r.top⟩ (List.length_set ..) fun ws hw => wipe_set (hw i List.mem_cons_self)
  | tp is =>
    cases v with
    | tup vs =>
      have z := r.top
      cases z with
      | @tup a _ vs' ha hr =>
        obtain ⟨a1, a2, a3, a4⟩ := RelF.putsN r.pop hr (show env.puts is vs = some env' from e)
        exact ⟨a, vs', rfl, SqT.of (r.ext _ _ ha), a1, a1, k _ ⟨F, mu, a2⟩ a3 a4⟩
    | _ => cases e

/-! ### small statements -/
theorem psImp {st : Stmt} {t t' : TS} (h : PS X st t) (i : ∀ D sig H, t' D sig H → t D sig H) : PS X st t' := ⟨fun pins s sig H D I q => h.run pins s sig H D I (i _ _ _ q)⟩
theorem pssImp {st : List Stmt} {t t' : TS} (h : PSs X st t) (i : ∀ D sig H, t' D sig H → t D sig H) : PSs X st t' := ⟨fun pins s sig H D I q => h.run pins s sig H D I (i _ _ _ q)⟩
theorem Lnk.nxt {DD : Dn} {D : Ends} {nx : Env → Prop} {nx' : L2.St → Hp → Prop} (l : Lnk C phi T T' DD D) (h : ∀ env sig H, nx env → Rel C phi env T sig T' H → nx' sig H) : Lnk C phi T T' { DD with nx := nx } { D with nx := nx' } := ⟨h, l.rt, l.bk, l.ct⟩
theorem s_nil : PSs X [] (tB C phi G Kx []) := pssImp pss_nil fun D sig H ⟨env, T, T', DD, r, w, l⟩ => by
  rw [wpB] at w
  exact l.nx _ _ _ w r
theorem s_cons {st : Stmt} {rest : List Stmt} {i : Sm} {is : List Sm} (h1 : PS X st (tS C phi G Kx i)) (h2 : PSs X rest (tB C phi G Kx is)) : PSs X (st :: rest) (tB C phi G Kx (i :: is)) :=
  pssImp (pss_cons h1 h2) fun D sig H ⟨env, T, T', DD, r, w, l⟩ => by
    rw [wpB] at w
    exact ⟨env, T, T', _, r, w, l.nxt fun env1 sig1 H1 w1 r1 => ⟨env1, T, T', DD, r1, w1, l⟩⟩
theorem s_pass {pos : Pos} : PS X (.Pass pos) (tS C phi G Kx .pass) := psImp ps_pass fun D sig H ⟨env, T, T', DD, r, w, l⟩ => by
  rw [wpS] at w
  exact l.nx _ _ _ w r
theorem s_brk {pos : Pos} : PS X (.Break pos) (tS C phi G Kx .brk) := psImp ps_break fun D sig H ⟨env, T, T', DD, r, w, l⟩ => by
  rw [wpS] at w
  exact l.bk _ _ _ w r
theorem s_cnt {pos : Pos} : PS X (.Continue pos) (tS C phi G Kx .cnt) := psImp ps_continue fun D sig H ⟨env, T, T', DD, r, w, l⟩ => by
  rw [wpS] at w
  exact l.ct _ _ _ w r
theorem s_never {st : Stmt} : PS X st (tS C phi G Kx .never) := psImp ps_never fun D sig H ⟨env, T, T', DD, r, w, l⟩ => by
  rw [wpS] at w
  exact w
theorem s_ex {e : Expr} {i : Ex} {pos : Pos} (he : PE X e (tE C phi G Kx i)) (hs : swapsWith e none pos.line X.env = pure false) : PS X (.Expr e pos) (tS C phi G Kx (.ex i)) := psImp (ps_expr he hs) fun D sig H ⟨env, T, T', DD, r, w, l⟩ => by
  rw [wpS] at w
  exact ⟨env, T, T', _, r, w, fun v env' v' H' k ⟨F, mu, r⟩ => l.nx _ _ _ k ⟨F, mu, r.pop⟩⟩
theorem s_ret {e : Expr} {i : Ex} {pos : Pos} (he : PE X e (tE C phi G Kx i)) : PS X (.Return (some e) pos) (tS C phi G Kx (.ret i)) := psImp (ps_ret he) fun D sig H ⟨env, T, T', DD, r, w, l⟩ => by
  rw [wpS] at w
  exact ⟨env, T, T', _, r, w, fun v env' v' H' k r => l.rt _ _ _ _ _ k r⟩
theorem s_if {c : Expr} {a b : List Stmt} {ic : Ex} {ia ib : List Sm} {pos : Pos} (hc : PT X c (tT C phi G Kx ic)) (ha : PSs X a (tB C phi G Kx ia)) (hb : PSs X b (tB C phi G Kx ib)) : PS X (.If c a b pos) (tS C phi G Kx (.ite ic ia ib)) :=
  psImp (ps_if hc ha hb) fun D sig H ⟨env, T, T', DD, r, w, l⟩ => by
    rw [wpS] at w
    refine ⟨env, T, T', _, r, w, fun b env' H' q r => ?_⟩
    cases b with
    | true => exact ⟨env', T, T', DD, r, q, l⟩
    | false => exact ⟨env', T, T', DD, r, q, l⟩
theorem s_whl {c : Expr} {b : List Stmt} {ic : Ex} {ib : List Sm} {pos : Pos} (ok : SOk C G k phi Kx X) (hc : PT X c (tT C phi G Kx ic)) (hb : PSs X b (tB C phi G Kx ib)) : PS X (.While c b [] pos) (tS C phi G Kx (.whl ic ib)) :=
  psImp (ps_while ok.po hc hb) fun D sig H ⟨env, T, T', DD, r, w, l⟩ => by
    rw [wpS] at w
    obtain ⟨W, ⟨m0, w0⟩, turn⟩ := w
    refine ⟨fun m sig H => ∃ env, Rel C phi env T sig T' H ∧ W m env, ⟨m0, env, r, w0⟩, ?_⟩
    rintro m sig1 H1 ⟨env1, r1, w1⟩
    refine ⟨env1, T, T', _, r1, turn m env1 w1, fun b env2 H2 q r2 => ?_⟩
    cases b with
    | true =>
      refine iteT ⟨fun sig' H' => ∃ m', m' < m ∧ ∃ env, Rel C phi env T sig' T' H' ∧ W m' env, fun sig' H' z => z, env2, T, T', _, r2, q, ?_⟩
      exact ⟨fun env3 sig3 H3 ⟨m', hm, w3⟩ r3 => ⟨m', hm, env3, r3, w3⟩, l.rt, fun env3 sig3 H3 z r3 => l.nx _ _ _ z r3, fun env3 sig3 H3 ⟨m', hm, w3⟩ r3 => ⟨m', hm, env3, r3, w3⟩⟩
    | false => exact iteF (l.nx _ _ _ q r2)

/-! ### storing -/
theorem s_asg {tg e : Expr} {i : Ex} {t : Tg} {pos : Pos} (ok : SOk C G k phi Kx X) (he : PE X e (tE C phi G Kx i)) (hg : TgOk X tg t) (hs : swapsWithSole [tg] e pos.line X.env = pure false) (hw : swappedStores [tg] e X.env = pure none)
    (h1 : (assignEach [tg] X.env).map (·.2) = [assign tg X.env]) : PS X (.Assign [tg] e pos) (tS C phi G Kx (.asg t i)) := by
  refine ⟨fun pins s sig H D I ⟨env, T, T', DD, r, w, l⟩ => ?_⟩
  rw [wpS] at w
  refine (ps_asg he (hg.pg ok.nd ok.calm) hs hw h1).run pins s sig H D I ⟨env, T, T', _, r, w, fun v env1 v' H1 q ⟨F, mu, r1⟩ => ?_⟩
  cases e1 : asg t v env1 with
  | none => simp only [e1] at q
  | some env2 =>
    simp only [e1] at q
    exact r1.asgT e1 fun sig' r2 _ _ => l.nx _ _ _ q r2
theorem s_set {x : Str} {e : Expr} {i : Nat} {ie : Ex} {pos pos' : Pos} (ok : SOk C G k phi Kx X) (he : PE X e (tE C phi G Kx ie)) (hi : X.N[i]? = some x) (hx : Loc X.env.scope x) (hs : swapsWith e (some (.Name x pos')) pos.line X.env = pure false) :
    PS X (.Assign [.Name x pos'] e pos) (tS C phi G Kx (.asg (.nm i) ie)) := by
  refine ⟨fun pins s sig H D I ⟨env, T, T', DD, r, w, l⟩ => ?_⟩
  rw [wpS] at w
  refine (ps_set ok.nd hi hx he hs (.inl (ok.fn x))).run pins s sig H D I ⟨env, T, T', _, r, w, fun v env1 v' H1 q ⟨F, mu, r1⟩ => ?_⟩
  have hl : i < sig.length := by rw [I.len]; exact (List.getElem?_eq_some_iff.mp hi).1
  exact l.nx _ _ _ q ⟨F, mu, r1.pop.put r1.top hl⟩
/-- a, b = x, y -/
theorem s_par2 {x y : Str} {a b : Expr} {i j : Nat} {ia ib : Ex} {px py pt pos : Pos} {kt k2 : Nat} {pt2 : Pos} (ok : SOk C G k phi Kx X) (hi : X.N[i]? = some x) (hj : X.N[j]? = some y) (hij : i ≠ j)
    (hx : X.env.scope.names.lookup x = some .local) (hy : X.env.scope.names.lookup y = some .local) (o : Os C phi G Kx X [a, b] [ia, ib]) (hp : ∀ i ∈ [ia, ib], isPk i = none)
    (hw : swappedStores [.Tuple [.Name x px, .Name y py] kt pt] (.Tuple [a, b] k2 pt2) X.env = pure (some [x, y]))
    (hs : swapsWithSole [.Tuple [.Name x px, .Name y py] kt pt] (.Tuple [a, b] k2 pt2) pos.line X.env = pure false) :
    PS X (.Assign [.Tuple [.Name x px, .Name y py] kt pt] (.Tuple [a, b] k2 pt2) pos) (tS C phi G Kx (.par [i, j] [ia, ib])) := by
  refine ⟨fun pins s sig H D I ⟨env, T, T', DD, r, w, l⟩ => ?_⟩
  rw [wpS] at w
  refine (ps_par ok.calm ok.nd hi hj hij hx hy o.pa hw hs).run pins s sig H D I ⟨env, T, T', _, r, w, fun vs env1 vs' H1 q g => ?_⟩
  obtain ⟨F, mu, rf, sh⟩ := g
  cases sh with
  | cons _ h1 sh =>
  cases sh with
  | cons _ h2 sh =>
  cases sh
  have h1 := h1 (hp ia (by simp))
  have h2 := h2 (hp ib (by simp))
  have li : i < sig.length := by rw [I.len]; exact (List.getElem?_eq_some_iff.mp hi).1
  have lj : j < sig.length := by rw [I.len]; exact (List.getElem?_eq_some_iff.mp hj).1
  exact ⟨_, _, rfl, l.nx _ _ _ q ⟨F, mu, (rf.put h1 li).put h2 (by rw [List.length_set]; exact lj)⟩⟩
end
end RF

end
section
set_option maxRecDepth 100000
set_option maxHeartbeats 1000000
/-! Live things are written. -/
namespace RF
open PySem PySem.Spec L2 PyProof.Rows

section
variable {C : Ctx} {phi : Frm} {X : Cx} {G : Sig} {Kx : Exc → Env → Prop} {k : Nat} {F H : Hp} {mu : List Addr} {env : Env} {T : List PV} {sig : L2.St} {T' : List V} {pins : List (Addr × Obj)} {s : Shared}
theorem updS {F H : Hp} {a : Addr} {o : HO} (e : Same F H) (h : F a = none) : Same F (upd H a o) := fun b u hb => by
  have ne : b ≠ a := fun z => by rw [z, h] at hb; cases hb
  rw [upd_ne ne]; exact e _ _ hb
theorem Live.other {a b : Addr} {o : HO} {s : SV} (h : Live C F mu H s b) (ne : b ≠ a) : Live C F mu (upd H a o) s b := h.mono (.refl _) (fun _ _ z => z) fun o' z => by rw [upd_ne ne]; exact z
theorem mu_inj (h : mu.Nodup) {i j : Nat} {a : Addr} (e1 : mu[i]? = some a) (e2 : mu[j]? = some a) : i = j := by
  exact (List.getElem?_inj (List.getElem?_eq_some_iff.mp e1).1 h).mp (e1.trans e2.symm)
/-- a thing of our own is written -/
theorem RelF.upd {i : Nat} {s s' : SV} {a : Addr} {o : HO} (r : RelF C phi F mu env T sig T' H) (h : env.sl[i]? = some s) (hl : s.live = true) (e : sig[i]? = some (some (.ref a))) (hL : Live C F mu (upd H a o) s' a) (hl' : s'.live = true) :
    RelF C phi F mu (env.put i s') T sig T' (L2.upd H a o) := by
  obtain ⟨a', e', l, hF, hR, hm⟩ := r.liv i s h hl
  rw [e] at e'
  cases e'
  have hi : i < env.sl.length := (List.getElem?_eq_some_iff.mp h).1
  have key : ∀ (j : Nat) (u : SV), (env.sl.set i s')[j]? = some u → (j = i ∧ u = s') ∨ (j ≠ i ∧ env.sl[j]? = some u) := fun j u e => by
    by_cases z : j = i
    · subst z
      rw [List.getElem?_set_self hi] at e
      exact .inl ⟨rfl, (Option.some.inj e).symm⟩
    · rw [List.getElem?_set_ne (Ne.symm z)] at e
      exact .inr ⟨z, e⟩
  refine ⟨updS r.ext hF, updS r.extR hR, r.dis, r.len, fun j v b h1 h2 => ?_, r.nd, by show (env.sl.set i s').length = _; rw [List.length_set]; exact r.sl, fun j v h1 => ?_, fun j u h1 h2 => ?_, fun j k u u2 b ne e1 l1 e2 l2 s1 s2 => ?_, r.tmp, r.frm⟩
  · obtain ⟨l', f, g⟩ := r.cel j v b h1 h2
    exact ⟨l'.other fun z => hm (by rw [← z]; exact List.mem_of_getElem? h2), f, g⟩
  · rcases key j _ h1 with ⟨z, q⟩ | ⟨z, q⟩
    · rw [← q] at hl'; cases hl'
    · exact r.val j v q
  · rcases key j _ h1 with ⟨z, q⟩ | ⟨z, q⟩
    · subst z; subst q
      exact ⟨a, e, hL, hF, hR, hm⟩
    · obtain ⟨b, e2, l2, f, g, n⟩ := r.liv j u q h2
      exact ⟨b, e2, l2.other fun y => r.sep i j s u a (Ne.symm z) h hl q h2 e (by rw [← y]; exact e2), f, g, n⟩
  · rcases key j _ e1 with ⟨z, q⟩ | ⟨z, q⟩
    · rcases key k _ e2 with ⟨z', q'⟩ | ⟨z', q'⟩
      · exact ne (z.trans z'.symm)
      · subst z
        exact r.sep j k s u2 b ne h hl q' l2 s1 s2
    · rcases key k _ e2 with ⟨z', q'⟩ | ⟨z', q'⟩
      · subst z'
        exact r.sep j k u s b ne q l1 h hl s1 s2
      · exact r.sep j k u u2 b ne q l1 q' l2 s1 s2
/-- a cell of the store is written -/
theorem RelF.updC {j : Nat} {v v' : PV} {a : Addr} {o : HO} (r : RelF C phi F mu env T sig T' H) (h : env.st[j]? = some v) (e : mu[j]? = some a) (hL : Live C F mu (L2.upd H a o) (.own v') a) :
    RelF C phi F mu { env with st := env.st.set j v' } T sig T' (L2.upd H a o) := by
  obtain ⟨l, hF, hR⟩ := r.cel j v a h e
  have hj : j < env.st.length := (List.getElem?_eq_some_iff.mp h).1
  refine ⟨updS r.ext hF, updS r.extR hR, r.dis, by show mu.length = (env.st.set j v').length; rw [List.length_set]; exact r.len, fun n w b h1 h2 => ?_, r.nd, r.sl, r.val, fun n u h1 h2 => ?_, r.sep, r.tmp, r.frm⟩
  · by_cases z : n = j
    · subst z
      rw [e] at h2
      cases h2
      have h1' : (env.st.set n v')[n]? = some w := h1
      rw [List.getElem?_set_self hj] at h1'
      cases h1'
      exact ⟨hL, hF, hR⟩
    · have h1' : (env.st.set j v')[n]? = some w := h1
      rw [List.getElem?_set_ne (Ne.symm z)] at h1'
      obtain ⟨l', f, g⟩ := r.cel n w b h1' h2
      exact ⟨l'.other fun y => z (mu_inj r.nd h2 (by rw [y]; exact e)), f, g⟩
  · obtain ⟨b, e2, l2, f, g, m⟩ := r.liv n u h1 h2
    exact ⟨b, e2, l2.other fun y => m (by rw [y]; exact List.mem_of_getElem? e), f, g, m⟩
/-- a new cell -/
theorem RelF.cell {p : Addr} {xs : List PV} {vs : List V} (r : RelF C phi F mu env T sig T' H) (h : H p = none) (q : Reps C F mu xs vs) : RelF C phi F (mu ++ [p]) { env with st := env.st ++ [.lst xs] } T sig T' (L2.upd H p (.lst vs)) := by
  obtain ⟨a, b, c, d⟩ := r.notR h
  have g := r.grow (Same.updN (o := HO.lst vs) h)
  have m : ∀ (j : Nat) (x : Addr), mu[j]? = some x → (mu ++ [p])[j]? = some x := fun j x z => by
    rw [List.getElem?_append_left (List.getElem?_eq_some_iff.mp z).1]; exact z
  refine ⟨g.ext, g.extR, g.dis, ?_, fun j v x h1 h2 => ?_, ?_, g.sl, fun i v h1 => ?_, fun i s h1 h2 => ?_, g.sep, g.tmp.mono (.refl _) m, phi.mono _ _ _ _ (.refl _) m g.frm⟩
  · show (mu ++ [p]).length = (env.st ++ [PV.lst xs]).length
    rw [List.length_append, List.length_append, r.len]; rfl
  · by_cases hj : j < env.st.length
    · have h1' : env.st[j]? = some v := by
        have : (env.st ++ [PV.lst xs])[j]? = some v := h1
        rw [List.getElem?_append_left hj] at this
        exact this
      have h2' : mu[j]? = some x := by
        rw [List.getElem?_append_left (by rw [r.len]; exact hj)] at h2
        exact h2
      obtain ⟨l, f, g'⟩ := g.cel j v x h1' h2'
      exact ⟨l.mono (.refl _) m fun _ z => z, f, g'⟩
    · have hj2 : j = env.st.length := by
        have : j < (env.st ++ [PV.lst xs]).length := (List.getElem?_eq_some_iff.mp h1).1
        rw [List.length_append, List.length_singleton] at this
        omega
      subst hj2
      have h1' : (env.st ++ [PV.lst xs])[env.st.length]? = some v := h1
      rw [List.getElem?_append_right (Nat.le_refl _), Nat.sub_self] at h1'
      rw [List.getElem?_append_right (by rw [r.len]; exact Nat.le_refl _), r.len, Nat.sub_self] at h2
      cases h1'
      cases h2
      exact ⟨.lst upd_same (q.mono (.refl _) m), a, b⟩
  · rw [List.nodup_append]
    exact ⟨r.nd, by simp, fun x hx y hy z => c (by
      have : y = p := List.mem_singleton.mp hy
      rw [← this, ← z]; exact hx)⟩
  · obtain ⟨v', e1, e2⟩ := g.val i v h1
    exact ⟨v', e1, e2.mono (.refl _) m⟩
  · obtain ⟨x, e1, l, f, g', n⟩ := g.liv i s h1 h2
    refine ⟨x, e1, l.mono (.refl _) m fun _ z => z, f, g', fun z => ?_⟩
    rcases List.mem_append.mp z with z | z
    · exact n z
    · have : x = p := List.mem_singleton.mp z
      exact d i s h1 h2 (by rw [← this]; exact e1)

/-! ### attributes of an object that is being made -/
theorem putF_len {f : Str} {v : V} : ∀ {gs : List (Str × V)}, (putF f v gs).length = if (gs.lookup f).isSome then gs.length else gs.length + 1
  | [] => rfl
  | (g, x) :: r => by
    have ih := putF_len (f := f) (v := v) (gs := r)
    show (if g = f then (g, v) :: r else (g, x) :: putF f v r).length = _
    by_cases e : g = f
    · subst e
      rw [if_pos rfl]
      simp [List.lookup]
    · rw [if_neg e]
      have hb : (f == g) = false := beq_eq_false_iff_ne.mpr fun z => e z.symm
      rw [List.length_cons, ih]
      simp only [List.lookup, hb]
      split <;> simp
theorem countP_set {vs : List (Option V)} {i : Nat} {y : V} (h : i < vs.length) : (vs.set i (some y)).countP (·.isSome) = if (vs[i]?.getD none).isSome then vs.countP (·.isSome) else vs.countP (·.isSome) + 1 := by
  induction vs generalizing i with
  | nil => cases h
  | cons v vs ih =>
    cases i with
    | zero => cases v <;> simp
    | succ i =>
      have z := ih (i := i) (Nat.lt_of_succ_lt_succ h)
      rw [List.set_cons_succ, List.countP_cons, z, List.countP_cons, List.getElem?_cons_succ]
      split <;> omega
theorem Flds.put {names : List Str} {vs : List (Option V)} {gs : List (Str × V)} {i : Nat} {m : Str} {y : V} (f : Flds names vs gs) (h : names[i]? = some m) : Flds names (vs.set i (some y)) (putF m y gs) := by
  have hi : i < vs.length := by rw [f.len]; exact (List.getElem?_eq_some_iff.mp h).1
  obtain ⟨o, ho⟩ : ∃ o, vs[i]? = some o := ⟨vs[i], List.getElem?_eq_getElem hi⟩
  have hlk := f.at_ i m o h ho
  refine ⟨by rw [List.length_set]; exact f.len, ?_, f.few, f.nd, fun n hn => ?_, fun j n u h1 h2 => ?_⟩
  · rw [putF_len, countP_set hi, ho, hlk]
    have := f.small
    show (if o.isSome then _ else _) ≤ if o.isSome then _ else _
    split <;> omega
  · rw [lookup_putF, if_neg fun z => hn (by rw [z]; exact List.mem_of_getElem? h)]
    exact f.out n hn
  · by_cases e : j = i
    · subst e
      rw [h] at h1
      cases h1
      rw [List.getElem?_set_self hi] at h2
      cases h2
      rw [lookup_putF, if_pos rfl]
    · rw [List.getElem?_set_ne (Ne.symm e)] at h2
      have ne : n ≠ m := fun z => by
        subst z
        exact e ((List.getElem?_inj (List.getElem?_eq_some_iff.mp h1).1 f.nd).mp (h1.trans h.symm))
      rw [lookup_putF, if_neg ne]
      exact f.at_ j n u h1 h2
end
end RF

end
section
set_option maxRecDepth 100000
set_option maxHeartbeats 1000000
/-! Statements that write live things; loops over items. -/
namespace RF
open PySem PySem.Spec L2 PyProof.Rows

section
variable {C : Ctx} {phi : Frm} {X : Cx} {G : Sig} {Kx : Exc → Env → Prop} {k : Nat} {F H : Hp} {mu : List Addr} {env : Env} {T : List PV} {sig : L2.St} {T' : List V} {pins : List (Addr × Obj)} {s : Shared}

/-- self.f = e in an __init__ -/
theorem s_setf {x f : Str} {i m : Nat} {e : Expr} {ie : Ex} {px pos pos' : Pos} (ok : SOk C G k phi Kx X) (hf : f = C.mn m) (hN : X.N[i]? = some x) (hv : Vis X.env.scope x) (hd : (x == ("__debug__" : Str)) = false) (hcd : (x == ("__classdict__" : Str)) = false)
    (he : PE X e (tE C phi G Kx ie)) (hs : swapsWith e (some (.Attribute (.Name x px) f pos')) pos.line X.env = pure false) : PS X (.Assign [.Attribute (.Name x px) f pos'] e pos) (tS C phi G Kx (.setf i m ie)) := by
  subst hf
  refine psImp (ps_fld (pe_var hN hv hd hcd) he hs) fun D sig H ⟨env, T, T', DD, r, w, l⟩ => ?_
  rw [wpS] at w
  refine ⟨env, T, T', _, r, w, fun v env1 v' H1 q ⟨F, mu, r1⟩ => ?_⟩
  cases e1 : env1.sl[i]? with
  | none => simp only [e1] at q
  | some sv =>
    simp only [e1] at q
    cases sv with
    | ini a0 c fs =>
      dsimp only at q
      cases e2 : G.fld c m with
      | none => simp only [e2] at q
      | some j =>
        simp only [e2] at q
        obtain ⟨q1, q2⟩ := q
        obtain ⟨a, h1, h2, h3, h4, h5⟩ := r1.liv i _ e1 rfl
        obtain ⟨cl, na, hat⟩ := ok.tab.fld c m j e2
        cases h2 with
        | @ini _ dx _ _ vs gs hl hfl ho =>
          have hc : vs.countP (·.isSome) ≤ vs.length := List.countP_le_length
          have hlt : gs.length < 1000 := by have := hfl.small; have := hfl.few; have := hfl.len; omega
          refine ⟨.ref a0, h1, a0, C.ca c, dx, gs, rfl, hl, by rw [ok.K]; exact cl, by rw [ok.K]; exact na, hlt, ?_⟩
          have hr := r1.top
          exact l.nx _ _ _ q2 ⟨F, mu, r1.pop.upd e1 rfl h1 (.ini upd_same (hfl.put hat) (ho.set hr j)) rfl⟩
    | _ => exact q.elim
theorem retc_lst {es : List Expr} {is : List Ex} {p1 pos : Pos} (o : Os C phi G Kx X es is) (hp : ∀ i ∈ is, isPk i = none) : PS X (.Return (some (.List es p1)) pos) (tS C phi G Kx (.retc (.pr .lst is))) :=
  psImp (ps_ret (pe_lst o.pa)) fun D sig H ⟨env, T, T', DD, r, w, l⟩ => by
    rw [wpS, wpE] at w
    refine ⟨env, T, T', _, r, w, fun vs env2 vs' H' q g => ?_⟩
    obtain ⟨F, mu, rf, sh⟩ := g
    have rp := sh.reps hp
    simp only [prS] at q
    refine ⟨by rw [← rp.len]; exact q.1, fun p hp => ?_⟩
    have r2 := rf.cell hp rp
    have hc : (mu ++ [p])[env2.st.length]? = some p := by
      rw [List.getElem?_append_right (by rw [rf.len]; exact Nat.le_refl _), rf.len, Nat.sub_self]; rfl
    exact l.rt (.ref env2.st.length) _ { env2 with st := env2.st ++ [.lst vs] } _ _ q.2 ⟨F, mu ++ [p], r2.push (.ref hc)⟩
/-- x = [..], a list of one's own -/
theorem asgo_lst {x : Str} {es : List Expr} {is : List Ex} {i : Nat} {p1 pos pos' : Pos} (ok : SOk C G k phi Kx X) (o : Os C phi G Kx X es is) (hp : ∀ i ∈ is, isPk i = none) (hi : X.N[i]? = some x) (hx : Loc X.env.scope x)
    (hs : swapsWith (.List es p1) (some (.Name x pos')) pos.line X.env = pure false) : PS X (.Assign [.Name x pos'] (.List es p1) pos) (tS C phi G Kx (.asgo i (.pr .lst is))) := by
  refine ⟨fun pins s sig H D I ⟨env, T, T', DD, r, w, l⟩ => ?_⟩
  rw [wpS, wpE] at w
  refine (ps_set ok.nd hi hx (pe_lst o.pa) hs (.inl (ok.fn x))).run pins s sig H D I ⟨env, T, T', _, r, w, fun vs env2 vs' H' q g => ?_⟩
  have hl : i < sig.length := by rw [I.len]; exact (List.getElem?_eq_some_iff.mp hi).1
  obtain ⟨F, mu, rf, sh⟩ := g
  have rp := sh.reps hp
  simp only [prS] at q
  refine ⟨by rw [← rp.len]; exact q.1, fun p hp => ?_⟩
  obtain ⟨a, b, c, d⟩ := rf.notR hp
  have r2 := (rf.grow (Same.updN (o := HO.lst vs') hp)).putL (i := i) (s := .own (.lst vs)) (a := p) (.lst upd_same rp) a b c (fun j u _ h1 h2 => d j u h1 h2) hl rfl
  exact l.nx _ _ _ q.2 ⟨F, mu, r2⟩
/-- o[k] = e -/
theorem s_seti {o kx e : Expr} {io ik ie : Ex} {tpos pos : Pos} (ok : SOk C G k phi Kx X) (ho : PE X o (tE C phi G Kx io)) (hio : isPk io = none) (hk : PE X kx (tE C phi G Kx ik)) (he : PE X e (tE C phi G Kx ie))
    (ha : ∀ v, assign (.Subscript o kx tpos) X.env v = (do
      let ov ← holding [v] (eval o X.env)
      let iv ← holding [v, ov] (eval kx X.env)
      standAt tpos
      holding [v, ov, iv] (setItem ov iv v)
      release [v, ov, iv] [])) (hs : swapsWithSole [.Subscript o kx tpos] e pos.line X.env = pure false) (hw : swappedStores [.Subscript o kx tpos] e X.env = pure none)
    (h1 : (assignEach [.Subscript o kx tpos] X.env).map (·.2) = [assign (.Subscript o kx tpos) X.env]) : PS X (.Assign [.Subscript o kx tpos] e pos) (tS C phi G Kx (.seti io ik ie)) := by
  refine psImp (ps_asg he (pg_sub ho hk set_list ha) hs hw h1) fun D sig H ⟨env, T, T', DD, r, w, l⟩ => ?_
  rw [wpS] at w
  refine ⟨env, T, T', _, r, w, fun v env1 v' H1 q r1 => ?_⟩
  simp only [hio] at q
  refine ⟨env1, v :: T, v' :: T', _, r1, q, fun u env2 u' H2 q2 r2 => ?_⟩
  refine ⟨env2, u :: v :: T, u' :: v' :: T', _, r2, q2, fun w env3 w' H3 q3 r3 => ?_⟩
  obtain ⟨F, mu, r3⟩ := r3
  cases u with
  | ref j =>
    cases w with
    | int n =>
      have tw := r3.top
      cases tw
      have tu := r3.pop.top
      cases tu with
      | @ref _ a ha =>
      have tv := r3.pop.pop.top
      unfold RF.seti at q3
      dsimp only at q3
      cases e1 : env3.st[j]? with
      | none => simp only [e1] at q3
      | some cv =>
        obtain ⟨lv, _⟩ := r3.cel j cv a e1 ha
        cases lv with
        | @lst _ xs vs hl hr =>
          simp only [e1] at q3
          cases e2 : L2.ixN xs.length n with
          | none => simp only [e2] at q3
          | some p =>
            simp only [e2] at q3
            refine ⟨a, vs, n, p, rfl, rfl, hl, by rw [← hr.len]; exact e2, ?_⟩
            exact l.nx _ _ _ q3 ⟨F, mu, r3.pop.pop.pop.updC e1 ha (.lst upd_same (hr.set tv p))⟩
    | _ => exact q3.elim
  | _ => exact q3.elim
end
end RF

end
section
set_option maxRecDepth 100000
set_option maxHeartbeats 1000000
/-! Loops over items, comprehensions. -/
namespace RF
open PySem PySem.Spec L2 PyProof.Rows

section
variable {C : Ctx} {phi : Frm} {X : Cx} {G : Sig} {Kx : Exc → Env → Prop} {k : Nat} {F H : Hp} {mu : List Addr} {env : Env} {T : List PV} {sig : L2.St} {T' : List V} {pins : List (Addr × Obj)} {s : Shared}

def iSeq (K : PySem.W.Frag) (tl : TE) : TI := fun σ H R => tl σ H fun x H1 => ∃ a, x = .ref a ∧ (((∃ xs, SqL K H1 a xs) ∧ R (Itl K a) H1) ∨ ((∃ xs, SqT K H1 a xs) ∧ R (Itt K a) H1))
theorem pi_seq {tg l : Expr} {tl : TE} (hl : PE X l tl) : PI X tg l (iSeq X.K tl) := by
  refine ⟨fun pins s σ H R I h => ?_⟩
  refine thn (hl.run pins s σ H _ I h) fun v s1 ⟨x, H1, I1, r1, q1⟩ => ?_
  obtain ⟨a, e, q⟩ := q1
  subst e
  cases r1
  have e0 : ∀ b ∈ [s1.heap.objs.size], FpOk X pins H1 b := fun b hb => by
    have e : b = s1.heap.objs.size := by simpa using hb
    subst e
    exact I1.fpOk (Nat.le_refl _) (I1.hok.fresh (Nat.le_refl _))
  rcases q with ⟨⟨xs, hq⟩, q⟩ | ⟨⟨xs, hq⟩, q⟩
  · obtain ⟨its, rv, p, hz⟩ := I1.list hq
    refine wpAny_pyIter_list p.isList ?_
    exact ⟨s1.heap.objs.size, [s1.heap.objs.size], _, _, H1, rfl, I1.kept (t' := s1.toks) fun b o e => Heap.get?_push_of_some _ e, turn_list a _, ⟨_, Heap.get?_push_size _ rfl, rfl, rfl⟩, e0, q⟩
  · obtain ⟨its, rv, p, hz⟩ := I1.tuple hq
    refine wpAny_pyIter_tuple (show s1.heap.IsTuple a its.toArray from p) ?_
    exact ⟨s1.heap.objs.size, [s1.heap.objs.size], _, _, H1, rfl, I1.kept (t' := s1.toks) fun b o e => Heap.get?_push_of_some _ e, turn_tuple a _, ⟨_, Heap.get?_push_size _ rfl, rfl, rfl⟩, e0, q⟩

/-! ### an abstract walk over items: what lists, tuples, ranges have in common -/
theorem RelF.pop2 {u v : PV} {u' v' : V} (r : RelF C phi F mu env (u :: v :: T) sig (u' :: v' :: T') H) : RelF C phi F mu env (u :: T) sig (u' :: T') H := r.pop.pop.push r.top
theorem Lnk.under {v : PV} {v' : V} {DD : Dn} {D : Ends} (l : Lnk C phi T T' DD D) {nx ct bk : Env → Prop} {nx' ct' bk' : L2.St → Hp → Prop} (h1 : ∀ env sig H, nx env → Rel C phi env (v :: T) sig (v' :: T') H → nx' sig H)
    (h2 : ∀ env sig H, ct env → Rel C phi env (v :: T) sig (v' :: T') H → ct' sig H) (h3 : ∀ env sig H, bk env → Rel C phi env (v :: T) sig (v' :: T') H → bk' sig H) :
    Lnk C phi (v :: T) (v' :: T') { DD with nx := nx, ct := ct, bk := bk } { D with nx := nx', ct := ct', bk := bk' } :=
  ⟨h1, fun u u' env sig H q ⟨F, mu, r⟩ => l.rt u u' env sig H q ⟨F, mu, r.pop2⟩, h3, h2⟩
/-- what an iterator's turns give, by clean values -/
structure Walk (C : Ctx) (J : L2.It) (v : PV) (v' : V) (xs : List PV) : Prop where
  stop : ∀ (phi : Frm) F mu env T sig T' H, RelF C phi F mu env (v :: T) sig (v' :: T') H → J.stop xs.length H
  go : ∀ (phi : Frm) F mu env T sig T' H i, i < xs.length → RelF C phi F mu env (v :: T) sig (v' :: T') H → J.go i H
  yld : ∀ (phi : Frm) F mu env T sig T' H i x y H', xs[i]? = some x → RelF C phi F mu env (v :: T) sig (v' :: T') H → J.yld i H y H' → H' = H ∧ Rep C F mu x y
theorem walk_lst {K : PySem.W.Frag} {a : Addr} {xs : List PV} : Walk C (Itl K a) (.lst xs) (.ref a) xs where
  stop := fun phi F mu env T sig T' H r => by
    have z := r.top
    cases z with
    | lst h q => exact ⟨_, SqL.of (r.ext _ _ h), by rw [q.len]; exact Nat.le_refl _⟩
  go := fun phi F mu env T sig T' H i hi r => by
    have z := r.top
    cases z with
    | @lst _ _ vs h q => exact ⟨vs, vs[i]'(by rw [← q.len]; exact hi), SqL.of (r.ext _ _ h), List.getElem?_eq_getElem _⟩
  yld := fun phi F mu env T sig T' H i x y H' hx r hy => by
    obtain ⟨e, hy⟩ := hy
    have z := r.top
    cases z with
    | @lst _ _ vs h q =>
      have := hy vs (SqL.of (r.ext _ _ h))
      obtain ⟨w, e1, e2⟩ := q.get hx
      rw [e1] at this
      cases this
      exact ⟨e, e2⟩
theorem walk_tup {K : PySem.W.Frag} {a : Addr} {xs : List PV} : Walk C (Itt K a) (.tup xs) (.ref a) xs where
  stop := fun phi F mu env T sig T' H r => by
    have z := r.top
    cases z with
    | tup h q => exact ⟨_, SqT.of (r.ext _ _ h), by rw [q.len]; exact Nat.le_refl _⟩
  go := fun phi F mu env T sig T' H i hi r => by
    have z := r.top
    cases z with
    | @tup _ _ vs h q => exact ⟨vs, vs[i]'(by rw [← q.len]; exact hi), SqT.of (r.ext _ _ h), List.getElem?_eq_getElem _⟩
  yld := fun phi F mu env T sig T' H i x y H' hx r hy => by
    obtain ⟨e, hy⟩ := hy
    have z := r.top
    cases z with
    | @tup _ _ vs h q =>
      have := hy vs (SqT.of (r.ext _ _ h))
      obtain ⟨w, e1, e2⟩ := q.get hx
      rw [e1] at this
      cases this
      exact ⟨e, e2⟩
theorem walk_rng {v : PV} {v' : V} {n : Nat} : Walk C (Itr 0 n) v v' ((List.range n).map fun (i : Nat) => PV.int (i : Int)) where
  stop := fun phi F mu env T sig T' H r => by
    show n ≤ _
    simp
  go := fun phi F mu env T sig T' H i hi r => by
    show i < n
    simpa using hi
  yld := fun phi F mu env T sig T' H i x y H' hx r hy => by
    obtain ⟨e, hy⟩ := hy
    refine ⟨e, ?_⟩
    rw [List.getElem?_map] at hx
    by_cases hi : i < n
    · rw [List.getElem?_range hi] at hx
      cases hx
      subst hy
      have : ((0 : Int) + (i : Int)) = (i : Int) := by omega
      rw [this]
      exact .int _
    · rw [List.getElem?_eq_none (by simpa using hi)] at hx
      cases hx
/-- the loop -/
theorem for_core {J : L2.It} {v : PV} {v' : V} {xs : List PV} {t : Tg} {ib : List Sm} {DD : Dn} {D : Ends} {sig0 : L2.St} {H0 : Hp} {K : PySem.W.Frag} (Wk : Walk C J v v' xs) (l : Lnk C phi T T' DD D) (r : Rel C phi env (v :: T) sig0 (v' :: T') H0)
    (w : loopL (fun x e2 K => match asg t x e2 with
        | none => False
        | some e3 => wpB G Kx ib { DD with nx := K, ct := K, bk := DD.nx } e3) xs env DD.nx) :
    ∃ W : Nat → Nat → L2.St → Hp → Prop, (∃ m, W 0 m sig0 H0) ∧ ∀ i m σ H, W i m σ H →
      (J.stop i H ∧ D.nx σ H) ∨ (J.go i H ∧ ∃ N : L2.St → Hp → Prop, (∀ σ' H', N σ' H' → ∃ m', m' < m ∧ W (i + 1) m' σ' H') ∧ ∀ x H', J.yld i H x H' → gT K t x σ H' fun σ2 H2 => tB C phi G Kx ib { D with nx := N, ct := N, bk := D.nx } σ2 H2) := by
  generalize hst : (fun x e2 K => match asg t x e2 with
        | none => False
        | some e3 => wpB G Kx ib { DD with nx := K, ct := K, bk := DD.nx } e3) = step at w
  refine ⟨fun i m σ H => m = xs.length - i ∧ i ≤ xs.length ∧ ∃ env, Rel C phi env (v :: T) σ (v' :: T') H ∧ loopL step (xs.drop i) env DD.nx, ⟨xs.length, by simp, Nat.zero_le _, env, r, by simpa using w⟩, ?_⟩
  rintro i m σ H ⟨rfl, hi, env1, ⟨F, mu, r1⟩, w1⟩
  by_cases hlt : i < xs.length
  · have hx : xs[i]? = some xs[i] := List.getElem?_eq_getElem hlt
    have hd : xs.drop i = xs[i] :: xs.drop (i + 1) := List.drop_eq_getElem_cons hlt
    rw [hd] at w1
    have w1 : step xs[i] env1 fun b' => loopL step (xs.drop (i + 1)) b' DD.nx := w1
    refine .inr ⟨Wk.go phi F mu env1 T σ T' H i hlt r1, fun σ' H' => ∃ env, Rel C phi env (v :: T) σ' (v' :: T') H' ∧ loopL step (xs.drop (i + 1)) env DD.nx, fun σ' H' ⟨env', r', w'⟩ => ⟨xs.length - (i + 1), by omega, rfl, hlt, env', r', w'⟩, fun x H' hy => ?_⟩
    obtain ⟨eH, rx⟩ := Wk.yld phi F mu env1 T σ T' H i _ x H' hx r1 hy
    subst eH
    subst hst
    cases e1 : asg t xs[i] env1 with
    | none => simp only [e1] at w1
    | some env2 =>
      simp only [e1] at w1
      refine (r1.push rx).asgT e1 fun sig' r2 _ _ => ⟨env2, v :: T, v' :: T', _, r2, w1, ?_⟩
      exact l.under (fun env3 sig3 H3 q r3 => ⟨env3, r3, q⟩) (fun env3 sig3 H3 q r3 => ⟨env3, r3, q⟩) fun env3 sig3 H3 q ⟨F3, mu3, r3⟩ => l.nx _ _ _ q ⟨F3, mu3, r3.pop⟩
  · have e : i = xs.length := by omega
    subst e
    rw [List.drop_length] at w1
    exact .inl ⟨Wk.stop phi F mu env1 T σ T' H r1, l.nx _ _ _ w1 ⟨F, mu, r1.pop⟩⟩
theorem wpAs_one {i : Ex} (h : isPk i = none) {K : List PV → Env → Prop} (w : wpAs G Kx [i] env K) : wpE G Kx i env fun v e => K [v] e := by
  rw [wpAs, h] at w
  have w : wpE G Kx i env fun v e1 => wpAs G Kx [] e1 fun vs e2 => K (v :: vs) e2 := w
  have e : (fun (v : PV) (e1 : Env) => wpAs G Kx [] e1 fun vs e2 => K (v :: vs) e2) = fun v e1 => K [v] e1 := by
    funext v e1
    rw [wpAs]
  rw [e] at w
  exact w
theorem s_for {tg iter : Expr} {t : Tg} {ii : Ex} {b : List Stmt} {ib : List Sm} {pos : Pos} (ok : SOk C G k phi Kx X) (he : PE X iter (tE C phi G Kx ii)) (hpk : isPk ii = none) (hg : TgOk X tg t) (hb : PSs X b (tB C phi G Kx ib)) (hs : ∀ x, foldedSetIterable iter X.env x = pure x) :
    PS X (.For tg iter b [] pos) (tS C phi G Kx (.for t .seq [ii] ib)) := by
  refine psImp (ps_for ok.po ok.calm (pi_seq he) (hg.pg ok.nd ok.calm) hb hs) fun D sig H ⟨env, T, T', DD, r, w, l⟩ => ?_
  rw [wpS] at w
  refine ⟨env, T, T', _, r, wpAs_one hpk w, fun v env1 v' H1 q r1 => ?_⟩
  obtain ⟨F, mu, r1⟩ := r1
  cases v with
  | tup xs =>
    have z := r1.top
    cases z with
    | @tup a _ vs ha hr => exact ⟨a, rfl, .inr ⟨⟨vs, SqT.of (r1.ext _ _ ha)⟩, for_core walk_tup l ⟨F, mu, r1⟩ q⟩⟩
  | lst xs =>
    have z := r1.top
    cases z with
    | @lst a _ vs ha hr => exact ⟨a, rfl, .inl ⟨⟨vs, SqL.of (r1.ext _ _ ha)⟩, for_core walk_lst l ⟨F, mu, r1⟩ q⟩⟩
  | _ => exact q.elim
theorem s_forR {tg a : Expr} {t : Tg} {ia : Ex} {b : List Stmt} {ib : List Sm} {pf pc pos : Pos} (ok : SOk C G k phi Kx X) (o : Os C phi G Kx X [a] [ia]) (hpk : isPk ia = none) (hgl : Gl X "range") (hm : X.mg "range" = none) (hg : TgOk X tg t) (hb : PSs X b (tB C phi G Kx ib))
    (hs : ∀ x, foldedSetIterable (.Call (.Name "range" pf) [a] [] pc) X.env x = pure x) :
    PS X (.For tg (.Call (.Name "range" pf) [a] [] pc) b [] pos) (tS C phi G Kx (.for t .rng1 [ia] ib)) := by
  have st : starEach [a] X.env = [(false, eval a X.env)] := by
    have := o.star
    rw [List.all_cons, Bool.and_eq_true] at this
    exact star_cons this.1
  refine psImp (ps_for ok.po ok.calm (pi_range1 hgl hm o.pa st) (hg.pg ok.nd ok.calm) hb hs) fun D sig H ⟨env, T, T', DD, r, w, l⟩ => ?_
  rw [wpS] at w
  refine ⟨env, T, T', _, r, w, fun vs env1 vs' H1 q g => ?_⟩
  obtain ⟨F, mu, rf, sh⟩ := g
  cases sh with
  | @cons _ _ v v' _ _ h1 _ t =>
  cases t
  unfold items at q
  dsimp only at q
  split at q
  · exact q.elim
  · rename_i xs hxs
    split at hxs
    · rename_i n hn
      cases hn
      obtain rfl := h1.int
      split at hxs
      · rename_i hb2
        cases hxs
        exact ⟨n, rfl, hb2.2, hb2.1, for_core walk_rng l ⟨F, mu, rf.push (.int n)⟩ q⟩
      · cases hxs
    · cases hxs
end
end RF

end
section
set_option maxRecDepth 100000
set_option maxHeartbeats 1000000
/-! List comprehensions. -/
namespace RF
open PySem PySem.Spec L2 PyProof.Rows

section
variable {C : Ctx} {phi : Frm} {X : Cx} {G : Sig} {Kx : Exc → Env → Prop} {k : Nat} {F H : Hp} {mu : List Addr} {env : Env} {T : List PV} {sig : L2.St} {T' : List V} {pins : List (Addr × Obj)} {s : Shared}

abbrev NoX : Exc → Env → Prop := fun _ _ => False
/-- an element's readings, whatever is to be left alone -/
def tEu (C : Ctx) (G : Sig) (i : Ex) : TE := fun σ H Q => ∃ phi, tE C phi G NoX i σ H Q
def tCu (C : Ctx) (G : Sig) (cs : List Ex) : TT := fun σ H Q => ∃ phi env T T' K, Rel C phi env T σ T' H ∧ wpCs G NoX cs env K ∧ ∀ b env' H', K b env' → Rel C phi env' T σ T' H' → Q b H'
theorem peU {e : Expr} {i : Ex} (h : ∀ phi, PE X e (tE C phi G NoX i)) : PE X e (tEu C G i) := ⟨fun pins s sig H Q I ⟨phi, q⟩ => (h phi).run pins s sig H Q I q⟩
theorem ptsU_nil : PTs X [] (tCu C G []) := ⟨fun pins s sig H Q I ⟨phi, env, T, T', K, r, w, kk⟩ => pts_nil.run pins s sig H Q I (by
  rw [wpCs] at w
  exact kk _ _ _ w r)⟩
theorem ptsU_one {c : Expr} {ic : Ex} (h : ∀ phi, PT X c (tT C phi G NoX ic)) : PTs X [c] (tCu C G [ic]) := ⟨fun pins s sig H Q I ⟨phi, env, T, T', K, r, w, kk⟩ => (pts_one (h phi)).run pins s sig H Q I (by
  rw [wpCs] at w
  refine ⟨env, T, T', _, r, w, fun b env' H' q r' => ?_⟩
  cases b with
  | true =>
    have q : wpCs G NoX [] env' K := q
    rw [wpCs] at q
    exact kk _ _ _ q r'
  | false => exact kk _ _ _ q r')⟩

/-! ### the frame of a turn -/
noncomputable def compR (R : Hp) (D : Addr) (acc : List V) : Hp := L2.upd R D (.lst acc)
noncomputable def compF (C : Ctx) (phi : Frm) (F1 : Hp) (mu1 : List Addr) (D : Addr) (acc : List V) : Frm :=
  ⟨compR phi.R D acc, fun F' mu' => phi.P F' mu' ∧ Same F1 F' ∧ ∀ (j : Nat) (a : Addr), mu1[j]? = some a → mu'[j]? = some a,
    fun A B m1 m2 e m h => ⟨phi.mono _ _ _ _ e m h.1, h.2.1.trans e, fun j a z => m _ _ (h.2.2 j a z)⟩⟩
theorem RelF.wipeN {own : List Nat} (r : RelF C phi F mu env T sig T' H) : RelF C phi F mu (env.wipe own) T (L2.wipe sig own) T' H := by
  induction own with
  | nil => exact r
  | cons i is ih => exact ih.wipe1
theorem RelF.start {D : Addr} (r : RelF C phi F mu env T sig T' H) (h : H D = none) : RelF C (compF C phi F mu D []) F mu env T sig T' (L2.upd H D (.lst [])) := by
  obtain ⟨a, b, c, d⟩ := r.notR h
  have g := r.grow (Same.updN (o := HO.lst []) h)
  refine ⟨g.ext, fun x o e => ?_, fun x o e => ?_, g.len, fun j v x h1 h2 => ?_, g.nd, g.sl, g.val, fun i s h1 h2 => ?_, g.sep, g.tmp, ⟨g.frm, .refl _, fun _ _ z => z⟩⟩
  · by_cases z : x = D
    · subst z
      have e : L2.upd phi.R x (.lst []) x = some o := e
      rw [upd_same] at e ⊢
      exact e
    · have e : L2.upd phi.R D (.lst []) x = some o := e
      rw [upd_ne z] at e
      exact g.extR x o e
  · by_cases z : x = D
    · subst z; exact a
    · have e : L2.upd phi.R D (.lst []) x = some o := e
      rw [upd_ne z] at e
      exact g.dis x o e
  · obtain ⟨l, f, q⟩ := g.cel j v x h1 h2
    have ne : x ≠ D := fun z => c (by rw [← z]; exact List.mem_of_getElem? h2)
    exact ⟨l, f, (upd_ne ne).trans q⟩
  · obtain ⟨x, e, l, f, q, n⟩ := g.liv i s h1 h2
    have ne : x ≠ D := fun z => d i s h1 h2 (by rw [← z]; exact e)
    exact ⟨x, e, l, f, (upd_ne ne).trans q, n⟩
theorem RelF.step {F1 : Hp} {mu1 : List Addr} {D : Addr} {acc acc2 : List V} (r : RelF C (compF C phi F1 mu1 D acc) F mu env T sig T' H) : RelF C (compF C phi F1 mu1 D acc2) F mu env T sig T' (L2.upd H D (.lst acc2)) := by
  have hF : F D = none := r.dis D (.lst acc) upd_same
  have nD : ∀ x, (compF C phi F1 mu1 D acc).R x = none → x ≠ D := fun x h z => by
    subst z
    have h : L2.upd phi.R x (.lst acc) x = none := h
    rw [upd_same] at h
    cases h
  refine ⟨updS r.ext hF, fun x o e => ?_, fun x o e => ?_, r.len, fun j v x h1 h2 => ?_, r.nd, r.sl, r.val, fun i s h1 h2 => ?_, r.sep, r.tmp, r.frm⟩
  · have e : L2.upd phi.R D (.lst acc2) x = some o := e
    by_cases z : x = D
    · subst z
      rw [upd_same] at e ⊢
      exact e
    · rw [upd_ne z] at e ⊢
      exact r.extR x o ((upd_ne z).trans e)
  · by_cases z : x = D
    · subst z; exact hF
    · have e : L2.upd phi.R D (.lst acc2) x = some o := e
      rw [upd_ne z] at e
      exact r.dis x o ((upd_ne z).trans e)
  · obtain ⟨l, f, q⟩ := r.cel j v x h1 h2
    have ne := nD x q
    have q : L2.upd phi.R D (.lst acc) x = none := q
    rw [upd_ne ne] at q
    exact ⟨l.other ne, f, (upd_ne ne).trans q⟩
  · obtain ⟨x, e, l, f, q, n⟩ := r.liv i s h1 h2
    have ne := nD x q
    have q : L2.upd phi.R D (.lst acc) x = none := q
    rw [upd_ne ne] at q
    exact ⟨x, e, l.other ne, f, (upd_ne ne).trans q, n⟩
theorem RelF.stop {F1 : Hp} {mu1 : List Addr} {D : Addr} {acc : List V} (h0 : phi.R D = none) (r : RelF C (compF C phi F1 mu1 D acc) F mu env T sig T' H) : RelF C phi (L2.upd F D (.lst acc)) mu env T sig T' H ∧ Same F1 (L2.upd F D (.lst acc)) ∧ Same F (L2.upd F D (.lst acc)) ∧
    (∀ (j : Nat) (a : Addr), mu1[j]? = some a → mu[j]? = some a) := by
  have hF : F D = none := r.dis D (.lst acc) upd_same
  have hH : H D = some (.lst acc) := r.extR D _ upd_same
  have nD : ∀ x, (compF C phi F1 mu1 D acc).R x = none → x ≠ D := fun x h z => by
    subst z
    have h : L2.upd phi.R x (.lst acc) x = none := h
    rw [upd_same] at h
    cases h
  have up : ∀ x o, phi.R x = some o → (compF C phi F1 mu1 D acc).R x = some o := fun x o e => by
    have ne : x ≠ D := fun z => by rw [z, h0] at e; cases e
    exact (upd_ne ne).trans e
  have dn : ∀ x, (compF C phi F1 mu1 D acc).R x = none → phi.R x = none := fun x h => (upd_ne (nD x h)).symm.trans h
  obtain ⟨p1, p2, p3⟩ := r.frm
  have r1 : RelF C phi F mu env T sig T' H := ⟨r.ext, fun x o e => r.extR x o (up x o e), fun x o e => r.dis x o (up x o e), r.len, fun j v x h1 h2 => let ⟨l, f, q⟩ := r.cel j v x h1 h2; ⟨l, f, dn x q⟩, r.nd, r.sl, r.val,
    fun i s h1 h2 => let ⟨x, e, l, f, q, n⟩ := r.liv i s h1 h2; ⟨x, e, l, f, dn x q, n⟩, r.sep, r.tmp, p1⟩
  have hmu : D ∉ mu := fun hm => by
    obtain ⟨j, hj, e⟩ := List.mem_iff_getElem.mp hm
    have g1 : mu[j]? = some D := by rw [List.getElem?_eq_getElem hj, e]
    have g2 : j < env.st.length := by rw [← r.len]; exact hj
    exact nD D (r.cel j env.st[j] D (List.getElem?_eq_getElem g2) g1).2.2 rfl
  have hs : ∀ (i : Nat) (s : SV), env.sl[i]? = some s → s.live = true → sig[i]? ≠ some (some (.ref D)) := fun i s h1 h2 e => by
    obtain ⟨x, e2, _, _, q, _⟩ := r.liv i s h1 h2
    rw [e] at e2
    cases e2
    exact nD D q rfl
  exact ⟨r1.add hH hF h0 hmu hs, p2.trans (Same.updN hF), Same.updN hF, p3⟩
theorem RelF.backN {e1 : Env} {σ : L2.St} : ∀ {own : List Nat} {env : Env}, RelF C phi F mu env T (L2.wipe σ own) T' H → (∀ i ∈ own, ∀ v, e1.sl[i]? = some (.val v) → ∃ v', σ[i]? = some (some v') ∧ Rep C F mu v v') → RelF C phi F mu (env.back e1 own) T σ T' H
  | [], env, r, _ => r
  | i :: is, env, r, h => by
    have r1 : RelF C phi F mu (env.put i .no) T ((L2.wipe σ is).set i none) T' H := by
      have := r.drop1 (i := i)
      exact this
    have r2 : RelF C phi F mu (env.put i .no) T (L2.wipe σ is) T' H := by
      cases e : (L2.wipe σ is)[i]? with
      | some o =>
        have z := r1.wipe1 (i := i) (o := o)
        rw [put_put, List.set_set, set_get e] at z
        exact z
      | none =>
        have el : (L2.wipe σ is).set i none = L2.wipe σ is := List.set_eq_of_length_le (List.getElem?_eq_none_iff.mp e)
        rw [el] at r1
        exact r1
    have r3 := RelF.backN r2 fun j hj => h j (List.mem_cons_of_mem _ hj)
    unfold Env.back
    split
    · rename_i v hv
      obtain ⟨v', e2, q⟩ := h i List.mem_cons_self v hv
      have z := r3.putA (i := i) q
      rw [set_get e2] at z
      exact z
    · exact r3
theorem wipe_wipe {env : Env} {own : List Nat} {σ σ2 : L2.St} (h : L2.wipe σ2 own = L2.wipe σ own) (r : RelF C phi F mu env T σ2 T' H) : RelF C phi F mu (env.wipe own) T (L2.wipe σ own) T' H := by
  rw [← h]
  exact r.wipeN

theorem wipe_idem {σ : L2.St} : ∀ {own : List Nat}, L2.wipe (L2.wipe σ own) own = L2.wipe σ own := by
  have key : ∀ (ws : List Nat) (τ : L2.St), (∀ i ∈ ws, τ.set i none = τ) → L2.wipe τ ws = τ := by
    intro ws
    induction ws with
    | nil => intro τ _; rfl
    | cons w ws ih =>
      intro τ h
      unfold L2.wipe
      rw [ih τ fun i hi => h i (List.mem_cons_of_mem _ hi)]
      exact h w List.mem_cons_self
  have fix : ∀ (ws : List Nat) (i : Nat), i ∈ ws → (L2.wipe σ ws).set i none = L2.wipe σ ws := by
    intro ws
    induction ws with
    | nil => intro i h; cases h
    | cons w ws ih =>
      intro i h
      unfold L2.wipe
      by_cases e : i = w
      · subst e; rw [List.set_set]
      · rcases List.mem_cons.mp h with q | q
        · exact absurd q e
        · rw [List.set_comm _ _ (Ne.symm e), ih i q]
  intro own
  exact key own _ fun i hi => fix own i hi
/-- the turns of a comprehension -/
theorem comp_core {J : L2.It} {v : PV} {v' : V} {xs : List PV} {t : Tg} {elt : Ex} {cs : List Ex} {own : List Nat} {e1 : Env} {σ : L2.St} {H1 : Hp} {K' : PySem.W.Frag} {Kf : PV → Env → Prop} {Q : VK} (Wk : Walk C J v v' xs) (hsub : ∀ i ∈ t.slots, i ∈ own)
    (r : RelF C phi F mu e1 (v :: T) σ (v' :: T') H1)
    (w : loopL (fun x (p : Env × List PV) K => match asg t x p.1 with
        | none => False
        | some e2 => wpCs G NoX cs e2 fun b e3 => match b with
          | true => wpE G NoX elt e3 fun v e4 => p.2.length < sizeLine ∧ K (e4.wipe own, p.2 ++ [v])
          | false => K (e3.wipe own, p.2)) xs (e1.wipe own, []) fun p => Kf (.lst p.2) (p.1.back e1 own))
    (kk : ∀ v env' v' H', Kf v env' → Rel C phi env' (v :: T) σ (v' :: T') H' → Q v' H') (D : Addr) (hD : H1 D = none) :
    ∃ W : Nat → Nat → Hp → Prop, (∃ m, W 0 m (L2.upd H1 D (.lst []))) ∧ ∀ i m H, W i m H →
      (J.stop i H ∧ Q (.ref D) H) ∨ (J.go i H ∧ ∃ Nx : Hp → Prop, (∀ H', Nx H' → ∃ m', m' < m ∧ W (i + 1) m' H') ∧ ∀ x H', J.yld i H x H' → gT K' t x (L2.wipe σ own) H' fun σ2 H2 => L2.wipe σ2 own = L2.wipe σ own ∧ tCu C G cs σ2 H2 fun b H3 =>
        if b = true then tEu C G elt σ2 H3 fun y H4 => ∃ acc, H4 D = some (.lst acc) ∧ acc.length < sizeLine ∧ Nx (L2.upd H4 D (.lst (acc ++ [y]))) else Nx H3) := by
  generalize hst : (fun x (p : Env × List PV) (K : Env × List PV → Prop) => match asg t x p.1 with
        | none => False
        | some e2 => wpCs G NoX cs e2 fun b e3 => match b with
          | true => wpE G NoX elt e3 fun v e4 => p.2.length < sizeLine ∧ K (e4.wipe own, p.2 ++ [v])
          | false => K (e3.wipe own, p.2)) = step at w
  obtain ⟨a0, b0, c0, d0⟩ := r.notR hD
  refine ⟨fun i m H => m = xs.length - i ∧ i ≤ xs.length ∧ ∃ env acc accV F2 mu2, acc.length = accV.length ∧ RelF C (compF C phi F mu D accV) F2 mu2 env (v :: (acc ++ T)) (L2.wipe σ own) (v' :: (accV ++ T')) H ∧ loopL step (xs.drop i) (env, acc) fun p => Kf (.lst p.2) (p.1.back e1 own),
    ⟨xs.length, by simp, Nat.zero_le _, e1.wipe own, [], [], F, mu, rfl, (r.start hD).wipeN, by simpa using w⟩, ?_⟩
  rintro i m H ⟨rfl, hi, env, acc, accV, F2, mu2, hlen, r1, w1⟩
  by_cases hlt : i < xs.length
  · have hx : xs[i]? = some xs[i] := List.getElem?_eq_getElem hlt
    have hd : xs.drop i = xs[i] :: xs.drop (i + 1) := List.drop_eq_getElem_cons hlt
    rw [hd] at w1
    have w1 : step xs[i] (env, acc) fun b' => loopL step (xs.drop (i + 1)) b' fun p => Kf (.lst p.2) (p.1.back e1 own) := w1
    refine .inr ⟨Wk.go _ F2 mu2 env (acc ++ T) _ (accV ++ T') H i hlt r1, fun H' => ∃ env acc accV F2 mu2, acc.length = accV.length ∧ RelF C (compF C phi F mu D accV) F2 mu2 env (v :: (acc ++ T)) (L2.wipe σ own) (v' :: (accV ++ T')) H' ∧ loopL step (xs.drop (i + 1)) (env, acc) fun p => Kf (.lst p.2) (p.1.back e1 own),
      fun H' z => ⟨xs.length - (i + 1), by omega, rfl, hlt, z⟩, fun x H' hy => ?_⟩
    obtain ⟨eH, rx⟩ := Wk.yld _ F2 mu2 env (acc ++ T) _ (accV ++ T') H i _ x H' hx r1 hy
    subst eH
    have w2 : match asg t xs[i] env with
        | none => False
        | some e2 => wpCs G NoX cs e2 fun b e3 => match b with
          | true => wpE G NoX elt e3 fun v e4 => acc.length < sizeLine ∧ loopL step (xs.drop (i + 1)) (e4.wipe own, acc ++ [v]) fun p => Kf (.lst p.2) (p.1.back e1 own)
          | false => loopL step (xs.drop (i + 1)) (e3.wipe own, acc) fun p => Kf (.lst p.2) (p.1.back e1 own) := by
      have w1' := w1
      rw [← hst] at w1'
      rw [← hst]
      exact w1'
    cases e2 : asg t xs[i] env with
    | none => simp only [e2] at w2
    | some env2 =>
      simp only [e2] at w2
      refine (r1.push rx).asgT e2 fun sig' r2 _ hw => ⟨(hw own hsub).trans ?_, compF C phi F mu D accV, env2, v :: (acc ++ T), v' :: (accV ++ T'), _, r2, w2, fun b env3 H3 q r3 => ?_⟩
      · exact wipe_idem
      have hw2 : L2.wipe sig' own = L2.wipe σ own := (hw own hsub).trans wipe_idem
      cases b with
      | true =>
        refine iteT ⟨_, env3, v :: (acc ++ T), v' :: (accV ++ T'), _, r3, q, fun y env4 y' H4 q4 r4 => ?_⟩
        obtain ⟨F4, mu4, r4⟩ := r4
        have hDH : H4 D = some (.lst accV) := r4.extR D _ upd_same
        refine ⟨accV, hDH, by rw [← hlen]; exact q4.1, env4.wipe own, acc ++ [y], accV ++ [y'], F4, mu4, by simp [hlen], ?_, q4.2⟩
        have r5 := wipe_wipe hw2 (r4.step (acc2 := accV ++ [y']))
        refine r5.temps (.cons r5.pop.top ?_)
        have z := r5.pop.pop.tmp.split' hlen
        rw [List.append_assoc, List.append_assoc]
        exact z.1.app (.cons r5.top z.2)
      | false =>
        obtain ⟨F3, mu3, r3⟩ := r3
        exact iteF ⟨env3.wipe own, acc, accV, F3, mu3, hlen, wipe_wipe hw2 r3, q⟩
  · have e : i = xs.length := by omega
    subst e
    rw [List.drop_length] at w1
    have w1 : Kf (.lst acc) (env.back e1 own) := w1
    refine .inl ⟨Wk.stop _ F2 mu2 env (acc ++ T) _ (accV ++ T') H r1, kk _ _ _ _ w1 ?_⟩
    obtain ⟨r2, s1, s2, m2⟩ := r1.stop b0
    have z := r2.pop.tmp.split' hlen
    have r3 : RelF C phi _ mu2 env (.lst acc :: T) (L2.wipe σ own) (.ref D :: T') H := r2.temps (.cons (.lst upd_same z.1) z.2)
    refine ⟨_, mu2, r3.backN fun j _ u hu => ?_⟩
    obtain ⟨u', e3, q3⟩ := r.val j u hu
    exact ⟨u', e3, q3.mono s1 m2⟩

/-- a comprehension by its clean reading: over a list or tuple -/
theorem tLc_seq {ii : Ex} {t : Tg} {elt : Ex} {cs : List Ex} {own : List Nat} {K' K2 : PySem.W.Frag} (hpk : isPk ii = none) (hsub : ∀ i ∈ t.slots, i ∈ own) {σ : L2.St} {Q : VK} (h : tE C phi G Kx (.comp elt t .seq [ii] cs own) σ H Q) :
    tLc (iSeq K2 (tE C phi G Kx ii)) (gT K' t) (tCu C G cs) (tEu C G elt) own σ H Q := by
  obtain ⟨env, T, T', K, r, w, kk⟩ := h
  rw [wpE] at w
  refine ⟨env, T, T', _, r, wpAs_one hpk w, fun v env1 v' H1 q r1 => ?_⟩
  obtain ⟨F, mu, r1⟩ := r1
  cases v with
  | tup xs =>
    have z := r1.top
    cases z with
    | @tup a _ vs ha hr => exact ⟨a, rfl, .inr ⟨⟨vs, SqT.of (r1.ext _ _ ha)⟩, fun D hD => comp_core walk_tup hsub r1 q kk D hD⟩⟩
  | lst xs =>
    have z := r1.top
    cases z with
    | @lst a _ vs ha hr => exact ⟨a, rfl, .inl ⟨⟨vs, SqL.of (r1.ext _ _ ha)⟩, fun D hD => comp_core walk_lst hsub r1 q kk D hD⟩⟩
  | _ => exact q.elim
theorem tLc_rng {ia : Ex} {t : Tg} {elt : Ex} {cs : List Ex} {own : List Nat} {K' : PySem.W.Frag} (hsub : ∀ i ∈ t.slots, i ∈ own) {σ : L2.St} {Q : VK} (h : tE C phi G Kx (.comp elt t .rng1 [ia] cs own) σ H Q) :
    tLc (iRng1 (tA C phi G Kx [ia])) (gT K' t) (tCu C G cs) (tEu C G elt) own σ H Q := by
  obtain ⟨env, T, T', K, r, w, kk⟩ := h
  rw [wpE] at w
  refine ⟨env, T, T', _, r, w, fun vs env1 vs' H1 q g => ?_⟩
  obtain ⟨F, mu, rf, sh⟩ := g
  cases sh with
  | @cons _ _ v v' _ _ h1 _ t =>
  cases t
  cases e : items .rng1 [v] env1.st with
  | none => simp only [e] at q
  | some xs =>
    simp only [e] at q
    cases v with
    | int n =>
      obtain rfl := h1.int
      have e : (if n < 2 ^ 62 ∧ -(2 ^ 62) ≤ n then some ((List.range n.toNat).map fun (i : Nat) => PV.int (i : Int)) else none) = some xs := e
      split at e
      · rename_i hb2
        cases e
        exact ⟨n, rfl, hb2.2, hb2.1, fun D hD => comp_core (v := .int n) (v' := .int n) walk_rng hsub (rf.push (.int n)) q kk D hD⟩
      · cases e
    | _ => cases e
/-- what a comprehension's parts keep in their block -/
structure CpOk (C : Ctx) (G : Sig) (X : Cx) (scope : Scope) (own : List (Str × Nat)) (elt tg : Expr) (ifs : List Expr) (ie : Ex) (t : Tg) (cs : List Ex) : Prop where
  blk : BlkOk X.N X.env.scope scope own
  nd : X.N.Nodup
  sub : ∀ i ∈ t.slots, i ∈ own.map (·.2)
  tgt : ∀ (s : Shared) (H : Hp) (c : Addr) (cl : List (Str × Addr)) (fp : List Addr), TgOk (X.blk s H scope (compEnvC scope cl c X.env) fp) tg t
  tst : ∀ (s : Shared) (H : Hp) (c : Addr) (cl : List (Str × Addr)) (fp : List Addr), PTs (X.blk s H scope (compEnvC scope cl c X.env) fp) ifs (tCu C G cs)
  elt : ∀ (s : Shared) (H : Hp) (c : Addr) (cl : List (Str × Addr)) (fp : List Addr), PE (X.blk s H scope (compEnvC scope cl c X.env) fp) elt (tEu C G ie)
theorem CpOk.pg {scope : Scope} {own : List (Str × Nat)} {elt tg : Expr} {ifs : List Expr} {ie : Ex} {t : Tg} {cs : List Ex} (h : CpOk C G X scope own elt tg ifs ie t cs) (hc : X.calm = true) (s : Shared) (H : Hp) (c : Addr) (cl : List (Str × Addr)) (fp : List Addr) : PG (X.blk s H scope (compEnvC scope cl c X.env) fp) tg (gT X.K t) :=
  (h.tgt s H c cl fp).pg (X := X.blk s H scope (compEnvC scope cl c X.env) fp) h.nd hc
theorem e_comp {elt tg iter : Expr} {ifs : List Expr} {scope : Scope} {own : List (Str × Nat)} {ie ii : Ex} {t : Tg} {cs : List Ex} {pos : Pos} (ok : XOk C G k phi Kx X) (h : CpOk C G X scope own elt tg ifs ie t cs) (he : PE X iter (tE C phi G Kx ii)) (hpk : isPk ii = none)
    (hs : ∀ x, foldedSetIterable iter X.env x = pure x) : PE X (.ListComp elt [⟨tg, iter, ifs, 0⟩] scope pos) (tE C phi G Kx (.comp ie t .seq [ii] cs (own.map (·.2)))) :=
  peImp (pe_lc ok.calm h.nd (pi_seq he) h.blk (h.pg ok.calm) h.tst h.elt hs) fun σ H Q q => tLc_seq hpk h.sub q
theorem e_compR {elt tg a : Expr} {ifs : List Expr} {scope : Scope} {own : List (Str × Nat)} {ie ia : Ex} {t : Tg} {cs : List Ex} {pf pc pos : Pos} (ok : XOk C G k phi Kx X) (h : CpOk C G X scope own elt tg ifs ie t cs) (o : Os C phi G Kx X [a] [ia]) (hgl : Gl X "range") (hm : X.mg "range" = none)
    (hs : ∀ x, foldedSetIterable (.Call (.Name "range" pf) [a] [] pc) X.env x = pure x) : PE X (.ListComp elt [⟨tg, .Call (.Name "range" pf) [a] [] pc, ifs, 0⟩] scope pos) (tE C phi G Kx (.comp ie t .rng1 [ia] cs (own.map (·.2)))) := by
  have st : starEach [a] X.env = [(false, eval a X.env)] := by
    have := o.star
    rw [List.all_cons, Bool.and_eq_true] at this
    exact star_cons this.1
  exact peImp (pe_lc ok.calm h.nd (pi_range1 hgl hm o.pa st) h.blk (h.pg ok.calm) h.tst h.elt hs) fun σ H Q q => tLc_rng h.sub q
/-- x = [..] on one line, x a local -/
theorem s_comp {y : Str} {py spos : Pos} {i : Nat} {elt tg iter : Expr} {ifs : List Expr} {scope : Scope} {own : List (Str × Nat)} {ie ii : Ex} {t : Tg} {cs : List Ex} {pos : Pos} (ok : SOk C G k phi Kx X) (h : CpOk C G X scope own elt tg ifs ie t cs) (he : PE X iter (tE C phi G Kx ii)) (hpk : isPk ii = none)
    (hy : X.N[i]? = some y) (hyl : X.env.scope.names.lookup y = some .local) (hsw : swapsWith (.ListComp elt [⟨tg, iter, ifs, 0⟩] scope pos) (some (.Name y py)) spos.line X.env = pure true)
    (hs : ∀ x, foldedSetIterable iter X.env x = pure x) : PS X (.Assign [.Name y py] (.ListComp elt [⟨tg, iter, ifs, 0⟩] scope pos) spos) (tS C phi G Kx (.asg (.nm i) (.comp ie t .seq [ii] cs (own.map (·.2))))) :=
  psImp (ps_setLc ok.calm h.nd hy hyl hsw (pi_seq he) h.blk (h.pg ok.calm) h.tst h.elt hs) fun D sig H ⟨env, T, T', DD, r, w, l⟩ => by
    rw [wpS] at w
    exact tLc_seq hpk h.sub ⟨env, T, T', _, r, w, fun v env1 v' H1 q ⟨F, mu, r1⟩ => l.nx _ _ _ q ⟨F, mu, r1.pop.putA r1.top⟩⟩
theorem s_compR {y : Str} {py spos : Pos} {i : Nat} {elt tg a : Expr} {ifs : List Expr} {scope : Scope} {own : List (Str × Nat)} {ie ia : Ex} {t : Tg} {cs : List Ex} {pf pc pos : Pos} (ok : SOk C G k phi Kx X) (h : CpOk C G X scope own elt tg ifs ie t cs) (o : Os C phi G Kx X [a] [ia]) (hgl : Gl X "range") (hm : X.mg "range" = none)
    (hy : X.N[i]? = some y) (hyl : X.env.scope.names.lookup y = some .local) (hsw : swapsWith (.ListComp elt [⟨tg, .Call (.Name "range" pf) [a] [] pc, ifs, 0⟩] scope pos) (some (.Name y py)) spos.line X.env = pure true)
    (hs : ∀ x, foldedSetIterable (.Call (.Name "range" pf) [a] [] pc) X.env x = pure x) : PS X (.Assign [.Name y py] (.ListComp elt [⟨tg, .Call (.Name "range" pf) [a] [] pc, ifs, 0⟩] scope pos) spos) (tS C phi G Kx (.asg (.nm i) (.comp ie t .rng1 [ia] cs (own.map (·.2))))) := by
  have st : starEach [a] X.env = [(false, eval a X.env)] := by
    have := o.star
    rw [List.all_cons, Bool.and_eq_true] at this
    exact star_cons this.1
  exact psImp (ps_setLc ok.calm h.nd hy hyl hsw (pi_range1 hgl hm o.pa st) h.blk (h.pg ok.calm) h.tst h.elt hs) fun D sig H ⟨env, T, T', DD, r, w, l⟩ => by
    rw [wpS] at w
    exact tLc_rng h.sub ⟨env, T, T', _, r, w, fun v env1 v' H1 q ⟨F, mu, r1⟩ => l.nx _ _ _ q ⟨F, mu, r1.pop.putA r1.top⟩⟩
/-- the block's own context -/
theorem XOk.blk {scope : Scope} {s : Shared} {c : Addr} {cl : List (Str × Addr)} {fp : List Addr} (ok : XOk C G k phi Kx X) (phi2 : Frm) : XOk C G k phi2 NoX (X.blk s H scope (compEnvC scope cl c X.env) fp) :=
  ⟨⟨ok.prog, ok.w, ok.K, ok.mg, ok.base, ok.gd⟩, ok.calm, ok.room1, ok.tab, fun sig pins H s e s' I h => by
    obtain ⟨a, B, H', cls, d, _, _, _, _, _, _, _, e, env, T, T', _, z⟩ := h
    exact z.elim⟩
end
end RF

end
section
set_option maxRecDepth 100000
set_option maxHeartbeats 1000000
/-! A def by its body. -/
namespace RF
open PySem PySem.Spec L2 PyProof.Rows

section
variable {C : Ctx} {phi : Frm} {X : Cx} {G : Sig} {Kx : Exc → Env → Prop} {k : Nat} {F H : Hp} {mu : List Addr} {env : Env} {T : List PV} {sig : L2.St} {T' : List V} {pins : List (Addr × Obj)} {s : Shared}

theorem FG.mono {j k : Nat} {f : Addr} {fd : FuncData} {ps : List Str} {sp : Sp} (h : FG C j f fd ps sp) (le : j ≤ k) : FG C k f fd ps sp := ⟨h.len, fun A outer s H args us vs Q E hr => h.run A outer s H args us vs Q E (hr.mono le)⟩
/-- a def (its body run in any context): as fn_of, with the guards told -/
theorem fg_of {k : Nat} {f : Addr} {name qual : Str} {params : Arguments} {body : List Stmt} {scope : Scope} {dV kV doc pm cdv ct oc : Value} {an od : Option Addr} {osl : Array (Option Value)} {N ps : List Str} {sp : Sp}
    (lk : C.K.lookup f = some ⟨oc, od, .func (PySem.W.fnOf name qual params body scope dV kV doc pm an cdv ct), osl⟩) (hcd : PySem.W.codeIn C.K cdv qual = true) (S : FnScope N ps scope) (len : ∀ vs H Q E, sp vs H Q E → vs.length = ps.length)
    (hbody : ∀ (A : Around) (outer : List PySem.Env) (s : Shared) (H : Hp) (vs : List V) (Q : VK) (E : XK), Room k (A.deeper (envOfC qual scope s.heap.objs.size f cdv)) → A.guards = some [] → sp vs H Q E →
      ∃ t, PSs (cxOf (L2.CX C.P C.w) C.P C.w C.K C.mg C.base N qual scope f cdv A outer s H E) body t ∧ t { nx := fun _ H' => Q .non H', rt := Q } (start N vs) H) :
    FG C (k + 1) f (PySem.W.fnOf name qual params body scope dV kV doc pm an cdv ct) ps sp := by
  refine ⟨len, fun A outer s H args us vs Q E hr hg e0 hb r hsp => ?_⟩
  have hl := len _ _ _ _ hsp
  have KX : C.K.In s.heap := e0.mod.kin.keeps fun b o e => (e0.bs b o e).1
  have lim : s.heap.NoLimit := e0.mod.nolimit.keeps fun b o e => (e0.bs b o e).1
  have hkind : ∀ y ∈ ps.zip us, scope.names.lookup y.1 = some .local ∨ (scope.names.lookup y.1 = some .cell ∧ ((cellsFrom (s.heap.objs.size + 1) scope.names []).lookup y.1).isSome = true) := fun ⟨n, v⟩ hy => by
    rcases S.par n (List.of_mem_zip hy).1 with q | q
    · exact .inl q
    · exact .inr ⟨q, PySem.W.cellsFrom_some _ _ _ (.inl q)⟩
  refine codeAny_call_function hr.depth (KX _ _ lk) rfl S.co S.gen rfl (PySem.W.codeRec_of KX hcd) (hb _ _ _ _ ?_)
  refine wpAny_newFunctionEnv_cells S.kind hkind fun env he s1 x => ?_
  subst he
  refine ⟨lim.keeps x.toInCall.keep, codeAny_func ?_⟩
  obtain ⟨t, ht, hq⟩ := hbody A outer s H vs Q E (hr.deeper _) hg hsp
  have I : Inv (cxOf (L2.CX C.P C.w) C.P C.w C.K C.mg C.base N qual scope f cdv A outer s H E) [] (start N vs) H s1 := inv_start S hr.hd e0 hl r x
  refine wpAny_mono (ht.run [] s1 (start N vs) H _ I hq) (fun fl s' hs => ?_) fun e s' hs => hs
  have fin : ∀ {σ' : L2.St} {H' : Hp} {v : V} {u : Value}, Inv (cxOf (L2.CX C.P C.w) C.P C.w C.K C.mg C.base N qual scope f cdv A outer s H E) [] σ' H' s' → RelV v u → Q v H' → CE outer C.P C.w H s Q u s' :=
    fun {σ' H' v u} J rv q => ⟨v, H', J.os, J.bare, J.base, J.hok, rv, q⟩
  cases fl with
  | ret u =>
    obtain ⟨v, σ', H', J, rv, q⟩ := hs
    exact fin J rv q
  | next =>
    obtain ⟨σ', H', J, q⟩ := hs
    exact fin (v := V.non) (u := Value.none) J rfl q
  | brk =>
    obtain ⟨_, _, _, q⟩ := hs
    exact False.elim q
  | cont =>
    obtain ⟨_, _, _, q⟩ := hs
    exact False.elim q

/-- a def of the program as it stands behind the top -/
structure DefAt (C : Ctx) (f : Nat) (N : List Str) (body : List Stmt) (scope : Scope) : Prop where
  ex : ∃ (name qual : Str) (params : Arguments) (dV kV doc pm cdv ct oc : Value) (an od : Option Addr) (osl : Array (Option Value)), C.fd f = PySem.W.fnOf name qual params body scope dV kV doc pm an cdv ct ∧ C.K.lookup (C.fa f) = some ⟨oc, od, .func (C.fd f), osl⟩ ∧ PySem.W.codeIn C.K cdv qual = true
  sc : FnScope N (C.ps f) scope
/-- the body's meaning: whatever context it runs in -/
def BodyOk (C : Ctx) (G : Sig) (k : Nat) (N : List Str) (scope : Scope) (body : List Stmt) (ib : List Sm) : Prop := ∀ (X : Cx) (phi : Frm) (Kx : Exc → Env → Prop), SOk C G k phi Kx X → X.N = N → X.env.scope = scope → PSs X body (tB C phi G Kx ib)

theorem sok_cx {N ps : List Str} {qual : Str} {scope : Scope} {f : Addr} {cdv : Value} {A : Around} {outer : List PySem.Env} {E : XK} (tab : Tab C G k) (S : FnScope N ps scope) (hr : Room (k + 1) (A.deeper (envOfC qual scope s.heap.objs.size f cdv))) (hg : A.guards = some [])
    (hE : ∀ e env sig T T' cls d H', Kx e env → RelX C phi e env T sig T' cls d H' → E cls d H') : SOk C G k phi Kx (cxOf (L2.CX C.P C.w) C.P C.w C.K C.mg C.base N qual scope f cdv A outer s H E) where
  prog := rfl
  w := rfl
  K := rfl
  mg := rfl
  base := rfl
  gd := hg
  calm := rfl
  room1 := hr
  tab := tab
  pass := fun sig pins H2 s2 e s' I c => by
    have tk : Takes (cxOf (L2.CX C.P C.w) C.P C.w C.K C.mg C.base N qual scope f cdv A outer s H E) (fun cls d _ H => E cls d H) := takes_of rfl rfl rfl rfl
    exact passes_call tk (E := EXc C phi Kx sig) (fun cls d σ H3 ⟨e, env, T, T', rx, kx⟩ => hE e env sig T T' cls d H3 kx rx) pins sig H2 s2 e s' I c
  nd := S.nd
  fn := fun _ => rfl
  po := passes_of rfl
theorem RelX.bare {e : Exc} {cls : Value} {d : Option Addr} (h : RelX C phi e env T sig T' cls d H) : RelX C phi e ⟨[], env.st⟩ [] [] [] cls d H := by
  obtain ⟨F, mu, r, rest⟩ := h
  exact ⟨F, mu, r.bare.temps .nil, rest⟩
/-- the parameters at the entry -/
def env0 (N : List Str) (vs : List PV) (st : Store) : Env := ⟨vs.map .val ++ List.replicate (N.length - vs.length) .no, st⟩
theorem RelF.entry {N : List Str} {vs : List PV} {vs' : List V} {st : Store} (r : RelF C phi F mu ⟨[], st⟩ vs [] vs' H) : RelF C phi F mu (env0 N vs st) [] (L2.start N vs') [] H := by
  have hl := r.tmp.len
  have noL : ∀ (i : Nat) (s : SV), (env0 N vs st).sl[i]? = some s → s.live = true → False := fun i s e h => by
    have e : (vs.map SV.val ++ List.replicate (N.length - vs.length) SV.no)[i]? = some s := e
    by_cases hi : i < vs.length
    · rw [List.getElem?_append_left (by simpa using hi), List.getElem?_map] at e
      cases q : vs[i]? with
      | none => rw [q] at e; cases e
      | some v => rw [q] at e; cases e; cases h
    · rw [List.getElem?_append_right (by simpa using hi), List.getElem?_replicate] at e
      split at e
      · cases e; cases h
      · cases e
  refine ⟨r.ext, r.extR, r.dis, r.len, r.cel, r.nd, ?_, fun i v e => ?_, fun i s e h => (noL i s e h).elim, fun i j s u a _ e h => (noL i s e h).elim, .nil, r.frm⟩
  · show (vs.map SV.val ++ List.replicate (N.length - vs.length) SV.no).length = (vs'.map some ++ List.replicate (N.length - vs'.length) none).length
    simp [hl]
  · have e : (vs.map SV.val ++ List.replicate (N.length - vs.length) SV.no)[i]? = some (SV.val v) := e
    by_cases hi : i < vs.length
    · rw [List.getElem?_append_left (by simpa using hi), List.getElem?_map] at e
      cases q : vs[i]? with
      | none => rw [q] at e; cases e
      | some w =>
        rw [q] at e
        cases e
        obtain ⟨v', e1, e2⟩ := r.tmp.get q
        refine ⟨v', ?_, e2⟩
        show (vs'.map some ++ _)[i]? = _
        rw [List.getElem?_append_left (by rw [List.length_map, ← hl]; exact hi), List.getElem?_map, e1]
        rfl
    · rw [List.getElem?_append_right (by simpa using hi), List.getElem?_replicate] at e
      split at e
      · cases e
      · cases e
/-- a def's promise, out of its body's -/
theorem fg_def {f : Nat} {N : List Str} {body : List Stmt} {scope : Scope} {ib : List Sm} {sp : Spec} (D : DefAt C f N body scope) (B : BodyOk C G k N scope body ib) (tab : Tab C G k)
    (W : ∀ vs st Q Xx, sp vs st Q Xx → vs.length = (C.ps f).length ∧ wpB G (fun e env => Xx e env.st) ib { nx := fun env => Q .non env.st, rt := Q } (env0 N vs st)) : FG C (k + 2) (C.fa f) (C.fd f) (C.ps f) (spH C (C.ps f).length sp) := by
  obtain ⟨name, qual, params, dV, kV, doc, pm, cdv, ct, oc, an, od, osl, e1, lk, hcd⟩ := D.ex
  rw [e1] at lk
  rw [e1]
  refine fg_of lk hcd D.sc (fun vs H Q E h => h.1) fun A outer s H vs' Q E hr hg h => ?_
  obtain ⟨hn, phi, st, vs, K, KX, ⟨F, mu, r⟩, hs, kk, kx⟩ := h
  obtain ⟨hl, w⟩ := W vs st K KX hs
  have ok := sok_cx (phi := phi) (Kx := fun e env => KX e env.st) (s := s) (H := H) (outer := outer) (E := E) tab D.sc hr hg fun e env sig T T' cls d H' q rx => kx e env.st cls d H' q rx.bare
  refine ⟨_, B _ phi _ ok rfl rfl, env0 N vs st, [], [], _, ⟨F, mu, r.entry⟩, w, ⟨fun env sig H' q ⟨F2, mu2, r2⟩ => kk _ _ _ _ q ⟨F2, mu2, r2.bare.push .non⟩, fun v v' env sig H' q ⟨F2, mu2, r2⟩ => kk _ _ _ _ q ⟨F2, mu2, r2.bare⟩, fun env sig H' q _ => q.elim, fun env sig H' q _ => q.elim⟩⟩
/-- .. of an __init__ -/
def envI (N : List Str) (x c n : Nat) (vs : List PV) (st : Store) : Env := ⟨.ini x c (List.replicate n none) :: (vs.map .val ++ List.replicate (N.length - (vs.length + 1)) .no), st⟩
theorem RelF.entryI {N : List Str} {x : Nat} {c : Nat} {fs : List (Option PV)} {vs : List PV} {vs' : List V} {st : Store} (r : RelF C phi F mu ⟨[.ini x c fs], st⟩ vs [some (.ref x)] vs' H) : RelF C phi F mu ⟨.ini x c fs :: (vs.map .val ++ List.replicate (N.length - (vs.length + 1)) .no), st⟩ [] (L2.start N (.ref x :: vs')) [] H := by
  have hl := r.tmp.len
  have noL : ∀ (i : Nat) (s : SV), (SV.ini x c fs :: (vs.map SV.val ++ List.replicate (N.length - (vs.length + 1)) SV.no))[i]? = some s → s.live = true → i = 0 ∧ s = .ini x c fs := fun i s e h => by
    cases i with
    | zero => cases e; exact ⟨rfl, rfl⟩
    | succ i =>
      exfalso
      rw [List.getElem?_cons_succ] at e
      by_cases hi : i < vs.length
      · rw [List.getElem?_append_left (by simpa using hi), List.getElem?_map] at e
        cases q : vs[i]? with
        | none => rw [q] at e; cases e
        | some v => rw [q] at e; cases e; cases h
      · rw [List.getElem?_append_right (by simpa using hi), List.getElem?_replicate] at e
        split at e
        · cases e; cases h
        · cases e
  refine ⟨r.ext, r.extR, r.dis, r.len, r.cel, r.nd, ?_, fun i v e => ?_, fun i s e h => ?_, fun i j s u a ne e h e2 h2 => ?_, .nil, r.frm⟩
  · show (SV.ini x c fs :: (vs.map SV.val ++ List.replicate (N.length - (vs.length + 1)) SV.no)).length = (((V.ref x :: vs').map some) ++ List.replicate (N.length - (V.ref x :: vs').length) none).length
    simp [hl]
  · cases i with
    | zero => cases e
    | succ i =>
      have e : (vs.map SV.val ++ List.replicate (N.length - (vs.length + 1)) SV.no)[i]? = some (SV.val v) := e
      by_cases hi : i < vs.length
      · rw [List.getElem?_append_left (by simpa using hi), List.getElem?_map] at e
        cases q : vs[i]? with
        | none => rw [q] at e; cases e
        | some w =>
          rw [q] at e
          cases e
          obtain ⟨v', e1, e2⟩ := r.tmp.get q
          refine ⟨v', ?_, e2⟩
          show (((V.ref x :: vs').map some) ++ _)[i + 1]? = _
          rw [List.getElem?_append_left (by rw [List.length_map, List.length_cons, ← hl]; omega), List.getElem?_map, List.getElem?_cons_succ, e1]
          rfl
      · rw [List.getElem?_append_right (by simpa using hi), List.getElem?_replicate] at e
        split at e
        · cases e
        · cases e
  · obtain ⟨rfl, rfl⟩ := noL i s e h
    obtain ⟨a, e1, rest⟩ := r.liv 0 (.ini x c fs) rfl rfl
    cases e1
    exact ⟨x, rfl, rest⟩
  · obtain ⟨rfl, _⟩ := noL i s e h
    obtain ⟨rfl, _⟩ := noL j u e2 h2
    exact (ne rfl).elim
def iniQ (x c : Nat) (Q : List (Option PV) → Store → Prop) (env : RF.Env) : Prop := match (env.sl[0]? : Option SV) with
  | some (.ini a d fs) => a = x ∧ d = c ∧ Q fs env.st
  | _ => False
theorem fg_init {c : Nat} {N : List Str} {body : List Stmt} {scope : Scope} {ib : List Sm} {isp : ISpec} (D : DefAt C (C.ini c) N body scope) (B : BodyOk C G k N scope body ib) (tab : Tab C G k)
    (W : ∀ x vs st Q Xx, isp vs st Q Xx → vs.length + 1 = (C.ps (C.ini c)).length ∧ wpB G (fun e env => Xx e env.st) ib { nx := iniQ x c Q, rt := fun _ _ => False } (envI N x c (C.fl c).length vs st)) : FG C (k + 2) (C.fa (C.ini c)) (C.fd (C.ini c)) (C.ps (C.ini c)) (spI C c (C.ps (C.ini c)).length isp) := by
  obtain ⟨name, qual, params, dV, kV, doc, pm, cdv, ct, oc, an, od, osl, e1, lk, hcd⟩ := D.ex
  rw [e1] at lk
  rw [e1]
  refine fg_of lk hcd D.sc (fun vs H Q E h => h.1) fun A outer s H vs0 Q E hr hg h => ?_
  obtain ⟨hn, phi, st, vs, x, vs', K, KX, rfl, ⟨F, mu, r⟩, hs, kk, kx⟩ := h
  obtain ⟨hl, w⟩ := W x vs st K KX hs
  have ok := sok_cx (phi := phi) (Kx := fun e env => KX e env.st) (s := s) (H := H) (outer := outer) (E := E) tab D.sc hr hg fun e env sig T T' cls d H' q rx => kx e env.st cls d H' q rx.bare
  refine ⟨_, B _ phi _ ok rfl rfl, envI N x c (C.fl c).length vs st, [], [], _, ⟨F, mu, r.entryI⟩, w, ⟨fun env sig H' q ⟨F2, mu2, r2⟩ => ?_, fun v v' env sig H' q _ => q.elim, fun env sig H' q _ => q.elim, fun env sig H' q _ => q.elim⟩⟩
  unfold iniQ at q
  cases e2 : env.sl[0]? with
  | none => simp only [e2] at q
  | some sv =>
    simp only [e2] at q
    cases sv with
    | ini a d fs =>
      obtain ⟨rfl, rfl, q⟩ := q
      obtain ⟨b, h1, h2, h3, h4, h5⟩ := r2.liv 0 _ e2 rfl
      refine kk fs env.st H' q ⟨F2, mu2, ?_⟩
      have hb : b = a := by
        cases h2 with
        | ini _ _ _ => rfl
      subst hb
      refine ⟨r2.ext, r2.extR, r2.dis, r2.len, r2.cel, r2.nd, rfl, fun i v e => ?_, fun i s e h => ?_, fun i j s u a ne e h e2 h2 => ?_, .nil, r2.frm⟩
      · cases i with
        | zero => cases e
        | succ i => simp at e
      · cases i with
        | zero =>
          cases e
          exact ⟨b, rfl, h2, h3, h4, h5⟩
        | succ i => simp at e
      · cases i with
        | zero =>
          cases j with
          | zero => exact (ne rfl).elim
          | succ j => simp at e2
        | succ i => simp at e
    | _ => exact q.elim
end
end RF

end
section
set_option maxRecDepth 100000
set_option maxHeartbeats 1000000
/-! From the text to the small language. -/
namespace RF
open PySem PySem.Spec L2 PyProof.Rows

inductive GK where
  | fn (f : Nat) | cls (c : Nat)
/-- what the text's names mean -/
structure CT where
  glob : List (Str × GK)
  names : List Str
  ar : Nat → Nat
  df : Nat → List PV
  ini : Nat → Nat
  cmt : List ((Nat × Str) × Nat)
  mths : List (Nat × Nat)

def posOf (x : Str) : List Str → Nat → Option Nat
  | [], _ => none
  | y :: ys, n => if y = x then some n else posOf x ys (n + 1)
theorem posOf_some {x : Str} : ∀ {l : List Str} {n i : Nat}, posOf x l n = some i → ∃ j, i = n + j ∧ l[j]? = some x
  | [], n, i, h => by cases h
  | y :: ys, n, i, h => by
    unfold posOf at h
    split at h
    · rename_i e
      cases h
      exact ⟨0, rfl, by rw [e]; rfl⟩
    · obtain ⟨j, e, q⟩ := posOf_some h
      exact ⟨j + 1, by omega, q⟩
theorem posOf_0 {x : Str} {l : List Str} {i : Nat} (h : posOf x l 0 = some i) : l[i]? = some x := by
  obtain ⟨j, e, q⟩ := posOf_some h
  have : i = j := by omega
  rw [this]; exact q

def visB (sc : Scope) (x : Str) : Bool := match sc.names.lookup x with
  | some .local => true
  | some .cell => true
  | some .free => true
  | _ => false
theorem vis_of {sc : Scope} {x : Str} (h : visB sc x = true) : Vis sc x := by
  unfold visB at h
  split at h
  · exact .inl (by assumption)
  · exact .inr (.inl (by assumption))
  · exact .inr (.inr (by assumption))
  · cases h
def okName (x : Str) : Bool := !(x == ("__debug__" : Str)) && !(x == ("__classdict__" : Str))
def slotOf (N : List Str) (sc : Scope) (x : Str) : Option Nat := if (visB sc x && okName x) = true then posOf x N 0 else none
def glB (sc : Scope) (x : Str) : Bool := decide (sc.names.lookup x = some .globalImplicit)
def globOf (ct : CT) (sc : Scope) (x : Str) : Option GK := if (glB sc x && okName x) = true then ct.glob.lookup x else none
def cConst : Const → Option PV
  | .none => some .non
  | .bool b => some (.bl b)
  | .int i => some (.int i)
  | .str x => some (.str x)
  | _ => none
def binP : Operator → Option Pr
  | .Add => some .add
  | .Sub => some .sub
  | .Mult => some .mul
  | .FloorDiv => some .fdiv
  | .Mod => some .mod
  | .Pow => some .pow
  | _ => none
def cmpP : CmpOp → Option Pr
  | .Eq => some .eq
  | .NotEq => some .ne
  | .Lt => some .lt
  | .LtE => some .le
  | .Gt => some .gt
  | .GtE => some .ge
  | _ => none
def bfnOf (x : Str) : Option (Pr × String) :=
  if x = ("len" : Str) then some (.len, "len") else if x = ("abs" : Str) then some (.abs, "abs") else if x = ("min" : Str) then some (.min2, "min") else if x = ("max" : Str) then some (.max2, "max")
  else if x = ("repr" : Str) then some (.repr1, "repr") else if x = ("isinstance" : Str) then some (.isi, "isinstance") else none
def btyOf (x : Str) : Option (Pr × String) := if x = ("int" : Str) then some (.int1, "int") else if x = ("tuple" : Str) then some (.tup1, "tuple") else none
def mapA (g : Expr → Option Ex) : List Expr → Option (List Ex)
  | [] => some []
  | e :: es => match g e, mapA g es with
    | some i, some is => if notStar e = true then some (i :: is) else none
    | _, _ => none
def noPk (i : Ex) : Bool := (isPk i).isNone
def chain (f : Expr → Option Ex) (mk : Ex → Ex → Ex) : List Expr → Option Ex
  | [] => none
  | a :: r => match r with
    | [] => f a
    | _ :: _ => match f a, chain f mk r with
      | some i, some j => some (mk i j)
      | _, _ => none
def opnd (f : Expr → Option Ex) (N : List Str) (sc : Scope) (e : Expr) : Option Ex := match e with
  | .Name x _ => match slotOf N sc x with
    | some i => some (.pk i)
    | none => match f e with
      | some i => if noPk i = true then some i else none
      | none => none
  | _ => match f e with
    | some i => if noPk i = true then some i else none
    | none => none
def cmpr (g : Expr → Option Ex) (a : Expr) (ops : List CmpOp) (bs : List Expr) : Option Ex := match ops, bs with
  | [op], [b] => match cmpP op, g a, g b with
    | some p, some ia, some ib => if behindInMarks op b = false then some (.pr p [ia, ib]) else none
    | _, _, _ => none
  | _, _ => none
def cName (ct : CT) (N : List Str) (sc : Scope) (x : Str) : Option Ex := match slotOf N sc x with
  | some i => some (.var i)
  | none => match globOf ct sc x with
    | some (.cls c) => some (.cst (.cls c))
    | _ => none
def cCall (ct : CT) (sc : Scope) (f o : Expr → Option Ex) (x : Str) (es : List Expr) : Option Ex := match globOf ct sc x with
  | some (.fn g) => match mapA f es with
    | some is => if (is.all noPk && decide (ct.ar g ≤ is.length + (ct.df g).length)) = true then some (.call g is ((ct.df g).drop (is.length + (ct.df g).length - ct.ar g))) else none
    | none => none
  | some (.cls c) => match mapA f es with
    | some is => if (is.all noPk && decide (ct.ar (ct.ini c) ≤ is.length + 1 + (ct.df (ct.ini c)).length)) = true then some (.make c is ((ct.df (ct.ini c)).drop (is.length + 1 + (ct.df (ct.ini c)).length - ct.ar (ct.ini c)))) else none
    | none => none
  | none => if (glB sc x && okName x && !(x == ("__name__" : Str))) = true then match bfnOf x with
      | some (p, _) => match mapA o es with
        | some (i :: is) => some (.pr p (i :: is))
        | _ => none
      | none => match btyOf x with
        | some (p, _) => match mapA o es with
          | some (i :: is) => some (.pr p (i :: is))
          | _ => none
        | none => none
    else none
def noSuper : Expr → Bool
  | .Call (.Name _ _) [] [] _ => false
  | _ => true
/-- the class that a name stands for -/
def clsOf (ct : CT) (N : List Str) (sc : Scope) : Expr → Option Nat
  | .Name x _ => match slotOf N sc x with
    | some _ => none
    | none => match globOf ct sc x with
      | some (.cls c) => some c
      | _ => none
  | _ => none
def cMeth (ct : CT) (N : List Str) (sc : Scope) (f : Expr → Option Ex) (v : Expr) (m : Str) (apos pos : Pos) (es : List Expr) : Option Ex :=
  if (noSuper v && (apos.endLine == pos.line) && es.all notStar && decide (es.length < 30)) = true then match mapA f es with
    | none => none
    | some is => if is.all noPk = true then match clsOf ct N sc v with
        | some c => match ct.cmt.lookup (c, m) with
          | some g => if (!is.isEmpty && decide (ct.ar g ≤ is.length + 1 + (ct.df g).length)) = true then some (.cmeth g c is ((ct.df g).drop (is.length + 1 + (ct.df g).length - ct.ar g))) else none
          | none => none
        | none => match f v, posOf m ct.names 0 with
          | some io, some mn => if (ct.mths.all fun p => !(p.1 == mn) || decide (ct.ar p.2 = is.length + 1 ∧ (ct.df p.2).length = 0)) = true then some (.meth mn io is []) else none
          | _, _ => none
      else none
  else none
def cSlc (o : Expr → Option Ex) (a : Expr) (lo hi : Option Expr) : Option Ex := match o a with
  | none => none
  | some ia => match lo, hi with
    | none, none => some (.pr (.slc false false) [ia])
    | some l, none => match o l with
      | some il => some (.pr (.slc true false) [ia, il])
      | none => none
    | none, some h => match o h with
      | some ih => some (.pr (.slc false true) [ia, ih])
      | none => none
    | some l, some h => match o l, o h with
      | some il, some ih => some (.pr (.slc true true) [ia, il, ih])
      | _, _ => none
def isSlc : Expr → Bool
  | .Slice .. => true
  | _ => false
def isSet : Expr → Bool
  | .Set .. => true
  | _ => false
/-- places of a target's names -/
def nmsOf (N : List Str) (ok : Str → Bool) : List Expr → Option (List Nat)
  | [] => some []
  | .Name x _ :: es => match posOf x N 0, nmsOf N ok es with
    | some i, some is => if ok x = true then some (i :: is) else none
    | _, _ => none
  | _ :: _ => none
def tgOf (N : List Str) (ok : Str → Bool) : Expr → Option Tg
  | .Name x _ => match posOf x N 0 with
    | some i => if ok x = true then some (.nm i) else none
    | none => none
  | .Tuple es _ _ => (nmsOf N ok es).map .tp
  | _ => none
def locB (sc : Scope) (x : Str) : Bool := decide (sc.names.lookup x = some .local)
def locC (sc : Scope) (x : Str) : Bool := match sc.names.lookup x with
  | some .local => true
  | some .cell => true
  | _ => false
def ownOf (N : List Str) (names : List (Str × NameKind)) : List (Str × Nat) := names.filterMap fun y => match y.2 with
  | .local => (posOf y.1 N 0).map fun i => (y.1, i)
  | .cell => (posOf y.1 N 0).map fun i => (y.1, i)
  | _ => none
/-- what is walked -/
def iterOf (ct : CT) (sc : Scope) (f : Expr → Option Ex) (e : Expr) : Option (It × Ex) := match e with
  | .Call (.Name x _) [a] [] _ => if (decide (x = ("range" : Str)) && glB sc x && decide (ct.glob.lookup x |>.isNone)) = true then match f a with
      | some i => if (noPk i && notStar a) = true then some (.rng1, i) else none
      | none => none
    else match f e with
      | some i => if noPk i = true then some (.seq, i) else none
      | none => none
  | _ => match f e with
    | some i => if (noPk i && !isSet e) = true then some (.seq, i) else none
    | none => none
def cTests (t : Expr → Option Ex) : List Expr → Option (List Ex)
  | [] => some []
  | [c] => (t c).map fun i => [i]
  | _ => none
def cComp (N : List Str) (sc : Scope) (it : Option (It × Ex)) (f t : Expr → Option Ex) (elt : Expr) (g : Comprehension) (scope : Scope) : Option Ex := match it, tgOf N (locB (relS scope sc)) g.target, cTests t g.ifs, f elt with
  | some (k, ii), some tg, some cs, some ie => if (decide (g.is_async = 0) && blkC N sc scope (ownOf N scope.names) && tg.slots.all fun i => ((ownOf N scope.names).map (·.2)).contains i) = true then some (.comp ie tg k [ii] cs ((ownOf N scope.names).map (·.2))) else none
  | _, _, _, _ => none
def plainN : Expr → Bool
  | .UnaryOp .. => false
  | .BoolOp .. => false
  | .IfExp .. => false
  | .Compare .. => false
  | _ => true

def cmp (ct : CT) (N : List Str) : Nat → Bool → Scope → Expr → Option Ex
  | 0, _, _, _ => none
  | n + 1, true, sc, e => match e with
    | .UnaryOp op a _ => match op with
      | .Not => (cmp ct N n true sc a).map .not
      | _ => none
    | .BoolOp op es _ => match op with
      | .And => chain (cmp ct N n true sc) .and es
      | .Or => chain (cmp ct N n true sc) .or es
    | .Compare a ops bs _ => cmpr (opnd (cmp ct N n false sc) N sc) a ops bs
    | e => match cmp ct N n false sc e with
      | some i => if (plainT i && plainN e) = true then some i else none
      | none => none
  | n + 1, false, sc, e => match e with
    | .Name x _ => cName ct N sc x
    | .Constant c _ _ => (cConst c).map .cst
    | .BinOp a op b _ => match binP op, opnd (cmp ct N n false sc) N sc a, opnd (cmp ct N n false sc) N sc b with
      | some p, some ia, some ib => some (.pr p [ia, ib])
      | _, _, _ => none
    | .UnaryOp op a _ => match op with
      | .USub => (opnd (cmp ct N n false sc) N sc a).map fun i => .pr .neg [i]
      | .Not => (cmp ct N n false sc a).map .not
      | _ => none
    | .Compare a ops bs _ => cmpr (opnd (cmp ct N n false sc) N sc) a ops bs
    | .BoolOp op es _ => match op with
      | .And => chain (cmp ct N n false sc) .and es
      | .Or => chain (cmp ct N n false sc) .or es
    | .IfExp c a b _ => match cmp ct N n true sc c, cmp ct N n false sc a, cmp ct N n false sc b with
      | some ic, some ia, some ib => some (.ite ic ia ib)
      | _, _, _ => none
    | .Call fn es kws pos => match kws with
      | [] => match fn with
        | .Name x _ => cCall ct sc (cmp ct N n false sc) (opnd (cmp ct N n false sc) N sc) x es
        | .Attribute v m apos => cMeth ct N sc (cmp ct N n false sc) v m apos pos es
        | _ => none
      | _ :: _ => none
    | .Attribute v m _ => if noSuper v = true then match cmp ct N n false sc v, posOf m ct.names 0 with
        | some i, some j => some (.attr j i)
        | _, _ => none
      else none
    | .Subscript a b _ => match b with
      | .Slice lo hi none _ => cSlc (opnd (cmp ct N n false sc) N sc) a lo hi
      | b => if isSlc b = true then none else match opnd (cmp ct N n false sc) N sc a, opnd (cmp ct N n false sc) N sc b with
        | some ia, some ib => some (.pr .idx [ia, ib])
        | _, _ => none
    | .Tuple es _ _ => match mapA (cmp ct N n false sc) es with
      | some is => if is.all noPk = true then some (.pr .tup is) else none
      | none => none
    | .List es _ => match mapA (cmp ct N n false sc) es with
      | some is => if is.all noPk = true then some (.pr .lst is) else none
      | none => none
    | .ListComp elt gs scope _ => match gs with
      | [g] => cComp N sc (iterOf ct sc (cmp ct N n false sc) g.iter) (cmp ct N n false (relS scope sc)) (cmp ct N n true (relS scope sc)) elt g scope
      | _ => none
    | _ => none
end RF

end
section
set_option maxRecDepth 100000
set_option maxHeartbeats 1000000
/-! What is compiled keeps its meaning. -/
namespace RF
open PySem PySem.Spec L2 PyProof.Rows

def bltNames : List Str := ["len", "abs", "min", "max", "repr", "isinstance", "int", "tuple", "range"]
structure CTOk (C : Ctx) (G : Sig) (ct : CT) : Prop where
  fn : ∀ x f, ct.glob.lookup x = some (.fn f) → C.mg x = some (.ref (C.fa f)) ∧ PySem.W.keepIn C.K (.ref (C.fa f)) = true
  cls : ∀ x c, ct.glob.lookup x = some (.cls c) → C.mg x = some (.ref (C.ca c)) ∧ PySem.W.keepIn C.K (.ref (C.ca c)) = true
  blt : ∀ x ∈ bltNames, ct.glob.lookup x = none → C.mg x = none
  ar : ∀ f, (C.ps f).length = ct.ar f
  df : ∀ f, C.df f = ct.df f
  ini : ∀ c, C.ini c = ct.ini c
  mn : ∀ i x, ct.names[i]? = some x → x = C.mn i
  cmt : ∀ c m g, ct.cmt.lookup (c, m) = some g → CmFact C c m g
  mths : ∀ c m g, G.meth c m = some g → (m, g) ∈ ct.mths

section
variable {C : Ctx} {phi : Frm} {X : Cx} {G : Sig} {Kx : Exc → Env → Prop} {k : Nat} {ct : CT} {N : List Str} {sc : Scope} {f o : Expr → Option Ex}

theorem okName_d {x : Str} (h : okName x = true) : (x == ("__debug__" : Str)) = false ∧ (x == ("__classdict__" : Str)) = false := by
  unfold okName at h
  rw [Bool.and_eq_true, Bool.not_eq_true', Bool.not_eq_true'] at h
  exact h
theorem slot_ok {x : Str} {i : Nat} (hN : X.N = N) (hs : X.env.scope = sc) (h : slotOf N sc x = some i) : X.N[i]? = some x ∧ Vis X.env.scope x ∧ (x == ("__debug__" : Str)) = false ∧ (x == ("__classdict__" : Str)) = false := by
  unfold slotOf at h
  split at h
  · rename_i q
    rw [Bool.and_eq_true] at q
    rw [hN, hs]
    exact ⟨posOf_0 h, vis_of q.1, (okName_d q.2).1, (okName_d q.2).2⟩
  · cases h
theorem glob_ok {x : Str} {g : GK} (hs : X.env.scope = sc) (h : globOf ct sc x = some g) : Gl X x ∧ (x == ("__debug__" : Str)) = false ∧ ct.glob.lookup x = some g := by
  unfold globOf at h
  split at h
  · rename_i q
    rw [Bool.and_eq_true] at q
    refine ⟨?_, (okName_d q.2).1, h⟩
    show X.env.scope.names.lookup x = some .globalImplicit
    rw [hs]
    exact of_decide_eq_true q.1
  · cases h
theorem noPk_of {i : Ex} (h : noPk i = true) : isPk i = none := by
  unfold noPk at h
  cases e : isPk i with
  | none => rfl
  | some j => rw [e] at h; cases h
theorem opnd_ok (hN : X.N = N) (hs : X.env.scope = sc) (hf : ∀ e i, f e = some i → PE X e (tE C phi G Kx i)) {e : Expr} {i : Ex} (h : opnd f N sc e = some i) : PE X e (tO C phi G Kx i) := by
  have fin : ∀ e, (match f e with
      | some i => if noPk i = true then some i else none
      | none => none) = some i → PE X e (tO C phi G Kx i) := fun e h => by
    split at h
    · rename_i j hj
      split at h
      · rename_i q
        cases h
        exact tO_of (noPk_of q) (hf _ _ hj)
      · cases h
    · cases h
  unfold opnd at h
  split at h
  · split at h
    · rename_i j hj
      cases h
      obtain ⟨a, b, c, d⟩ := slot_ok hN hs hj
      exact o_pk a b c d
    · exact fin _ h
  · exact fin _ h
theorem mapA_ok {g : Expr → Option Ex} (hg : ∀ e i, g e = some i → PE X e (tO C phi G Kx i)) : ∀ {es : List Expr} {is : List Ex}, mapA g es = some is → Os C phi G Kx X es is
  | [], is, h => by cases h; exact .nil
  | e :: es, is, h => by
    unfold mapA at h
    split at h
    · rename_i i js h1 h2
      split at h
      · rename_i hs
        cases h
        exact .cons hs (hg _ _ h1) (mapA_ok hg h2)
      · cases h
    · cases h
theorem mapA_okE (hf : ∀ e i, f e = some i → PE X e (tE C phi G Kx i)) : ∀ {es : List Expr} {is : List Ex}, mapA f es = some is → is.all noPk = true → Os C phi G Kx X es is
  | [], is, h, _ => by cases h; exact .nil
  | e :: es, is, h, hp => by
    unfold mapA at h
    split at h
    · rename_i i js h1 h2
      split at h
      · rename_i hs
        cases h
        rw [List.all_cons, Bool.and_eq_true] at hp
        exact .cons hs (tO_of (noPk_of hp.1) (hf _ _ h1)) (mapA_okE hf h2 hp.2)
      · cases h
    · cases h
theorem mapA_len {g : Expr → Option Ex} : ∀ {es : List Expr} {is : List Ex}, mapA g es = some is → es.length = is.length
  | [], is, h => by cases h; rfl
  | e :: es, is, h => by
    unfold mapA at h
    split at h
    · rename_i i js h1 h2
      split at h
      · cases h
        rw [List.length_cons, List.length_cons, mapA_len h2]
      · cases h
    · cases h
theorem allPk {is : List Ex} (h : is.all noPk = true) : ∀ i ∈ is, isPk i = none := fun i hi => noPk_of (List.all_eq_true.mp h i hi)
theorem binP_ok {op : Operator} {p : Pr} (ok : XOk C G k phi Kx X) (h : binP op = some p) : PrOk C phi G Kx X p fun us => match us with | [v, u] => binaryOp op v u | _ => pure .none := by
  cases op <;> first
    | (cases h; done)
    | (cases h; exact p_add ok)
    | (cases h; exact p_sub ok)
    | (cases h; exact p_mul ok)
    | (cases h; exact p_fdiv ok)
    | (cases h; exact p_mod ok)
    | (cases h; exact p_pow)
theorem cmpP_ok {op : CmpOp} {p : Pr} (ok : XOk C G k phi Kx X) (h : cmpP op = some p) : PrOk C phi G Kx X p fun us => match us with | [v, u] => compareOp op v u | _ => pure .none := by
  cases op <;> first
    | (cases h; done)
    | (cases h; exact p_eq ok)
    | (cases h; exact p_ne ok)
    | (cases h; exact p_lt)
    | (cases h; exact p_le)
    | (cases h; exact p_gt)
    | (cases h; exact p_ge)
theorem cmpr_E (ok : XOk C G k phi Kx X) {g : Expr → Option Ex} (hg : ∀ e i, g e = some i → PE X e (tO C phi G Kx i)) {a : Expr} {ops : List CmpOp} {bs : List Expr} {i : Ex} {pos : Pos} (h : cmpr g a ops bs = some i) : PE X (.Compare a ops bs pos) (tE C phi G Kx i) := by
  unfold cmpr at h
  split at h
  · split at h
    · rename_i h1 h2 h3
      split at h
      · rename_i hm
        cases h
        exact e_cmp hm (cmpP_ok ok h1) (hg _ _ h2) (hg _ _ h3)
      · cases h
    · cases h
  · cases h
theorem cmpr_T (ok : XOk C G k phi Kx X) {g : Expr → Option Ex} (hg : ∀ e i, g e = some i → PE X e (tO C phi G Kx i)) {a : Expr} {ops : List CmpOp} {bs : List Expr} {i : Ex} {pos : Pos} (h : cmpr g a ops bs = some i) : PT X (.Compare a ops bs pos) (tT C phi G Kx i) := by
  unfold cmpr at h
  split at h
  · split at h
    · rename_i h1 h2 h3
      split at h
      · rename_i hm
        cases h
        exact t_cmp ok hm (cmpP_ok ok h1) (hg _ _ h2) (hg _ _ h3)
      · cases h
    · cases h
  · cases h
theorem chain_andE (ok : XOk C G k phi Kx X) (hf : ∀ e i, f e = some i → PE X e (tE C phi G Kx i)) {pos : Pos} : ∀ {es : List Expr} {i : Ex}, chain f .and es = some i → PE X (.BoolOp .And es pos) (tE C phi G Kx i)
  | [], i, h => by cases h
  | [a], i, h => e_one (hf _ _ h)
  | a :: b :: r, i, h => by
    unfold chain at h
    dsimp only at h
    split at h
    · rename_i h1 h2
      cases h
      exact e_and ok (hf _ _ h1) (chain_andE ok hf h2)
    · cases h
theorem chain_orE (ok : XOk C G k phi Kx X) (hf : ∀ e i, f e = some i → PE X e (tE C phi G Kx i)) {pos : Pos} : ∀ {es : List Expr} {i : Ex}, chain f .or es = some i → PE X (.BoolOp .Or es pos) (tE C phi G Kx i)
  | [], i, h => by cases h
  | [a], i, h => e_one (hf _ _ h)
  | a :: b :: r, i, h => by
    unfold chain at h
    dsimp only at h
    split at h
    · rename_i h1 h2
      cases h
      exact e_or ok (hf _ _ h1) (chain_orE ok hf h2)
    · cases h
theorem chain_andT (hf : ∀ e i, f e = some i → PT X e (tT C phi G Kx i)) {pos : Pos} : ∀ {es : List Expr} {i : Ex}, chain f .and es = some i → PW X (.BoolOp .And es pos) (tT C phi G Kx i)
  | [], i, h => by cases h
  | [a], i, h => tw_and1 (hf _ _ h)
  | a :: b :: r, i, h => by
    unfold chain at h
    dsimp only at h
    split at h
    · rename_i h1 h2
      cases h
      exact tw_and (hf _ _ h1) (chain_andT hf h2)
    · cases h
theorem chain_orT (hf : ∀ e i, f e = some i → PT X e (tT C phi G Kx i)) {pos : Pos} : ∀ {es : List Expr} {i : Ex}, chain f .or es = some i → PW X (.BoolOp .Or es pos) (tT C phi G Kx i)
  | [], i, h => by cases h
  | [a], i, h => tw_or1 (hf _ _ h)
  | a :: b :: r, i, h => by
    unfold chain at h
    dsimp only at h
    split at h
    · rename_i h1 h2
      cases h
      exact tw_or (hf _ _ h1) (chain_orT hf h2)
    · cases h
theorem name_ok (T : CTOk C G ct) (ok : XOk C G k phi Kx X) (hN : X.N = N) (hs : X.env.scope = sc) {x : Str} {i : Ex} {pos : Pos} (h : cName ct N sc x = some i) : PE X (.Name x pos) (tE C phi G Kx i) := by
  unfold cName at h
  split at h
  · rename_i j hj
    cases h
    obtain ⟨a, b, c, d⟩ := slot_ok hN hs hj
    exact e_var a b c d
  · split at h
    · rename_i c hc
      cases h
      obtain ⟨a, b, e⟩ := glob_ok hs hc
      exact e_cls ok a (by rw [ok.mg]; exact (T.cls _ _ e).1) b
    · cases h
theorem bfn_ok (ok : XOk C G k phi Kx X) {x : Str} {p : Pr} {id : String} (h : bfnOf x = some (p, id)) : PrOk C phi G Kx X p (fun us => call (.builtin id) us) ∧ bootBuiltins x = some (.builtin id) ∧ x ∈ bltNames := by
  unfold bfnOf at h
  split at h
  · rename_i e; cases h; subst e; exact ⟨p_len ok, by rfl, by decide +kernel⟩
  · split at h
    · rename_i e; cases h; subst e; exact ⟨p_abs, by rfl, by decide +kernel⟩
    · split at h
      · rename_i e; cases h; subst e; exact ⟨p_min2 ok, by rfl, by decide +kernel⟩
      · split at h
        · rename_i e; cases h; subst e; exact ⟨p_max2 ok, by rfl, by decide +kernel⟩
        · split at h
          · rename_i e; cases h; subst e; exact ⟨p_repr1 ok, by rfl, by decide +kernel⟩
          · split at h
            · rename_i e; cases h; subst e; exact ⟨p_isi ok, by rfl, by decide +kernel⟩
            · cases h
theorem bty_ok (ok : XOk C G k phi Kx X) {x : Str} {p : Pr} {id : String} (h : btyOf x = some (p, id)) : PrOk C phi G Kx X p (fun us => call (.type id) us) ∧ bootBuiltins x = some (.type id) ∧ x ∈ bltNames := by
  unfold btyOf at h
  split at h
  · rename_i e; cases h; subst e; exact ⟨p_int1, by rfl, by decide +kernel⟩
  · split at h
    · rename_i e; cases h; subst e; exact ⟨p_tup1 ok, by rfl, by decide +kernel⟩
    · cases h
theorem call_ok (T : CTOk C G ct) (ok : XOk C G k phi Kx X) (hN : X.N = N) (hs : X.env.scope = sc) (hf : ∀ e i, f e = some i → PE X e (tE C phi G Kx i)) (ho : ∀ e i, o e = some i → PE X e (tO C phi G Kx i)) {x : Str} {es : List Expr} {i : Ex} {pf pos : Pos}
    (h : cCall ct sc f o x es = some i) : PE X (.Call (.Name x pf) es [] pos) (tE C phi G Kx i) := by
  unfold cCall at h
  split at h
  · rename_i g hg
    obtain ⟨a, b, e⟩ := glob_ok hs hg
    obtain ⟨c1, c2⟩ := T.fn _ _ e
    split at h
    · rename_i is his
      split at h
      · rename_i q
        rw [Bool.and_eq_true] at q
        have q2 := of_decide_eq_true q.2
        cases h
        exact e_call ok a (by rw [ok.mg]; exact c1) (by rw [ok.K]; exact c2) (mapA_okE hf his q.1) (allPk q.1) (by rw [T.ar, T.df]) (by rw [T.ar, T.df]; exact q2) b
      · cases h
    · cases h
  · rename_i c hc
    obtain ⟨a, b, e⟩ := glob_ok hs hc
    obtain ⟨c1, c2⟩ := T.cls _ _ e
    split at h
    · rename_i is his
      split at h
      · rename_i q
        rw [Bool.and_eq_true] at q
        have q2 := of_decide_eq_true q.2
        cases h
        exact e_make ok a (by rw [ok.mg]; exact c1) (by rw [ok.K]; exact c2) (mapA_okE hf his q.1) (allPk q.1) (by rw [T.ini, T.ar, T.df]) (by rw [T.ini, T.ar, T.df]; exact q2) b
      · cases h
    · cases h
  · rename_i hg
    split at h
    · rename_i q
      rw [Bool.and_eq_true, Bool.and_eq_true] at q
      obtain ⟨⟨q1, q2⟩, q3⟩ := q
      have gl : Gl X x := by
        show X.env.scope.names.lookup x = some .globalImplicit
        rw [hs]
        exact of_decide_eq_true q1
      have hl : ct.glob.lookup x = none := by
        unfold globOf at hg
        rw [if_pos (by rw [Bool.and_eq_true]; exact ⟨q1, q2⟩)] at hg
        exact hg
      have hn : x ≠ "__name__" := fun z => by rw [z] at q3; simp at q3
      split at h
      · rename_i p id hb
        obtain ⟨b1, b2, b3⟩ := bfn_ok ok hb
        split at h
        · rename_i i' is' his
          cases h
          cases es with
          | nil => cases his
          | cons e es => exact e_bfn b1 gl (by rw [ok.mg]; exact T.blt x b3 hl) b2 (mapA_ok ho his) hn (okName_d q2).1
        · cases h
      · split at h
        · rename_i p id hb
          obtain ⟨b1, b2, b3⟩ := bty_ok ok hb
          split at h
          · rename_i i' is' his
            cases h
            cases es with
            | nil => cases his
            | cons e es => exact e_bty b1 gl (by rw [ok.mg]; exact T.blt x b3 hl) b2 (mapA_ok ho his) hn (okName_d q2).1
          · cases h
        · cases h
    · cases h
end
end RF

end
section
set_option maxRecDepth 100000
set_option maxHeartbeats 1000000
/-! Methods, slices, comprehensions; expressions as a whole. -/
namespace RF
open PySem PySem.Spec L2 PyProof.Rows

section
variable {C : Ctx} {phi : Frm} {X : Cx} {G : Sig} {Kx : Exc → Env → Prop} {k : Nat} {ct : CT} {N : List Str} {sc : Scope} {f o : Expr → Option Ex}

theorem attrBase {v : Expr} {m : Str} {ev : PySem.Env} (h : noSuper v = true) : attributeBase v m ev (eval v ev) = eval v ev := by
  unfold attributeBase
  split
  · cases h
  · rfl
theorem form_ok {es : List Expr} {pos : Pos} {ev : PySem.Env} (h : es.all notStar = true) (hl : es.length < 30) : methodCallForm (es.length + 0) (backTo pos (starEach es ev)) (backToKw pos (keywordEach [] ev)) = true := by
  unfold methodCallForm
  have a : ∀ {es : List Expr}, es.all notStar = true → (backTo pos (starEach es ev)).all (fun x => !x.1) = true := by
    intro es
    induction es with
    | nil => intro _; rfl
    | cons e es ih =>
      intro h
      rw [List.all_cons, Bool.and_eq_true] at h
      rw [star_cons h.1]
      have := ih h.2
      unfold backTo at this ⊢
      simpa using this
  have e1 := a h
  have e2 : (backToKw pos (keywordEach [] ev)).all (fun x => x.1.isSome) = true := rfl
  have e3 : (backToKw pos (keywordEach [] ev)).isEmpty = true := rfl
  rw [e1, e2, e3]
  simp [hl]
theorem methEq {v : Expr} {m : Str} {apos pos : Pos} {es : List Expr} {ev : PySem.Env} (h0 : noSuper v = true) (h1 : (apos.endLine == pos.line) = true) (h2 : es.all notStar = true) (h3 : es.length < 30) : MethEq v m apos es pos ev := by
  refine ⟨do return (← importBound v ev).getD true, ?_⟩
  have e0 : eval (.Call (.Attribute v m apos) es [] pos) ev = (do
    let ov ← attributeBase v m ev (eval v ev)
    standAt apos.atName
    methodCall v m apos pos ev ov (es.length + 0) (backTo pos (starEach es ev)) (backToKw pos (keywordEach [] ev))) := by rfl
  rw [e0, attrBase h0]
  have e1 : ∀ ov, methodCall v m apos pos ev ov (es.length + 0) (backTo pos (starEach es ev)) (backToKw pos (keywordEach [] ev)) = (do
      let (f, first) ← holding [ov] (getMethod ov m (do return (← importBound v ev).getD true))
      callWith pos f first (backTo pos (starEach es ev)) (backToKw pos (keywordEach [] ev))) := fun ov => by
    unfold methodCall
    rw [form_ok h2 h3]
    have e2 : methodCallPos true v ev apos pos = pure pos := by
      unfold methodCallPos
      rw [h1]
      rfl
    rw [e2]
    rfl
  simp only [e1]
theorem cls_ok (T : CTOk C G ct) (hs : X.env.scope = sc) {v : Expr} {c : Nat} (h : clsOf ct N sc v = some c) : ∃ x px, v = .Name x px ∧ Gl X x ∧ (x == ("__debug__" : Str)) = false ∧ C.mg x = some (.ref (C.ca c)) := by
  unfold clsOf at h
  split at h
  · split at h
    · cases h
    · split at h
      · rename_i hc
        cases h
        obtain ⟨a, b, e⟩ := glob_ok hs hc
        exact ⟨_, _, rfl, a, b, (T.cls _ _ e).1⟩
      · cases h
  · cases h
theorem meth_ok (T : CTOk C G ct) (ok : XOk C G k phi Kx X) (hN : X.N = N) (hs : X.env.scope = sc) (hf : ∀ e i, f e = some i → PE X e (tE C phi G Kx i)) {v : Expr} {m : Str} {apos pos : Pos} {es : List Expr} {i : Ex}
    (h : cMeth ct N sc f v m apos pos es = some i) : PE X (.Call (.Attribute v m apos) es [] pos) (tE C phi G Kx i) := by
  unfold cMeth at h
  split at h
  · rename_i q
    rw [Bool.and_eq_true, Bool.and_eq_true, Bool.and_eq_true] at q
    obtain ⟨⟨⟨q1, q2⟩, q3⟩, q4⟩ := q
    have me : MethEq v m apos es pos X.env := methEq q1 q2 q3 (of_decide_eq_true q4)
    split at h
    · cases h
    · rename_i is his
      split at h
      · rename_i hp
        split at h
        · rename_i c hc
          obtain ⟨x, px, rfl, gl, db, mgx⟩ := cls_ok T hs hc
          split at h
          · rename_i g hg
            split at h
            · rename_i q5
              rw [Bool.and_eq_true] at q5
              have q6 := of_decide_eq_true q5.2
              cases h
              cases es with
              | nil => cases his; exact absurd q5.1 (by decide)
              | cons e es => exact e_cmeth ok (T.cmt _ _ _ hg) gl (by rw [ok.mg]; exact mgx) (mapA_okE hf his hp) (allPk hp) (by rw [T.ar, T.df]) (by rw [T.ar, T.df]; exact q6) db me
            · cases h
          · cases h
        · split at h
          · rename_i io mn hio hmn
            split at h
            · rename_i q5
              cases h
              have hm := T.mn _ _ (posOf_0 hmn)
              refine e_meth ok hm (hf _ _ hio) (mapA_okE hf his hp) (allPk hp) (fun c g hg => ?_) me
              have z := List.all_eq_true.mp q5 _ (T.mths c mn g hg)
              simp only [beq_self_eq_true, Bool.not_true, Bool.false_or, decide_eq_true_eq] at z
              obtain ⟨z1, z2⟩ := z
              rw [T.ar, T.df]
              have e0 : ct.df g = [] := List.eq_nil_of_length_eq_zero z2
              rw [e0]
              exact ⟨by rw [List.drop_nil], by rw [z1]; simp⟩
            · cases h
          · cases h
      · cases h
  · cases h
theorem slc_ok (ok : XOk C G k phi Kx X) (ho : ∀ e i, o e = some i → PE X e (tO C phi G Kx i)) {a : Expr} {lo hi : Option Expr} {p2 pos : Pos} {i : Ex} (h : cSlc o a lo hi = some i) : PE X (.Subscript a (.Slice lo hi none p2) pos) (tE C phi G Kx i) := by
  unfold cSlc at h
  split at h
  · cases h
  · rename_i ia hia
    split at h
    · cases h
      exact e_slc ok (ho _ _ hia) .none .none
    · split at h
      · rename_i il hl
        cases h
        exact e_slc ok (ho _ _ hia) (.some (ho _ _ hl)) .none
      · cases h
    · split at h
      · rename_i ih hh
        cases h
        exact e_slc ok (ho _ _ hia) .none (.some (ho _ _ hh))
      · cases h
    · split at h
      · rename_i il ih hl hh
        cases h
        exact e_slc ok (ho _ _ hia) (.some (ho _ _ hl)) (.some (ho _ _ hh))
      · cases h
theorem plainIx {b : Expr} (h : isSlc b = false) : PlainIx b := fun ov i => by
  cases b <;> first | rfl | cases h
theorem fold_ok {e : Expr} {ev : PySem.Env} (h : isSet e = false) : ∀ x, foldedSetIterable e ev x = pure x := fun x => by
  cases e <;> first | rfl | cases h
/-! ### targets -/
theorem nms_ok {okB : Str → Bool} (hN : X.N = N) (hok : ∀ x, okB x = true → Loc X.env.scope x ∧ (X.fn x = true ∨ X.env.scope.names.lookup x = some .local)) : ∀ {es : List Expr} {is : List Nat}, nmsOf N okB es = some is → NmsOk X es is
  | [], is, h => by cases h; exact .nil
  | e :: es, is, h => by
    cases e with
    | Name x p =>
      unfold nmsOf at h
      split at h
      · rename_i i js h1 h2
        split at h
        · rename_i q
          cases h
          obtain ⟨a, b⟩ := hok _ q
          exact .cons (by rw [hN]; exact posOf_0 h1) a b (nms_ok hN hok h2)
        · cases h
      · cases h
    | _ => cases h
theorem tg_ok {okB : Str → Bool} (hN : X.N = N) (hok : ∀ x, okB x = true → Loc X.env.scope x ∧ (X.fn x = true ∨ X.env.scope.names.lookup x = some .local)) {e : Expr} {t : Tg} (h : tgOf N okB e = some t) : TgOk X e t := by
  unfold tgOf at h
  split at h
  · split at h
    · rename_i i h1
      split at h
      · rename_i q
        cases h
        obtain ⟨a, b⟩ := hok _ q
        exact .nm (by rw [hN]; exact posOf_0 h1) a b
      · cases h
    · cases h
  · rename_i es n p
    cases e : nmsOf N okB es with
    | none => rw [e] at h; cases h
    | some is =>
      rw [e] at h
      cases h
      exact .tp (nms_ok hN hok e)
  · cases h

/-! ### comprehensions, expressions -/
theorem ownOf_ix {names : List (Str × NameKind)} : True := trivial
theorem loc_blk {scope : Scope} {s : Shared} {H : Hp} {c : Addr} {cl : List (Str × Addr)} {fp : List Addr} (hs : X.env.scope = sc) : ∀ x, locB (relS scope sc) x = true → Loc (X.blk s H scope (compEnvC scope cl c X.env) fp).env.scope x ∧ ((X.blk s H scope (compEnvC scope cl c X.env) fp).fn x = true ∨ (X.blk s H scope (compEnvC scope cl c X.env) fp).env.scope.names.lookup x = some .local) := fun x h => by
  subst hs
  have e : (X.blk s H scope (compEnvC scope cl c X.env) fp).env.scope = relS scope X.env.scope := rfl
  rw [e]
  have h := of_decide_eq_true h
  exact ⟨.inl h, .inr h⟩
/-- the meaning of a compiled expression, of a test: in any context -/
def GoodE (C : Ctx) (G : Sig) (k : Nat) (N : List Str) (sc : Scope) (e : Expr) (i : Ex) : Prop := ∀ (X : Cx) (phi : Frm) (Kx : Exc → Env → Prop), XOk C G k phi Kx X → X.N = N → X.env.scope = sc → PE X e (tE C phi G Kx i)
def GoodT (C : Ctx) (G : Sig) (k : Nat) (N : List Str) (sc : Scope) (e : Expr) (i : Ex) : Prop := ∀ (X : Cx) (phi : Frm) (Kx : Exc → Env → Prop), XOk C G k phi Kx X → X.N = N → X.env.scope = sc → PT X e (tT C phi G Kx i)
theorem cp_ok (hN : N.Nodup) {t : Expr → Option Ex} {elt : Expr} {g : Comprehension} {scope : Scope} {ie : Ex} {tg : Tg} {cs : List Ex} (ok : XOk C G k phi Kx X) (hXN : X.N = N) (hs : X.env.scope = sc)
    (hf : ∀ e i, f e = some i → GoodE C G k N (relS scope sc) e i) (ht : ∀ e i, t e = some i → GoodT C G k N (relS scope sc) e i) (h1 : tgOf N (locB (relS scope sc)) g.target = some tg) (h2 : cTests t g.ifs = some cs) (h3 : f elt = some ie)
    (h4 : blkC N sc scope (ownOf N scope.names) = true) (h5 : (tg.slots.all fun i => ((ownOf N scope.names).map (·.2)).contains i) = true) : CpOk C G X scope (ownOf N scope.names) elt g.target g.ifs ie tg cs where
  blk := by rw [hXN, hs]; exact blkOk_by h4
  nd := by rw [hXN]; exact hN
  sub := fun i hi => by
    have := List.all_eq_true.mp h5 i hi
    simpa using this
  tgt := fun s H c cl fp => tg_ok (X := X.blk s H scope (compEnvC scope cl c X.env) fp) hXN (loc_blk hs) h1
  tst := fun s H c cl fp => by
    unfold cTests at h2
    split at h2
    · rename_i e
      rw [e]
      cases h2
      exact ptsU_nil
    · rename_i c' e
      rw [e]
      cases q : t c' with
      | none => rw [q] at h2; cases h2
      | some ic =>
        rw [q] at h2
        cases h2
        exact ptsU_one fun phi2 => ht _ _ q _ phi2 NoX (ok.blk phi2) hXN (by subst hs; rfl)
    · cases h2
  elt := fun s H c cl fp => peU fun phi2 => hf _ _ h3 _ phi2 NoX (ok.blk phi2) hXN (by subst hs; rfl)
theorem iter_cases {f : Expr → Option Ex} {e : Expr} {kk : It} {ii : Ex} (h : iterOf ct sc f e = some (kk, ii)) :
    (kk = .seq ∧ f e = some ii ∧ isPk ii = none ∧ isSet e = false) ∨ ∃ a pf pc, kk = .rng1 ∧ e = .Call (.Name "range" pf) [a] [] pc ∧ f a = some ii ∧ isPk ii = none ∧ notStar a = true ∧ glB sc "range" = true ∧ ct.glob.lookup ("range" : Str) = none := by
  unfold iterOf at h
  split at h
  · split at h
    · rename_i x pf a pc q
      rw [Bool.and_eq_true, Bool.and_eq_true] at q
      obtain ⟨⟨q1, q2⟩, q3⟩ := q
      have e := of_decide_eq_true q1
      subst e
      split at h
      · rename_i i hi
        split at h
        · rename_i q4
          rw [Bool.and_eq_true] at q4
          cases h
          refine .inr ⟨a, pf, pc, rfl, rfl, hi, noPk_of q4.1, q4.2, q2, ?_⟩
          have := of_decide_eq_true q3
          exact Option.isNone_iff_eq_none.mp this
        · cases h
      · cases h
    · split at h
      · rename_i i hi
        split at h
        · rename_i q4
          cases h
          exact .inl ⟨rfl, hi, noPk_of q4, rfl⟩
        · cases h
      · cases h
  · split at h
    · rename_i i hi
      split at h
      · rename_i q4
        rw [Bool.and_eq_true, Bool.not_eq_true'] at q4
        cases h
        exact .inl ⟨rfl, hi, noPk_of q4.1, q4.2⟩
      · cases h
    · cases h
theorem gl_of (hs : X.env.scope = sc) {x : Str} (h : glB sc x = true) : Gl X x := by
  show X.env.scope.names.lookup x = some .globalImplicit
  rw [hs]
  exact of_decide_eq_true h
theorem comp_ok (T : CTOk C G ct) (hN : N.Nodup) {fi t : Expr → Option Ex} {elt : Expr} {g : Comprehension} {scope : Scope} {pos : Pos} {i : Ex} (ok : XOk C G k phi Kx X) (hXN : X.N = N) (hs : X.env.scope = sc) (hfi : ∀ e i, fi e = some i → PE X e (tE C phi G Kx i))
    (hf : ∀ e i, f e = some i → GoodE C G k N (relS scope sc) e i) (ht : ∀ e i, t e = some i → GoodT C G k N (relS scope sc) e i) (h : cComp N sc (iterOf ct sc fi g.iter) f t elt g scope = some i) : PE X (.ListComp elt [g] scope pos) (tE C phi G Kx i) := by
  unfold cComp at h
  split at h
  · rename_i kk ii tg cs ie h0 h1 h2 h3
    split at h
    · rename_i q
      rw [Bool.and_eq_true, Bool.and_eq_true] at q
      obtain ⟨⟨q1, q2⟩, q3⟩ := q
      have q1 := of_decide_eq_true q1
      cases h
      have cp := cp_ok hN ok hXN hs hf ht h1 h2 h3 q2 q3
      obtain ⟨gt, gi, gf, ga⟩ := g
      dsimp only at q1 cp h0
      subst q1
      rcases iter_cases h0 with ⟨rfl, a1, a2, a3⟩ | ⟨a, pf, pc, rfl, rfl, a1, a2, a3, a4, a5⟩
      · exact e_comp ok cp (hfi _ _ a1) a2 (fold_ok a3)
      · exact e_compR ok cp (.cons a3 (tO_of a2 (hfi _ _ a1)) .nil) (gl_of hs a4) (by rw [ok.mg]; exact T.blt _ (by decide +kernel) a5) (fold_ok rfl)
    · cases h
  · cases h
theorem cmp_ok (T : CTOk C G ct) (hN : N.Nodup) : ∀ n, (∀ sc e i, cmp ct N n false sc e = some i → GoodE C G k N sc e i) ∧ (∀ sc e i, cmp ct N n true sc e = some i → GoodT C G k N sc e i) := by
  intro n
  induction n with
  | zero => exact ⟨fun sc e i h => (by cases h), fun sc e i h => (by cases h)⟩
  | succ n ih =>
    obtain ⟨ihE, ihT⟩ := ih
    have goE : ∀ sc e i, cmp ct N (n + 1) false sc e = some i → GoodE C G k N sc e i := by
      intro sc e i h X phi Kx ok hXN hs
      have hf : ∀ e i, cmp ct N n false sc e = some i → PE X e (tE C phi G Kx i) := fun e i h => ihE sc e i h X phi Kx ok hXN hs
      have ho : ∀ e i, opnd (cmp ct N n false sc) N sc e = some i → PE X e (tO C phi G Kx i) := fun e i h => opnd_ok hXN hs hf h
      have ht : ∀ e i, cmp ct N n true sc e = some i → PT X e (tT C phi G Kx i) := fun e i h => ihT sc e i h X phi Kx ok hXN hs
      cases e with
      | Name x p => exact name_ok T ok hXN hs h
      | Constant c kk p =>
        replace h : (cConst c).map Ex.cst = some i := h
        cases c with
        | none => cases h; exact e_cst pe_non fun _ _ => .non
        | bool b => cases h; exact e_cst pe_bl fun _ _ => .bl _
        | int z => cases h; exact e_cst pe_int fun _ _ => .int _
        | str z => cases h; exact e_cst pe_str fun _ _ => .str _
        | _ => cases h
      | BinOp a op b p =>
        rw [cmp] at h
        split at h
        · rename_i h1 h2 h3
          cases h
          exact e_bin (binP_ok ok h1) (ho _ _ h2) (ho _ _ h3)
        · cases h
      | UnaryOp op a p =>
        cases op with
        | USub =>
          replace h : ((opnd (cmp ct N n false sc) N sc a).map fun i => Ex.pr .neg [i]) = some i := h
          cases q : opnd (cmp ct N n false sc) N sc a with
          | none => rw [q] at h; cases h
          | some ia =>
            rw [q] at h
            cases h
            exact e_un p_neg (ho _ _ q)
        | Not =>
          replace h : (cmp ct N n false sc a).map Ex.not = some i := h
          cases q : cmp ct N n false sc a with
          | none => rw [q] at h; cases h
          | some ia =>
            rw [q] at h
            cases h
            exact e_not ok (hf _ _ q)
        | _ => cases h
      | Compare a ops bs p =>
        rw [cmp] at h
        exact cmpr_E ok ho h
      | BoolOp op es p =>
        cases op with
        | And => exact chain_andE ok hf h
        | Or => exact chain_orE ok hf h
      | IfExp c a b p =>
        rw [cmp] at h
        split at h
        · rename_i h1 h2 h3
          cases h
          exact e_ite (ht _ _ h1) (hf _ _ h2) (hf _ _ h3)
        · cases h
      | Call fn es kws pos =>
        cases kws with
        | cons kw kws => cases h
        | nil =>
          cases fn with
          | Name x p => exact call_ok T ok hXN hs hf ho h
          | Attribute v m ap => exact meth_ok T ok hXN hs hf h
          | _ => cases h
      | Attribute v m p =>
        rw [cmp] at h
        split at h
        · rename_i q
          split at h
          · rename_i h1 h2
            cases h
            exact e_attr ok (T.mn _ _ (posOf_0 h2)) (hf _ _ h1) (attrBase q)
          · cases h
        · cases h
      | Subscript a b p =>
        have idx : isSlc b = false → (match opnd (cmp ct N n false sc) N sc a, opnd (cmp ct N n false sc) N sc b with
          | some ia, some ib => some (Ex.pr .idx [ia, ib])
          | _, _ => none) = some i → PE X (.Subscript a b p) (tE C phi G Kx i) := fun hb h => by
          split at h
          · rename_i h1 h2
            cases h
            exact e_idx (plainIx hb) ok (ho _ _ h1) (ho _ _ h2)
          · cases h
        cases b with
        | Slice lo hi st p2 =>
          cases st with
          | none => exact slc_ok ok ho h
          | some st => cases h
        | _ => exact idx rfl h
      | Tuple es nn p =>
        rw [cmp] at h
        split at h
        · rename_i is h1
          split at h
          · rename_i hp
            cases h
            exact e_tup (mapA_okE hf h1 hp) (allPk hp)
          · cases h
        · cases h
      | List es p =>
        rw [cmp] at h
        split at h
        · rename_i is h1
          split at h
          · rename_i hp
            cases h
            exact e_lst (mapA_okE hf h1 hp) (allPk hp)
          · cases h
        · cases h
      | ListComp elt gs scope p =>
        cases gs with
        | nil => cases h
        | cons g gs =>
          cases gs with
          | nil => exact comp_ok T hN ok hXN hs hf (fun e i h => ihE _ e i h) (fun e i h => ihT _ e i h) h
          | cons g2 gs => cases h
      | _ => cases h
    refine ⟨goE, ?_⟩
    intro sc e i h X phi Kx ok hXN hs
    have hf : ∀ e i, cmp ct N n false sc e = some i → PE X e (tE C phi G Kx i) := fun e i h => ihE sc e i h X phi Kx ok hXN hs
    have ho : ∀ e i, opnd (cmp ct N n false sc) N sc e = some i → PE X e (tO C phi G Kx i) := fun e i h => opnd_ok hXN hs hf h
    have ht : ∀ e i, cmp ct N n true sc e = some i → PT X e (tT C phi G Kx i) := fun e i h => ihT sc e i h X phi Kx ok hXN hs
    have plain : ∀ e, (∀ whole, plainN e = true → isTrue e X.env whole = (do let v ← whole; standAt e.pos; holding [v] (truthy v))) → (match cmp ct N n false sc e with
      | some i => if (plainT i && plainN e) = true then some i else none
      | none => none) = some i → PT X e (tT C phi G Kx i) := fun e he h => by
      split at h
      · rename_i j hj
        split at h
        · rename_i q
          rw [Bool.and_eq_true] at q
          cases h
          exact t_val ok q.1 (hf _ _ hj) fun wh => he wh q.2
        · cases h
      · cases h
    cases e with
    | UnaryOp op a p =>
      cases op with
      | Not =>
        replace h : (cmp ct N n true sc a).map Ex.not = some i := h
        cases q : cmp ct N n true sc a with
        | none => rw [q] at h; cases h
        | some ia =>
          rw [q] at h
          cases h
          exact t_not (ht _ _ q)
      | _ => cases h
    | BoolOp op es p =>
      cases op with
      | And => exact (chain_andT ht h).pt
      | Or => exact (chain_orT ht h).pt
    | Compare a ops bs p =>
      rw [cmp] at h
      exact cmpr_T ok ho h
    | IfExp c a b p => exact plain _ (fun wh z => by cases z) h
    | _ => exact plain _ (fun wh z => by rfl) h
end
end RF

end
section
set_option maxRecDepth 100000
set_option maxHeartbeats 1000000
/-! Statements compiled. -/
namespace RF
open PySem PySem.Spec L2 PyProof.Rows
theorem swl {elt : Expr} {gs : List Comprehension} {scope : Scope} {pos py : Pos} {y : Str} {l : Nat} {env : PySem.Env} :
  swapsWith (.ListComp elt gs scope pos) (some (.Name y py)) l env = pure (env.blockKind == .function && env.kindOf y == some .local && py.line == pos.line && !(scope.names.any fun (n, k) => n == y && (k == .local || k == .cell))) := by rfl
theorem sw1 {a b : Expr} {p : Pos} {e : Expr} {env : PySem.Env} : swappedStores [.Subscript a b p] e env = pure none := by rfl
theorem sw2 {ts : List Expr} {k : Nat} {p : Pos} {e : Expr} {env : PySem.Env} (h : (match e with | .Tuple _ _ _ => false | _ => true) = true) : swappedStores [.Tuple ts k p] e env = pure none := by
  cases e <;> first | rfl | cases h
theorem par2_sw {x y : Str} {a b : Expr} {px py pt : Pos} {kt k2 : Nat} {pt2 : Pos} {env : PySem.Env} (hb : env.blockKind = .function) (hx : env.kindOf x = some .local) (hy : env.kindOf y = some .local) (hl : (py.line == px.line) = true) (hxy : x ≠ y)
  (ha : notStar a = true) (hb' : notStar b = true) (h1 : ([a, b].all (foldedForSure 8)) = false) (h2 : ([a, b].all (constantsAlone 8)) = false) :
  swappedStores [.Tuple [.Name x px, .Name y py] kt pt] (.Tuple [a, b] k2 pt2) env = pure (some [x, y]) := by
  have st : ([a, b].any fun | .Starred .. => true | _ => false) = false := by
    have q : ∀ e : Expr, (match e with | .Starred .. => true | _ => false) = !notStar e := fun e => by cases e <;> rfl
    rw [List.any_cons, List.any_cons, List.any_nil, q, q, ha, hb']
    rfl
  have q : ∀ e : Expr, (match e with | .Starred .. => true | _ => false) = !notStar e := fun e => by cases e <;> rfl
  have hl' : py.line = px.line := beq_iff_eq.mp hl
  unfold swappedStores
  simp only [hb, st, h1, h2, List.length_cons, List.length_nil]
  have yx : (y == x) = false := beq_eq_false_iff_ne.mpr (Ne.symm hxy)
  simp [hx, hy, hl', Expr.pos, List.filterMap_cons, List.eraseDups, List.eraseDupsBy, List.eraseDupsBy.loop, yx]
  intro z
  exfalso
  rcases z with z | z
  · cases a <;> first | (cases z; done) | (cases ha; done)
  · cases b <;> first | (cases z; done) | (cases hb'; done)
theorem swNone {ts vs : List Expr} {k k2 : Nat} {p p2 : Pos} {env : PySem.Env} (h : (!(ts.length == 2 || ts.length == 3) || vs.length != ts.length) = true) : swappedStores [.Tuple ts k p] (.Tuple vs k2 p2) env = pure none := by
  unfold swappedStores
  have h2 : (!(ts.length == 2 || ts.length == 3) || vs.length != ts.length || env.blockKind != .function) = true := by rw [h]; rfl
  dsimp only
  rw [if_pos h2]

def isComp : Expr → Bool
  | .ListComp .. => true
  | .SetComp .. => true
  | .DictComp .. => true
  | _ => false
theorem sw_no {e : Expr} {t : Option Expr} {l : Nat} {ev : PySem.Env} (h : isComp e = false) : swapsWith e t l ev = pure false := by
  cases e <;> first | rfl | cases h
def notSD : Expr → Bool
  | .SetComp .. => false
  | .DictComp .. => false
  | _ => true
/-- does the assignment of a comprehension go by the other road -/
def swB (sc : Scope) (e : Expr) (y : Str) (py : Pos) : Bool := match e with
  | .ListComp _ _ scope pos => (sc.names.lookup y == some .local) && py.line == pos.line && !(scope.names.any fun (n, k) => n == y && (k == .local || k == .cell))
  | _ => false
theorem sw_is {sc : Scope} {e : Expr} {y : Str} {py : Pos} {l : Nat} {ev : PySem.Env} (hs : ev.scope = sc) (hk : sc.kind = .function) (h : notSD e = true) : swapsWith e (some (.Name y py)) l ev = pure (swB sc e y py) := by
  subst hs
  cases e with
  | ListComp elt gs scope pos =>
    rw [swl]
    have e1 : (ev.blockKind == .function) = true := by
      unfold PySem.Env.blockKind
      rw [hk]
      rfl
    rw [e1]
    rfl
  | SetComp => cases h
  | DictComp => cases h
  | _ => rfl
theorem sole {t e : Expr} {l : Nat} {ev : PySem.Env} : swapsWithSole [t] e l ev = swapsWith e (some t) l ev := rfl
theorem bk_fn {sc : Scope} {ev : PySem.Env} (hs : ev.scope = sc) (hk : sc.kind = .function) : ev.blockKind = .function := by
  unfold PySem.Env.blockKind
  rw [hs, hk]
  rfl

/-- how a def is read: the names of its own lists; does it hand back a list that may be changed -/
structure DO where
  own : List Str
  rc : Bool
def cRet (o : DO) (f : Expr → Option Ex) (e : Expr) : Sm := match e with
  | .List es p1 => if o.rc = true then match mapA f es with
      | some is => if is.all noPk = true then .retc (.pr .lst is) else .never
      | none => .never
    else match f (.List es p1) with
      | some i => .ret i
      | none => .never
  | e => match f e with
    | some i => .ret i
    | none => .never
def isTupE : Expr → Bool
  | .Tuple _ _ _ => true
  | _ => false
def cAsg (ct : CT) (o : DO) (N : List Str) (sc : Scope) (f : Expr → Option Ex) (tg e : Expr) : Sm := match tg with
  | .Name x px => match posOf x N 0 with
    | none => .never
    | some i => if (locC sc x && okName x && (sc.kind == .function)) = true then match f e with
        | none => .never
        | some ie => match e with
          | .SetComp .. => .never
          | .DictComp .. => .never
          | .List es p1 => if o.own.contains x = true then match mapA f es with
              | some is => if is.all noPk = true then .asgo i (.pr .lst is) else .never
              | none => .never
            else .asg (.nm i) ie
          | _ => .asg (.nm i) ie
      else .never
  | .Attribute v fl _ => match v with
    | .Name x px => match slotOf N sc x, posOf fl ct.names 0, f e with
      | some i, some m, some ie => if isComp e = false then .setf i m ie else .never
      | _, _, _ => .never
    | _ => .never
  | .Subscript v kx _ => if (isSlc kx || isComp e) = true then .never else match f v, f kx, f e with
    | some iv, some ik, some ie => if noPk iv = true then .seti iv ik ie else .never
    | _, _, _ => .never
  | .Tuple ts kt pt => match tgOf N (locC sc) (.Tuple ts kt pt) with
    | none => .never
    | some t => if isTupE e = false then match f e with
        | some ie => if isComp e = false then .asg t ie else .never
        | none => .never
      else match e with
        | .Tuple vs k2 p2 => match ts, vs with
          | [.Name x px, .Name y py], [a, b] => match posOf x N 0, posOf y N 0, f a, f b with
            | some i, some j, some ia, some ib =>
              if ((sc.kind == .function) && locB sc x && locB sc y && (py.line == px.line) && !(decide (x = y)) && notStar a && notStar b && noPk ia && noPk ib && !([a, b].all (foldedForSure 8)) && !([a, b].all (constantsAlone 8)) && !(decide (i = j))) = true then .par [i, j] [ia, ib] else .never
            | _, _, _, _ => .never
          | ts, vs => if (!(ts.length == 2 || ts.length == 3) || vs.length != ts.length) = true then match f e with
              | some ie => .asg t ie
              | none => .never
            else .never
        | _ => .never
  | _ => .never
def cFor (N : List Str) (sc : Scope) (it : Option (It × Ex)) (tg : Expr) (b : List Sm) : Sm := match it, tgOf N (locC sc) tg with
  | some (k, ii), some t => .for t k [ii] b
  | _, _ => .never
def cmS (ct : CT) (o : DO) (N : List Str) (n : Nat) (sc : Scope) : Nat → Stmt → Sm
  | 0, _ => .never
  | m + 1, st => match st with
    | .Pass _ => .pass
    | .Break _ => .brk
    | .Continue _ => .cnt
    | .Return v _ => match v with
      | some e => cRet o (cmp ct N n false sc) e
      | none => .ret (.cst .non)
    | .Expr e _ => match cmp ct N n false sc e with
      | some i => if isComp e = false then .ex i else .never
      | none => .never
    | .If c a b _ => match cmp ct N n true sc c with
      | some ic => .ite ic (a.map (cmS ct o N n sc m)) (b.map (cmS ct o N n sc m))
      | none => .never
    | .While c b r _ => match r with
      | [] => match cmp ct N n true sc c with
        | some ic => .whl ic (b.map (cmS ct o N n sc m))
        | none => .never
      | _ :: _ => .never
    | .For tg it b r _ => match r with
      | [] => cFor N sc (iterOf ct sc (cmp ct N n false sc) it) tg (b.map (cmS ct o N n sc m))
      | _ :: _ => .never
    | .Assign ts e _ => match ts with
      | [tg] => cAsg ct o N sc (cmp ct N n false sc) tg e
      | _ => .never
    | _ => .never

section
variable {C : Ctx} {phi : Frm} {X : Cx} {G : Sig} {Kx : Exc → Env → Prop} {k : Nat} {ct : CT} {N : List Str} {sc : Scope} {f : Expr → Option Ex} {od : DO}
theorem s_retN {pos : Pos} : PS X (.Return none pos) (tS C phi G Kx (.ret (.cst .non))) := psImp ps_retN fun D sig H ⟨env, T, T', DD, r, w, l⟩ => by
  rw [wpS, wpE] at w
  obtain ⟨F, mu, r⟩ := r
  exact l.rt _ _ _ _ _ w ⟨F, mu, r.push .non⟩
theorem ret_ok (hf : ∀ e i, f e = some i → PE X e (tE C phi G Kx i)) {e : Expr} {pos : Pos} : PS X (.Return (some e) pos) (tS C phi G Kx (cRet od f e)) := by
  unfold cRet
  split
  · split
    · split
      · rename_i is h
        split
        · rename_i hp
          exact retc_lst (mapA_okE hf h hp) (allPk hp)
        · exact s_never
      · exact s_never
    · split
      · rename_i i h
        exact s_ret (hf _ _ h)
      · exact s_never
  · split
    · rename_i i h
      exact s_ret (hf _ _ h)
    · exact s_never
theorem locC_of {x : Str} (h : locC sc x = true) : Loc sc x := by
  unfold locC at h
  split at h
  · exact .inl (by assumption)
  · exact .inr (by assumption)
  · cases h
theorem asg1 {t e : Expr} {ev : PySem.Env} (h : (match t with | .Starred .. => false | _ => true) = true) : (assignEach [t] ev).map (·.2) = [assign t ev] := by
  cases t <;> first | rfl | cases h

theorem comp_set (T : CTOk C G ct) (hN : N.Nodup) {fi t : Expr → Option Ex} {elt : Expr} {g : Comprehension} {scope : Scope} {pos spos py : Pos} {y : Str} {iy : Nat} {i : Ex} (ok : SOk C G k phi Kx X) (hXN : X.N = N) (hs : X.env.scope = sc) (hfi : ∀ e i, fi e = some i → PE X e (tE C phi G Kx i))
    (hf : ∀ e i, f e = some i → GoodE C G k N (relS scope sc) e i) (ht : ∀ e i, t e = some i → GoodT C G k N (relS scope sc) e i) (h : cComp N sc (iterOf ct sc fi g.iter) f t elt g scope = some i)
    (hy : X.N[iy]? = some y) (hyl : X.env.scope.names.lookup y = some .local) (hsw : swapsWith (.ListComp elt [g] scope pos) (some (.Name y py)) spos.line X.env = pure true) : PS X (.Assign [.Name y py] (.ListComp elt [g] scope pos) spos) (tS C phi G Kx (.asg (.nm iy) i)) := by
  unfold cComp at h
  split at h
  · rename_i kk ii tg cs ie h0 h1 h2 h3
    split at h
    · rename_i q
      rw [Bool.and_eq_true, Bool.and_eq_true] at q
      obtain ⟨⟨q1, q2⟩, q3⟩ := q
      have q1 := of_decide_eq_true q1
      cases h
      have cp := cp_ok hN ok.toXOk hXN hs hf ht h1 h2 h3 q2 q3
      obtain ⟨gt, gi, gf, ga⟩ := g
      dsimp only at q1 cp h0
      subst q1
      rcases iter_cases h0 with ⟨rfl, a1, a2, a3⟩ | ⟨a, pf, pc, rfl, rfl, a1, a2, a3, a4, a5⟩
      · exact s_comp ok cp (hfi _ _ a1) a2 hy hyl hsw (fold_ok a3)
      · exact s_compR ok cp (.cons a3 (tO_of a2 (hfi _ _ a1)) .nil) (gl_of hs a4) (by rw [ok.mg]; exact T.blt _ (by decide +kernel) a5) hy hyl hsw (fold_ok rfl)
    · cases h
  · cases h
theorem locOk (ok : SOk C G k phi Kx X) (hs : X.env.scope = sc) : ∀ x, locC sc x = true → Loc X.env.scope x ∧ (X.fn x = true ∨ X.env.scope.names.lookup x = some .local) := fun x h => by
  rw [hs]
  exact ⟨locC_of h, .inl (ok.fn x)⟩
theorem asgSub {v kx : Expr} {tp : Pos} {ev : PySem.Env} {w : Value} (h : isSlc kx = false) : assign (.Subscript v kx tp) ev w = (do
      let ov ← holding [w] (eval v ev)
      let iv ← holding [w, ov] (eval kx ev)
      standAt tp
      holding [w, ov, iv] (setItem ov iv w)
      release [w, ov, iv] []) := by
  cases kx <;> first | rfl | cases h
theorem swap_none {tg e : Expr} {ev : PySem.Env} (h : isTupE tg = false ∨ isTupE e = false) (hl : (match tg with | .List .. => false | _ => true) = true) : swappedStores [tg] e ev = pure none := by
  rcases h with h | h
  · cases tg <;> first | rfl | (cases h; done) | (cases hl; done)
  · cases tg <;> first | rfl | (cases hl; done) | (cases e <;> first | rfl | (cases h; done))
theorem set_ok (T : CTOk C G ct) (hN : N.Nodup) (n : Nat) (ok : SOk C G k phi Kx X) (hXN : X.N = N) (hs : X.env.scope = sc) {x : Str} {px pos : Pos} {e : Expr} {i : Nat} {ie : Ex} (hi : posOf x N 0 = some i) (hx : locC sc x = true) (hk : sc.kind = .function)
    (he : cmp ct N n false sc e = some ie) (hc : notSD e = true) : PS X (.Assign [.Name x px] e pos) (tS C phi G Kx (.asg (.nm i) ie)) := by
  have hi' : X.N[i]? = some x := by rw [hXN]; exact posOf_0 hi
  have hx' : Loc X.env.scope x := by rw [hs]; exact locC_of hx
  have hsw := sw_is (l := pos.line) (py := px) (y := x) hs hk hc
  cases q : swB sc e x px with
  | false =>
    rw [q] at hsw
    exact s_set ok ((cmp_ok T hN n).1 _ _ _ he X phi Kx ok.toXOk hXN hs) hi' hx' hsw
  | true =>
    rw [q] at hsw
    cases e with
    | ListComp elt gs scope p =>
      have hyl : sc.names.lookup x = some .local := by
        unfold swB at q
        rw [Bool.and_eq_true, Bool.and_eq_true] at q
        exact beq_iff_eq.mp q.1.1
      cases n with
      | zero => cases he
      | succ n =>
        obtain ⟨ihE, ihT⟩ := cmp_ok (k := k) (G := G) (C := C) T hN n
        cases gs with
        | nil => cases he
        | cons g gs =>
          cases gs with
          | nil => exact comp_set T hN ok hXN hs (fun e i h => ihE sc e i h X phi Kx ok.toXOk hXN hs) (fun e i h => ihE _ e i h) (fun e i h => ihT _ e i h) he hi' (by rw [hs]; exact hyl) hsw
          | cons g2 gs => cases he
    | _ => cases q
theorem asg_ok (T : CTOk C G ct) (hN : N.Nodup) (n : Nat) (ok : SOk C G k phi Kx X) (hXN : X.N = N) (hs : X.env.scope = sc) {tg e : Expr} {pos : Pos} : PS X (.Assign [tg] e pos) (tS C phi G Kx (cAsg ct od N sc (cmp ct N n false sc) tg e)) := by
  have hf : ∀ e i, cmp ct N n false sc e = some i → PE X e (tE C phi G Kx i) := fun e i h => (cmp_ok T hN n).1 _ _ _ h X phi Kx ok.toXOk hXN hs
  unfold cAsg
  split
  · -- a name
    rename_i x px
    split
    · exact s_never
    · rename_i i hi
      split
      · rename_i q
        rw [Bool.and_eq_true, Bool.and_eq_true] at q
        obtain ⟨⟨q1, q2⟩, q3⟩ := q
        have hk : sc.kind = .function := beq_iff_eq.mp q3
        split
        · exact s_never
        · rename_i ie he
          split
          · exact s_never
          · exact s_never
          · split
            · split
              · rename_i is his
                split
                · rename_i hp
                  exact asgo_lst ok (mapA_okE hf his hp) (allPk hp) (by rw [hXN]; exact posOf_0 hi) (by rw [hs]; exact locC_of q1) (sw_no rfl)
                · exact s_never
              · exact s_never
            · exact set_ok T hN n ok hXN hs hi q1 hk he rfl
          · rename_i n1 n2 n3
            refine set_ok T hN n ok hXN hs hi q1 hk he ?_
            cases e <;> first | rfl | (exact (n1 _ _ _ _ rfl).elim) | (exact (n2 _ _ _ _ _ rfl).elim)
      · exact s_never
  · split
    · rename_i fl p2 x px
      split
      · rename_i i m ie h1 h2 h3
        split
        · rename_i hc
          obtain ⟨a, b, c, d⟩ := slot_ok hXN hs h1
          exact s_setf ok (T.mn _ _ (posOf_0 h2)) a b c d (hf _ _ h3) (sw_no hc)
        · exact s_never
      · exact s_never
    · exact s_never
  · rename_i v kx tp
    split
    · exact s_never
    · rename_i q
      have q : (isSlc kx || isComp e) = false := by simpa using q
      rw [Bool.or_eq_false_iff] at q
      split
      · rename_i iv ik ie h1 h2 h3
        split
        · rename_i hp
          refine s_seti ok (hf _ _ h1) (noPk_of hp) (hf _ _ h2) (hf _ _ h3) (fun w => ?_) (sole.trans (sw_no q.2)) (swap_none (.inl rfl) rfl) rfl
          exact asgSub q.1
        · exact s_never
      · exact s_never
  · rename_i ts kt pt
    split
    · exact s_never
    · rename_i t ht
      have tg := tg_ok hXN (locOk ok hs) ht
      split
      · rename_i hte
        split
        · rename_i ie he
          split
          · rename_i hc
            exact s_asg ok (hf _ _ he) tg (sole.trans (sw_no hc)) (swap_none (.inr hte) rfl) rfl
          · exact s_never
        · exact s_never
      · split
        · rename_i vs k2 p2 _
          split
          · rename_i x px y py a b _
            split
            · rename_i i j ia ib h1 h2 h3 h4
              split
              · rename_i q
                simp only [Bool.and_eq_true, Bool.not_eq_true'] at q
                obtain ⟨⟨⟨⟨⟨⟨⟨⟨⟨⟨⟨q1, q2⟩, q3⟩, q4⟩, q5⟩, q6⟩, q7⟩, q8⟩, q9⟩, q10⟩, q11⟩, q12⟩ := q
                have hk : sc.kind = .function := beq_iff_eq.mp q1
                have hx : X.env.scope.names.lookup x = some .local := by rw [hs]; exact of_decide_eq_true q2
                have hy : X.env.scope.names.lookup y = some .local := by rw [hs]; exact of_decide_eq_true q3
                refine s_par2 ok (by rw [hXN]; exact posOf_0 h1) (by rw [hXN]; exact posOf_0 h2) (of_decide_eq_false q12) hx hy (.cons q6 (tO_of (noPk_of q8) (hf _ _ h3)) (.cons q7 (tO_of (noPk_of q9) (hf _ _ h4)) .nil)) (fun i hi => ?_)
                  (par2_sw (bk_fn hs hk) hx hy q4 (of_decide_eq_false q5) q6 q7 q10 q11) (sole.trans (sw_no rfl))
                rcases List.mem_cons.mp hi with e | hi
                · rw [e]; exact noPk_of q8
                · rw [List.mem_singleton.mp hi]; exact noPk_of q9
              · exact s_never
            · exact s_never
          · split
            · rename_i q
              split
              · rename_i ie he
                exact s_asg ok (hf _ _ he) tg (sole.trans (sw_no rfl)) (swNone q) rfl
              · exact s_never
            · exact s_never
        · exact s_never
  · exact s_never
theorem for_ok (T : CTOk C G ct) (hN : N.Nodup) (n : Nat) (ok : SOk C G k phi Kx X) (hXN : X.N = N) (hs : X.env.scope = sc) {tg it : Expr} {b : List Stmt} {ib : List Sm} {pos : Pos} (hb : PSs X b (tB C phi G Kx ib)) :
    PS X (.For tg it b [] pos) (tS C phi G Kx (cFor N sc (iterOf ct sc (cmp ct N n false sc) it) tg ib)) := by
  have hf : ∀ e i, cmp ct N n false sc e = some i → PE X e (tE C phi G Kx i) := fun e i h => (cmp_ok T hN n).1 _ _ _ h X phi Kx ok.toXOk hXN hs
  unfold cFor
  split
  · rename_i kk ii t h0 h1
    have tg := tg_ok hXN (locOk ok hs) h1
    rcases iter_cases h0 with ⟨rfl, a1, a2, a3⟩ | ⟨a, pf, pc, rfl, rfl, a1, a2, a3, a4, a5⟩
    · exact s_for ok (hf _ _ a1) a2 tg hb (fold_ok a3)
    · exact s_forR ok (.cons a3 (tO_of a2 (hf _ _ a1)) .nil) a2 (gl_of hs a4) (by rw [ok.mg]; exact T.blt _ (by decide +kernel) a5) tg hb (fold_ok rfl)
  · exact s_never
theorem cmS_ok (T : CTOk C G ct) (hN : N.Nodup) (n : Nat) (ok : SOk C G k phi Kx X) (hXN : X.N = N) (hs : X.env.scope = sc) : ∀ m st, PS X st (tS C phi G Kx (cmS ct od N n sc m st)) := by
  have hf : ∀ e i, cmp ct N n false sc e = some i → PE X e (tE C phi G Kx i) := fun e i h => (cmp_ok T hN n).1 _ _ _ h X phi Kx ok.toXOk hXN hs
  have ht : ∀ e i, cmp ct N n true sc e = some i → PT X e (tT C phi G Kx i) := fun e i h => (cmp_ok T hN n).2 _ _ _ h X phi Kx ok.toXOk hXN hs
  intro m
  induction m with
  | zero => exact fun st => s_never
  | succ m ih =>
    have blk : ∀ ss : List Stmt, PSs X ss (tB C phi G Kx (ss.map (cmS ct od N n sc m))) := fun ss => by
      induction ss with
      | nil => exact s_nil
      | cons s ss ihs => exact s_cons (ih s) ihs
    intro st
    cases st with
    | Pass p => exact s_pass
    | Break p => exact s_brk
    | Continue p => exact s_cnt
    | Return v p =>
      cases v with
      | none => exact s_retN
      | some e => exact ret_ok hf
    | Expr e p =>
      show PS X _ (tS C phi G Kx (match cmp ct N n false sc e with
        | some i => if isComp e = false then .ex i else .never
        | none => .never))
      split
      · rename_i i h
        split
        · rename_i hc
          exact s_ex (hf _ _ h) (sw_no hc)
        · exact s_never
      · exact s_never
    | If c a b p =>
      show PS X _ (tS C phi G Kx (match cmp ct N n true sc c with
        | some ic => .ite ic (a.map (cmS ct od N n sc m)) (b.map (cmS ct od N n sc m))
        | none => .never))
      split
      · rename_i ic h
        exact s_if (ht _ _ h) (blk a) (blk b)
      · exact s_never
    | While c b r p =>
      cases r with
      | cons r rs => exact s_never
      | nil =>
        show PS X _ (tS C phi G Kx (match cmp ct N n true sc c with
          | some ic => .whl ic (b.map (cmS ct od N n sc m))
          | none => .never))
        split
        · rename_i ic h
          exact s_whl ok (ht _ _ h) (blk b)
        · exact s_never
    | For tg it b r p =>
      cases r with
      | cons r rs => exact s_never
      | nil => exact for_ok T hN n ok hXN hs (blk b)
    | Assign ts e p =>
      cases ts with
      | nil => exact s_never
      | cons tg ts =>
        cases ts with
        | nil => exact asg_ok T hN n ok hXN hs
        | cons t2 ts => exact s_never
    | _ => exact s_never
/-- a body as it is compiled -/
def cBody (ct : CT) (od : DO) (N : List Str) (sc : Scope) (b : List Stmt) : List Sm := b.map (cmS ct od N 40 sc 40)
theorem body_ok (T : CTOk C G ct) (hN : N.Nodup) {b : List Stmt} {ib : List Sm} (h : cBody ct od N sc b = ib) : BodyOk C G k N sc b ib := fun X phi Kx ok hXN hs => by
  subst h
  unfold cBody
  have ih := cmS_ok (od := od) T hN 40 ok hXN hs 40
  induction b with
  | nil => exact s_nil
  | cons s ss ihs => exact s_cons (ih s) ihs
end
end RF

end
section
set_option maxRecDepth 100000
set_option maxHeartbeats 1000000
/-! The law's call, out of its def's promise. -/
namespace RF
open PySem PySem.Spec L2 PyProof.Rows

/-- what the top has left, when the law is called -/
structure Left (P : Program) (w : World) (K : PySem.W.Frag) (mg mb : Str → Option Value) (s : Shared) : Prop where
  kin : K.In s.heap
  glob : s.heap.Ns mainGlobals mg
  blt : s.heap.Ns builtinsNs mb
  boot : ∀ x : Str, x ≠ "__name__" → mb x = bootBuiltins x
  lim : s.heap.NoLimit
  gens : s.gens = #[]
/-- an abstract heap that tracks the script alone, or nothing -/
structure Seen (K : PySem.W.Frag) (P : Program) (w : World) (H : Hp) (a : Addr) (s : Shared) : Prop where
  only : Only H
  ok : HOk P w H s.heap
  one : ∀ b, H b ≠ none → b = a
  own : H a ≠ none → K.lookup a = none
section
variable {P : Program} {w : World} {K : PySem.W.Frag} {mg mb : Str → Option Value} {s : Shared} {H : Hp} {a : Addr} {vs : List Value} {ns : List Int}
theorem Seen.off {o : Obj} {b : Addr} (S : Seen K P w H a s) (ha : s.heap.get? a = some { cls := .type "list", data := .seq vs.toArray }) (e : s.heap.get? b = some o) (d : ∀ xs n, o.data ≠ .seq xs n) : (hidT s.heap H).get? b = some o := by
  refine hidT_get e ?_
  cases q : H b with
  | none => rfl
  | some u =>
    have hb := S.one b (by rw [q]; exact Option.some_ne_none u)
    rw [hb, ha] at e
    cases e
    exact (d _ _ rfl).elim
theorem Seen.dict {b : Addr} {m : Str → Option Value} (S : Seen K P w H a s) (ha : s.heap.get? a = some { cls := .type "list", data := .seq vs.toArray }) (h : s.heap.Ns b m) : (hidT s.heap H).Ns b m := by
  obtain ⟨o, es, ep, e, d, r⟩ := h
  exact ⟨o, es, ep, S.off ha e (fun xs n z => by rw [d] at z; cases z), d, r⟩
theorem Seen.kin (S : Seen K P w H a s) (L : Left P w K mg mb s) : K.In (hidT s.heap H) := fun b o e => hidT_get (L.kin b o e) (by
  cases q : H b with
  | none => rfl
  | some u =>
    have hb := S.one b (by rw [q]; exact Option.some_ne_none u)
    subst hb
    rw [S.own (by rw [q]; exact Option.some_ne_none u)] at e
    cases e)
theorem Seen.env0 (S : Seen K P w H a s) (L : Left P w K mg mb s) (ha : s.heap.get? a = some { cls := .type "list", data := .seq vs.toArray }) : Env0 P w K mg (hidT s.heap H) callerA [] s H where
  frames := rfl
  mod := ⟨S.kin L, S.dict ha L.glob, ⟨mb, S.dict ha L.blt, L.boot⟩, by
    obtain ⟨mc, h1, h2⟩ := L.lim
    exact ⟨mc, S.dict ha h1, h2⟩⟩
  bs := fun b o e => of_hidT e
  bsz := Nat.le_of_eq (hidT_size _ _)
  funs := trivial
  frf := fun b hb => by cases hb
  hok := S.ok
  bare := .of_eq L.gens
/-- there is such a heap -/
theorem seen (L : Left P w K mg mb s) (ha : s.heap.get? a = some { cls := .type "list", data := .seq vs.toArray }) (hi : IntsAre vs ns) (hl : ns.length ≤ sizeLine) : ∃ H, Seen K P w H a s ∧ SqL K H a (ns.map V.int) := by
  have rv := vals_ints hi
  have ln := hi.length
  cases hk : K.lookup a with
  | some o =>
    have e := L.kin a o hk
    rw [ha] at e
    cases e
    refine ⟨fun _ => none, ⟨fun _ => .inl rfl, fun b u z => (by cases z), fun b z => (z rfl).elim, fun z => (z rfl).elim⟩, .inr ⟨_, vs.toArray, 0, hk, rfl, rfl, rfl, ?_, by simpa using rv⟩⟩
    rw [List.size_toArray]
    omega
  | none =>
    let o : Obj := { cls := .type "list", data := .seq vs.toArray }
    have at_ : (L2.upd (fun _ => none) a (HO.frz o (.lst (ns.map V.int)))) a = some (.frz o (.lst (ns.map V.int))) := upd_same
    have off : ∀ b, b ≠ a → (L2.upd (fun _ => none) a (HO.frz o (.lst (ns.map V.int)))) b = none := fun b h => upd_ne h
    refine ⟨L2.upd (fun _ => none) a (HO.frz o (.lst (ns.map V.int))), ⟨fun b => ?_, fun b u z => ?_, fun b z => ?_, fun _ => hk⟩, .inl (.inr ⟨o, at_⟩)⟩
    · by_cases h : b = a
      · rw [h]; exact .inr ⟨_, _, at_⟩
      · exact .inl (off b h)
    · by_cases h : b = a
      · subst h
        rw [at_] at z
        cases z
        exact ⟨ha, by rw [List.length_map]; exact hl, vs, _, rv, ha⟩
      · rw [off b h] at z
        cases z
    · by_cases h : b = a
      · exact h
      · exact (z (off b h)).elim
/-- what was there stays -/
theorem Seen.old {H' : Hp} {s' : Shared} (S : Seen K P w H a s) (un : Un (frs []) [] H H' s.heap s'.heap) (hok : HOk P w H' s'.heap) : ∀ b o, s.heap.get? b = some o → s'.heap.get? b = some o := fun b o e => by
  cases q : H b with
  | none => exact un.keep b o e q (fun z => by cases z) (fun z => by cases z)
  | some u =>
    rcases S.only b with z | ⟨ob, xs, z⟩
    · rw [q] at z; cases z
    · obtain ⟨e1, _⟩ := S.ok b _ z
      obtain ⟨e2, _⟩ := hok b _ (un.frzs b ob _ z)
      rw [e] at e1
      cases e1
      exact e2
end
/-- the law's own promise: of a script of whole numbers it makes True -/
def LawSp (sp : Spec) (n : Nat) : Prop := ∀ ns : List Int, ns.length ≤ n → sp [.rol (ns.map PV.int)] [] (fun v _ => v = .bl true) fun _ _ => False
theorem reps_ints {C : Ctx} {F : Hp} {mu : List Addr} : ∀ ns : List Int, Reps C F mu (ns.map PV.int) (ns.map V.int)
  | [] => .nil
  | i :: ns => .cons (.int i) (reps_ints ns)
/-- the frame of the law's call -/
def frm0 : Frm := ⟨fun _ => none, fun _ _ => True, fun _ _ _ _ _ _ _ => True.intro⟩
theorem rel0 {C : Ctx} {H : Hp} {a : Addr} {ns : List Int} (h : SqL C.K H a (ns.map V.int)) : Rel C frm0 ⟨[], []⟩ [.rol (ns.map PV.int)] [] [.ref a] H :=
  ⟨H, [], ⟨.refl _, fun b o e => (by cases e), fun b o e => (by cases e), rfl, fun j v b e => by simp at e, List.nodup_nil, rfl, fun i v e => by simp at e, fun i s e => by simp at e, fun i j s u b _ e => by simp at e, .cons (.rol h (reps_ints ns)) .nil, True.intro⟩⟩
theorem law_fg {l : PySem.W.OpenLaw} {n k : Nat} {q : Program} {loose : List Str} {XP : (Str → Option Value) → Heap → Prop} {YP : World → Heap → Prop} {d : DefRec} {K : Params → PySem.W.Frag} {x : Str} {sp : Spec}
    (hn : l.most = some n) (hn2 : n ≤ sizeLine) (hdf : d.params.defaults = []) (hr : Room k callerA) (hg : callerA.guards = some []) (hY : ∀ (w : World) (h : Heap), YP w h → (K w.params).In h)
    (F : ∀ (w : World) (mg : Str → Option Value) (fa : Addr) (h : Heap), (K w.params).In h → h.Ns mainGlobals mg → mg d.name = some (.ref fa) →
      ∀ base : Heap, ∃ C : Ctx, C.P = l.prog ∧ C.w = w ∧ C.K = K w.params ∧ C.mg = mg ∧ C.base = base ∧ ∃ fd : FuncData, (∀ (s : Shared) (u : Value), BindsTo s fd ⟨[u], []⟩ [(x, u)]) ∧ FG C k fa fd [x] (spH C 1 sp))
    (hsp : LawSp sp n) : PySem.W.WalkO q loose XP YP l.row.toRowW d [] (fun f vs => PySem.call f vs) := by
  refine Att.attach_call hn hdf fun w s₀ s₁ mg mb fa o pm cd doc a vs ns G Y ho hd hcd hmg hobj hints hlen hgens => ?_
  have KX := hY w _ Y
  have L : Left l.prog w (K w.params) mg mb s₁ := ⟨KX, G.T.g, G.T.b, G.T.builtins, G.T.nolimit, hgens⟩
  obtain ⟨H, S, hS⟩ := seen L hobj hints (Nat.le_trans hlen hn2)
  obtain ⟨C, e1, e2, e3, e4, e5, fd, hb, fg⟩ := F w mg fa _ KX G.T.g hmg (hidT s₁.heap H)
  have e0 := S.env0 L hobj
  rw [← e5, ← e4, ← e3, ← e2, ← e1] at e0
  rw [← e3] at hS
  have run := fg.run callerA [] s₁ H ⟨[.ref a], []⟩ [.ref a] [.ref a] (fun v _ => v = .bl true) (fun _ _ _ => False) hr hg e0 (hb s₁ (.ref a)) (.cons rfl .nil)
    ⟨rfl, frm0, [], [.rol (ns.map PV.int)], _, _, rel0 hS, hsp ns hlen, fun v st' v' H' kk ⟨F2, mu2, r⟩ => by
      subst kk
      have z := r.top
      cases z
      rfl, fun e st' cls d' H' z _ => z⟩
  rw [e1, e2] at run
  refine codeAny_mono run fun r s' h => ?_
  cases r with
  | error e =>
    obtain ⟨b, B, H', cls, d', _, _, _, _, _, _, _, z⟩ := h
    exact z.elim
  | ok fl =>
    cases fl with
    | next => exact False.elim h
    | brk => exact False.elim h
    | cont => exact False.elim h
    | ret u =>
      obtain ⟨v, H', os, bare, un, hok, rv, q⟩ := h
      subst q
      obtain rfl : u = Value.bool true := rv
      exact ⟨rfl, OldK.of_keep (S.old un hok), os, bare⟩
end RF

end
section
set_option maxRecDepth 100000
set_option maxHeartbeats 1000000
/-! The tables, step by step. -/
namespace RF
open PySem PySem.Spec L2 PyProof.Rows

def noS : Spec := fun _ _ _ _ => False
def noI : ISpec := fun _ _ _ _ => False
/-- a program's promises; those of its first i defs -/
structure Prog where
  sp : Nat → Spec
  isp : Nat → ISpec
  ini : Nat → Option Nat
  kind : Nat → Option Nat
  meth : Nat → Nat → Option Nat
  prop : Nat → Nat → Option Nat
  fld : Nat → Nat → Option Nat
  sub : Nat → Nat → Option Bool
  isc : Nat → Bool
def Prog.sig (p : Prog) (i : Nat) : Sig where
  fn := fun f => bif Nat.blt f i then p.sp f else noS
  init := fun c => match p.ini c with
    | some f => bif Nat.blt f i then p.isp c else noI
    | none => noI
  meth := p.meth
  prop := p.prop
  fld := p.fld
  sub := p.sub
  isc := p.isc

/-- what of the text is asked, whatever has been proved -/
structure Stat (C : Ctx) (p : Prog) : Prop where
  ft : ∀ f, (∃ vs st Q X, p.sp f vs st Q X) → FT C (C.fa f) (C.fd f) (C.ps f) (C.df f)
  len : ∀ f vs st Q X, p.sp f vs st Q X → vs.length = (C.ps f).length
  kind : ∀ f, (∃ vs st Q X, p.sp f vs st Q X) → p.kind f = none
  ini : ∀ c f, p.ini c = some f → C.ini c = f ∧ p.kind f = some c ∧ Mk C.K (C.ca c) (C.fa f) ∧ FT C (C.fa f) (C.fd f) (C.ps f) (C.df f) ∧ ∀ vs st Q X, p.isp c vs st Q X → vs.length + 1 = (C.ps f).length
  prop : ∀ c m f, p.prop c m = some f → Cls C.K (C.ca c) ∧ ∃ q, PropOf C.K (C.ca c) (C.mn m) q (C.fa f)
  meth : ∀ c m f, p.meth c m = some f → Cls C.K (C.ca c) ∧ Meth C.K (C.ca c) (C.mn m) (C.fa f) ∧ C.mn m ∉ C.fl c ∧ PySem.W.selfFirst C.K (C.ca c) = true
  fld : ∀ c m i, p.fld c m = some i → Cls C.K (C.ca c) ∧ NoAttr C.K (C.ca c) (C.mn m) ∧ (C.fl c)[i]? = some (C.mn m)
  isb : ∀ c, p.isc c = true → ∀ n, n ∈ ["int", "bool", "str", "NoneType", "tuple", "list"] → PySem.W.kitOne C.K (.type n) (.ref (C.ca c)) = some false ∧ PySem.W.subIn C.K (.type n) (.ref (C.ca c)) = some false
  isi : ∀ d c b, p.sub d c = some b → PySem.W.kitOne C.K (.ref (C.ca d)) (.ref (C.ca c)) = some b ∧ PySem.W.subIn C.K (.ref (C.ca d)) (.ref (C.ca c)) = some b ∧ Cls C.K (C.ca d) ∧ PySem.W.findIn C.K (.ref (C.ca d)) "__class__" = some (some (.builtin "object.__class__")) ∧
    PySem.W.specialIn C.K (.builtin "object.__class__") "__get__" = some (some (.builtin "getset_descriptor.__get__")) ∧ PySem.W.takesIn C.K (.builtin "object.__class__") = some true ∧ PySem.W.mroIn C.K (C.ca d) (.type "object") = some true
  fls : ∀ c, (C.fl c).length ≤ 900 ∧ (C.fl c).Nodup
  ne : ∀ c f, p.meth c 7 = some f → PySem.W.findIn C.K (.ref (C.ca c)) "__ne__" = some (some (.builtin "object.__ne__")) ∧ PySem.W.mroIn C.K (C.ca c) (.type "object") = some true
  mn0 : C.mn 0 = ("__add__" : Str)
  mn1 : C.mn 1 = ("__sub__" : Str)
  mn2 : C.mn 2 = ("__mul__" : Str)
  mn3 : C.mn 3 = ("__floordiv__" : Str)
  mn4 : C.mn 4 = ("__mod__" : Str)
  mn5 : C.mn 5 = ("__neg__" : Str)
  mn7 : C.mn 7 = ("__eq__" : Str)
/-- the f-th def keeps its promise -/
def Done (C : Ctx) (p : Prog) (k f : Nat) : Prop := match p.kind f with
  | none => FG C k (C.fa f) (C.fd f) (C.ps f) (spH C (C.ps f).length (p.sp f))
  | some c => FG C k (C.fa f) (C.fd f) (C.ps f) (spI C c (C.ps f).length (p.isp c))
theorem Done.mono {C : Ctx} {p : Prog} {j k f : Nat} (h : Done C p j f) (le : j ≤ k) : Done C p k f := by
  unfold Done at h ⊢
  split at h
  · exact h.mono le
  · exact h.mono le
theorem tab_of {C : Ctx} {p : Prog} {k i : Nat} (S : Stat C p) (H : ∀ f, f < i → Done C p k f) : Tab C (p.sig i) k where
  fn := fun f ⟨vs, st, Q, X, h⟩ => by
    have key : ∀ vs st Q X, (p.sig i).fn f vs st Q X → f < i ∧ p.sp f vs st Q X := fun vs st Q X h => by
      have h : (bif Nat.blt f i then p.sp f else noS) vs st Q X := h
      cases e : Nat.blt f i with
      | true => rw [e] at h; exact ⟨Nat.blt_eq.mp e, h⟩
      | false => rw [e] at h; exact h.elim
    obtain ⟨hf, hs⟩ := key _ _ _ _ h
    have e : (p.sig i).fn f = p.sp f := by
      show (bif Nat.blt f i then p.sp f else noS) = p.sp f
      rw [Nat.blt_eq.mpr hf]
      rfl
    have d := H f hf
    unfold Done at d
    rw [S.kind f ⟨_, _, _, _, hs⟩] at d
    refine ⟨S.ft f ⟨_, _, _, _, hs⟩, ?_, fun vs st Q X h => S.len f _ _ _ _ (key _ _ _ _ h).2⟩
    rw [e]
    exact d
  ini := fun c ⟨vs, st, Q, X, h⟩ => by
    have h : (match p.ini c with
      | some f => bif Nat.blt f i then p.isp c else noI
      | none => noI) vs st Q X := h
    cases e0 : p.ini c with
    | none => rw [e0] at h; exact h.elim
    | some f =>
      rw [e0] at h
      have h : (bif Nat.blt f i then p.isp c else noI) vs st Q X := h
      cases e1 : Nat.blt f i with
      | false => rw [e1] at h; exact h.elim
      | true =>
        have e : (p.sig i).init c = p.isp c := by
          show (match p.ini c with
            | some f => bif Nat.blt f i then p.isp c else noI
            | none => noI) = p.isp c
          rw [e0]
          show (bif Nat.blt f i then p.isp c else noI) = p.isp c
          rw [e1]
          rfl
        obtain ⟨a1, a2, a3, a4, a5⟩ := S.ini c f e0
        have d := H f (Nat.blt_eq.mp e1)
        unfold Done at d
        rw [a2] at d
        rw [a1, e]
        exact ⟨a3, a4, d, a5⟩
  prop := S.prop
  meth := S.meth
  fld := S.fld
  isb := S.isb
  isi := S.isi
  fls := S.fls
  ne := S.ne
  mn0 := S.mn0
  mn1 := S.mn1
  mn2 := S.mn2
  mn3 := S.mn3
  mn4 := S.mn4
  mn5 := S.mn5
  mn7 := S.mn7
/-- one def more -/
theorem more {C : Ctx} {p : Prog} {k i : Nat} (H : ∀ f, f < i → Done C p k f) (h : Done C p (k + 2) i) : ∀ f, f < i + 1 → Done C p (k + 2) f := fun f hf => by
  by_cases e : f = i
  · rw [e]; exact h
  · exact (H f (by omega)).mono (by omega)
end RF

end
section
set_option maxRecDepth 100000
set_option maxHeartbeats 1000000
/-! Plain arithmetic of fractions. -/
namespace RF.K3
open PySem L2
theorem log_lt {x n : Nat} (h : x < 2 ^ n) (hn : 0 < n) : x.log2 < n := by
  by_cases e : x = 0
  · subst e; simpa using hn
  · exact (Nat.log2_lt e).mpr h
/-- lowest terms -/
def lo (t b : Int) : Int × Int := (t.fdiv (if b < 0 then -(Int.gcd t b : Int) else Int.gcd t b), b.fdiv (if b < 0 then -(Int.gcd t b : Int) else Int.gcd t b))
theorem gcd_pos {t b : Int} (h : b ≠ 0) : 0 < Int.gcd t b := by
  apply Nat.pos_of_ne_zero
  intro e
  exact h (Int.gcd_eq_zero_iff.mp e).2
theorem lo_eq {t b : Int} (h : b ≠ 0) : ∃ c d : Int, b = (Int.gcd t b : Int) * c ∧ t = (Int.gcd t b : Int) * d ∧ lo t b = (if b < 0 then -d else d, if b < 0 then -c else c) := by
  have g0 := gcd_pos (t := t) h
  obtain ⟨c, hc⟩ := Int.gcd_dvd_right t b
  obtain ⟨d, hd⟩ := Int.gcd_dvd_left t b
  refine ⟨c, d, hc, hd, ?_⟩
  unfold lo
  generalize hg : Int.gcd t b = g at *
  have gn : (g : Int) ≠ 0 := by omega
  by_cases hb : b < 0
  · rw [if_pos hb, if_pos hb, if_pos hb]
    have gn2 : -(g : Int) ≠ 0 := by omega
    have e1 : t = -(g : Int) * -d := by rw [Int.neg_mul_neg]; exact hd
    have e2 : b = -(g : Int) * -c := by rw [Int.neg_mul_neg]; exact hc
    rw [e1, e2, Int.mul_fdiv_cancel_left _ gn2, Int.mul_fdiv_cancel_left _ gn2]
  · rw [if_neg hb, if_neg hb, if_neg hb]
    conv => lhs; rw [hd, hc]
    rw [Int.mul_fdiv_cancel_left _ gn, Int.mul_fdiv_cancel_left _ gn]
/-- a denominator above 0, at most n bits -/
def Bd (n : Nat) (p : Int × Int) : Prop := 0 < p.2 ∧ p.1.natAbs < 2 ^ n ∧ p.2.natAbs < 2 ^ n
theorem Bd.mono {n m : Nat} {p : Int × Int} (h : Bd n p) (le : n ≤ m) : Bd m p :=
  ⟨h.1, Nat.lt_of_lt_of_le h.2.1 (Nat.pow_le_pow_right (by decide) le), Nat.lt_of_lt_of_le h.2.2 (Nat.pow_le_pow_right (by decide) le)⟩
theorem lo_bd {n : Nat} {t b : Int} (h : b ≠ 0) (h1 : t.natAbs < 2 ^ n) (h2 : b.natAbs < 2 ^ n) : Bd n (lo t b) := by
  have g0 := gcd_pos (t := t) h
  obtain ⟨c, d, hc, hd, e⟩ := lo_eq (t := t) h
  generalize Int.gcd t b = g at *
  have b1 : d.natAbs ≤ t.natAbs := by
    rw [hd, Int.natAbs_mul]
    exact Nat.le_mul_of_pos_left _ (by simpa using g0)
  have b2 : c.natAbs ≤ b.natAbs := by
    rw [hc, Int.natAbs_mul]
    exact Nat.le_mul_of_pos_left _ (by simpa using g0)
  rw [e]
  have gp : (0 : Int) < g := by omega
  by_cases hb : b < 0
  · rw [if_pos hb, if_pos hb]
    have cn : c < 0 := by
      rw [hc] at hb
      exact Int.not_le.mp fun z => by
        have := Int.mul_nonneg (Int.le_of_lt gp) z
        omega
    refine ⟨?_, ?_, ?_⟩
    · show 0 < -c; omega
    · show (-d).natAbs < _; rw [Int.natAbs_neg]; omega
    · show (-c).natAbs < _; rw [Int.natAbs_neg]; omega
  · rw [if_neg hb, if_neg hb]
    have cp : 0 < c := by
      have : 0 < b := by omega
      rw [hc] at this
      exact Int.not_le.mp fun z => by
        have := Int.mul_nonneg (Int.le_of_lt gp) (Int.neg_nonneg_of_nonpos z)
        rw [Int.mul_neg] at this
        omega
    exact ⟨cp, by show d.natAbs < _; omega, by show c.natAbs < _; omega⟩
def plusP (p q : Int × Int) : Int × Int := lo (p.1 * q.2 + q.1 * p.2) (p.2 * q.2)
def subP (p q : Int × Int) : Int × Int := lo (p.1 * q.2 - q.1 * p.2) (p.2 * q.2)
def timesP (p q : Int × Int) : Int × Int := lo (p.1 * q.1) (p.2 * q.2)
theorem mul_lt {x y : Int} {n m : Nat} (h1 : x.natAbs < 2 ^ n) (h2 : y.natAbs < 2 ^ m) : (x * y).natAbs < 2 ^ (n + m) := by
  rw [Int.natAbs_mul, Nat.pow_add]
  exact Nat.mul_lt_mul'' h1 h2
theorem add_lt {x y : Int} {n : Nat} (h1 : x.natAbs < 2 ^ n) (h2 : y.natAbs < 2 ^ n) : (x + y).natAbs < 2 ^ (n + 1) := by
  have := Int.natAbs_add_le x y
  rw [Nat.pow_succ]
  omega
theorem sub_lt {x y : Int} {n : Nat} (h1 : x.natAbs < 2 ^ n) (h2 : y.natAbs < 2 ^ n) : (x - y).natAbs < 2 ^ (n + 1) := by
  have := Int.natAbs_sub_le x y
  rw [Nat.pow_succ]
  omega
theorem Bd.den {n m : Nat} {p q : Int × Int} (h1 : Bd n p) (h2 : Bd m q) : p.2 * q.2 ≠ 0 := by
  have := Int.mul_pos h1.1 h2.1
  omega
theorem Bd.num {n m : Nat} {p q : Int × Int} (h1 : Bd n p) (h2 : Bd m q) : (p.1 * q.2).natAbs < 2 ^ (n + m) ∧ (q.1 * p.2).natAbs < 2 ^ (n + m) ∧ (p.2 * q.2).natAbs < 2 ^ (n + m) ∧ (p.1 * q.1).natAbs < 2 ^ (n + m) := by
  refine ⟨mul_lt h1.2.1 h2.2.2, ?_, mul_lt h1.2.2 h2.2.2, mul_lt h1.2.1 h2.2.1⟩
  rw [Int.mul_comm]
  exact mul_lt h1.2.2 h2.2.1
theorem Bd.plus {n m : Nat} {p q : Int × Int} (h1 : Bd n p) (h2 : Bd m q) : Bd (n + m + 1) (plusP p q) := by
  obtain ⟨a, b, c, d⟩ := h1.num h2
  exact lo_bd (h1.den h2) (add_lt a b) (Nat.lt_of_lt_of_le c (Nat.pow_le_pow_right (by decide) (Nat.le_succ _)))
theorem Bd.sub {n m : Nat} {p q : Int × Int} (h1 : Bd n p) (h2 : Bd m q) : Bd (n + m + 1) (subP p q) := by
  obtain ⟨a, b, c, d⟩ := h1.num h2
  exact lo_bd (h1.den h2) (sub_lt a b) (Nat.lt_of_lt_of_le c (Nat.pow_le_pow_right (by decide) (Nat.le_succ _)))
theorem Bd.times {n m : Nat} {p q : Int × Int} (h1 : Bd n p) (h2 : Bd m q) : Bd (n + m) (timesP p q) := by
  obtain ⟨a, b, c, d⟩ := h1.num h2
  exact lo_bd (h1.den h2) d c
theorem sub_plus {p q : Int × Int} : subP p q = plusP p (0 - q.1, q.2) := by
  unfold subP plusP
  have e : p.1 * q.2 - q.1 * p.2 = p.1 * q.2 + (0 - q.1) * p.2 := by rw [Int.zero_sub, Int.neg_mul]; omega
  rw [e]
theorem mulOk_of {x y : Int} {n m : Nat} (h1 : x.natAbs < 2 ^ n) (h2 : y.natAbs < 2 ^ m) (hn : 0 < n) (hm : 0 < m) (h : n + m < 1000000) : MulOk x y := by
  refine .inr ?_
  have := log_lt h1 hn
  have := log_lt h2 hm
  omega
theorem lo_one {s : Int} (h : 0 < s) : lo 1 s = (1, s) := by
  unfold lo
  have e : Int.gcd 1 s = 1 := Int.one_gcd
  rw [e, if_neg (by omega)]
  simp
theorem lo_zero : lo 0 1 = (0, 1) := by decide
/-- the divisor that common finds is one that the machine reckons by -/
theorem divOk_gcd {t b : Int} {n : Nat} (h : b ≠ 0) (h2 : b.natAbs < 2 ^ n) (hn : 0 < n) (hm : n ≤ 9000) : DivOk (if b < 0 then -(Int.gcd t b : Int) else Int.gcd t b) := by
  have g0 := gcd_pos (t := t) h
  obtain ⟨c, hc⟩ := Int.gcd_dvd_right t b
  generalize Int.gcd t b = g at *
  have cn : c ≠ 0 := fun z => h (by rw [hc, z, Int.mul_zero])
  have le : g ≤ b.natAbs := by
    rw [hc, Int.natAbs_mul]
    have : 0 < c.natAbs := Int.natAbs_pos.mpr cn
    simpa using Nat.le_mul_of_pos_right g this
  have e : (if b < 0 then -(g : Int) else g).natAbs = g := by
    split
    · rw [Int.natAbs_neg]; rfl
    · rfl
  refine ⟨?_, ?_⟩
  · split <;> omega
  · rw [e]
    have := log_lt (Nat.lt_of_le_of_lt le h2) hn
    omega
theorem absI (a : Int) : (if a < 0 then -a else a) = (a.natAbs : Int) := by split <;> omega
theorem fmod_nat (x y : Nat) : (x : Int).fmod (y : Int) = ((x % y : Nat) : Int) := by
  rw [Int.fmod_eq_emod_of_nonneg _ (by omega)]
  rfl
end RF.K3

end
section
set_option maxRecDepth 100000
set_option maxHeartbeats 1000000
/-! The promises of the defs, each kept by its body. -/
namespace RF.K3
open PySem L2
def prt (p : Int × Int) : PV := .ins 0 [.int p.1, .int p.2]
def tp (p : Int × Int) : PV := .tup [.int p.1, .int p.2]
def S0 : Spec := fun vs st Q _ => ∃ a b : Int, vs = [.int a, .int b] ∧ Q (.int (Int.gcd a b)) st
def I1 : ISpec := fun vs st Q _ => ∃ t b : Int, vs = [.int t, .int b] ∧ b ≠ 0 ∧ b.natAbs < 2 ^ 4000 ∧ Q [some (.int (lo t b).1), some (.int (lo t b).2)] st
def S2 : Spec := fun vs st Q _ => ∃ p q : Int × Int, vs = [prt p, prt q] ∧ Bd 1900 p ∧ Bd 1900 q ∧ Q (prt (plusP p q)) st
def S3 : Spec := fun vs st Q _ => ∃ p q : Int × Int, vs = [prt p, prt q] ∧ Bd 1900 p ∧ Bd 1900 q ∧ Q (prt (subP p q)) st
def S4 : Spec := fun vs st Q _ => ∃ p q : Int × Int, vs = [prt p, prt q] ∧ Bd 1900 p ∧ Bd 1900 q ∧ Q (prt (timesP p q)) st
def S5 : Spec := fun vs st Q _ => ∃ p q : Int × Int, vs = [prt p, prt q] ∧ Q (.bl (p.1 == q.1 && p.2 == q.2)) st
def S6 : Spec := fun vs st Q _ => ∃ (l : List (Int × Int)) (k : Nat), (vs = [.cls 0, .tup (l.map prt)] ∨ vs = [.cls 0, .lst (l.map prt)]) ∧ (∀ p ∈ l, Bd k p) ∧ 1 + l.length * (k + 1) ≤ 1800 ∧ k ≤ 1800 ∧ Q (prt (l.foldl plusP (0, 1))) st
/-- the box of drawn numbers -/
def Box (st : Store) (j : Nat) : Prop := ∃ a b c : Int, st[j]? = some (.lst [.int a, .int b, .int c])
def S7 : Spec := fun vs st Q _ => ∃ (ns : List Int) (k : Nat), vs = [.rol (ns.map PV.int), .int k] ∧ ∀ a b c : Int, Q (.ref st.length) (st ++ [.lst [.int a, .int b, .int c]])
def S8 : Spec := fun vs st Q _ => ∃ (j : Nat) (m : Int), vs = [.ref j, .int m] ∧ Box st j ∧ 0 < m ∧ m.natAbs < 2 ^ 200 ∧ ∀ (r : Int) (st' : Store), 0 ≤ r → r < m → Box st' j → Q (.int r) st'
def S9 : Spec := fun vs st Q _ => ∃ t b : Int, vs = [.int t, .int b] ∧ b ≠ 0 ∧ b.natAbs < 2 ^ 4000 ∧ Q (tp (lo t b)) st
def S10 : Spec := fun vs st Q _ => ∃ p q : Int × Int, vs = [tp p, tp q] ∧ Bd 1900 p ∧ Bd 1900 q ∧ Q (tp (plusP p q)) st
def S11 : Spec := fun vs st Q _ => ∃ p q : Int × Int, vs = [tp p, tp q] ∧ Bd 1900 p ∧ Bd 1900 q ∧ Q (tp (timesP p q)) st
def S12 : Spec := fun vs st Q _ => ∃ p : Int × Int, vs = [prt p, tp p] ∧ Bd 1900 p ∧ Q (.bl true) st
def S13 : Spec := fun vs st Q _ => ∃ j : Nat, vs = [.ref j] ∧ Box st j ∧ ∀ (x : Int) (st' : Store), x.natAbs < 2 ^ 100 → Box st' j → Q (.int x) st'
def S14 : Spec := fun vs st Q _ => ∃ j : Nat, vs = [.ref j] ∧ Box st j ∧ ∀ (x y : Int) (st' : Store), x.natAbs < 2 ^ 100 → y ≠ 0 → y.natAbs < 2 ^ 100 → Box st' j → Q (.tup [.int x, .int y]) st'
def S15 : Spec := fun vs st Q _ => ∃ p q : Int × Int, vs = [tp p, tp q] ∧ (p.2 ≠ 0 ∧ p.1.natAbs < 2 ^ 100 ∧ p.2.natAbs < 2 ^ 100) ∧ (q.2 ≠ 0 ∧ q.1.natAbs < 2 ^ 100 ∧ q.2.natAbs < 2 ^ 100) ∧ Q (.bl true) st
def S16 : Spec := fun vs st Q _ => ∃ ns : List Int, vs = [.rol (ns.map PV.int)] ∧ ∀ st', Q (.bl true) st'
/-- the program's tables -/
def prog : Prog where
  sp := fun f => match f with
    | 0 => S0 | 2 => S2 | 3 => S3 | 4 => S4 | 5 => S5 | 6 => S6 | 7 => S7 | 8 => S8 | 9 => S9 | 10 => S10 | 11 => S11 | 12 => S12 | 13 => S13 | 14 => S14 | 15 => S15 | 16 => S16
    | _ => noS
  isp := fun c => match c with
    | 0 => I1
    | _ => noI
  ini := fun c => match c with
    | 0 => some 1
    | _ => none
  kind := fun f => match f with
    | 1 => some 0
    | _ => none
  meth := fun c m => match c, m with
    | 0, 0 => some 2
    | 0, 1 => some 3
    | 0, 2 => some 4
    | 0, 7 => some 5
    | _, _ => none
  prop := fun _ _ => none
  fld := fun c m => match c, m with
    | 0, 14 => some 0
    | 0, 15 => some 1
    | _, _ => none
  sub := fun d c => match d, c with
    | 0, 0 => some true
    | _, _ => none
  isc := fun c => match c with
    | 0 => true
    | _ => false
/-- what a def's promise asks of its body -/
abbrev Keep (i n : Nat) (N : List Str) (b : List Sm) (S : Spec) : Prop := ∀ (vs : List PV) (st : Store) (Q : PV → Store → Prop) (Xx : Exc → Store → Prop), S vs st Q Xx → vs.length = n ∧ wpB (prog.sig i) (fun e env => Xx e env.st) b { nx := fun env => Q .non env.st, rt := Q } (env0 N vs st)
theorem fT (i : Nat) : (prog.sig i).fld 0 14 = some 0 := rfl
theorem fB (i : Nat) : (prog.sig i).fld 0 15 = some 1 := rfl
theorem dunE (i : Nat) (m : Nat) (vs : List PV) (st : Store) (Q : PV → Store → Prop) (Xx : Exc → Store → Prop) : dun (prog.sig i) 0 m vs st Q Xx = (match prog.meth 0 m with
  | some f => (prog.sig i).fn f vs st Q Xx
  | none => False) := rfl

def b0 : List Sm := [.par [0, 1] [(.pr .abs [(.pk 0)]), (.pr .abs [(.pk 1)])],
  .whl (.pr .gt [(.pk 1), (.cst (.int (0)))]) [.par [0, 1] [(.var 1), (.pr .mod [(.pk 0), (.pk 1)])]],
  .ret (.var 0)]
theorem w0 : Keep 0 2 ["a", "b"] b0 S0 := by
  rintro vs st Q Xx ⟨a, b, rfl, q⟩
  refine ⟨rfl, ?_⟩
  simp only [b0, wpB, wpS, wpAs, wpE, wpT, isPk, prS, Env.get, Env.put, Env.puts, Env.frz, asg, truth, env0, envI, List.map_cons, List.map_nil, List.length_cons, List.length_nil, List.cons_append, List.nil_append, List.getElem?_cons_zero, List.getElem?_cons_succ, List.set_cons_zero, List.set_cons_succ, Option.isSome_some, true_and, List.replicate_succ, List.replicate_zero, Nat.sub_self, Nat.reduceSub, Nat.reduceAdd, List.append_nil, List.nil_append, Nat.zero_add]
  refine ⟨fun m e => ∃ x : Nat, e = ⟨[.val (.int x), .val (.int m)], st⟩ ∧ Nat.gcd x m = Int.gcd a b, ⟨b.natAbs, a.natAbs, by rw [absI, absI], rfl⟩, ?_⟩
  rintro m e ⟨x, rfl, g⟩
  simp only [wpB, wpS, wpAs, wpE, wpT, isPk, prS, Env.get, Env.put, Env.puts, Env.frz, asg, truth, env0, envI, List.map_cons, List.map_nil, List.length_cons, List.length_nil, List.cons_append, List.nil_append, List.getElem?_cons_zero, List.getElem?_cons_succ, List.set_cons_zero, List.set_cons_succ, Option.isSome_some, true_and, List.replicate_succ, List.replicate_zero, Nat.sub_self, Nat.reduceSub, Nat.reduceAdd, List.append_nil, List.nil_append, Nat.zero_add]
  by_cases hm : 0 < m
  · have e1 : decide ((0 : Int) < (m : Int)) = true := decide_eq_true (by omega)
    rw [e1]
    simp only [wpB, wpS, wpAs, wpE, wpT, isPk, prS, Env.get, Env.put, Env.puts, Env.frz, asg, truth, env0, envI, List.map_cons, List.map_nil, List.length_cons, List.length_nil, List.cons_append, List.nil_append, List.getElem?_cons_zero, List.getElem?_cons_succ, List.set_cons_zero, List.set_cons_succ, Option.isSome_some, true_and, List.replicate_succ, List.replicate_zero, Nat.sub_self, Nat.reduceSub, Nat.reduceAdd, List.append_nil, List.nil_append, Nat.zero_add]
    refine ⟨by omega, x % m, Nat.mod_lt _ hm, m, by rw [fmod_nat], ?_⟩
    rw [← g, Nat.gcd_comm x m, Nat.gcd_rec m x, Nat.gcd_comm]
  · have e1 : decide ((0 : Int) < (m : Int)) = false := decide_eq_false (by omega)
    rw [e1]
    simp only [wpB, wpS, wpAs, wpE, wpT, isPk, prS, Env.get, Env.put, Env.puts, Env.frz, asg, truth, env0, envI, List.map_cons, List.map_nil, List.length_cons, List.length_nil, List.cons_append, List.nil_append, List.getElem?_cons_zero, List.getElem?_cons_succ, List.set_cons_zero, List.set_cons_succ, Option.isSome_some, true_and, List.replicate_succ, List.replicate_zero, Nat.sub_self, Nat.reduceSub, Nat.reduceAdd, List.append_nil, List.nil_append, Nat.zero_add]
    have : m = 0 := by omega
    subst this
    rw [Nat.gcd_zero_right] at g
    rw [g]
    exact q
def b1 : List Sm := [.ite (.pr .eq [(.pk 2), (.cst (.int (0)))]) [.never] [],
  .asg (.nm 3) (.call 0 [(.var 1), (.var 2)] []),
  .ite (.pr .lt [(.pk 2), (.cst (.int (0)))]) [.asg (.nm 3) (.pr .neg [(.pk 3)])] [],
  .setf 0 14 (.pr .fdiv [(.pk 1), (.pk 3)]),
  .setf 0 15 (.pr .fdiv [(.pk 2), (.pk 3)])]
theorem shI (i : Int) : SeqAt.shaped (.int i) = true := by rfl
theorem eqvI (i j : Int) : PyData.eqv (.int i) (.int j) = (i == j) := by rfl
theorem w1 (x : Nat) (vs : List PV) (st : Store) (Q : List (Option PV) → Store → Prop) (Xx : Exc → Store → Prop) (h : I1 vs st Q Xx) : vs.length + 1 = 3 ∧ wpB (prog.sig 1) (fun e env => Xx e env.st) b1 { nx := iniQ x 0 Q, rt := fun _ _ => False } (envI ["self", "top", "bottom", "shared"] x 0 2 vs st) := by
  obtain ⟨t, b, rfl, h0, h1, q⟩ := h
  refine ⟨rfl, ?_⟩
  simp only [b1, wpB, wpS, wpAs, wpE, wpT, isPk, prS, Env.get, Env.put, Env.puts, Env.frz, asg, truth, env0, envI, List.map_cons, List.map_nil, List.length_cons, List.length_nil, List.cons_append, List.nil_append, List.getElem?_cons_zero, List.getElem?_cons_succ, List.set_cons_zero, List.set_cons_succ, Option.isSome_some, true_and, List.replicate_succ, List.replicate_zero, Nat.sub_self, Nat.reduceSub, Nat.reduceAdd, List.append_nil, List.nil_append, Nat.zero_add, datum, shI, eqvI]
  have e0 : (b == 0) = false := by simpa using h0
  rw [e0]
  simp only [wpB, wpS, wpAs, wpE, wpT, isPk, prS, Env.get, Env.put, Env.puts, Env.frz, asg, truth, env0, envI, List.map_cons, List.map_nil, List.length_cons, List.length_nil, List.cons_append, List.nil_append, List.getElem?_cons_zero, List.getElem?_cons_succ, List.set_cons_zero, List.set_cons_succ, Option.isSome_some, true_and, List.replicate_succ, List.replicate_zero, Nat.sub_self, Nat.reduceSub, Nat.reduceAdd, List.append_nil, List.nil_append, Nat.zero_add]
  refine ⟨t, b, rfl, ?_⟩
  have dv := divOk_gcd (t := t) h0 h1 (by decide) (by decide)
  have q' : ∀ x y, x = (lo t b).1 → y = (lo t b).2 → Q [some (.int x), some (.int y)] st := fun x y e1 e2 => by rw [e1, e2]; exact q
  unfold lo at q'
  by_cases hb : b < 0
  · simp only [hb, decide_true, if_true] at dv q' ⊢
    simp only [wpB, wpS, wpAs, wpE, wpT, isPk, prS, Env.get, Env.put, Env.puts, Env.frz, asg, truth, env0, envI, List.map_cons, List.map_nil, List.length_cons, List.length_nil, List.cons_append, List.nil_append, List.getElem?_cons_zero, List.getElem?_cons_succ, List.set_cons_zero, List.set_cons_succ, Option.isSome_some, true_and, List.replicate_succ, List.replicate_zero, Nat.sub_self, Nat.reduceSub, Nat.reduceAdd, List.append_nil, List.nil_append, Nat.zero_add, fT, fB]
    exact ⟨dv, by decide, dv, by decide, rfl, rfl, q' _ _ rfl rfl⟩
  · simp only [hb, decide_false, if_false] at dv q' ⊢
    simp only [wpB, wpS, wpAs, wpE, wpT, isPk, prS, Env.get, Env.put, Env.puts, Env.frz, asg, truth, env0, envI, List.map_cons, List.map_nil, List.length_cons, List.length_nil, List.cons_append, List.nil_append, List.getElem?_cons_zero, List.getElem?_cons_succ, List.set_cons_zero, List.set_cons_succ, Option.isSome_some, true_and, List.replicate_succ, List.replicate_zero, Nat.sub_self, Nat.reduceSub, Nat.reduceAdd, List.append_nil, List.nil_append, Nat.zero_add, fT, fB]
    exact ⟨dv, by decide, dv, by decide, rfl, rfl, q' _ _ rfl rfl⟩
def b2 : List Sm := [.ret (.make 0 [(.pr .add [(.pr .mul [(.attr 14 (.var 0)), (.attr 15 (.var 1))]), (.pr .mul [(.attr 14 (.var 1)), (.attr 15 (.var 0))])]), (.pr .mul [(.attr 15 (.var 0)), (.attr 15 (.var 1))])] [])]
theorem mapM2 (x y : PV) : [some x, some y].mapM (m := Option) id = some [x, y] := rfl
theorem w2 : Keep 2 2 ["self", "other"] b2 S2 := by
  rintro vs st Q Xx ⟨p, q, rfl, h1, h2, k⟩
  refine ⟨rfl, ?_⟩
  obtain ⟨n1, n2, n3, n4⟩ := h1.num h2
  simp only [b2, prt, fT, fB, wpB, wpS, wpAs, wpE, wpT, isPk, prS, Env.get, Env.put, Env.puts, Env.frz, asg, truth, env0, envI, List.map_cons, List.map_nil, List.length_cons, List.length_nil, List.cons_append, List.nil_append, List.getElem?_cons_zero, List.getElem?_cons_succ, List.set_cons_zero, List.set_cons_succ, Option.isSome_some, true_and, List.replicate_succ, List.replicate_zero, Nat.sub_self, Nat.reduceSub, Nat.reduceAdd, List.append_nil, List.nil_append, Nat.zero_add]
  refine ⟨mulOk_of h1.2.1 h2.2.2 (by decide) (by decide) (by decide), mulOk_of h2.2.1 h1.2.2 (by decide) (by decide) (by decide), mulOk_of h1.2.2 h2.2.2 (by decide) (by decide) (by decide), ?_⟩
  exact ⟨_, _, rfl, h1.den h2, Nat.lt_of_lt_of_le n3 (Nat.pow_le_pow_right (by decide) (by decide)), k⟩
def b3 : List Sm := [.ret (.make 0 [(.pr .sub [(.pr .mul [(.attr 14 (.var 0)), (.attr 15 (.var 1))]), (.pr .mul [(.attr 14 (.var 1)), (.attr 15 (.var 0))])]), (.pr .mul [(.attr 15 (.var 0)), (.attr 15 (.var 1))])] [])]
theorem w3 : Keep 3 2 ["self", "other"] b3 S3 := by
  rintro vs st Q Xx ⟨p, q, rfl, h1, h2, k⟩
  refine ⟨rfl, ?_⟩
  obtain ⟨n1, n2, n3, n4⟩ := h1.num h2
  simp only [b3, prt, fT, fB, wpB, wpS, wpAs, wpE, wpT, isPk, prS, Env.get, Env.put, Env.puts, Env.frz, asg, truth, env0, envI, List.map_cons, List.map_nil, List.length_cons, List.length_nil, List.cons_append, List.nil_append, List.getElem?_cons_zero, List.getElem?_cons_succ, List.set_cons_zero, List.set_cons_succ, Option.isSome_some, true_and, List.replicate_succ, List.replicate_zero, Nat.sub_self, Nat.reduceSub, Nat.reduceAdd, List.append_nil, List.nil_append, Nat.zero_add]
  refine ⟨mulOk_of h1.2.1 h2.2.2 (by decide) (by decide) (by decide), mulOk_of h2.2.1 h1.2.2 (by decide) (by decide) (by decide), mulOk_of h1.2.2 h2.2.2 (by decide) (by decide) (by decide), ?_⟩
  exact ⟨_, _, rfl, h1.den h2, Nat.lt_of_lt_of_le n3 (Nat.pow_le_pow_right (by decide) (by decide)), k⟩
def b4 : List Sm := [.ret (.make 0 [(.pr .mul [(.attr 14 (.var 0)), (.attr 14 (.var 1))]), (.pr .mul [(.attr 15 (.var 0)), (.attr 15 (.var 1))])] [])]
theorem w4 : Keep 4 2 ["self", "other"] b4 S4 := by
  rintro vs st Q Xx ⟨p, q, rfl, h1, h2, k⟩
  refine ⟨rfl, ?_⟩
  obtain ⟨n1, n2, n3, n4⟩ := h1.num h2
  simp only [b4, prt, fT, fB, wpB, wpS, wpAs, wpE, wpT, isPk, prS, Env.get, Env.put, Env.puts, Env.frz, asg, truth, env0, envI, List.map_cons, List.map_nil, List.length_cons, List.length_nil, List.cons_append, List.nil_append, List.getElem?_cons_zero, List.getElem?_cons_succ, List.set_cons_zero, List.set_cons_succ, Option.isSome_some, true_and, List.replicate_succ, List.replicate_zero, Nat.sub_self, Nat.reduceSub, Nat.reduceAdd, List.append_nil, List.nil_append, Nat.zero_add]
  refine ⟨mulOk_of h1.2.1 h2.2.1 (by decide) (by decide) (by decide), mulOk_of h1.2.2 h2.2.2 (by decide) (by decide) (by decide), ?_⟩
  exact ⟨_, _, rfl, h1.den h2, Nat.lt_of_lt_of_le n3 (Nat.pow_le_pow_right (by decide) (by decide)), k⟩
def b5 : List Sm := [.ret (.and (.pr .isi [(.pk 1), (.cst (.cls 0))]) (.and (.pr .eq [(.attr 14 (.var 0)), (.attr 14 (.var 1))]) (.pr .eq [(.attr 15 (.var 0)), (.attr 15 (.var 1))])))]
theorem isiP (i : Nat) (fs : List PV) : isIns (prog.sig i) 0 (.ins 0 fs) = some true := rfl
theorem w5 : Keep 5 2 ["self", "other"] b5 S5 := by
  rintro vs st Q Xx ⟨p, q, rfl, k⟩
  refine ⟨rfl, ?_⟩
  simp only [b5, prt, fT, fB, isiP, datum, shI, eqvI, wpB, wpS, wpAs, wpE, wpT, isPk, prS, Env.get, Env.put, Env.puts, Env.frz, asg, truth, env0, envI, List.map_cons, List.map_nil, List.length_cons, List.length_nil, List.cons_append, List.nil_append, List.getElem?_cons_zero, List.getElem?_cons_succ, List.set_cons_zero, List.set_cons_succ, Option.isSome_some, true_and, List.replicate_succ, List.replicate_zero, Nat.sub_self, Nat.reduceSub, Nat.reduceAdd, List.append_nil, List.nil_append, Nat.zero_add]
  cases e : (p.1 == q.1) with
  | true => rw [e] at k; exact k
  | false => rw [e] at k; exact k
end RF.K3

end
section
set_option maxRecDepth 100000
set_option maxHeartbeats 1000000
/-! Sums, the box. -/
namespace RF.K3
open PySem L2
theorem loopL_pre {α β : Type} {step : α → β → (β → Prop) → Prop} {xs : List α} {Qf : β → Prop} (P : List α → β → Prop) (hstep : ∀ done a rest b (K : β → Prop), xs = done ++ a :: rest → P done b → (∀ b', P (done ++ [a]) b' → K b') → step a b K) :
    ∀ rest done b, xs = done ++ rest → P done b → (∀ b', P xs b' → Qf b') → loopL step rest b Qf
  | [], done, b, e, h, hq => by
    rw [List.append_nil] at e
    subst e
    exact hq b h
  | a :: rest, done, b, e, h, hq => hstep done a rest b _ e h fun b' h' => loopL_pre P hstep rest (done ++ [a]) b' (by rw [e, List.append_assoc]; rfl) h' hq
theorem loopL_by {α β : Type} {step : α → β → (β → Prop) → Prop} {xs : List α} {Qf : β → Prop} {b : β} (P : List α → β → Prop) (h0 : P [] b) (hstep : ∀ done a rest b (K : β → Prop), xs = done ++ a :: rest → P done b → (∀ b', P (done ++ [a]) b' → K b') → step a b K)
    (hq : ∀ b', P xs b' → Qf b') : loopL step xs b Qf := loopL_pre P hstep xs [] b rfl h0 hq
theorem map_split {α β : Type} {f : α → β} : ∀ {l : List α} {d : List β} {a : β} {r : List β}, l.map f = d ++ a :: r → ∃ l1 x l2, l = l1 ++ x :: l2 ∧ d = l1.map f ∧ a = f x ∧ r = l2.map f
  | [], d, a, r, h => by cases d <;> cases h
  | x :: l, [], a, r, h => by
    cases h
    exact ⟨[], x, l, rfl, rfl, rfl, rfl⟩
  | x :: l, e :: d, a, r, h => by
    obtain ⟨h1, h2⟩ := List.cons.inj h
    obtain ⟨l1, y, l2, e1, e2, e3, e4⟩ := map_split h2
    exact ⟨x :: l1, y, l2, by rw [e1]; rfl, by rw [← h1, e2]; rfl, e3, e4⟩
def b6 : List Sm := [.asg (.nm 2) (.make 0 [(.cst (.int (0)))] [(.int (1))]),
  .for (.nm 3) .seq [(.var 1)] [.asg (.nm 2) (.pr .add [(.pk 2), (.pk 3)])],
  .ret (.var 2)]
theorem foldl_bd {k : Nat} : ∀ {l : List (Int × Int)} {n : Nat} {p : Int × Int}, (∀ q ∈ l, Bd k q) → Bd n p → Bd (n + l.length * (k + 1)) (l.foldl plusP p)
  | [], n, p, _, h => by simpa using h
  | q :: l, n, p, hl, h => by
    have z := foldl_bd (l := l) (fun r hr => hl r (List.mem_cons_of_mem _ hr)) (h.plus (hl q List.mem_cons_self))
    refine z.mono ?_
    rw [List.length_cons, Nat.succ_mul]
    omega
theorem bd01 : Bd 1 (0, 1) := ⟨by decide, by decide, by decide⟩
theorem w6 : Keep 6 2 ["cls", "parts", "found", "part"] b6 S6 := by
  rintro vs st Q Xx ⟨l, k, hv, hl, hn, hk, q⟩
  have key : ∀ (v : PV), items .seq [v] st = some (l.map prt) → wpB (prog.sig 6) (fun e env => Xx e env.st) b6 { nx := fun env => Q .non env.st, rt := Q } (env0 ["cls", "parts", "found", "part"] [.cls 0, v] st) := by
    intro v hit
    simp only [b6, wpB, wpS, wpAs, wpE, wpT, isPk, prS, Env.get, Env.put, Env.puts, Env.frz, asg, truth, env0, envI, List.map_cons, List.map_nil, List.length_cons, List.length_nil, List.cons_append, List.nil_append, List.getElem?_cons_zero, List.getElem?_cons_succ, List.set_cons_zero, List.set_cons_succ, Option.isSome_some, true_and, List.replicate_succ, List.replicate_zero, Nat.sub_self, Nat.reduceSub, Nat.reduceAdd, List.append_nil, List.nil_append, Nat.zero_add]
    refine ⟨0, 1, rfl, by decide, by decide, ?_⟩
    rw [lo_zero]
    simp only [hit, mapM2, wpB, wpS, wpAs, wpE, wpT, isPk, prS, Env.get, Env.put, Env.puts, Env.frz, asg, truth, env0, envI, List.map_cons, List.map_nil, List.length_cons, List.length_nil, List.cons_append, List.nil_append, List.getElem?_cons_zero, List.getElem?_cons_succ, List.set_cons_zero, List.set_cons_succ, Option.isSome_some, true_and, List.replicate_succ, List.replicate_zero, Nat.sub_self, Nat.reduceSub, Nat.reduceAdd, List.append_nil, List.nil_append, Nat.zero_add]
    refine loopL_by (fun done e => ∃ (ls : List (Int × Int)) (u : SV), done = ls.map prt ∧ e = ⟨[.val (.cls 0), .val v, .val (prt (ls.foldl plusP (0, 1))), u], st⟩) ⟨[], .no, rfl, rfl⟩ ?_ ?_
    · rintro done a rest e K hs ⟨ls, u, hd, rfl⟩ hK
      obtain ⟨l1, x, l2, e1, e2, e3, e4⟩ := map_split hs
      have hls : ls = l1 := by
        have z : ls.map prt = l1.map prt := hd.symm.trans e2
        have inj : ∀ a b : Int × Int, prt a = prt b → a = b := fun a b h => by
          have h : PV.ins 0 [.int a.1, .int a.2] = PV.ins 0 [.int b.1, .int b.2] := h
          injection h with _ h
          injection h with h1 h2
          injection h2 with h2 _
          injection h1 with h1
          injection h2 with h2
          exact Prod.ext h1 h2
        exact (List.map_inj_right inj).mp z
      subst hls
      subst e3
      simp only [wpB, wpS, wpAs, wpE, wpT, isPk, prS, Env.get, Env.put, Env.puts, Env.frz, asg, truth, env0, envI, List.map_cons, List.map_nil, List.length_cons, List.length_nil, List.cons_append, List.nil_append, List.getElem?_cons_zero, List.getElem?_cons_succ, List.set_cons_zero, List.set_cons_succ, Option.isSome_some, true_and, List.replicate_succ, List.replicate_zero, Nat.sub_self, Nat.reduceSub, Nat.reduceAdd, List.append_nil, List.nil_append, Nat.zero_add]
      have hx : x ∈ l := by rw [e1]; simp
      have hln : ls.length < l.length := by rw [e1]; simp
      have hb : Bd 1900 (ls.foldl plusP (0, 1)) := (foldl_bd (fun r hr => hl r (by rw [e1]; simp [hr])) bd01).mono (by
        have : ls.length * (k + 1) ≤ l.length * (k + 1) := Nat.mul_le_mul_right _ (Nat.le_of_lt hln)
        omega)
      simp only [prt, wpB, wpS, wpAs, wpE, wpT, isPk, prS, Env.get, Env.put, Env.puts, Env.frz, asg, truth, env0, envI, List.map_cons, List.map_nil, List.length_cons, List.length_nil, List.cons_append, List.nil_append, List.getElem?_cons_zero, List.getElem?_cons_succ, List.set_cons_zero, List.set_cons_succ, Option.isSome_some, true_and, List.replicate_succ, List.replicate_zero, Nat.sub_self, Nat.reduceSub, Nat.reduceAdd, List.append_nil, List.nil_append, Nat.zero_add]
      refine ⟨_, _, rfl, hb, (hl x hx).mono (by omega), ?_⟩
      exact hK _ ⟨ls ++ [x], .val (prt x), by rw [List.map_append, e2]; rfl, by rw [List.foldl_append]; rfl⟩
    · rintro e ⟨ls, u, hd, rfl⟩
      have hls : ls = l := by
        have inj : ∀ a b : Int × Int, prt a = prt b → a = b := fun a b h => by
          have h : PV.ins 0 [.int a.1, .int a.2] = PV.ins 0 [.int b.1, .int b.2] := h
          injection h with _ h
          injection h with h1 h2
          injection h2 with h2 _
          injection h1 with h1
          injection h2 with h2
          exact Prod.ext h1 h2
        exact ((List.map_inj_right inj).mp hd).symm
      subst hls
      simp only [wpB, wpS, wpAs, wpE, wpT, isPk, prS, Env.get, Env.put, Env.puts, Env.frz, asg, truth, env0, envI, List.map_cons, List.map_nil, List.length_cons, List.length_nil, List.cons_append, List.nil_append, List.getElem?_cons_zero, List.getElem?_cons_succ, List.set_cons_zero, List.set_cons_succ, Option.isSome_some, true_and, List.replicate_succ, List.replicate_zero, Nat.sub_self, Nat.reduceSub, Nat.reduceAdd, List.append_nil, List.nil_append, Nat.zero_add]
      exact q
  rcases hv with rfl | rfl
  · exact ⟨rfl, key _ rfl⟩
  · exact ⟨rfl, key _ rfl⟩
def b9 : List Sm := [.par [2, 3] [(.pr .abs [(.pk 0)]), (.pr .abs [(.pk 1)])],
  .whl (.pr .gt [(.pk 3), (.cst (.int (0)))]) [.par [2, 3] [(.var 3), (.pr .mod [(.pk 2), (.pk 3)])]],
  .asg (.nm 4) (.ite (.pr .gt [(.pk 1), (.cst (.int (0)))]) (.var 2) (.pr .sub [(.cst (.int (0))), (.pk 2)])),
  .ret (.pr .tup [(.pr .fdiv [(.pk 0), (.pk 4)]), (.pr .fdiv [(.pk 1), (.pk 4)])])]
theorem w9 : Keep 9 2 ["_law_top", "_law_bottom", "_law_a", "_law_b", "_law_shared"] b9 S9 := by
  rintro vs st Q Xx ⟨a, b, rfl, h0, h1, q⟩
  refine ⟨rfl, ?_⟩
  simp only [b9, wpB, wpS, wpAs, wpE, wpT, isPk, prS, Env.get, Env.put, Env.puts, Env.frz, asg, truth, env0, envI, List.map_cons, List.map_nil, List.length_cons, List.length_nil, List.cons_append, List.nil_append, List.getElem?_cons_zero, List.getElem?_cons_succ, List.set_cons_zero, List.set_cons_succ, Option.isSome_some, true_and, List.replicate_succ, List.replicate_zero, Nat.sub_self, Nat.reduceSub, Nat.reduceAdd, List.append_nil, List.nil_append, Nat.zero_add]
  refine ⟨fun m e => ∃ x : Nat, e = ⟨[.val (.int a), .val (.int b), .val (.int x), .val (.int m), .no], st⟩ ∧ Nat.gcd x m = Int.gcd a b, ⟨b.natAbs, a.natAbs, by rw [absI, absI], rfl⟩, ?_⟩
  rintro m e ⟨x, rfl, g⟩
  simp only [wpB, wpS, wpAs, wpE, wpT, isPk, prS, Env.get, Env.put, Env.puts, Env.frz, asg, truth, env0, envI, List.map_cons, List.map_nil, List.length_cons, List.length_nil, List.cons_append, List.nil_append, List.getElem?_cons_zero, List.getElem?_cons_succ, List.set_cons_zero, List.set_cons_succ, Option.isSome_some, true_and, List.replicate_succ, List.replicate_zero, Nat.sub_self, Nat.reduceSub, Nat.reduceAdd, List.append_nil, List.nil_append, Nat.zero_add]
  by_cases hm : 0 < m
  · have e1 : decide ((0 : Int) < (m : Int)) = true := decide_eq_true (by omega)
    rw [e1]
    simp only [wpB, wpS, wpAs, wpE, wpT, isPk, prS, Env.get, Env.put, Env.puts, Env.frz, asg, truth, env0, envI, List.map_cons, List.map_nil, List.length_cons, List.length_nil, List.cons_append, List.nil_append, List.getElem?_cons_zero, List.getElem?_cons_succ, List.set_cons_zero, List.set_cons_succ, Option.isSome_some, true_and, List.replicate_succ, List.replicate_zero, Nat.sub_self, Nat.reduceSub, Nat.reduceAdd, List.append_nil, List.nil_append, Nat.zero_add]
    refine ⟨by omega, x % m, Nat.mod_lt _ hm, m, by rw [fmod_nat], ?_⟩
    rw [← g, Nat.gcd_comm x m, Nat.gcd_rec m x, Nat.gcd_comm]
  · have e1 : decide ((0 : Int) < (m : Int)) = false := decide_eq_false (by omega)
    rw [e1]
    simp only [wpB, wpS, wpAs, wpE, wpT, isPk, prS, Env.get, Env.put, Env.puts, Env.frz, asg, truth, env0, envI, List.map_cons, List.map_nil, List.length_cons, List.length_nil, List.cons_append, List.nil_append, List.getElem?_cons_zero, List.getElem?_cons_succ, List.set_cons_zero, List.set_cons_succ, Option.isSome_some, true_and, List.replicate_succ, List.replicate_zero, Nat.sub_self, Nat.reduceSub, Nat.reduceAdd, List.append_nil, List.nil_append, Nat.zero_add]
    have : m = 0 := by omega
    subst this
    rw [Nat.gcd_zero_right] at g
    rw [g]
    have dv := divOk_gcd (t := a) h0 h1 (by decide) (by decide)
    have q' : ∀ x y, x = (lo a b).1 → y = (lo a b).2 → Q (.tup [.int x, .int y]) st := fun x y e1 e2 => by rw [e1, e2]; exact q
    unfold lo at q'
    have s2 : 2 ≤ sizeLine := by decide
    by_cases hb : b < 0
    · have hb2 : decide (0 < b) = false := decide_eq_false (by omega)
      have e3 : (0 : Int) - (Int.gcd a b : Int) = -(Int.gcd a b : Int) := by omega
      simp only [hb, if_true] at dv q'
      simp only [hb2, e3, wpB, wpS, wpAs, wpE, wpT, isPk, prS, Env.get, Env.put, Env.puts, Env.frz, asg, truth, env0, envI, List.map_cons, List.map_nil, List.length_cons, List.length_nil, List.cons_append, List.nil_append, List.getElem?_cons_zero, List.getElem?_cons_succ, List.set_cons_zero, List.set_cons_succ, Option.isSome_some, true_and, List.replicate_succ, List.replicate_zero, Nat.sub_self, Nat.reduceSub, Nat.reduceAdd, List.append_nil, List.nil_append, Nat.zero_add]
      exact ⟨dv, dv, s2, q' _ _ rfl rfl⟩
    · have hb2 : decide (0 < b) = true := decide_eq_true (by omega)
      simp only [hb, if_false] at dv q'
      simp only [hb2, wpB, wpS, wpAs, wpE, wpT, isPk, prS, Env.get, Env.put, Env.puts, Env.frz, asg, truth, env0, envI, List.map_cons, List.map_nil, List.length_cons, List.length_nil, List.cons_append, List.nil_append, List.getElem?_cons_zero, List.getElem?_cons_succ, List.set_cons_zero, List.set_cons_succ, Option.isSome_some, true_and, List.replicate_succ, List.replicate_zero, Nat.sub_self, Nat.reduceSub, Nat.reduceAdd, List.append_nil, List.nil_append, Nat.zero_add]
      exact ⟨dv, dv, s2, q' _ _ rfl rfl⟩
end RF.K3

end
section
set_option maxRecDepth 100000
set_option maxHeartbeats 1000000
/-! The box, drawn numbers. -/
namespace RF.K3
open PySem L2
theorem mulL {x y : Int} (h : x.natAbs < 2 ^ 64) : MulOk x y := .inl (.inl h)
theorem mulR {x y : Int} (h : y.natAbs < 2 ^ 64) : MulOk x y := .inl (.inr h)
theorem divC {y : Int} (h : y ≠ 0) (h2 : y.natAbs < 2 ^ 200) : DivOk y := ⟨h, by have := log_lt h2 (by decide); omega⟩
theorem ixN_nat {n : Nat} {i : Int} (h0 : 0 ≤ i) (h1 : i < n) : L2.ixN n i = some i.toNat := by
  unfold L2.ixN
  rw [if_pos h0, if_pos h1]
theorem pIdx_ints {ns : List Int} {i : Int} (h0 : 0 ≤ i) (h1 : i < ns.length) : ∃ x : Int, pIdx (ns.map PV.int) i = some (.int x) := by
  unfold pIdx L2.atI
  rw [List.length_map, ixN_nat h0 h1]
  have hl : i.toNat < ns.length := by omega
  exact ⟨ns[i.toNat], by show (ns.map PV.int)[i.toNat]? = _; rw [List.getElem?_map, List.getElem?_eq_getElem hl]; rfl⟩
def b7 : List Sm := [.asg (.nm 2) (.pr .add [(.pr .mul [(.cst (.int (6421))), (.pk 1)]), (.cst (.int (59)))]),
  .ite (.pr .lt [(.pk 1), (.pr .len [(.pk 0)])]) [.asg (.nm 2) (.pr .idx [(.pk 0), (.pk 1)])] [.ite (.pr .gt [(.pr .len [(.pk 0)]), (.cst (.int (0)))]) [.asg (.nm 2) (.pr .add [(.pk 2), (.pr .mul [(.pr .mod [(.pr .idx [(.pk 0), (.pr .mod [(.pk 1), (.pr .len [(.pk 0)])])]), (.cst (.int (2147483629)))]), (.cst (.int (69557)))])])] []],
  .asg (.nm 3) (.pr .add [(.pr .mod [(.pr .add [(.pr .add [(.pr .mul [(.pr .mod [(.pk 2), (.cst (.int (2147483629)))]), (.cst (.int (48271)))]), (.pr .mul [(.cst (.int (40829))), (.pk 1)])]), (.cst (.int (11)))]), (.cst (.int (2147483629)))]), (.cst (.int (1)))]),
  .retc (.pr .lst [(.pr .idx [(.pr .lst [(.cst (.int (0))), (.var 2)]), (.pr .int1 [(.pr .ge [(.pk 2), (.pr .pow [(.cst (.int (10))), (.cst (.int (18)))])])])]), (.var 3), (.cst (.int (0)))])]
def b7t : List Sm := [.asg (.nm 3) (.pr .add [(.pr .mod [(.pr .add [(.pr .add [(.pr .mul [(.pr .mod [(.pk 2), (.cst (.int (2147483629)))]), (.cst (.int (48271)))]), (.pr .mul [(.cst (.int (40829))), (.pk 1)])]), (.cst (.int (11)))]), (.cst (.int (2147483629)))]), (.cst (.int (1)))]),
  .retc (.pr .lst [(.pr .idx [(.pr .lst [(.cst (.int (0))), (.var 2)]), (.pr .int1 [(.pr .ge [(.pk 2), (.pr .pow [(.cst (.int (10))), (.cst (.int (18)))])])])]), (.var 3), (.cst (.int (0)))])]
theorem idx01 (a b : PV) (k : Bool) : ∃ v, pIdx [a, b] (if k = true then 1 else 0) = some v ∧ (v = a ∨ v = b) := by
  cases k
  · exact ⟨a, rfl, .inl rfl⟩
  · exact ⟨b, rfl, .inr rfl⟩
theorem asLl (st : Store) (xs : List PV) : RF.asL st (.lst xs) = some xs := rfl
theorem asLr (st : Store) (xs : List PV) : RF.asL st (.rol xs) = some xs := rfl
theorem w7t {st : Store} {Q : PV → Store → Prop} {Xx : Exc → Env → Prop} {nx : Env → Prop} (i : Nat) (v0 : PV) (k c : Int) (q : ∀ a b c : Int, Q (.ref st.length) (st ++ [.lst [.int a, .int b, .int c]])) :
    wpB (prog.sig i) Xx b7t { nx := nx, rt := Q } ⟨[.val v0, .val (.int k), .val (.int c), .no], st⟩ := by
  simp only [b7t, asLl, wpB, wpS, wpAs, wpE, wpT, isPk, prS, Env.get, Env.put, Env.puts, Env.frz, asg, truth, env0, envI, List.map_cons, List.map_nil, List.length_cons, List.length_nil, List.cons_append, List.nil_append, List.getElem?_cons_zero, List.getElem?_cons_succ, List.set_cons_zero, List.set_cons_succ, Option.isSome_some, true_and, List.replicate_succ, List.replicate_zero, Nat.sub_self, Nat.reduceSub, Nat.reduceAdd, List.append_nil, List.nil_append, Nat.zero_add]
  refine ⟨by decide, mulR (by decide), mulL (by decide), by decide, by decide, ⟨by decide, by decide, by decide⟩, ?_⟩
  obtain ⟨v, e, h⟩ := idx01 (.int 0) (.int c) (decide (10 ^ (18 : Int).toNat ≤ c))
  rw [e]
  rcases h with h | h
  · subst h
    simp only [wpB, wpS, wpAs, wpE, wpT, isPk, prS, Env.get, Env.put, Env.puts, Env.frz, asg, truth, env0, envI, List.map_cons, List.map_nil, List.length_cons, List.length_nil, List.cons_append, List.nil_append, List.getElem?_cons_zero, List.getElem?_cons_succ, List.set_cons_zero, List.set_cons_succ, Option.isSome_some, true_and, List.replicate_succ, List.replicate_zero, Nat.sub_self, Nat.reduceSub, Nat.reduceAdd, List.append_nil, List.nil_append, Nat.zero_add]
    exact ⟨by decide, q _ _ _⟩
  · subst h
    simp only [wpB, wpS, wpAs, wpE, wpT, isPk, prS, Env.get, Env.put, Env.puts, Env.frz, asg, truth, env0, envI, List.map_cons, List.map_nil, List.length_cons, List.length_nil, List.cons_append, List.nil_append, List.getElem?_cons_zero, List.getElem?_cons_succ, List.set_cons_zero, List.set_cons_succ, Option.isSome_some, true_and, List.replicate_succ, List.replicate_zero, Nat.sub_self, Nat.reduceSub, Nat.reduceAdd, List.append_nil, List.nil_append, Nat.zero_add]
    exact ⟨by decide, q _ _ _⟩
theorem w7 : Keep 7 2 ["_law_script", "_law_k", "_law_cell", "_law_seed"] b7 S7 := by
  rintro vs st Q Xx ⟨ns, k, rfl, q⟩
  refine ⟨rfl, ?_⟩
  have tail := fun c => w7t (Xx := fun e env => Xx e env.st) (nx := fun env => Q .non env.st) 7 (.rol (ns.map PV.int)) k c q
  have e7 : b7 = [.asg (.nm 2) (.pr .add [(.pr .mul [(.cst (.int (6421))), (.pk 1)]), (.cst (.int (59)))]),
    .ite (.pr .lt [(.pk 1), (.pr .len [(.pk 0)])]) [.asg (.nm 2) (.pr .idx [(.pk 0), (.pk 1)])] [.ite (.pr .gt [(.pr .len [(.pk 0)]), (.cst (.int (0)))]) [.asg (.nm 2) (.pr .add [(.pk 2), (.pr .mul [(.pr .mod [(.pr .idx [(.pk 0), (.pr .mod [(.pk 1), (.pr .len [(.pk 0)])])]), (.cst (.int (2147483629)))]), (.cst (.int (69557)))])])] []]] ++ b7t := rfl
  rw [e7]
  simp only [wpB, wpS, wpAs, wpE, wpT, isPk, prS, Env.get, Env.put, Env.puts, Env.frz, asg, truth, env0, envI, List.map_cons, List.map_nil, List.length_cons, List.length_nil, List.cons_append, List.nil_append, List.getElem?_cons_zero, List.getElem?_cons_succ, List.set_cons_zero, List.set_cons_succ, Option.isSome_some, true_and, List.replicate_succ, List.replicate_zero, Nat.sub_self, Nat.reduceSub, Nat.reduceAdd, List.append_nil, List.nil_append, Nat.zero_add, asLr, List.length_map]
  refine ⟨mulL (by decide), ?_⟩
  by_cases h1 : (k : Int) < (ns.length : Int)
  · rw [decide_eq_true h1]
    obtain ⟨x, ex⟩ := pIdx_ints (ns := ns) (i := (k : Int)) (by omega) h1
    simp only [ex, wpB, wpS, wpAs, wpE, wpT, isPk, prS, Env.get, Env.put, Env.puts, Env.frz, asg, truth, env0, envI, List.map_cons, List.map_nil, List.length_cons, List.length_nil, List.cons_append, List.nil_append, List.getElem?_cons_zero, List.getElem?_cons_succ, List.set_cons_zero, List.set_cons_succ, Option.isSome_some, true_and, List.replicate_succ, List.replicate_zero, Nat.sub_self, Nat.reduceSub, Nat.reduceAdd, List.append_nil, List.nil_append, Nat.zero_add]
    exact tail x
  · rw [decide_eq_false h1]
    by_cases h2 : (0 : Int) < (ns.length : Int)
    · simp only [decide_eq_true h2, wpB, wpS, wpAs, wpE, wpT, isPk, prS, Env.get, Env.put, Env.puts, Env.frz, asg, truth, env0, envI, List.map_cons, List.map_nil, List.length_cons, List.length_nil, List.cons_append, List.nil_append, List.getElem?_cons_zero, List.getElem?_cons_succ, List.set_cons_zero, List.set_cons_succ, Option.isSome_some, true_and, List.replicate_succ, List.replicate_zero, Nat.sub_self, Nat.reduceSub, Nat.reduceAdd, List.append_nil, List.nil_append, Nat.zero_add]
      refine ⟨by omega, ?_⟩
      have e1 : (k : Int).fmod (ns.length : Int) = ((k % ns.length : Nat) : Int) := fmod_nat _ _
      have hm : k % ns.length < ns.length := Nat.mod_lt _ (by omega)
      obtain ⟨x, ex⟩ := pIdx_ints (ns := ns) (i := ((k % ns.length : Nat) : Int)) (by omega) (by omega)
      rw [e1]
      simp only [ex, wpB, wpS, wpAs, wpE, wpT, isPk, prS, Env.get, Env.put, Env.puts, Env.frz, asg, truth, env0, envI, List.map_cons, List.map_nil, List.length_cons, List.length_nil, List.cons_append, List.nil_append, List.getElem?_cons_zero, List.getElem?_cons_succ, List.set_cons_zero, List.set_cons_succ, Option.isSome_some, true_and, List.replicate_succ, List.replicate_zero, Nat.sub_self, Nat.reduceSub, Nat.reduceAdd, List.append_nil, List.nil_append, Nat.zero_add]
      exact ⟨by decide, mulR (by decide), tail _⟩
    · simp only [decide_eq_false h2, wpB, wpS, wpAs, wpE, wpT, isPk, prS, Env.get, Env.put, Env.puts, Env.frz, asg, truth, env0, envI, List.map_cons, List.map_nil, List.length_cons, List.length_nil, List.cons_append, List.nil_append, List.getElem?_cons_zero, List.getElem?_cons_succ, List.set_cons_zero, List.set_cons_succ, Option.isSome_some, true_and, List.replicate_succ, List.replicate_zero, Nat.sub_self, Nat.reduceSub, Nat.reduceAdd, List.append_nil, List.nil_append, Nat.zero_add]
      exact tail _
def b8 : List Sm := [.ite (.pr .gt [(.pr .idx [(.pk 0), (.cst (.int (0)))]), (.cst (.int (0)))]) [.asg (.nm 2) (.pr .mod [(.pr .idx [(.pk 0), (.cst (.int (0)))]), (.pk 1)]), .seti (.var 0) (.cst (.int (0))) (.pr .fdiv [(.pr .idx [(.pk 0), (.cst (.int (0)))]), (.pk 1)]), .ret (.var 2)] [],
  .seti (.var 0) (.cst (.int (2))) (.pr .add [(.pr .idx [(.pk 0), (.cst (.int (2)))]), (.cst (.int (1)))]),
  .asg (.nm 3) (.pr .mod [(.pr .mul [(.pr .add [(.pr .idx [(.pk 0), (.cst (.int (1)))]), (.pr .mul [(.cst (.int (104711))), (.pr .idx [(.pk 0), (.cst (.int (2)))])])]), (.cst (.int (69691)))]), (.cst (.int (2147483647)))]),
  .seti (.var 0) (.cst (.int (1))) (.pr .add [(.pr .mod [(.pr .add [(.pr .mul [(.pk 3), (.cst (.int (48271)))]), (.cst (.int (30133)))]), (.cst (.int (2147483629)))]), (.cst (.int (1)))]),
  .ret (.pr .mod [(.pr .fdiv [(.pr .add [(.pr .mul [(.pk 3), (.cst (.int (2147483647)))]), (.pr .idx [(.pk 0), (.cst (.int (1)))])]), (.cst (.int (8209)))]), (.pk 1)])]
theorem asLj {st : Store} {j : Nat} {xs : List PV} (h : st[j]? = some (.lst xs)) : RF.asL st (.ref j) = some xs := by
  simp only [RF.asL, h]
theorem setj {st : Store} {j : Nat} {xs : List PV} {n : Int} {v : PV} {k : Nat} (h : st[j]? = some (.lst xs)) (hk : L2.ixN xs.length n = some k) : RF.seti (.ref j) (.int n) v st = some (st.set j (.lst (xs.set k v))) := by
  unfold RF.seti
  simp only [h, hk]
theorem get_set {st : Store} {j : Nat} {x y : PV} (h : st[j]? = some x) : (st.set j y)[j]? = some y := by
  rw [List.getElem?_set_self (List.getElem?_eq_some_iff.mp h).1]
theorem fmod_in {r m : Int} (h : 0 < m) : 0 ≤ r.fmod m ∧ r.fmod m < m := by
  rw [Int.fmod_eq_emod_of_nonneg _ (Int.le_of_lt h)]
  exact ⟨Int.emod_nonneg _ (by omega), Int.emod_lt_of_pos _ h⟩
theorem p30 (a b c : PV) : pIdx [a, b, c] 0 = some a ∧ pIdx [a, b, c] 1 = some b ∧ pIdx [a, b, c] 2 = some c := ⟨rfl, rfl, rfl⟩
theorem noCell (i : Ex) (h : isPk i = none) : True := trivial
theorem w8 : Keep 8 2 ["_law_box_here", "_law_many", "_law_digit", "_law_one"] b8 S8 := by
  rintro vs st Q Xx ⟨j, m, rfl, ⟨a, b, c, hj⟩, h0, h1, q⟩
  refine ⟨rfl, ?_⟩
  have m0 : m ≠ 0 := by omega
  have dv : DivOk m := divC m0 h1
  obtain ⟨p0, p1, p2⟩ := p30 (.int a) (.int b) (.int c)
  simp only [b8, wpB, wpS, wpAs, wpE, wpT, isPk, prS, Env.get, Env.put, Env.puts, Env.frz, asg, truth, env0, envI, List.map_cons, List.map_nil, List.length_cons, List.length_nil, List.cons_append, List.nil_append, List.getElem?_cons_zero, List.getElem?_cons_succ, List.set_cons_zero, List.set_cons_succ, Option.isSome_some, true_and, List.replicate_succ, List.replicate_zero, Nat.sub_self, Nat.reduceSub, Nat.reduceAdd, List.append_nil, List.nil_append, Nat.zero_add, asLj hj, p0]
  by_cases ha : 0 < a
  · simp only [decide_eq_true ha, wpB, wpS, wpAs, wpE, wpT, isPk, prS, Env.get, Env.put, Env.puts, Env.frz, asg, truth, env0, envI, List.map_cons, List.map_nil, List.length_cons, List.length_nil, List.cons_append, List.nil_append, List.getElem?_cons_zero, List.getElem?_cons_succ, List.set_cons_zero, List.set_cons_succ, Option.isSome_some, true_and, List.replicate_succ, List.replicate_zero, Nat.sub_self, Nat.reduceSub, Nat.reduceAdd, List.append_nil, List.nil_append, Nat.zero_add, asLj hj, p0]
    refine ⟨m0, dv, ?_⟩
    rw [setj hj (show L2.ixN 3 0 = some 0 from rfl)]
    simp only [wpB, wpS, wpAs, wpE, wpT, isPk, prS, Env.get, Env.put, Env.puts, Env.frz, asg, truth, env0, envI, List.map_cons, List.map_nil, List.length_cons, List.length_nil, List.cons_append, List.nil_append, List.getElem?_cons_zero, List.getElem?_cons_succ, List.set_cons_zero, List.set_cons_succ, Option.isSome_some, true_and, List.replicate_succ, List.replicate_zero, Nat.sub_self, Nat.reduceSub, Nat.reduceAdd, List.append_nil, List.nil_append, Nat.zero_add]
    obtain ⟨r0, r1⟩ := fmod_in (r := a) h0
    exact q _ _ r0 r1 ⟨_, _, _, get_set hj⟩
  · simp only [decide_eq_false ha, wpB, wpS, wpAs, wpE, wpT, isPk, prS, Env.get, Env.put, Env.puts, Env.frz, asg, truth, env0, envI, List.map_cons, List.map_nil, List.length_cons, List.length_nil, List.cons_append, List.nil_append, List.getElem?_cons_zero, List.getElem?_cons_succ, List.set_cons_zero, List.set_cons_succ, Option.isSome_some, true_and, List.replicate_succ, List.replicate_zero, Nat.sub_self, Nat.reduceSub, Nat.reduceAdd, List.append_nil, List.nil_append, Nat.zero_add, asLj hj, p2]
    rw [setj hj (show L2.ixN 3 2 = some 2 from rfl)]
    have hj2 := get_set (y := .lst [.int a, .int b, .int (c + 1)]) hj
    obtain ⟨s0, s1, s2⟩ := p30 (.int a) (.int b) (.int (c + 1))
    simp only [wpB, wpS, wpAs, wpE, wpT, isPk, prS, Env.get, Env.put, Env.puts, Env.frz, asg, truth, env0, envI, List.map_cons, List.map_nil, List.length_cons, List.length_nil, List.cons_append, List.nil_append, List.getElem?_cons_zero, List.getElem?_cons_succ, List.set_cons_zero, List.set_cons_succ, Option.isSome_some, true_and, List.replicate_succ, List.replicate_zero, Nat.sub_self, Nat.reduceSub, Nat.reduceAdd, List.append_nil, List.nil_append, Nat.zero_add, asLj hj2, s1, s2]
    refine ⟨mulL (by decide), mulR (by decide), by decide, mulR (by decide), by decide, ?_⟩
    rw [setj hj2 (show L2.ixN 3 1 = some 1 from rfl)]
    simp only [wpB, wpS, wpAs, wpE, wpT, isPk, prS, Env.get, Env.put, Env.puts, Env.frz, asg, truth, env0, envI, List.map_cons, List.map_nil, List.length_cons, List.length_nil, List.cons_append, List.nil_append, List.getElem?_cons_zero, List.getElem?_cons_succ, List.set_cons_zero, List.set_cons_succ, Option.isSome_some, true_and, List.replicate_succ, List.replicate_zero, Nat.sub_self, Nat.reduceSub, Nat.reduceAdd, List.append_nil, List.nil_append, Nat.zero_add]
    have hj3 := fun v : Int => get_set (y := .lst [.int a, .int v, .int (c + 1)]) hj2
    simp only [asLj (hj3 _), (p30 _ _ _).2.1, wpB, wpS, wpAs, wpE, wpT, isPk, prS, Env.get, Env.put, Env.puts, Env.frz, asg, truth, env0, envI, List.map_cons, List.map_nil, List.length_cons, List.length_nil, List.cons_append, List.nil_append, List.getElem?_cons_zero, List.getElem?_cons_succ, List.set_cons_zero, List.set_cons_succ, Option.isSome_some, true_and, List.replicate_succ, List.replicate_zero, Nat.sub_self, Nat.reduceSub, Nat.reduceAdd, List.append_nil, List.nil_append, Nat.zero_add]
    refine ⟨mulR (by decide), divC (by decide) (by decide), m0, ?_⟩
    obtain ⟨r0, r1⟩ := fmod_in (r := ((((b + 104711 * (c + 1)) * 69691).fmod 2147483647 * 2147483647 + ((((b + 104711 * (c + 1)) * 69691).fmod 2147483647 * 48271 + 30133).fmod 2147483629 + 1)).fdiv 8209)) h0
    exact q _ _ r0 r1 ⟨_, _, _, hj3 _⟩
end RF.K3

end
section
set_option maxRecDepth 100000
set_option maxHeartbeats 1000000
/-! What the law's own defs answer. -/
namespace RF.K3
open PySem L2
theorem tp0 (p : Int × Int) : pIdx [PV.int p.1, PV.int p.2] 0 = some (.int p.1) ∧ pIdx [PV.int p.1, PV.int p.2] 1 = some (.int p.2) := ⟨rfl, rfl⟩
def b10 : List Sm := [.ret (.call 9 [(.pr .add [(.pr .mul [(.pr .idx [(.pk 0), (.cst (.int (0)))]), (.pr .idx [(.pk 1), (.cst (.int (1)))])]), (.pr .mul [(.pr .idx [(.pk 1), (.cst (.int (0)))]), (.pr .idx [(.pk 0), (.cst (.int (1)))])])]), (.pr .mul [(.pr .idx [(.pk 0), (.cst (.int (1)))]), (.pr .idx [(.pk 1), (.cst (.int (1)))])])] [])]
theorem w10 : Keep 10 2 ["_law_one", "_law_other"] b10 S10 := by
  rintro vs st Q Xx ⟨p, q, rfl, h1, h2, k⟩
  refine ⟨rfl, ?_⟩
  obtain ⟨n1, n2, n3, n4⟩ := h1.num h2
  simp only [b10, tp, (tp0 p).1, (tp0 p).2, (tp0 q).1, (tp0 q).2, wpB, wpS, wpAs, wpE, wpT, isPk, prS, Env.get, Env.put, Env.puts, Env.frz, asg, truth, env0, envI, List.map_cons, List.map_nil, List.length_cons, List.length_nil, List.cons_append, List.nil_append, List.getElem?_cons_zero, List.getElem?_cons_succ, List.set_cons_zero, List.set_cons_succ, Option.isSome_some, true_and, List.replicate_succ, List.replicate_zero, Nat.sub_self, Nat.reduceSub, Nat.reduceAdd, List.append_nil, List.nil_append, Nat.zero_add]
  refine ⟨mulOk_of h1.2.1 h2.2.2 (by decide) (by decide) (by decide), mulOk_of h2.2.1 h1.2.2 (by decide) (by decide) (by decide), mulOk_of h1.2.2 h2.2.2 (by decide) (by decide) (by decide), ?_⟩
  exact ⟨_, _, rfl, h1.den h2, Nat.lt_of_lt_of_le n3 (Nat.pow_le_pow_right (by decide) (by decide)), k⟩
def b11 : List Sm := [.ret (.call 9 [(.pr .mul [(.pr .idx [(.pk 0), (.cst (.int (0)))]), (.pr .idx [(.pk 1), (.cst (.int (0)))])]), (.pr .mul [(.pr .idx [(.pk 0), (.cst (.int (1)))]), (.pr .idx [(.pk 1), (.cst (.int (1)))])])] [])]
theorem w11 : Keep 11 2 ["_law_one", "_law_other"] b11 S11 := by
  rintro vs st Q Xx ⟨p, q, rfl, h1, h2, k⟩
  refine ⟨rfl, ?_⟩
  obtain ⟨n1, n2, n3, n4⟩ := h1.num h2
  simp only [b11, tp, (tp0 p).1, (tp0 p).2, (tp0 q).1, (tp0 q).2, wpB, wpS, wpAs, wpE, wpT, isPk, prS, Env.get, Env.put, Env.puts, Env.frz, asg, truth, env0, envI, List.map_cons, List.map_nil, List.length_cons, List.length_nil, List.cons_append, List.nil_append, List.getElem?_cons_zero, List.getElem?_cons_succ, List.set_cons_zero, List.set_cons_succ, Option.isSome_some, true_and, List.replicate_succ, List.replicate_zero, Nat.sub_self, Nat.reduceSub, Nat.reduceAdd, List.append_nil, List.nil_append, Nat.zero_add]
  refine ⟨mulOk_of h1.2.1 h2.2.1 (by decide) (by decide) (by decide), mulOk_of h1.2.2 h2.2.2 (by decide) (by decide) (by decide), ?_⟩
  exact ⟨_, _, rfl, h1.den h2, Nat.lt_of_lt_of_le n3 (Nat.pow_le_pow_right (by decide) (by decide)), k⟩
def b12 : List Sm := [.ret (.and (.pr .isi [(.pk 0), (.cst (.cls 0))]) (.pr .eq [(.pr .repr1 [(.pr .tup [(.attr 14 (.var 0)), (.attr 15 (.var 0))])]), (.pr .repr1 [(.pk 1)])]))]
theorem show2 {a b : Int} (h1 : a.natAbs < 2 ^ 1900) (h2 : b.natAbs < 2 ^ 1900) : ((PyData.tuple [.int a, .int b]).showable = true ∧ (PyData.tuple [.int a, .int b]).hasDict = false ∧ (PyData.tuple [.int a, .int b]).depth ≤ 64) ∧ (PyData.tuple [.int a, .int b]).shown.length ≤ sizeLine := by
  have l1 : a.natAbs.log2 < 1920 := Nat.lt_of_lt_of_le (log_lt h1 (by decide)) (by decide)
  have l2 : b.natAbs.log2 < 1920 := Nat.lt_of_lt_of_le (log_lt h2 (by decide)) (by decide)
  have t1 := PyProof.Rows.int_text_len_1921 l1
  have t2 := PyProof.Rows.int_text_len_1921 l2
  refine ⟨⟨?_, rfl, ?_⟩, ?_⟩
  · show (decide (a.natAbs.log2 < 1920) && (decide (b.natAbs.log2 < 1920) && true)) = true
    rw [decide_eq_true l1, decide_eq_true l2]
    rfl
  · exact Nat.le_of_ble_eq_true rfl
  · have e : (PyData.tuple [.int a, .int b]).shown = tupleText [Str.ofString (toString a), Str.ofString (toString b)] := rfl
    rw [e]
    refine Nat.le_trans (tupleText_len_le _) ?_
    have hs : sizeLine = 16777216 := sizeLine_eq
    simp only [List.map_cons, List.map_nil, List.sum_cons, List.sum_nil, List.length_cons, List.length_nil]
    omega
theorem data2 (a b : Int) : data [PV.int a, PV.int b] = some [.int a, .int b] := rfl
theorem eqvS (x : Str) : (x == x) = true := beq_self_eq_true x
theorem w12 : Keep 12 2 ["_law_part", "_law_pair"] b12 S12 := by
  rintro vs st Q Xx ⟨p, rfl, h, k⟩
  refine ⟨rfl, ?_⟩
  obtain ⟨s1, s2⟩ := show2 h.2.1 h.2.2
  simp only [b12, prt, tp, fT, fB, isiP, data2, datum, eqvS, wpB, wpS, wpAs, wpE, wpT, isPk, prS, Env.get, Env.put, Env.puts, Env.frz, asg, truth, env0, envI, List.map_cons, List.map_nil, List.length_cons, List.length_nil, List.cons_append, List.nil_append, List.getElem?_cons_zero, List.getElem?_cons_succ, List.set_cons_zero, List.set_cons_succ, Option.isSome_some, true_and, List.replicate_succ, List.replicate_zero, Nat.sub_self, Nat.reduceSub, Nat.reduceAdd, List.append_nil, List.nil_append, Nat.zero_add]
  exact ⟨by decide, s1, s2, s1, s2, k⟩
def b13 : List Sm := [.asg (.nm 1) (.call 8 [(.var 0), (.cst (.int (5)))] []),
  .ite (.pr .lt [(.pk 1), (.cst (.int (2)))]) [.ret (.pr .sub [(.call 8 [(.var 0), (.cst (.int (25)))] []), (.cst (.int (12)))])] [],
  .ite (.pr .eq [(.pk 1), (.cst (.int (2)))]) [.ret (.pr .sub [(.call 8 [(.var 0), (.cst (.int (2001)))] []), (.cst (.int (1000)))])] [],
  .ite (.pr .eq [(.pk 1), (.cst (.int (3)))]) [.ret (.pr .sub [(.call 8 [(.var 0), (.pr .pow [(.cst (.int (10))), (.cst (.int (12)))])] []), (.pr .mul [(.cst (.int (5))), (.pr .pow [(.cst (.int (10))), (.cst (.int (11)))])])])] [],
  .ret (.pr .mul [(.pr .add [(.call 8 [(.var 0), (.pr .pow [(.cst (.int (10))), (.cst (.int (30)))])] []), (.cst (.int (1)))]), (.pr .idx [(.pr .lst [(.cst (.int (1))), (.pr .sub [(.cst (.int (0))), (.cst (.int (1)))])]), (.call 8 [(.var 0), (.cst (.int (2)))] [])])])]
theorem small {x : Int} {m : Int} (h0 : 0 ≤ x) (h1 : x < m) (k : Int) (hk : 0 ≤ k) (hm : m + k < 2 ^ 100) : (x - k).natAbs < 2 ^ 100 := by omega
theorem idx2 {r : Int} (h0 : 0 ≤ r) (h1 : r < 2) (a b : PV) : ∃ v, pIdx [a, b] r = some v ∧ (v = a ∨ v = b) := by
  have : r = 0 ∨ r = 1 := by omega
  rcases this with rfl | rfl
  · exact ⟨a, rfl, .inl rfl⟩
  · exact ⟨b, rfl, .inr rfl⟩
theorem w13 : Keep 13 1 ["_law_box_here", "_law_form"] b13 S13 := by
  rintro vs st Q Xx ⟨j, rfl, hb, q⟩
  refine ⟨rfl, ?_⟩
  simp only [b13, wpB, wpS, wpAs, wpE, wpT, isPk, prS, Env.get, Env.put, Env.puts, Env.frz, asg, truth, env0, envI, List.map_cons, List.map_nil, List.length_cons, List.length_nil, List.cons_append, List.nil_append, List.getElem?_cons_zero, List.getElem?_cons_succ, List.set_cons_zero, List.set_cons_succ, Option.isSome_some, true_and, List.replicate_succ, List.replicate_zero, Nat.sub_self, Nat.reduceSub, Nat.reduceAdd, List.append_nil, List.nil_append, Nat.zero_add]
  refine ⟨j, 5, rfl, hb, by decide, by decide, fun r st1 r0 r1 hb1 => ?_⟩
  simp only [datum, shI, eqvI, asLl, wpB, wpS, wpAs, wpE, wpT, isPk, prS, Env.get, Env.put, Env.puts, Env.frz, asg, truth, env0, envI, List.map_cons, List.map_nil, List.length_cons, List.length_nil, List.cons_append, List.nil_append, List.getElem?_cons_zero, List.getElem?_cons_succ, List.set_cons_zero, List.set_cons_succ, Option.isSome_some, true_and, List.replicate_succ, List.replicate_zero, Nat.sub_self, Nat.reduceSub, Nat.reduceAdd, List.append_nil, List.nil_append, Nat.zero_add]
  by_cases c1 : r < 2
  · simp only [decide_eq_true c1]
    refine ⟨j, 25, rfl, hb1, by decide, by decide, fun x st2 x0 x1 hb2 => ?_⟩
    exact q _ _ (small x0 x1 12 (by decide) (by decide)) hb2
  · simp only [decide_eq_false c1]
    cases c2 : (r == 2) with
    | true =>
      simp only []
      refine ⟨j, 2001, rfl, hb1, by decide, by decide, fun x st2 x0 x1 hb2 => ?_⟩
      exact q _ _ (small x0 x1 1000 (by decide) (by decide)) hb2
    | false =>
      simp only []
      cases c3 : (r == 3) with
      | true =>
        simp only []
        refine ⟨⟨by decide, by decide, by decide⟩, j, _, rfl, hb1, by decide, by decide, fun x st2 x0 x1 hb2 => ?_⟩
        refine ⟨⟨by decide, by decide, by decide⟩, mulL (by decide), ?_⟩
        exact q _ _ (small x0 x1 _ (by decide) (by decide)) hb2
      | false =>
        simp only []
        refine ⟨⟨by decide, by decide, by decide⟩, j, _, rfl, hb1, by decide, by decide, fun x st2 x0 x1 hb2 => ?_⟩
        refine ⟨by decide, j, 2, rfl, hb2, by decide, by decide, fun y st3 y0 y1 hb3 => ?_⟩
        obtain ⟨v, e, h⟩ := idx2 y0 y1 (.int 1) (.int (0 - 1))
        have e10 : ((10 : Int) ^ (30 : Int).toNat) = 1000000000000000000000000000000 := by decide
        rw [e10] at x1
        have xb : (x + 1).natAbs < 2 ^ 100 := by omega
        simp only [asLl, e]
        rcases h with h | h
        · subst h
          refine ⟨mulR (by decide), q _ _ ?_ hb3⟩
          rw [Int.mul_one]
          exact xb
        · subst h
          refine ⟨mulR (by decide), q _ _ ?_ hb3⟩
          rw [Int.natAbs_mul]
          have : ((0 : Int) - 1).natAbs = 1 := by decide
          rw [this, Nat.mul_one]
          exact xb
def b14 : List Sm := [.ret (.pr .tup [(.call 13 [(.var 0)] []), (.or (.call 13 [(.var 0)] []) (.pr .add [(.cst (.int (1))), (.call 8 [(.var 0), (.cst (.int (12)))] [])]))])]
theorem w14 : Keep 14 1 ["_law_box_here"] b14 S14 := by
  rintro vs st Q Xx ⟨j, rfl, hb, q⟩
  refine ⟨rfl, ?_⟩
  simp only [b14, wpB, wpS, wpAs, wpE, wpT, isPk, prS, Env.get, Env.put, Env.puts, Env.frz, asg, truth, env0, envI, List.map_cons, List.map_nil, List.length_cons, List.length_nil, List.cons_append, List.nil_append, List.getElem?_cons_zero, List.getElem?_cons_succ, List.set_cons_zero, List.set_cons_succ, Option.isSome_some, true_and, List.replicate_succ, List.replicate_zero, Nat.sub_self, Nat.reduceSub, Nat.reduceAdd, List.append_nil, List.nil_append, Nat.zero_add]
  refine ⟨j, rfl, hb, fun x st1 hx hb1 => ?_⟩
  simp only [wpB, wpS, wpAs, wpE, wpT, isPk, prS, Env.get, Env.put, Env.puts, Env.frz, asg, truth, env0, envI, List.map_cons, List.map_nil, List.length_cons, List.length_nil, List.cons_append, List.nil_append, List.getElem?_cons_zero, List.getElem?_cons_succ, List.set_cons_zero, List.set_cons_succ, Option.isSome_some, true_and, List.replicate_succ, List.replicate_zero, Nat.sub_self, Nat.reduceSub, Nat.reduceAdd, List.append_nil, List.nil_append, Nat.zero_add]
  refine ⟨j, rfl, hb1, fun y st2 hy hb2 => ?_⟩
  simp only [wpB, wpS, wpAs, wpE, wpT, isPk, prS, Env.get, Env.put, Env.puts, Env.frz, asg, truth, env0, envI, List.map_cons, List.map_nil, List.length_cons, List.length_nil, List.cons_append, List.nil_append, List.getElem?_cons_zero, List.getElem?_cons_succ, List.set_cons_zero, List.set_cons_succ, Option.isSome_some, true_and, List.replicate_succ, List.replicate_zero, Nat.sub_self, Nat.reduceSub, Nat.reduceAdd, List.append_nil, List.nil_append, Nat.zero_add]
  have s2 : 2 ≤ sizeLine := by decide
  cases e : (y != 0) with
  | true =>
    refine ⟨s2, q _ _ _ hx ?_ hy hb2⟩
    simpa using e
  | false =>
    refine ⟨j, 12, rfl, hb2, by decide, by decide, fun z st3 z0 z1 hb3 => ?_⟩
    exact ⟨s2, q _ _ _ hx (by omega) (by omega) hb3⟩
end RF.K3

end
section
set_option maxRecDepth 100000
set_option maxHeartbeats 1000000
/-! Two fractions; the law. -/
namespace RF.K3
open PySem L2
def b15 : List Sm := [.par [2, 3] [(.make 0 [(.pr .idx [(.pk 0), (.cst (.int (0)))]), (.pr .idx [(.pk 0), (.cst (.int (1)))])] []), (.make 0 [(.pr .idx [(.pk 1), (.cst (.int (0)))]), (.pr .idx [(.pk 1), (.cst (.int (1)))])] [])],
  .par [4, 5] [(.call 9 [(.pr .idx [(.pk 0), (.cst (.int (0)))]), (.pr .idx [(.pk 0), (.cst (.int (1)))])] []), (.call 9 [(.pr .idx [(.pk 1), (.cst (.int (0)))]), (.pr .idx [(.pk 1), (.cst (.int (1)))])] [])],
  .ite (.or (.not (.call 12 [(.pr .add [(.pk 2), (.pk 3)]), (.call 10 [(.var 4), (.var 5)] [])] [])) (.not (.call 12 [(.pr .mul [(.pk 2), (.pk 3)]), (.call 11 [(.var 4), (.var 5)] [])] []))) [.ret (.cst (.bl false))] [],
  .ite (.not (.call 12 [(.pr .sub [(.pk 2), (.pk 3)]), (.call 10 [(.var 4), (.pr .tup [(.pr .sub [(.cst (.int (0))), (.pr .idx [(.pk 5), (.cst (.int (0)))])]), (.pr .idx [(.pk 5), (.cst (.int (1)))])])] [])] [])) [.ret (.cst (.bl false))] [],
  .ret (.and (.call 12 [(.var 2), (.var 4)] []) (.call 12 [(.var 3), (.var 5)] []))]
theorem bound {n m : Nat} {x : Int} (h : x.natAbs < 2 ^ n) (le : n ≤ m) : x.natAbs < 2 ^ m := Nat.lt_of_lt_of_le h (Nat.pow_le_pow_right (by decide) le)
theorem dunA (i : Nat) (vs : List PV) (st : Store) (Q : PV → Store → Prop) (Xx : Exc → Store → Prop) : dun (prog.sig i) 0 0 vs st Q Xx = (prog.sig i).fn 2 vs st Q Xx := rfl
theorem dunS (i : Nat) (vs : List PV) (st : Store) (Q : PV → Store → Prop) (Xx : Exc → Store → Prop) : dun (prog.sig i) 0 1 vs st Q Xx = (prog.sig i).fn 3 vs st Q Xx := rfl
theorem dunM (i : Nat) (vs : List PV) (st : Store) (Q : PV → Store → Prop) (Xx : Exc → Store → Prop) : dun (prog.sig i) 0 2 vs st Q Xx = (prog.sig i).fn 4 vs st Q Xx := rfl
theorem dunQ (i : Nat) (vs : List PV) (st : Store) (Q : PV → Store → Prop) (Xx : Exc → Store → Prop) : dun (prog.sig i) 0 7 vs st Q Xx = (prog.sig i).fn 5 vs st Q Xx := rfl
theorem negP (p : Int × Int) (h : Bd 1800 p) : Bd 1800 (0 - p.1, p.2) := ⟨h.1, by show (0 - p.1).natAbs < _; have := h.2.1; omega, h.2.2⟩
theorem w15 : Keep 15 2 ["_law_one", "_law_other", "_law_a", "_law_b", "_law_first", "_law_second"] b15 S15 := by
  rintro vs st Q Xx ⟨p, q, rfl, ⟨p1, p2, p3⟩, ⟨q1, q2, q3⟩, k⟩
  refine ⟨rfl, ?_⟩
  have hp : Bd 100 (lo p.1 p.2) := lo_bd p1 p2 p3
  have hq : Bd 100 (lo q.1 q.2) := lo_bd q1 q2 q3
  have bp := bound p3 (show 100 ≤ 4000 by decide)
  have bq := bound q3 (show 100 ≤ 4000 by decide)
  generalize hP : lo p.1 p.2 = P at hp
  generalize hQ : lo q.1 q.2 = R at hq
  have m1 : Bd 1900 P := hp.mono (by decide)
  have m2 : Bd 1900 R := hq.mono (by decide)
  simp only [b15, tp, (tp0 p).1, (tp0 p).2, (tp0 q).1, (tp0 q).2, mapM2, wpB, wpS, wpAs, wpE, wpT, isPk, prS, Env.get, Env.put, Env.puts, Env.frz, asg, truth, env0, envI, List.map_cons, List.map_nil, List.length_cons, List.length_nil, List.cons_append, List.nil_append, List.getElem?_cons_zero, List.getElem?_cons_succ, List.set_cons_zero, List.set_cons_succ, Option.isSome_some, true_and, List.replicate_succ, List.replicate_zero, Nat.sub_self, Nat.reduceSub, Nat.reduceAdd, List.append_nil, List.nil_append, Nat.zero_add]
  refine ⟨_, _, rfl, p1, bp, ?_⟩
  simp only [hP, mapM2, wpB, wpS, wpAs, wpE, wpT, isPk, prS, Env.get, Env.put, Env.puts, Env.frz, asg, truth, env0, envI, List.map_cons, List.map_nil, List.length_cons, List.length_nil, List.cons_append, List.nil_append, List.getElem?_cons_zero, List.getElem?_cons_succ, List.set_cons_zero, List.set_cons_succ, Option.isSome_some, true_and, List.replicate_succ, List.replicate_zero, Nat.sub_self, Nat.reduceSub, Nat.reduceAdd, List.append_nil, List.nil_append, Nat.zero_add]
  refine ⟨_, _, rfl, q1, bq, ?_⟩
  simp only [hQ, mapM2, wpB, wpS, wpAs, wpE, wpT, isPk, prS, Env.get, Env.put, Env.puts, Env.frz, asg, truth, env0, envI, List.map_cons, List.map_nil, List.length_cons, List.length_nil, List.cons_append, List.nil_append, List.getElem?_cons_zero, List.getElem?_cons_succ, List.set_cons_zero, List.set_cons_succ, Option.isSome_some, true_and, List.replicate_succ, List.replicate_zero, Nat.sub_self, Nat.reduceSub, Nat.reduceAdd, List.append_nil, List.nil_append, Nat.zero_add, (tp0 p).1, (tp0 p).2]
  refine ⟨_, _, rfl, p1, bp, ?_⟩
  simp only [hP, tp, wpB, wpS, wpAs, wpE, wpT, isPk, prS, Env.get, Env.put, Env.puts, Env.frz, asg, truth, env0, envI, List.map_cons, List.map_nil, List.length_cons, List.length_nil, List.cons_append, List.nil_append, List.getElem?_cons_zero, List.getElem?_cons_succ, List.set_cons_zero, List.set_cons_succ, Option.isSome_some, true_and, List.replicate_succ, List.replicate_zero, Nat.sub_self, Nat.reduceSub, Nat.reduceAdd, List.append_nil, List.nil_append, Nat.zero_add, (tp0 q).1, (tp0 q).2]
  refine ⟨_, _, rfl, q1, bq, ?_⟩
  simp only [hQ, tp, wpB, wpS, wpAs, wpE, wpT, isPk, prS, Env.get, Env.put, Env.puts, Env.frz, asg, truth, env0, envI, List.map_cons, List.map_nil, List.length_cons, List.length_nil, List.cons_append, List.nil_append, List.getElem?_cons_zero, List.getElem?_cons_succ, List.set_cons_zero, List.set_cons_succ, Option.isSome_some, true_and, List.replicate_succ, List.replicate_zero, Nat.sub_self, Nat.reduceSub, Nat.reduceAdd, List.append_nil, List.nil_append, Nat.zero_add, dunA, dunM, dunS]
  refine ⟨P, R, rfl, m1, m2, ?_⟩
  simp only [prt, wpB, wpS, wpAs, wpE, wpT, isPk, prS, Env.get, Env.put, Env.puts, Env.frz, asg, truth, env0, envI, List.map_cons, List.map_nil, List.length_cons, List.length_nil, List.cons_append, List.nil_append, List.getElem?_cons_zero, List.getElem?_cons_succ, List.set_cons_zero, List.set_cons_succ, Option.isSome_some, true_and, List.replicate_succ, List.replicate_zero, Nat.sub_self, Nat.reduceSub, Nat.reduceAdd, List.append_nil, List.nil_append, Nat.zero_add]
  refine ⟨P, R, rfl, m1, m2, ?_⟩
  simp only [wpB, wpS, wpAs, wpE, wpT, isPk, prS, Env.get, Env.put, Env.puts, Env.frz, asg, truth, env0, envI, List.map_cons, List.map_nil, List.length_cons, List.length_nil, List.cons_append, List.nil_append, List.getElem?_cons_zero, List.getElem?_cons_succ, List.set_cons_zero, List.set_cons_succ, Option.isSome_some, true_and, List.replicate_succ, List.replicate_zero, Nat.sub_self, Nat.reduceSub, Nat.reduceAdd, List.append_nil, List.nil_append, Nat.zero_add]
  refine ⟨plusP P R, rfl, (hp.plus hq).mono (by decide), ?_⟩
  simp only [wpB, wpS, wpAs, wpE, wpT, isPk, prS, Env.get, Env.put, Env.puts, Env.frz, asg, truth, env0, envI, List.map_cons, List.map_nil, List.length_cons, List.length_nil, List.cons_append, List.nil_append, List.getElem?_cons_zero, List.getElem?_cons_succ, List.set_cons_zero, List.set_cons_succ, Option.isSome_some, true_and, List.replicate_succ, List.replicate_zero, Nat.sub_self, Nat.reduceSub, Nat.reduceAdd, List.append_nil, List.nil_append, Nat.zero_add, dunM, Bool.not_true]
  refine ⟨P, R, rfl, m1, m2, ?_⟩
  simp only [wpB, wpS, wpAs, wpE, wpT, isPk, prS, Env.get, Env.put, Env.puts, Env.frz, asg, truth, env0, envI, List.map_cons, List.map_nil, List.length_cons, List.length_nil, List.cons_append, List.nil_append, List.getElem?_cons_zero, List.getElem?_cons_succ, List.set_cons_zero, List.set_cons_succ, Option.isSome_some, true_and, List.replicate_succ, List.replicate_zero, Nat.sub_self, Nat.reduceSub, Nat.reduceAdd, List.append_nil, List.nil_append, Nat.zero_add]
  refine ⟨P, R, rfl, m1, m2, ?_⟩
  refine ⟨timesP P R, rfl, (hp.times hq).mono (by decide), ?_⟩
  simp only [wpB, wpS, wpAs, wpE, wpT, isPk, prS, Env.get, Env.put, Env.puts, Env.frz, asg, truth, env0, envI, List.map_cons, List.map_nil, List.length_cons, List.length_nil, List.cons_append, List.nil_append, List.getElem?_cons_zero, List.getElem?_cons_succ, List.set_cons_zero, List.set_cons_succ, Option.isSome_some, true_and, List.replicate_succ, List.replicate_zero, Nat.sub_self, Nat.reduceSub, Nat.reduceAdd, List.append_nil, List.nil_append, Nat.zero_add, dunS, Bool.not_true]
  refine ⟨P, R, rfl, m1, m2, ?_⟩
  simp only [tp0, wpB, wpS, wpAs, wpE, wpT, isPk, prS, Env.get, Env.put, Env.puts, Env.frz, asg, truth, env0, envI, List.map_cons, List.map_nil, List.length_cons, List.length_nil, List.cons_append, List.nil_append, List.getElem?_cons_zero, List.getElem?_cons_succ, List.set_cons_zero, List.set_cons_succ, Option.isSome_some, true_and, List.replicate_succ, List.replicate_zero, Nat.sub_self, Nat.reduceSub, Nat.reduceAdd, List.append_nil, List.nil_append, Nat.zero_add]
  have s2 : 2 ≤ sizeLine := by decide
  refine ⟨s2, P, (0 - R.1, R.2), rfl, m1, (negP R (hq.mono (by decide))).mono (by decide), ?_⟩
  simp only [wpB, wpS, wpAs, wpE, wpT, isPk, prS, Env.get, Env.put, Env.puts, Env.frz, asg, truth, env0, envI, List.map_cons, List.map_nil, List.length_cons, List.length_nil, List.cons_append, List.nil_append, List.getElem?_cons_zero, List.getElem?_cons_succ, List.set_cons_zero, List.set_cons_succ, Option.isSome_some, true_and, List.replicate_succ, List.replicate_zero, Nat.sub_self, Nat.reduceSub, Nat.reduceAdd, List.append_nil, List.nil_append, Nat.zero_add]
  refine ⟨subP P R, ?_, (hp.sub hq).mono (by decide), ?_⟩
  · rw [sub_plus]
  simp only [wpB, wpS, wpAs, wpE, wpT, isPk, prS, Env.get, Env.put, Env.puts, Env.frz, asg, truth, env0, envI, List.map_cons, List.map_nil, List.length_cons, List.length_nil, List.cons_append, List.nil_append, List.getElem?_cons_zero, List.getElem?_cons_succ, List.set_cons_zero, List.set_cons_succ, Option.isSome_some, true_and, List.replicate_succ, List.replicate_zero, Nat.sub_self, Nat.reduceSub, Nat.reduceAdd, List.append_nil, List.nil_append, Nat.zero_add, Bool.not_true]
  refine ⟨P, rfl, m1, ?_⟩
  simp only [wpB, wpS, wpAs, wpE, wpT, isPk, prS, Env.get, Env.put, Env.puts, Env.frz, asg, truth, env0, envI, List.map_cons, List.map_nil, List.length_cons, List.length_nil, List.cons_append, List.nil_append, List.getElem?_cons_zero, List.getElem?_cons_succ, List.set_cons_zero, List.set_cons_succ, Option.isSome_some, true_and, List.replicate_succ, List.replicate_zero, Nat.sub_self, Nat.reduceSub, Nat.reduceAdd, List.append_nil, List.nil_append, Nat.zero_add]
  exact ⟨R, rfl, m2, k⟩
end RF.K3

end
section
set_option maxRecDepth 100000
set_option maxHeartbeats 1000000
/-! The law, piece by piece. -/
namespace RF.K3
open PySem L2
def t1 : Sm := .asg (.nm 2) (.call 7 [(.var 0), (.var 1)] [])
def t2 : Sm := .asg (.nm 3) (.comp (.call 14 [(.var 2)] []) (.nm 17) .rng1 [(.cst (.int (6)))] [] [17])
def t3 : Sm := .for (.nm 4) .seq [(.var 3)] [.for (.nm 5) .seq [(.var 3)] [.ite (.not (.call 15 [(.var 4), (.var 5)] [])) [.ret (.cst (.bl false))] []]]
def t4 : Sm := .par [8, 9] [(.make 0 [(.pr .idx [(.pr .idx [(.pk 3), (.cst (.int (0)))]), (.cst (.int (0)))]), (.pr .idx [(.pr .idx [(.pk 3), (.cst (.int (0)))]), (.cst (.int (1)))])] []), (.comp (.make 0 [(.var 6), (.var 7)] []) (.tp [6, 7]) .seq [(.var 3)] [] [6, 7])]
def t5 : Sm := .for (.nm 5) .seq [(.pr .add [(.pk 9), (.pr (.slc false true) [(.pk 9), (.cst (.int (1)))])])] [.asg (.nm 10) (.make 0 [(.pr .idx [(.pr .idx [(.pk 3), (.cst (.int (0)))]), (.cst (.int (0)))]), (.pr .idx [(.pr .idx [(.pk 3), (.cst (.int (0)))]), (.cst (.int (1)))])] []), .ite (.or (.pr .ne [(.pr .sub [(.pk 8), (.pk 5)]), (.pr .sub [(.pk 10), (.pk 5)])]) (.or (.pr .ne [(.pr .add [(.pk 8), (.pk 5)]), (.pr .add [(.pk 10), (.pk 5)])]) (.pr .ne [(.pr .mul [(.pk 8), (.pk 5)]), (.pr .mul [(.pk 10), (.pk 5)])]))) [.ret (.cst (.bl false))] []]
def t6 : Sm := .par [11, 12] [(.call 8 [(.var 2), (.cst (.int (7)))] []), (.pr .tup [(.cst (.int (0))), (.cst (.int (1)))])]
def t7 : Sm := .asg (.nm 13) (.comp (.make 0 [(.var 6), (.var 7)] []) (.tp [6, 7]) .seq [(.pr (.slc false true) [(.pk 3), (.pk 11)])] [] [6, 7])
def t8 : Sm := .for (.tp [6, 7]) .seq [(.pr (.slc false true) [(.pk 3), (.pk 11)])] [.asg (.nm 12) (.call 10 [(.var 12), (.call 9 [(.var 6), (.var 7)] [])] [])]
def t9 : Sm := .ite (.or (.not (.call 12 [(.cmeth 6 0 [(.var 13)] []), (.var 12)] [])) (.not (.call 12 [(.cmeth 6 0 [(.pr .tup1 [(.pk 13)])] []), (.var 12)] []))) [.ret (.cst (.bl false))] []
def t10 : Sm := .ite (.or (.pr .ne [(.pr .len [(.pk 13)]), (.pk 11)]) (.not (.call 12 [(.cmeth 6 0 [(.pr .tup [])] []), (.pr .tup [(.cst (.int (0))), (.cst (.int (1)))])] []))) [.ret (.cst (.bl false))] []
def t11 : Sm := .par [14, 15] [(.pr .tup [(.cst (.int (0))), (.cst (.int (1)))]), (.comp (.pr .add [(.cst (.int (1))), (.call 8 [(.var 2), (.cst (.int (12)))] [])]) (.nm 17) .rng1 [(.pr .idx [(.pr .lst [(.cst (.int (20))), (.cst (.int (60)))]), (.call 8 [(.var 2), (.cst (.int (2)))] [])])] [] [17])]
def t12 : Sm := .for (.nm 16) .seq [(.var 15)] [.asg (.nm 14) (.call 10 [(.var 14), (.pr .tup [(.cst (.int (1))), (.var 16)])] [])]
def t13 : Sm := .ite (.not (.call 12 [(.cmeth 6 0 [(.pr .tup1 [(.comp (.make 0 [(.cst (.int (1))), (.var 16)] []) (.nm 16) .seq [(.var 15)] [] [16])])] []), (.var 14)] [])) [.ret (.cst (.bl false))] []
def body : List Sm := [t1, t2, t3, t4, t5, t6, t7, t8, t9, t10, t11, t12, t13]
def b16 : List Sm := [.for (.nm 1) .rng1 [(.pr .max2 [(.cst (.int (2))), (.pr .min2 [(.cst (.int (5))), (.pr .len [(.pk 0)])])])] body, .ret (.cst (.bl true))]
/-- a drawn fraction -/
def Fr (p : Int × Int) : Prop := p.2 ≠ 0 ∧ p.1.natAbs < 2 ^ 100 ∧ p.2.natAbs < 2 ^ 100
def loP (p : Int × Int) : Int × Int := lo p.1 p.2
theorem Fr.bd {p : Int × Int} (h : Fr p) : Bd 100 (loP p) := lo_bd h.1 h.2.1 h.2.2
section
variable {Xx : Exc → Env → Prop} {D : Dn} {S : PV} {st : Store} {u1 u2 u3 u4 u5 u6 u7 u8 u9 u10 u11 u12 u13 u14 u15 u16 u17 : SV}
theorem one2 (j : Nat) (h : Box st j) (k : ∀ (ps : List (Int × Int)) (st' : Store) (w : SV), ps.length = 6 → (∀ p ∈ ps, Fr p) → Box st' j → D.nx ⟨[.val S, u1, .val (.ref j), .val (.lst (ps.map tp)), u4, u5, u6, u7, u8, u9, u10, u11, u12, u13, u14, u15, u16, w], st'⟩) :
    wpS (prog.sig 16) Xx t2 D ⟨[.val S, u1, .val (.ref j), u3, u4, u5, u6, u7, u8, u9, u10, u11, u12, u13, u14, u15, u16, u17], st⟩ := by
  unfold t2
  simp only [wpB, wpS, wpAs, wpE, wpT, isPk, prS, Env.get, Env.put, Env.puts, Env.frz, asg, truth, env0, envI, List.map_cons, List.map_nil, List.length_cons, List.length_nil, List.cons_append, List.nil_append, List.getElem?_cons_zero, List.getElem?_cons_succ, List.set_cons_zero, List.set_cons_succ, Option.isSome_some, true_and, List.replicate_succ, List.replicate_zero, Nat.sub_self, Nat.reduceSub, Nat.reduceAdd, List.append_nil, List.nil_append, Nat.zero_add]
  have hi : items .rng1 [.int 6] st = some ((List.range 6).map fun (i : Nat) => PV.int (i : Int)) := rfl
  rw [hi]
  simp only [Env.wipe, wpB, wpS, wpAs, wpE, wpT, isPk, prS, Env.get, Env.put, Env.puts, Env.frz, asg, truth, env0, envI, List.map_cons, List.map_nil, List.length_cons, List.length_nil, List.cons_append, List.nil_append, List.getElem?_cons_zero, List.getElem?_cons_succ, List.set_cons_zero, List.set_cons_succ, Option.isSome_some, true_and, List.replicate_succ, List.replicate_zero, Nat.sub_self, Nat.reduceSub, Nat.reduceAdd, List.append_nil, List.nil_append, Nat.zero_add]
  refine loopL_by (fun done (p : Env × List PV) => ∃ (ps : List (Int × Int)) (st' : Store), p.2 = ps.map tp ∧ ps.length = done.length ∧ (∀ p ∈ ps, Fr p) ∧ p.1 = ⟨[.val S, u1, .val (.ref j), u3, u4, u5, u6, u7, u8, u9, u10, u11, u12, u13, u14, u15, u16, .no], st'⟩ ∧ Box st' j) ⟨[], st, rfl, rfl, fun _ h => (by cases h), rfl, h⟩ ?_ ?_
  · rintro done a rest ⟨e, acc⟩ K hs ⟨ps, st', rfl, hl, hf, rfl, hb⟩ hK
    simp only [wpCs, wpB, wpS, wpAs, wpE, wpT, isPk, prS, Env.get, Env.put, Env.puts, Env.frz, asg, truth, env0, envI, List.map_cons, List.map_nil, List.length_cons, List.length_nil, List.cons_append, List.nil_append, List.getElem?_cons_zero, List.getElem?_cons_succ, List.set_cons_zero, List.set_cons_succ, Option.isSome_some, true_and, List.replicate_succ, List.replicate_zero, Nat.sub_self, Nat.reduceSub, Nat.reduceAdd, List.append_nil, List.nil_append, Nat.zero_add]
    refine ⟨j, rfl, hb, fun x y st2 hx hy hy2 hb2 => ?_⟩
    simp only [Env.wipe, wpB, wpS, wpAs, wpE, wpT, isPk, prS, Env.get, Env.put, Env.puts, Env.frz, asg, truth, env0, envI, List.map_cons, List.map_nil, List.length_cons, List.length_nil, List.cons_append, List.nil_append, List.getElem?_cons_zero, List.getElem?_cons_succ, List.set_cons_zero, List.set_cons_succ, Option.isSome_some, true_and, List.replicate_succ, List.replicate_zero, Nat.sub_self, Nat.reduceSub, Nat.reduceAdd, List.append_nil, List.nil_append, Nat.zero_add]
    have hlen : done.length < 6 := by
      have := congrArg List.length hs
      simp at this
      omega
    refine ⟨by rw [List.length_map, hl]; exact Nat.lt_of_lt_of_le hlen (by decide), hK _ ⟨ps ++ [(x, y)], st2, by rw [List.map_append]; rfl, by simp [hl], fun p hp => ?_, rfl, hb2⟩⟩
    rcases List.mem_append.mp hp with h | h
    · exact hf p h
    · rw [List.mem_singleton.mp h]; exact ⟨hy, hx, hy2⟩
  · rintro ⟨e, acc⟩ ⟨ps, st', rfl, hl, hf, rfl, hb⟩
    have h6 : ps.length = 6 := by rw [hl]; rfl
    simp only [Env.back, wpB, wpS, wpAs, wpE, wpT, isPk, prS, Env.get, Env.put, Env.puts, Env.frz, asg, truth, env0, envI, List.map_cons, List.map_nil, List.length_cons, List.length_nil, List.cons_append, List.nil_append, List.getElem?_cons_zero, List.getElem?_cons_succ, List.set_cons_zero, List.set_cons_succ, Option.isSome_some, true_and, List.replicate_succ, List.replicate_zero, Nat.sub_self, Nat.reduceSub, Nat.reduceAdd, List.append_nil, List.nil_append, Nat.zero_add]
    cases u17 with
    | val v =>
      simp only [wpB, wpS, wpAs, wpE, wpT, isPk, prS, Env.get, Env.put, Env.puts, Env.frz, asg, truth, env0, envI, List.map_cons, List.map_nil, List.length_cons, List.length_nil, List.cons_append, List.nil_append, List.getElem?_cons_zero, List.getElem?_cons_succ, List.set_cons_zero, List.set_cons_succ, Option.isSome_some, true_and, List.replicate_succ, List.replicate_zero, Nat.sub_self, Nat.reduceSub, Nat.reduceAdd, List.append_nil, List.nil_append, Nat.zero_add]
      exact k ps st' _ h6 hf hb
    | _ =>
      simp only [wpB, wpS, wpAs, wpE, wpT, isPk, prS, Env.get, Env.put, Env.puts, Env.frz, asg, truth, env0, envI, List.map_cons, List.map_nil, List.length_cons, List.length_nil, List.cons_append, List.nil_append, List.getElem?_cons_zero, List.getElem?_cons_succ, List.set_cons_zero, List.set_cons_succ, Option.isSome_some, true_and, List.replicate_succ, List.replicate_zero, Nat.sub_self, Nat.reduceSub, Nat.reduceAdd, List.append_nil, List.nil_append, Nat.zero_add]
      exact k ps st' _ h6 hf hb
theorem it_lst (xs : List PV) (st : Store) : items .seq [.lst xs] st = some xs := rfl
theorem it_tup (xs : List PV) (st : Store) : items .seq [.tup xs] st = some xs := rfl
theorem one3 (j : Nat) (ps : List (Int × Int)) (hf : ∀ p ∈ ps, Fr p) (k : ∀ w1 w2 : SV, D.nx ⟨[.val S, u1, .val (.ref j), .val (.lst (ps.map tp)), w1, w2, u6, u7, u8, u9, u10, u11, u12, u13, u14, u15, u16, u17], st⟩) :
    wpS (prog.sig 16) Xx t3 D ⟨[.val S, u1, .val (.ref j), .val (.lst (ps.map tp)), u4, u5, u6, u7, u8, u9, u10, u11, u12, u13, u14, u15, u16, u17], st⟩ := by
  unfold t3
  simp only [it_lst, wpB, wpS, wpAs, wpE, wpT, isPk, prS, Env.get, Env.put, Env.puts, Env.frz, asg, truth, env0, envI, List.map_cons, List.map_nil, List.length_cons, List.length_nil, List.cons_append, List.nil_append, List.getElem?_cons_zero, List.getElem?_cons_succ, List.set_cons_zero, List.set_cons_succ, Option.isSome_some, true_and, List.replicate_succ, List.replicate_zero, Nat.sub_self, Nat.reduceSub, Nat.reduceAdd, List.append_nil, List.nil_append, Nat.zero_add]
  refine loopL_by (fun done e => ∃ w1 w2 : SV, e = ⟨[.val S, u1, .val (.ref j), .val (.lst (ps.map tp)), w1, w2, u6, u7, u8, u9, u10, u11, u12, u13, u14, u15, u16, u17], st⟩) ⟨u4, u5, rfl⟩ ?_ ?_
  · rintro done a rest e K hs ⟨w1, w2, rfl⟩ hK
    obtain ⟨l1, x, l2, e1, e2, e3, e4⟩ := map_split hs
    subst e3
    have hx : Fr x := hf x (by rw [e1]; simp)
    simp only [it_lst, wpB, wpS, wpAs, wpE, wpT, isPk, prS, Env.get, Env.put, Env.puts, Env.frz, asg, truth, env0, envI, List.map_cons, List.map_nil, List.length_cons, List.length_nil, List.cons_append, List.nil_append, List.getElem?_cons_zero, List.getElem?_cons_succ, List.set_cons_zero, List.set_cons_succ, Option.isSome_some, true_and, List.replicate_succ, List.replicate_zero, Nat.sub_self, Nat.reduceSub, Nat.reduceAdd, List.append_nil, List.nil_append, Nat.zero_add]
    refine loopL_by (fun done e => ∃ w2 : SV, e = ⟨[.val S, u1, .val (.ref j), .val (.lst (ps.map tp)), .val (tp x), w2, u6, u7, u8, u9, u10, u11, u12, u13, u14, u15, u16, u17], st⟩) ⟨w2, rfl⟩ ?_ ?_
    · rintro done2 a2 rest2 e K2 hs2 ⟨w2, rfl⟩ hK2
      obtain ⟨l3, y, l4, f1, f2, f3, f4⟩ := map_split hs2
      subst f3
      have hy : Fr y := hf y (by rw [f1]; simp)
      simp only [wpB, wpS, wpAs, wpE, wpT, isPk, prS, Env.get, Env.put, Env.puts, Env.frz, asg, truth, env0, envI, List.map_cons, List.map_nil, List.length_cons, List.length_nil, List.cons_append, List.nil_append, List.getElem?_cons_zero, List.getElem?_cons_succ, List.set_cons_zero, List.set_cons_succ, Option.isSome_some, true_and, List.replicate_succ, List.replicate_zero, Nat.sub_self, Nat.reduceSub, Nat.reduceAdd, List.append_nil, List.nil_append, Nat.zero_add]
      refine ⟨x, y, rfl, hx, hy, ?_⟩
      simp only [wpB, wpS, wpAs, wpE, wpT, isPk, prS, Env.get, Env.put, Env.puts, Env.frz, asg, truth, env0, envI, List.map_cons, List.map_nil, List.length_cons, List.length_nil, List.cons_append, List.nil_append, List.getElem?_cons_zero, List.getElem?_cons_succ, List.set_cons_zero, List.set_cons_succ, Option.isSome_some, true_and, List.replicate_succ, List.replicate_zero, Nat.sub_self, Nat.reduceSub, Nat.reduceAdd, List.append_nil, List.nil_append, Nat.zero_add, Bool.not_true]
      exact hK2 _ ⟨_, rfl⟩
    · rintro e ⟨w2, rfl⟩
      exact hK _ ⟨_, _, rfl⟩
  · rintro e ⟨w1, w2, rfl⟩
    exact k _ _
theorem pIdx0 (p : Int × Int) (ps : List (Int × Int)) : pIdx ((p :: ps).map tp) 0 = some (tp p) := by
  unfold pIdx L2.atI
  have : L2.ixN ((p :: ps).map tp).length 0 = some 0 := by
    unfold L2.ixN
    simp
  rw [this]
  rfl
/-- the comprehension of parts, over a list of pairs -/
theorem parts (j : Nat) (ps : List (Int × Int)) (hf : ∀ p ∈ ps, Fr p) (hl : ps.length < sizeLine) (Q : PV → Env → Prop) {a0 a1 a2 a3 a4 a5 a6 a7 a8 a9 a10 a11 a12 a13 a14 a15 a16 a17 : SV}
    (k : ∀ w6 w7 : SV, Q (.lst (ps.map fun p => prt (loP p))) ⟨[a0, a1, a2, a3, a4, a5, w6, w7, a8, a9, a10, a11, a12, a13, a14, a15, a16, a17], st⟩) :
    loopL (fun x (p : Env × List PV) (K : Env × List PV → Prop) => match asg (.tp [6, 7]) x p.1 with
        | none => False
        | some e2 => wpCs (prog.sig 16) NoX [] e2 fun b e3 => match b with
          | true => wpE (prog.sig 16) NoX (.make 0 [(.var 6), (.var 7)] []) e3 fun v e4 => p.2.length < sizeLine ∧ K (e4.wipe [6, 7], p.2 ++ [v])
          | false => K (e3.wipe [6, 7], p.2)) (ps.map tp) (Env.wipe ⟨[a0, a1, a2, a3, a4, a5, a6, a7, a8, a9, a10, a11, a12, a13, a14, a15, a16, a17], st⟩ [6, 7], []) fun p => Q (.lst p.2) (p.1.back ⟨[a0, a1, a2, a3, a4, a5, a6, a7, a8, a9, a10, a11, a12, a13, a14, a15, a16, a17], st⟩ [6, 7]) := by
  refine loopL_by (fun done (p : Env × List PV) => ∃ l1 : List (Int × Int), done = l1.map tp ∧ p.2 = l1.map (fun p => prt (loP p)) ∧ p.1 = ⟨[a0, a1, a2, a3, a4, a5, .no, .no, a8, a9, a10, a11, a12, a13, a14, a15, a16, a17], st⟩) ⟨[], rfl, rfl, rfl⟩ ?_ ?_
  · rintro done a rest ⟨e, acc⟩ K hs ⟨l1, hd, rfl, rfl⟩ hK
    obtain ⟨l3, x, l4, e1, e2, e3, e4⟩ := map_split hs
    have inj : ∀ a b : Int × Int, tp a = tp b → a = b := fun a b h => by
      have h : PV.tup [.int a.1, .int a.2] = PV.tup [.int b.1, .int b.2] := h
      injection h with h
      injection h with h1 h2
      injection h2 with h2 _
      injection h1 with h1
      injection h2 with h2
      exact Prod.ext h1 h2
    have : l1 = l3 := (List.map_inj_right inj).mp (hd.symm.trans e2)
    subst this
    subst e3
    have hx : Fr x := hf x (by rw [e1]; simp)
    simp only [tp, wpB, wpS, wpAs, wpE, wpT, isPk, prS, Env.get, Env.put, Env.puts, Env.frz, asg, truth, env0, envI, List.map_cons, List.map_nil, List.length_cons, List.length_nil, List.cons_append, List.nil_append, List.getElem?_cons_zero, List.getElem?_cons_succ, List.set_cons_zero, List.set_cons_succ, Option.isSome_some, true_and, List.replicate_succ, List.replicate_zero, Nat.sub_self, Nat.reduceSub, Nat.reduceAdd, List.append_nil, List.nil_append, Nat.zero_add, wpCs]
    refine ⟨x.1, x.2, rfl, hx.1, bound hx.2.2 (by decide), ?_⟩
    simp only [mapM2, Env.wipe, wpB, wpS, wpAs, wpE, wpT, isPk, prS, Env.get, Env.put, Env.puts, Env.frz, asg, truth, env0, envI, List.map_cons, List.map_nil, List.length_cons, List.length_nil, List.cons_append, List.nil_append, List.getElem?_cons_zero, List.getElem?_cons_succ, List.set_cons_zero, List.set_cons_succ, Option.isSome_some, true_and, List.replicate_succ, List.replicate_zero, Nat.sub_self, Nat.reduceSub, Nat.reduceAdd, List.append_nil, List.nil_append, Nat.zero_add]
    refine ⟨?_, hK _ ⟨l1 ++ [x], by rw [List.map_append, hd]; rfl, by rw [List.map_append]; rfl, rfl⟩⟩
    rw [List.length_map]
    have : l1.length < ps.length := by rw [e1]; simp
    omega
  · rintro ⟨e, acc⟩ ⟨l1, hd, rfl, rfl⟩
    have inj : ∀ a b : Int × Int, tp a = tp b → a = b := fun a b h => by
      have h : PV.tup [.int a.1, .int a.2] = PV.tup [.int b.1, .int b.2] := h
      injection h with h
      injection h with h1 h2
      injection h2 with h2 _
      injection h1 with h1
      injection h2 with h2
      exact Prod.ext h1 h2
    have : l1 = ps := ((List.map_inj_right inj).mp hd).symm
    subst this
    cases a6 <;> cases a7 <;> exact k _ _
end
end RF.K3

end
section
set_option maxRecDepth 100000
set_option maxHeartbeats 1000000
/-! The law, further pieces. -/
namespace RF.K3
open PySem L2
def cP (e : Ex) : Ex := .comp (.make 0 [(.var 6), (.var 7)] []) (.tp [6, 7]) .seq [e] [] [6, 7]
theorem isPk_cP (e : Ex) : isPk (cP e) = none := rfl
theorem wAs0 {G : Sig} {X : Exc → Env → Prop} {env : Env} {K : List PV → Env → Prop} : wpAs G X [] env K = K [] env := by rw [wpAs]
theorem wAs1 {G : Sig} {X : Exc → Env → Prop} {env : Env} {i : Ex} {K : List PV → Env → Prop} (h : isPk i = none) : wpAs G X [i] env K = wpE G X i env fun v e => K [v] e := by
  rw [wpAs, h]
  simp only [wAs0]
theorem wVar {G : Sig} {X : Exc → Env → Prop} {env : Env} {i : Nat} {Q : PV → Env → Prop} : wpE G X (.var i) env Q = match env.get i with
    | some v => Q v (env.frz i)
    | none => False := by
  rw [wpE]
  all_goals (cases env.get i <;> rfl)
section
variable {Xx : Exc → Env → Prop} {D : Dn} {S : PV} {st : Store} {u1 u2 u3 u4 u5 u6 u7 u8 u9 u10 u11 u12 u13 u14 u15 u16 u17 : SV}
theorem cP_var {ps : List (Int × Int)} (hf : ∀ p ∈ ps, Fr p) (hl : ps.length < sizeLine) {Q : PV → Env → Prop} (k : ∀ w6 w7 : SV, Q (.lst (ps.map fun p => prt (loP p))) ⟨[.val S, u1, u2, .val (.lst (ps.map tp)), u4, u5, w6, w7, u8, u9, u10, u11, u12, u13, u14, u15, u16, u17], st⟩) :
    wpE (prog.sig 16) Xx (cP (.var 3)) ⟨[.val S, u1, u2, .val (.lst (ps.map tp)), u4, u5, u6, u7, u8, u9, u10, u11, u12, u13, u14, u15, u16, u17], st⟩ Q := by
  rw [cP, wpE, wAs1 rfl, wVar]
  simp only [Env.get, Env.frz, List.getElem?_cons_zero, List.getElem?_cons_succ, it_lst]
  exact parts 0 ps hf hl Q k
theorem wAs1' {G : Sig} {X : Exc → Env → Prop} {env : Env} {e : Ex} {K : List PV → Env → Prop} : wpAs G X [cP e] env K = wpE G X (cP e) env fun v e => K [v] e := wAs1 rfl
theorem one4 (p0 : Int × Int) (ps : List (Int × Int)) (hf : ∀ p ∈ p0 :: ps, Fr p) (hl : (p0 :: ps).length < sizeLine) (k : ∀ w6 w7 : SV, D.nx ⟨[.val S, u1, u2, .val (.lst ((p0 :: ps).map tp)), u4, u5, w6, w7, .val (prt (loP p0)), .val (.lst ((p0 :: ps).map fun p => prt (loP p))), u10, u11, u12, u13, u14, u15, u16, u17], st⟩) :
    wpS (prog.sig 16) Xx t4 D ⟨[.val S, u1, u2, .val (.lst ((p0 :: ps).map tp)), u4, u5, u6, u7, u8, u9, u10, u11, u12, u13, u14, u15, u16, u17], st⟩ := by
  have h0 := hf p0 List.mem_cons_self
  have e4 : t4 = .par [8, 9] [(.make 0 [(.pr .idx [(.pr .idx [(.pk 3), (.cst (.int (0)))]), (.cst (.int (0)))]), (.pr .idx [(.pr .idx [(.pk 3), (.cst (.int (0)))]), (.cst (.int (1)))])] []), cP (.var 3)] := rfl
  rw [e4]
  have hp := pIdx0 p0 ps
  generalize hL : (p0 :: ps).map tp = L at hp k
  simp only [wpS, wpAs, wpE, isPk, prS, asLl, hp, Env.get, List.getElem?_cons_zero, List.getElem?_cons_succ, Option.isSome_some, true_and, isPk_cP, tp, (tp0 p0).1, (tp0 p0).2, List.append_nil]
  refine ⟨p0.1, p0.2, rfl, h0.1, bound h0.2.2 (by decide), ?_⟩
  simp only [mapM2]
  subst hL
  refine cP_var hf hl fun w6 w7 => ?_
  simp only [wpB, wpS, wpAs, wpE, wpT, isPk, prS, Env.get, Env.put, Env.puts, Env.frz, asg, truth, env0, envI, List.map_cons, List.map_nil, List.length_cons, List.length_nil, List.cons_append, List.nil_append, List.getElem?_cons_zero, List.getElem?_cons_succ, List.set_cons_zero, List.set_cons_succ, Option.isSome_some, true_and, List.replicate_succ, List.replicate_zero, Nat.sub_self, Nat.reduceSub, Nat.reduceAdd, List.append_nil, List.nil_append, Nat.zero_add, wAs0]
  exact k w6 w7
end
end RF.K3

end
section
set_option maxRecDepth 100000
set_option maxHeartbeats 1000000
/-! The law, further pieces. -/
namespace RF.K3
open PySem L2
theorem pCut_map {α β : Type} (f : α → β) (xs : List α) (lo hi : Option Int) : pCut (xs.map f) lo hi = (pCut xs lo hi).map f := by
  unfold pCut
  rw [List.length_map, List.map_take, List.map_drop]
theorem pCut_mem {α : Type} {xs : List α} {lo hi : Option Int} {x : α} (h : x ∈ pCut xs lo hi) : x ∈ xs := List.mem_of_mem_drop (List.mem_of_mem_take h)
theorem pCut_len {α : Type} (xs : List α) (lo hi : Option Int) : (pCut xs lo hi).length ≤ xs.length := by
  unfold pCut
  rw [List.length_take, List.length_drop]
  omega
def t5a : Sm := .asg (.nm 10) (.make 0 [(.pr .idx [(.pr .idx [(.pk 3), (.cst (.int (0)))]), (.cst (.int (0)))]), (.pr .idx [(.pr .idx [(.pk 3), (.cst (.int (0)))]), (.cst (.int (1)))])] [])
def t5b : Sm := .ite (.or (.pr .ne [(.pr .sub [(.pk 8), (.pk 5)]), (.pr .sub [(.pk 10), (.pk 5)])]) (.or (.pr .ne [(.pr .add [(.pk 8), (.pk 5)]), (.pr .add [(.pk 10), (.pk 5)])]) (.pr .ne [(.pr .mul [(.pk 8), (.pk 5)]), (.pr .mul [(.pk 10), (.pk 5)])]))) [.ret (.cst (.bl false))] []
theorem eqOkP (i : Nat) (fs : List PV) : eqOk (prog.sig i) 0 (.ins 0 fs) = true := rfl
section
variable {Xx : Exc → Env → Prop} {D : Dn} {S : PV} {st : Store} {u1 u2 u3 u4 u5 u6 u7 u8 u9 u10 u11 u12 u13 u14 u15 u16 u17 : SV}
theorem same (p : Int × Int) : (p.1 == p.1 && p.2 == p.2) = true := by simp
theorem one5 (p0 : Int × Int) (ps : List (Int × Int)) (hf : ∀ p ∈ p0 :: ps, Fr p) (hl : (p0 :: ps).length ≤ 100)
    (k : ∀ w5 w10 : SV, D.nx ⟨[.val S, u1, u2, .val (.lst ((p0 :: ps).map tp)), u4, w5, u6, u7, .val (prt (loP p0)), .val (.lst ((p0 :: ps).map fun p => prt (loP p))), w10, u11, u12, u13, u14, u15, u16, u17], st⟩) :
    wpS (prog.sig 16) Xx t5 D ⟨[.val S, u1, u2, .val (.lst ((p0 :: ps).map tp)), u4, u5, u6, u7, .val (prt (loP p0)), .val (.lst ((p0 :: ps).map fun p => prt (loP p))), u10, u11, u12, u13, u14, u15, u16, u17], st⟩ := by
  have h0 := hf p0 List.mem_cons_self
  have b0 := h0.bd
  have hp := pIdx0 p0 ps
  have hs := pCut_map (fun p => prt (loP p)) (p0 :: ps) none (some 1)
  have hsl : (pCut (p0 :: ps) none (some 1)).length ≤ (p0 :: ps).length := pCut_len _ _ _
  have hz : sizeLine = 16777216 := sizeLine_eq
  have e5 : t5 = .for (.nm 5) .seq [(.pr .add [(.pk 9), (.pr (.slc false true) [(.pk 9), (.cst (.int (1)))])])] [t5a, t5b] := rfl
  rw [e5]
  generalize hL : (p0 :: ps).map tp = L at hp k ⊢
  obtain ⟨M, hM⟩ : ∃ M, M = (p0 :: ps).map fun p => prt (loP p) := ⟨_, rfl⟩
  obtain ⟨N2, hN2⟩ : ∃ N2, N2 = pCut (p0 :: ps) none (some 1) := ⟨_, rfl⟩
  rw [← hM] at k hs ⊢
  rw [← hN2] at hs hsl
  have happ : M ++ List.map (fun p => prt (loP p)) N2 = List.map (fun p => prt (loP p)) ((p0 :: ps) ++ N2) := by rw [hM, List.map_append]
  have hML : M.length = (p0 :: ps).length := by rw [hM, List.length_map]
  simp only [asLl, it_lst, slcArgs, hs, wpB, wpS, wpAs, wpE, wpT, isPk, prS, Env.get, Env.put, Env.puts, Env.frz, asg, truth, env0, envI, List.map_cons, List.map_nil, List.length_cons, List.length_nil, List.cons_append, List.nil_append, List.getElem?_cons_zero, List.getElem?_cons_succ, List.set_cons_zero, List.set_cons_succ, Option.isSome_some, true_and, List.replicate_succ, List.replicate_zero, Nat.sub_self, Nat.reduceSub, Nat.reduceAdd, List.append_nil, List.nil_append, Nat.zero_add]
  rw [happ]
  refine ⟨by rw [List.length_map]; omega, ?_⟩
  refine loopL_by (fun done e => ∃ w5 w10 : SV, e = ⟨[.val S, u1, u2, .val (.lst L), u4, w5, u6, u7, .val (prt (loP p0)), .val (.lst M), w10, u11, u12, u13, u14, u15, u16, u17], st⟩) ⟨_, _, rfl⟩ ?_ ?_
  · rintro done a rest e K hd ⟨w5, w10, rfl⟩ hK
    obtain ⟨l1, x, l2, e1, e2, e3, e4⟩ := map_split hd
    subst e3
    have hx : Fr x := by
      have : x ∈ (p0 :: ps) ++ N2 := by rw [e1]; simp
      rcases List.mem_append.mp this with h | h
      · exact hf x h
      · rw [hN2] at h
        exact hf x (pCut_mem h)
    have bx := hx.bd
    have m1 : Bd 1900 (loP p0) := b0.mono (by decide)
    have m2 : Bd 1900 (loP x) := bx.mono (by decide)
    simp only [t5a, asLl, hp, tp, (tp0 p0).1, (tp0 p0).2, wpB, wpS, wpAs, wpE, wpT, isPk, prS, Env.get, Env.put, Env.puts, Env.frz, asg, truth, env0, envI, List.map_cons, List.map_nil, List.length_cons, List.length_nil, List.cons_append, List.nil_append, List.getElem?_cons_zero, List.getElem?_cons_succ, List.set_cons_zero, List.set_cons_succ, Option.isSome_some, true_and, List.replicate_succ, List.replicate_zero, Nat.sub_self, Nat.reduceSub, Nat.reduceAdd, List.append_nil, List.nil_append, Nat.zero_add]
    refine ⟨p0.1, p0.2, rfl, h0.1, bound h0.2.2 (by decide), ?_⟩
    have eP : lo p0.1 p0.2 = loP p0 := rfl
    simp only [t5b, mapM2, eP, prt, dunA, dunS, dunM, dunQ, eqOkP, wpB, wpS, wpAs, wpE, wpT, isPk, prS, Env.get, Env.put, Env.puts, Env.frz, asg, truth, env0, envI, List.map_cons, List.map_nil, List.length_cons, List.length_nil, List.cons_append, List.nil_append, List.getElem?_cons_zero, List.getElem?_cons_succ, List.set_cons_zero, List.set_cons_succ, Option.isSome_some, true_and, List.replicate_succ, List.replicate_zero, Nat.sub_self, Nat.reduceSub, Nat.reduceAdd, List.append_nil, List.nil_append, Nat.zero_add]
    refine ⟨loP p0, loP x, rfl, m1, m2, ?_⟩
    simp only [prt, dunA, dunS, dunM, dunQ, eqOkP, wpB, wpS, wpAs, wpE, wpT, isPk, prS, Env.get, Env.put, Env.puts, Env.frz, asg, truth, env0, envI, List.map_cons, List.map_nil, List.length_cons, List.length_nil, List.cons_append, List.nil_append, List.getElem?_cons_zero, List.getElem?_cons_succ, List.set_cons_zero, List.set_cons_succ, Option.isSome_some, true_and, List.replicate_succ, List.replicate_zero, Nat.sub_self, Nat.reduceSub, Nat.reduceAdd, List.append_nil, List.nil_append, Nat.zero_add]
    refine ⟨loP p0, loP x, rfl, m1, m2, ?_⟩
    simp only [prt, dunA, dunS, dunM, dunQ, eqOkP, wpB, wpS, wpAs, wpE, wpT, isPk, prS, Env.get, Env.put, Env.puts, Env.frz, asg, truth, env0, envI, List.map_cons, List.map_nil, List.length_cons, List.length_nil, List.cons_append, List.nil_append, List.getElem?_cons_zero, List.getElem?_cons_succ, List.set_cons_zero, List.set_cons_succ, Option.isSome_some, true_and, List.replicate_succ, List.replicate_zero, Nat.sub_self, Nat.reduceSub, Nat.reduceAdd, List.append_nil, List.nil_append, Nat.zero_add]
    refine ⟨_, _, rfl, ?_⟩
    simp only [same, Bool.not_true, prt, dunA, dunS, dunM, dunQ, eqOkP, wpB, wpS, wpAs, wpE, wpT, isPk, prS, Env.get, Env.put, Env.puts, Env.frz, asg, truth, env0, envI, List.map_cons, List.map_nil, List.length_cons, List.length_nil, List.cons_append, List.nil_append, List.getElem?_cons_zero, List.getElem?_cons_succ, List.set_cons_zero, List.set_cons_succ, Option.isSome_some, true_and, List.replicate_succ, List.replicate_zero, Nat.sub_self, Nat.reduceSub, Nat.reduceAdd, List.append_nil, List.nil_append, Nat.zero_add]
    refine ⟨loP p0, loP x, rfl, m1, m2, ?_⟩
    simp only [prt, dunA, dunS, dunM, dunQ, eqOkP, wpB, wpS, wpAs, wpE, wpT, isPk, prS, Env.get, Env.put, Env.puts, Env.frz, asg, truth, env0, envI, List.map_cons, List.map_nil, List.length_cons, List.length_nil, List.cons_append, List.nil_append, List.getElem?_cons_zero, List.getElem?_cons_succ, List.set_cons_zero, List.set_cons_succ, Option.isSome_some, true_and, List.replicate_succ, List.replicate_zero, Nat.sub_self, Nat.reduceSub, Nat.reduceAdd, List.append_nil, List.nil_append, Nat.zero_add]
    refine ⟨loP p0, loP x, rfl, m1, m2, ?_⟩
    simp only [prt, dunA, dunS, dunM, dunQ, eqOkP, wpB, wpS, wpAs, wpE, wpT, isPk, prS, Env.get, Env.put, Env.puts, Env.frz, asg, truth, env0, envI, List.map_cons, List.map_nil, List.length_cons, List.length_nil, List.cons_append, List.nil_append, List.getElem?_cons_zero, List.getElem?_cons_succ, List.set_cons_zero, List.set_cons_succ, Option.isSome_some, true_and, List.replicate_succ, List.replicate_zero, Nat.sub_self, Nat.reduceSub, Nat.reduceAdd, List.append_nil, List.nil_append, Nat.zero_add]
    refine ⟨_, _, rfl, ?_⟩
    simp only [same, Bool.not_true, prt, dunA, dunS, dunM, dunQ, eqOkP, wpB, wpS, wpAs, wpE, wpT, isPk, prS, Env.get, Env.put, Env.puts, Env.frz, asg, truth, env0, envI, List.map_cons, List.map_nil, List.length_cons, List.length_nil, List.cons_append, List.nil_append, List.getElem?_cons_zero, List.getElem?_cons_succ, List.set_cons_zero, List.set_cons_succ, Option.isSome_some, true_and, List.replicate_succ, List.replicate_zero, Nat.sub_self, Nat.reduceSub, Nat.reduceAdd, List.append_nil, List.nil_append, Nat.zero_add]
    refine ⟨loP p0, loP x, rfl, m1, m2, ?_⟩
    simp only [prt, dunA, dunS, dunM, dunQ, eqOkP, wpB, wpS, wpAs, wpE, wpT, isPk, prS, Env.get, Env.put, Env.puts, Env.frz, asg, truth, env0, envI, List.map_cons, List.map_nil, List.length_cons, List.length_nil, List.cons_append, List.nil_append, List.getElem?_cons_zero, List.getElem?_cons_succ, List.set_cons_zero, List.set_cons_succ, Option.isSome_some, true_and, List.replicate_succ, List.replicate_zero, Nat.sub_self, Nat.reduceSub, Nat.reduceAdd, List.append_nil, List.nil_append, Nat.zero_add]
    refine ⟨loP p0, loP x, rfl, m1, m2, ?_⟩
    simp only [prt, dunA, dunS, dunM, dunQ, eqOkP, wpB, wpS, wpAs, wpE, wpT, isPk, prS, Env.get, Env.put, Env.puts, Env.frz, asg, truth, env0, envI, List.map_cons, List.map_nil, List.length_cons, List.length_nil, List.cons_append, List.nil_append, List.getElem?_cons_zero, List.getElem?_cons_succ, List.set_cons_zero, List.set_cons_succ, Option.isSome_some, true_and, List.replicate_succ, List.replicate_zero, Nat.sub_self, Nat.reduceSub, Nat.reduceAdd, List.append_nil, List.nil_append, Nat.zero_add]
    refine ⟨_, _, rfl, ?_⟩
    simp only [same, Bool.not_true, wpB, wpS, wpAs, wpE, wpT, isPk, prS, Env.get, Env.put, Env.puts, Env.frz, asg, truth, env0, envI, List.map_cons, List.map_nil, List.length_cons, List.length_nil, List.cons_append, List.nil_append, List.getElem?_cons_zero, List.getElem?_cons_succ, List.set_cons_zero, List.set_cons_succ, Option.isSome_some, true_and, List.replicate_succ, List.replicate_zero, Nat.sub_self, Nat.reduceSub, Nat.reduceAdd, List.append_nil, List.nil_append, Nat.zero_add]
    exact hK _ ⟨_, _, rfl⟩
  · rintro e ⟨w5, w10, rfl⟩
    exact k _ _
theorem one6 (j : Nat) (h : Box st j) (k : ∀ (r : Int) (st' : Store), 0 ≤ r → r < 7 → Box st' j → D.nx ⟨[.val S, u1, .val (.ref j), u3, u4, u5, u6, u7, u8, u9, u10, .val (.int r), .val (tp (0, 1)), u13, u14, u15, u16, u17], st'⟩) :
    wpS (prog.sig 16) Xx t6 D ⟨[.val S, u1, .val (.ref j), u3, u4, u5, u6, u7, u8, u9, u10, u11, u12, u13, u14, u15, u16, u17], st⟩ := by
  unfold t6
  simp only [wpB, wpS, wpAs, wpE, wpT, isPk, prS, Env.get, Env.put, Env.puts, Env.frz, asg, truth, env0, envI, List.map_cons, List.map_nil, List.length_cons, List.length_nil, List.cons_append, List.nil_append, List.getElem?_cons_zero, List.getElem?_cons_succ, List.set_cons_zero, List.set_cons_succ, Option.isSome_some, true_and, List.replicate_succ, List.replicate_zero, Nat.sub_self, Nat.reduceSub, Nat.reduceAdd, List.append_nil, List.nil_append, Nat.zero_add]
  refine ⟨j, 7, rfl, h, by decide, by decide, fun r st' r0 r1 hb => ?_⟩
  exact ⟨by decide, k r st' r0 r1 hb⟩
theorem one7 (ps : List (Int × Int)) (r : Int) (hf : ∀ p ∈ ps, Fr p) (hl : ps.length < sizeLine)
    (k : ∀ w6 w7 : SV, D.nx ⟨[.val S, u1, u2, .val (.lst (ps.map tp)), u4, u5, w6, w7, u8, u9, u10, .val (.int r), u12, .val (.lst ((pCut ps none (some r)).map fun p => prt (loP p))), u14, u15, u16, u17], st⟩) :
    wpS (prog.sig 16) Xx t7 D ⟨[.val S, u1, u2, .val (.lst (ps.map tp)), u4, u5, u6, u7, u8, u9, u10, .val (.int r), u12, u13, u14, u15, u16, u17], st⟩ := by
  have e7 : t7 = .asg (.nm 13) (cP (.pr (.slc false true) [(.pk 3), (.pk 11)])) := rfl
  rw [e7, wpS, cP, wpE, wAs1 rfl, wpE]
  have hs := pCut_map tp ps none (some r)
  simp only [wAs0, wpAs, isPk, prS, slcArgs, asLl, Env.get, List.getElem?_cons_zero, List.getElem?_cons_succ, Option.isSome_some, true_and, it_lst, hs]
  refine parts 0 (pCut ps none (some r)) (fun p hp => hf p (pCut_mem hp)) (Nat.lt_of_le_of_lt (pCut_len _ _ _) hl) (fun v e => match asg (.nm 13) v e with
    | some e2 => D.nx e2
    | none => False) fun w6 w7 => ?_
  simp only [wpB, wpS, wpAs, wpE, wpT, isPk, prS, Env.get, Env.put, Env.puts, Env.frz, asg, truth, env0, envI, List.map_cons, List.map_nil, List.length_cons, List.length_nil, List.cons_append, List.nil_append, List.getElem?_cons_zero, List.getElem?_cons_succ, List.set_cons_zero, List.set_cons_succ, Option.isSome_some, true_and, List.replicate_succ, List.replicate_zero, Nat.sub_self, Nat.reduceSub, Nat.reduceAdd, List.append_nil, List.nil_append, Nat.zero_add]
  exact k w6 w7
end
end RF.K3

end
section
set_option maxRecDepth 100000
set_option maxHeartbeats 1000000
/-! The law, last pieces. -/
namespace RF.K3
open PySem L2
theorem tp_inj : ∀ a b : Int × Int, tp a = tp b → a = b := fun a b h => by
  have h : PV.tup [.int a.1, .int a.2] = PV.tup [.int b.1, .int b.2] := h
  injection h with h
  injection h with h1 h2
  injection h2 with h2 _
  injection h1 with h1
  injection h2 with h2
  exact Prod.ext h1 h2
def sumL (l : List (Int × Int)) : Int × Int := (l.map loP).foldl plusP (0, 1)
theorem sumL_bd {l : List (Int × Int)} (hf : ∀ p ∈ l, Fr p) : Bd (1 + l.length * 101) (sumL l) := by
  have := foldl_bd (k := 100) (l := l.map loP) (n := 1) (p := (0, 1)) (fun q hq => by
    obtain ⟨x, hx, e⟩ := List.mem_map.mp hq
    rw [← e]
    exact (hf x hx).bd) bd01
  rw [List.length_map] at this
  exact this
theorem sumL_app (l : List (Int × Int)) (x : Int × Int) : sumL (l ++ [x]) = plusP (sumL l) (loP x) := by
  unfold sumL
  rw [List.map_append, List.foldl_append]
  rfl
theorem pCut_n {α : Type} {xs : List α} {r : Int} (h0 : 0 ≤ r) (h1 : r ≤ xs.length) : (pCut xs none (some r)).length = r.toNat := by
  unfold pCut HT.sIx
  rw [List.length_take, List.length_drop]
  simp only []
  split <;> omega
section
variable {Xx : Exc → Env → Prop} {D : Dn} {S : PV} {st : Store} {u1 u2 u3 u4 u5 u6 u7 u8 u9 u10 u11 u12 u13 u14 u15 u16 u17 : SV}
theorem one8 (ps : List (Int × Int)) (r : Int) (hf : ∀ p ∈ ps, Fr p) (hl : ps.length ≤ 6)
    (k : ∀ w6 w7 : SV, D.nx ⟨[.val S, u1, u2, .val (.lst (ps.map tp)), u4, u5, w6, w7, u8, u9, u10, .val (.int r), .val (tp (sumL (pCut ps none (some r)))), u13, u14, u15, u16, u17], st⟩) :
    wpS (prog.sig 16) Xx t8 D ⟨[.val S, u1, u2, .val (.lst (ps.map tp)), u4, u5, u6, u7, u8, u9, u10, .val (.int r), .val (tp (0, 1)), u13, u14, u15, u16, u17], st⟩ := by
  have hs := pCut_map tp ps none (some r)
  have hc := pCut_len ps none (some r)
  have hfc : ∀ p ∈ pCut ps none (some r), Fr p := fun p hp => hf p (pCut_mem hp)
  unfold t8
  simp only [it_lst, slcArgs, asLl, hs, wpB, wpS, wpAs, wpE, wpT, isPk, prS, Env.get, Env.put, Env.puts, Env.frz, asg, truth, env0, envI, List.map_cons, List.map_nil, List.length_cons, List.length_nil, List.cons_append, List.nil_append, List.getElem?_cons_zero, List.getElem?_cons_succ, List.set_cons_zero, List.set_cons_succ, Option.isSome_some, true_and, List.replicate_succ, List.replicate_zero, Nat.sub_self, Nat.reduceSub, Nat.reduceAdd, List.append_nil, List.nil_append, Nat.zero_add]
  generalize pCut ps none (some r) = L at hc hfc k ⊢
  refine loopL_by (fun done e => ∃ (l1 : List (Int × Int)) (w6 w7 : SV), done = l1.map tp ∧ e = ⟨[.val S, u1, u2, .val (.lst (ps.map tp)), u4, u5, w6, w7, u8, u9, u10, .val (.int r), .val (tp (sumL l1)), u13, u14, u15, u16, u17], st⟩) ⟨[], _, _, rfl, rfl⟩ ?_ ?_
  · rintro done a rest e K hd ⟨l1, w6, w7, h1, rfl⟩ hK
    obtain ⟨l3, x, l2, e1, e2, e3, e4⟩ := map_split hd
    have : l1 = l3 := (List.map_inj_right tp_inj).mp (h1.symm.trans e2)
    subst this
    subst e3
    have hx : Fr x := hfc x (by rw [e1]; simp)
    have hb : Bd 1900 (sumL l1) := (sumL_bd (fun p hp => hfc p (by rw [e1]; simp [hp]))).mono (by
      have : l1.length < L.length := by rw [e1]; simp
      omega)
    have ex : tp x = .tup [.int x.1, .int x.2] := rfl
    simp only [ex, wpB, wpS, wpAs, wpE, wpT, isPk, prS, Env.get, Env.put, Env.puts, Env.frz, asg, truth, env0, envI, List.map_cons, List.map_nil, List.length_cons, List.length_nil, List.cons_append, List.nil_append, List.getElem?_cons_zero, List.getElem?_cons_succ, List.set_cons_zero, List.set_cons_succ, Option.isSome_some, true_and, List.replicate_succ, List.replicate_zero, Nat.sub_self, Nat.reduceSub, Nat.reduceAdd, List.append_nil, List.nil_append, Nat.zero_add]
    refine ⟨x.1, x.2, rfl, hx.1, bound hx.2.2 (by decide), ?_⟩
    have eP : lo x.1 x.2 = loP x := rfl
    simp only [eP, wpB, wpS, wpAs, wpE, wpT, isPk, prS, Env.get, Env.put, Env.puts, Env.frz, asg, truth, env0, envI, List.map_cons, List.map_nil, List.length_cons, List.length_nil, List.cons_append, List.nil_append, List.getElem?_cons_zero, List.getElem?_cons_succ, List.set_cons_zero, List.set_cons_succ, Option.isSome_some, true_and, List.replicate_succ, List.replicate_zero, Nat.sub_self, Nat.reduceSub, Nat.reduceAdd, List.append_nil, List.nil_append, Nat.zero_add]
    refine ⟨sumL l1, loP x, rfl, hb, hx.bd.mono (by decide), ?_⟩
    simp only [wpB, wpS, wpAs, wpE, wpT, isPk, prS, Env.get, Env.put, Env.puts, Env.frz, asg, truth, env0, envI, List.map_cons, List.map_nil, List.length_cons, List.length_nil, List.cons_append, List.nil_append, List.getElem?_cons_zero, List.getElem?_cons_succ, List.set_cons_zero, List.set_cons_succ, Option.isSome_some, true_and, List.replicate_succ, List.replicate_zero, Nat.sub_self, Nat.reduceSub, Nat.reduceAdd, List.append_nil, List.nil_append, Nat.zero_add]
    exact hK _ ⟨l1 ++ [x], _, _, by rw [List.map_append, h1]; rfl, by rw [sumL_app]⟩
  · rintro e ⟨l1, w6, w7, h1, rfl⟩
    have : L = l1 := (List.map_inj_right tp_inj).mp h1
    subst this
    exact k _ _
theorem mapPrt (l : List (Int × Int)) : (l.map fun p => prt (loP p)) = (l.map loP).map prt := by rw [List.map_map]; rfl
theorem one9 (L : List (Int × Int)) (hf : ∀ p ∈ L, Fr p) (hl : L.length ≤ 6)
    (k : D.nx ⟨[.val S, u1, u2, u3, u4, u5, u6, u7, u8, u9, u10, u11, .val (tp (sumL L)), .val (.lst (L.map fun p => prt (loP p))), u14, u15, u16, u17], st⟩) :
    wpS (prog.sig 16) Xx t9 D ⟨[.val S, u1, u2, u3, u4, u5, u6, u7, u8, u9, u10, u11, .val (tp (sumL L)), .val (.lst (L.map fun p => prt (loP p))), u14, u15, u16, u17], st⟩ := by
  have hb : Bd 1900 (sumL L) := (sumL_bd hf).mono (by omega)
  have hL : ∀ p ∈ L.map loP, Bd 100 p := fun q hq => by
    obtain ⟨x, hx, e⟩ := List.mem_map.mp hq
    rw [← e]
    exact (hf x hx).bd
  rw [mapPrt] at k ⊢
  unfold t9
  simp only [asLl, wpB, wpS, wpAs, wpE, wpT, isPk, prS, Env.get, Env.put, Env.puts, Env.frz, asg, truth, env0, envI, List.map_cons, List.map_nil, List.length_cons, List.length_nil, List.cons_append, List.nil_append, List.getElem?_cons_zero, List.getElem?_cons_succ, List.set_cons_zero, List.set_cons_succ, Option.isSome_some, true_and, List.replicate_succ, List.replicate_zero, Nat.sub_self, Nat.reduceSub, Nat.reduceAdd, List.append_nil, List.nil_append, Nat.zero_add]
  refine ⟨L.map loP, 100, .inr rfl, hL, by rw [List.length_map]; omega, by decide, ?_⟩
  simp only [wpB, wpS, wpAs, wpE, wpT, isPk, prS, Env.get, Env.put, Env.puts, Env.frz, asg, truth, env0, envI, List.map_cons, List.map_nil, List.length_cons, List.length_nil, List.cons_append, List.nil_append, List.getElem?_cons_zero, List.getElem?_cons_succ, List.set_cons_zero, List.set_cons_succ, Option.isSome_some, true_and, List.replicate_succ, List.replicate_zero, Nat.sub_self, Nat.reduceSub, Nat.reduceAdd, List.append_nil, List.nil_append, Nat.zero_add]
  refine ⟨sumL L, rfl, hb, ?_⟩
  simp only [Bool.not_true, asLl, wpB, wpS, wpAs, wpE, wpT, isPk, prS, Env.get, Env.put, Env.puts, Env.frz, asg, truth, env0, envI, List.map_cons, List.map_nil, List.length_cons, List.length_nil, List.cons_append, List.nil_append, List.getElem?_cons_zero, List.getElem?_cons_succ, List.set_cons_zero, List.set_cons_succ, Option.isSome_some, true_and, List.replicate_succ, List.replicate_zero, Nat.sub_self, Nat.reduceSub, Nat.reduceAdd, List.append_nil, List.nil_append, Nat.zero_add]
  refine ⟨L.map loP, 100, .inl rfl, hL, by rw [List.length_map]; omega, by decide, ?_⟩
  simp only [wpB, wpS, wpAs, wpE, wpT, isPk, prS, Env.get, Env.put, Env.puts, Env.frz, asg, truth, env0, envI, List.map_cons, List.map_nil, List.length_cons, List.length_nil, List.cons_append, List.nil_append, List.getElem?_cons_zero, List.getElem?_cons_succ, List.set_cons_zero, List.set_cons_succ, Option.isSome_some, true_and, List.replicate_succ, List.replicate_zero, Nat.sub_self, Nat.reduceSub, Nat.reduceAdd, List.append_nil, List.nil_append, Nat.zero_add]
  refine ⟨sumL L, rfl, hb, ?_⟩
  simp only [Bool.not_true, wpB, wpS, wpAs, wpE, wpT, isPk, prS, Env.get, Env.put, Env.puts, Env.frz, asg, truth, env0, envI, List.map_cons, List.map_nil, List.length_cons, List.length_nil, List.cons_append, List.nil_append, List.getElem?_cons_zero, List.getElem?_cons_succ, List.set_cons_zero, List.set_cons_succ, Option.isSome_some, true_and, List.replicate_succ, List.replicate_zero, Nat.sub_self, Nat.reduceSub, Nat.reduceAdd, List.append_nil, List.nil_append, Nat.zero_add]
  exact k
theorem one10 (L : List PV) (r : Int) (hL : (L.length : Int) = r) (k : D.nx ⟨[.val S, u1, u2, u3, u4, u5, u6, u7, u8, u9, u10, .val (.int r), u12, .val (.lst L), u14, u15, u16, u17], st⟩) :
    wpS (prog.sig 16) Xx t10 D ⟨[.val S, u1, u2, u3, u4, u5, u6, u7, u8, u9, u10, .val (.int r), u12, .val (.lst L), u14, u15, u16, u17], st⟩ := by
  unfold t10
  have e0 : ((r : Int) == r) = true := beq_self_eq_true r
  simp only [asLl, datum, hL, shI, eqvI, e0, Bool.not_true, wpB, wpS, wpAs, wpE, wpT, isPk, prS, Env.get, Env.put, Env.puts, Env.frz, asg, truth, env0, envI, List.map_cons, List.map_nil, List.length_cons, List.length_nil, List.cons_append, List.nil_append, List.getElem?_cons_zero, List.getElem?_cons_succ, List.set_cons_zero, List.set_cons_succ, Option.isSome_some, true_and, List.replicate_succ, List.replicate_zero, Nat.sub_self, Nat.reduceSub, Nat.reduceAdd, List.append_nil, List.nil_append, Nat.zero_add]
  refine ⟨Nat.zero_le _, [], 0, .inl rfl, fun p hp => (by cases hp), by decide, by decide, ?_⟩
  simp only [wpB, wpS, wpAs, wpE, wpT, isPk, prS, Env.get, Env.put, Env.puts, Env.frz, asg, truth, env0, envI, List.map_cons, List.map_nil, List.length_cons, List.length_nil, List.cons_append, List.nil_append, List.getElem?_cons_zero, List.getElem?_cons_succ, List.set_cons_zero, List.set_cons_succ, Option.isSome_some, true_and, List.replicate_succ, List.replicate_zero, Nat.sub_self, Nat.reduceSub, Nat.reduceAdd, List.append_nil, List.nil_append, Nat.zero_add]
  refine ⟨by decide, (0, 1), rfl, bd01.mono (by decide), ?_⟩
  simp only [Bool.not_true, wpB, wpS, wpAs, wpE, wpT, isPk, prS, Env.get, Env.put, Env.puts, Env.frz, asg, truth, env0, envI, List.map_cons, List.map_nil, List.length_cons, List.length_nil, List.cons_append, List.nil_append, List.getElem?_cons_zero, List.getElem?_cons_succ, List.set_cons_zero, List.set_cons_succ, Option.isSome_some, true_and, List.replicate_succ, List.replicate_zero, Nat.sub_self, Nat.reduceSub, Nat.reduceAdd, List.append_nil, List.nil_append, Nat.zero_add]
  exact k
/-- sizes drawn -/
def Sz (z : Int) : Prop := 1 ≤ z ∧ z ≤ 12
def cS (e : Ex) : Ex := .comp (.pr .add [(.cst (.int (1))), (.call 8 [(.var 2), (.cst (.int (12)))] [])]) (.nm 17) .rng1 [e] [] [17]
theorem cS_loop (j n : Nat) (hn : n ≤ 60) (h : Box st j) (Q : PV → Env → Prop) (k : ∀ (zs : List Int) (st' : Store) (w : SV), zs.length = n → (∀ z ∈ zs, Sz z) → Box st' j → Q (.lst (zs.map PV.int)) ⟨[.val S, u1, .val (.ref j), u3, u4, u5, u6, u7, u8, u9, u10, u11, u12, u13, u14, u15, u16, w], st'⟩) :
    loopL (fun x (p : Env × List PV) (K : Env × List PV → Prop) => match asg (.nm 17) x p.1 with
        | none => False
        | some e2 => wpCs (prog.sig 16) NoX [] e2 fun b e3 => match b with
          | true => wpE (prog.sig 16) NoX (.pr .add [(.cst (.int (1))), (.call 8 [(.var 2), (.cst (.int (12)))] [])]) e3 fun v e4 => p.2.length < sizeLine ∧ K (e4.wipe [17], p.2 ++ [v])
          | false => K (e3.wipe [17], p.2)) ((List.range n).map fun (i : Nat) => PV.int (i : Int)) (Env.wipe ⟨[.val S, u1, .val (.ref j), u3, u4, u5, u6, u7, u8, u9, u10, u11, u12, u13, u14, u15, u16, u17], st⟩ [17], []) fun p => Q (.lst p.2) (p.1.back ⟨[.val S, u1, .val (.ref j), u3, u4, u5, u6, u7, u8, u9, u10, u11, u12, u13, u14, u15, u16, u17], st⟩ [17]) := by
  have hz : sizeLine = 16777216 := sizeLine_eq
  refine loopL_by (fun done (p : Env × List PV) => ∃ (zs : List Int) (st' : Store), p.2 = zs.map PV.int ∧ zs.length = done.length ∧ (∀ z ∈ zs, Sz z) ∧ p.1 = ⟨[.val S, u1, .val (.ref j), u3, u4, u5, u6, u7, u8, u9, u10, u11, u12, u13, u14, u15, u16, .no], st'⟩ ∧ Box st' j) ⟨[], st, rfl, rfl, fun _ h => (by cases h), rfl, h⟩ ?_ ?_
  · rintro done a rest ⟨e, acc⟩ K hs ⟨zs, st', rfl, hl, hf, rfl, hb⟩ hK
    have hlen : done.length < n := by
      have := congrArg List.length hs
      simp at this
      omega
    simp only [wpCs, wpB, wpS, wpAs, wpE, wpT, isPk, prS, Env.get, Env.put, Env.puts, Env.frz, asg, truth, env0, envI, List.map_cons, List.map_nil, List.length_cons, List.length_nil, List.cons_append, List.nil_append, List.getElem?_cons_zero, List.getElem?_cons_succ, List.set_cons_zero, List.set_cons_succ, Option.isSome_some, true_and, List.replicate_succ, List.replicate_zero, Nat.sub_self, Nat.reduceSub, Nat.reduceAdd, List.append_nil, List.nil_append, Nat.zero_add]
    refine ⟨j, 12, rfl, hb, by decide, by decide, fun r st2 r0 r1 hb2 => ?_⟩
    simp only [Env.wipe, wpB, wpS, wpAs, wpE, wpT, isPk, prS, Env.get, Env.put, Env.puts, Env.frz, asg, truth, env0, envI, List.map_cons, List.map_nil, List.length_cons, List.length_nil, List.cons_append, List.nil_append, List.getElem?_cons_zero, List.getElem?_cons_succ, List.set_cons_zero, List.set_cons_succ, Option.isSome_some, true_and, List.replicate_succ, List.replicate_zero, Nat.sub_self, Nat.reduceSub, Nat.reduceAdd, List.append_nil, List.nil_append, Nat.zero_add]
    refine ⟨by rw [List.length_map, hl]; omega, hK _ ⟨zs ++ [1 + r], st2, by rw [List.map_append]; rfl, by simp [hl], fun z hz => ?_, rfl, hb2⟩⟩
    rcases List.mem_append.mp hz with h | h
    · exact hf z h
    · rw [List.mem_singleton.mp h]; exact ⟨by omega, by omega⟩
  · rintro ⟨e, acc⟩ ⟨zs, st', rfl, hl, hf, rfl, hb⟩
    have h6 : zs.length = n := by rw [hl, List.length_map, List.length_range]
    cases u17 <;> exact k zs st' _ h6 hf hb
end
end RF.K3

end
section
set_option maxRecDepth 100000
set_option maxHeartbeats 1000000
/-! The law as a whole. -/
namespace RF.K3
open PySem L2
def cH : Ex := .comp (.make 0 [(.cst (.int (1))), (.var 16)] []) (.nm 16) .seq [(.var 15)] [] [16]
def pz (z : Int) : Int × Int := (1, z)
theorem pz_bd {z : Int} (h : Sz z) : Bd 4 (pz z) := ⟨by show 0 < z; exact Int.lt_of_lt_of_le (by decide) h.1, by show (1 : Int).natAbs < 2 ^ 4; decide, by show z.natAbs < 2 ^ 4; have := h.1; have := h.2; omega⟩
def sumZ (zs : List Int) : Int × Int := (zs.map pz).foldl plusP (0, 1)
theorem sumZ_bd {zs : List Int} (h : ∀ z ∈ zs, Sz z) : Bd (1 + zs.length * 5) (sumZ zs) := by
  have := foldl_bd (k := 4) (l := zs.map pz) (n := 1) (p := (0, 1)) (fun q hq => by
    obtain ⟨x, hx, e⟩ := List.mem_map.mp hq
    rw [← e]
    exact pz_bd (h x hx)) bd01
  rw [List.length_map] at this
  exact this
theorem sumZ_app (l : List Int) (x : Int) : sumZ (l ++ [x]) = plusP (sumZ l) (pz x) := by
  unfold sumZ
  rw [List.map_append, List.foldl_append]
  rfl
theorem int_inj : ∀ a b : Int, PV.int a = PV.int b → a = b := fun a b h => by injection h
section
variable {Xx : Exc → Env → Prop} {D : Dn} {S : PV} {st : Store} {u1 u2 u3 u4 u5 u6 u7 u8 u9 u10 u11 u12 u13 u14 u15 u16 u17 : SV}
theorem isPk_cS (e : Ex) : isPk (cS e) = none := rfl
theorem one11 (j : Nat) (h : Box st j) (k : ∀ (zs : List Int) (st' : Store) (w : SV), zs.length ≤ 60 → (∀ z ∈ zs, Sz z) → Box st' j → D.nx ⟨[.val S, u1, .val (.ref j), u3, u4, u5, u6, u7, u8, u9, u10, u11, u12, u13, .val (tp (0, 1)), .val (.lst (zs.map PV.int)), u16, w], st'⟩) :
    wpS (prog.sig 16) Xx t11 D ⟨[.val S, u1, .val (.ref j), u3, u4, u5, u6, u7, u8, u9, u10, u11, u12, u13, u14, u15, u16, u17], st⟩ := by
  have e11 : t11 = .par [14, 15] [(.pr .tup [(.cst (.int (0))), (.cst (.int (1)))]), cS (.pr .idx [(.pr .lst [(.cst (.int (20))), (.cst (.int (60)))]), (.call 8 [(.var 2), (.cst (.int (2)))] [])])] := rfl
  rw [e11, wpS, wpAs]
  simp only [isPk_cS, isPk, wpE, wAs0, wpAs, prS]
  refine ⟨by decide, ?_⟩
  simp only [cS]
  rw [wpE, wAs1 rfl]
  simp only [isPk, wpE, wAs0, wpAs, prS, Env.get, Env.frz, List.getElem?_cons_zero, List.getElem?_cons_succ, List.append_nil]
  refine ⟨by decide, j, 2, rfl, h, by decide, by decide, fun r st1 r0 r1 hb => ?_⟩
  obtain ⟨v, e, hv⟩ := idx2 r0 r1 (.int 20) (.int 60)
  simp only [asLl, e]
  rcases hv with rfl | rfl
  · have hi : items .rng1 [.int 20] st1 = some ((List.range 20).map fun (i : Nat) => PV.int (i : Int)) := rfl
    simp only [hi]
    refine cS_loop j 20 (by decide) hb (fun v e => match e.puts [14, 15] [.tup [.int 0, .int 1], v] with
      | some e2 => D.nx e2
      | none => False) fun zs st2 w hl hf hb2 => ?_
    simp only [wpB, wpS, wpAs, wpE, wpT, isPk, prS, Env.get, Env.put, Env.puts, Env.frz, asg, truth, env0, envI, List.map_cons, List.map_nil, List.length_cons, List.length_nil, List.cons_append, List.nil_append, List.getElem?_cons_zero, List.getElem?_cons_succ, List.set_cons_zero, List.set_cons_succ, Option.isSome_some, true_and, List.replicate_succ, List.replicate_zero, Nat.sub_self, Nat.reduceSub, Nat.reduceAdd, List.append_nil, List.nil_append, Nat.zero_add]
    exact k zs st2 w (by omega) hf hb2
  · have hi : items .rng1 [.int 60] st1 = some ((List.range 60).map fun (i : Nat) => PV.int (i : Int)) := rfl
    simp only [hi]
    refine cS_loop j 60 (by decide) hb (fun v e => match e.puts [14, 15] [.tup [.int 0, .int 1], v] with
      | some e2 => D.nx e2
      | none => False) fun zs st2 w hl hf hb2 => ?_
    simp only [wpB, wpS, wpAs, wpE, wpT, isPk, prS, Env.get, Env.put, Env.puts, Env.frz, asg, truth, env0, envI, List.map_cons, List.map_nil, List.length_cons, List.length_nil, List.cons_append, List.nil_append, List.getElem?_cons_zero, List.getElem?_cons_succ, List.set_cons_zero, List.set_cons_succ, Option.isSome_some, true_and, List.replicate_succ, List.replicate_zero, Nat.sub_self, Nat.reduceSub, Nat.reduceAdd, List.append_nil, List.nil_append, Nat.zero_add]
    exact k zs st2 w (by omega) hf hb2
theorem one12 (zs : List Int) (hf : ∀ z ∈ zs, Sz z) (hl : zs.length ≤ 60) (k : ∀ w : SV, D.nx ⟨[.val S, u1, u2, u3, u4, u5, u6, u7, u8, u9, u10, u11, u12, u13, .val (tp (sumZ zs)), .val (.lst (zs.map PV.int)), w, u17], st⟩) :
    wpS (prog.sig 16) Xx t12 D ⟨[.val S, u1, u2, u3, u4, u5, u6, u7, u8, u9, u10, u11, u12, u13, .val (tp (0, 1)), .val (.lst (zs.map PV.int)), u16, u17], st⟩ := by
  unfold t12
  simp only [it_lst, wpB, wpS, wpAs, wpE, wpT, isPk, prS, Env.get, Env.put, Env.puts, Env.frz, asg, truth, env0, envI, List.map_cons, List.map_nil, List.length_cons, List.length_nil, List.cons_append, List.nil_append, List.getElem?_cons_zero, List.getElem?_cons_succ, List.set_cons_zero, List.set_cons_succ, Option.isSome_some, true_and, List.replicate_succ, List.replicate_zero, Nat.sub_self, Nat.reduceSub, Nat.reduceAdd, List.append_nil, List.nil_append, Nat.zero_add]
  refine loopL_by (fun done e => ∃ (l1 : List Int) (w : SV), done = l1.map PV.int ∧ e = ⟨[.val S, u1, u2, u3, u4, u5, u6, u7, u8, u9, u10, u11, u12, u13, .val (tp (sumZ l1)), .val (.lst (zs.map PV.int)), w, u17], st⟩) ⟨[], _, rfl, rfl⟩ ?_ ?_
  · rintro done a rest e K hd ⟨l1, w, h1, rfl⟩ hK
    obtain ⟨l3, x, l2, e1, e2, e3, e4⟩ := map_split hd
    have : l1 = l3 := (List.map_inj_right int_inj).mp (h1.symm.trans e2)
    subst this
    subst e3
    have hx : Sz x := hf x (by rw [e1]; simp)
    have hb : Bd 1900 (sumZ l1) := (sumZ_bd (fun p hp => hf p (by rw [e1]; simp [hp]))).mono (by
      have : l1.length < zs.length := by rw [e1]; simp
      omega)
    simp only [wpB, wpS, wpAs, wpE, wpT, isPk, prS, Env.get, Env.put, Env.puts, Env.frz, asg, truth, env0, envI, List.map_cons, List.map_nil, List.length_cons, List.length_nil, List.cons_append, List.nil_append, List.getElem?_cons_zero, List.getElem?_cons_succ, List.set_cons_zero, List.set_cons_succ, Option.isSome_some, true_and, List.replicate_succ, List.replicate_zero, Nat.sub_self, Nat.reduceSub, Nat.reduceAdd, List.append_nil, List.nil_append, Nat.zero_add]
    refine ⟨by decide, sumZ l1, pz x, rfl, hb, (pz_bd hx).mono (by decide), ?_⟩
    simp only [wpB, wpS, wpAs, wpE, wpT, isPk, prS, Env.get, Env.put, Env.puts, Env.frz, asg, truth, env0, envI, List.map_cons, List.map_nil, List.length_cons, List.length_nil, List.cons_append, List.nil_append, List.getElem?_cons_zero, List.getElem?_cons_succ, List.set_cons_zero, List.set_cons_succ, Option.isSome_some, true_and, List.replicate_succ, List.replicate_zero, Nat.sub_self, Nat.reduceSub, Nat.reduceAdd, List.append_nil, List.nil_append, Nat.zero_add]
    exact hK _ ⟨l1 ++ [x], _, by rw [List.map_append, h1]; rfl, by rw [sumZ_app]⟩
  · rintro e ⟨l1, w, h1, rfl⟩
    have : zs = l1 := (List.map_inj_right int_inj).mp h1
    subst this
    exact k _
theorem cH_ok (zs : List Int) (hf : ∀ z ∈ zs, Sz z) (hl : zs.length ≤ 60) {Q : PV → Env → Prop} (k : ∀ w : SV, Q (.lst ((zs.map pz).map prt)) ⟨[.val S, u1, u2, u3, u4, u5, u6, u7, u8, u9, u10, u11, u12, u13, u14, .val (.lst (zs.map PV.int)), w, u17], st⟩) :
    wpE (prog.sig 16) Xx cH ⟨[.val S, u1, u2, u3, u4, u5, u6, u7, u8, u9, u10, u11, u12, u13, u14, .val (.lst (zs.map PV.int)), u16, u17], st⟩ Q := by
  have hz : sizeLine = 16777216 := sizeLine_eq
  rw [cH, wpE, wAs1 rfl, wVar]
  simp only [Env.get, Env.frz, List.getElem?_cons_zero, List.getElem?_cons_succ, it_lst]
  refine loopL_by (fun done (p : Env × List PV) => ∃ l1 : List Int, done = l1.map PV.int ∧ p.2 = (l1.map pz).map prt ∧ p.1 = ⟨[.val S, u1, u2, u3, u4, u5, u6, u7, u8, u9, u10, u11, u12, u13, u14, .val (.lst (zs.map PV.int)), .no, u17], st⟩) ⟨[], rfl, rfl, rfl⟩ ?_ ?_
  · rintro done a rest ⟨e, acc⟩ K hs ⟨l1, hd, rfl, rfl⟩ hK
    obtain ⟨l3, x, l4, e1, e2, e3, e4⟩ := map_split hs
    have : l1 = l3 := (List.map_inj_right int_inj).mp (hd.symm.trans e2)
    subst this
    subst e3
    have hx : Sz x := hf x (by rw [e1]; simp)
    have xp : 0 < x := Int.lt_of_lt_of_le (by decide) hx.1
    simp only [wpB, wpS, wpAs, wpE, wpT, isPk, prS, Env.get, Env.put, Env.puts, Env.frz, asg, truth, env0, envI, List.map_cons, List.map_nil, List.length_cons, List.length_nil, List.cons_append, List.nil_append, List.getElem?_cons_zero, List.getElem?_cons_succ, List.set_cons_zero, List.set_cons_succ, Option.isSome_some, true_and, List.replicate_succ, List.replicate_zero, Nat.sub_self, Nat.reduceSub, Nat.reduceAdd, List.append_nil, List.nil_append, Nat.zero_add, wpCs]
    refine ⟨1, x, rfl, by omega, bound (pz_bd hx).2.2 (by decide), ?_⟩
    rw [lo_one xp]
    simp only [mapM2, Env.wipe, wpB, wpS, wpAs, wpE, wpT, isPk, prS, Env.get, Env.put, Env.puts, Env.frz, asg, truth, env0, envI, List.map_cons, List.map_nil, List.length_cons, List.length_nil, List.cons_append, List.nil_append, List.getElem?_cons_zero, List.getElem?_cons_succ, List.set_cons_zero, List.set_cons_succ, Option.isSome_some, true_and, List.replicate_succ, List.replicate_zero, Nat.sub_self, Nat.reduceSub, Nat.reduceAdd, List.append_nil, List.nil_append, Nat.zero_add]
    refine ⟨?_, hK _ ⟨l1 ++ [x], by rw [List.map_append, hd]; rfl, by rw [List.map_append, List.map_append]; rfl, rfl⟩⟩
    rw [List.length_map, List.length_map]
    have : l1.length < zs.length := by rw [e1]; simp
    omega
  · rintro ⟨e, acc⟩ ⟨l1, hd, rfl, rfl⟩
    have : zs = l1 := (List.map_inj_right int_inj).mp hd
    subst this
    cases u16 <;> exact k _
theorem one13 (zs : List Int) (hf : ∀ z ∈ zs, Sz z) (hl : zs.length ≤ 60) (k : ∀ w : SV, D.nx ⟨[.val S, u1, u2, u3, u4, u5, u6, u7, u8, u9, u10, u11, u12, u13, .val (tp (sumZ zs)), .val (.lst (zs.map PV.int)), w, u17], st⟩) :
    wpS (prog.sig 16) Xx t13 D ⟨[.val S, u1, u2, u3, u4, u5, u6, u7, u8, u9, u10, u11, u12, u13, .val (tp (sumZ zs)), .val (.lst (zs.map PV.int)), u16, u17], st⟩ := by
  have e13 : t13 = .ite (.not (.call 12 [(.cmeth 6 0 [(.pr .tup1 [cH])] []), (.var 14)] [])) [.ret (.cst (.bl false))] [] := rfl
  have hb : Bd 1900 (sumZ zs) := (sumZ_bd hf).mono (by omega)
  have hL : ∀ p ∈ zs.map pz, Bd 4 p := fun q hq => by
    obtain ⟨x, hx, e⟩ := List.mem_map.mp hq
    rw [← e]
    exact pz_bd (hf x hx)
  have ec : isPk cH = none := rfl
  rw [e13]
  simp only [wpS, wpT, wpAs, wpE, isPk, ec, prS, wAs0, List.append_nil]
  refine cH_ok zs hf hl fun w => ?_
  simp only [asLl, wpB, wpS, wpAs, wpE, wpT, isPk, prS, Env.get, Env.put, Env.puts, Env.frz, asg, truth, env0, envI, List.map_cons, List.map_nil, List.length_cons, List.length_nil, List.cons_append, List.nil_append, List.getElem?_cons_zero, List.getElem?_cons_succ, List.set_cons_zero, List.set_cons_succ, Option.isSome_some, true_and, List.replicate_succ, List.replicate_zero, Nat.sub_self, Nat.reduceSub, Nat.reduceAdd, List.append_nil, List.nil_append, Nat.zero_add]
  refine ⟨zs.map pz, 4, .inl rfl, hL, by rw [List.length_map]; omega, by decide, ?_⟩
  simp only [wpB, wpS, wpAs, wpE, wpT, isPk, prS, Env.get, Env.put, Env.puts, Env.frz, asg, truth, env0, envI, List.map_cons, List.map_nil, List.length_cons, List.length_nil, List.cons_append, List.nil_append, List.getElem?_cons_zero, List.getElem?_cons_succ, List.set_cons_zero, List.set_cons_succ, Option.isSome_some, true_and, List.replicate_succ, List.replicate_zero, Nat.sub_self, Nat.reduceSub, Nat.reduceAdd, List.append_nil, List.nil_append, Nat.zero_add]
  refine ⟨sumZ zs, rfl, hb, ?_⟩
  simp only [Bool.not_true, wpB, wpS, wpAs, wpE, wpT, isPk, prS, Env.get, Env.put, Env.puts, Env.frz, asg, truth, env0, envI, List.map_cons, List.map_nil, List.length_cons, List.length_nil, List.cons_append, List.nil_append, List.getElem?_cons_zero, List.getElem?_cons_succ, List.set_cons_zero, List.set_cons_succ, Option.isSome_some, true_and, List.replicate_succ, List.replicate_zero, Nat.sub_self, Nat.reduceSub, Nat.reduceAdd, List.append_nil, List.nil_append, Nat.zero_add]
  exact k w
end
theorem w16 : Keep 16 1 ["_law_script", "_law_k", "_law_box_here", "_law_pairs", "_law_one", "_law_other", "_law_top", "_law_bottom", "_law_kept", "_law_some", "_law_fresh", "_law_many", "_law_total", "_law_parts", "_law_halves", "_law_sizes", "_law_size", "_law_turn"] b16 S16 := by
  rintro vs st Q Xx ⟨ns, rfl, q⟩
  refine ⟨rfl, ?_⟩
  have hz : sizeLine = 16777216 := sizeLine_eq
  obtain ⟨n, hn, h5⟩ : ∃ n : Nat, (n : Int) = (let m : Int := if (ns.length : Int) < 5 then ns.length else 5; if m > 2 then m else 2) ∧ n ≤ 5 := by
    refine ⟨(let m : Int := if (ns.length : Int) < 5 then ns.length else 5; if m > 2 then m else 2).toNat, ?_, ?_⟩
    · simp only []
      split <;> split <;> omega
    · simp only []
      split <;> split <;> omega
  dsimp only at hn
  simp only [b16, asLr, List.length_map, wpB, wpS, wpAs, wpE, wpT, isPk, prS, Env.get, Env.put, Env.puts, Env.frz, asg, truth, env0, envI, List.map_cons, List.map_nil, List.length_cons, List.length_nil, List.cons_append, List.nil_append, List.getElem?_cons_zero, List.getElem?_cons_succ, List.set_cons_zero, List.set_cons_succ, Option.isSome_some, true_and, List.replicate_succ, List.replicate_zero, Nat.sub_self, Nat.reduceSub, Nat.reduceAdd, List.append_nil, List.nil_append, Nat.zero_add]
  rw [← hn]
  have hi : items .rng1 [.int (n : Int)] st = some ((List.range n).map fun (i : Nat) => PV.int (i : Int)) := by
    simp only [items]
    rw [if_pos ⟨by omega, by omega⟩]
    rfl
  simp only [hi]
  refine loopL_by (fun done e => ∃ (st : Store) (u1 u2 u3 u4 u5 u6 u7 u8 u9 u10 u11 u12 u13 u14 u15 u16 u17 : SV), e = ⟨[.val (.rol (ns.map PV.int)), u1, u2, u3, u4, u5, u6, u7, u8, u9, u10, u11, u12, u13, u14, u15, u16, u17], st⟩) ⟨st, _, _, _, _, _, _, _, _, _, _, _, _, _, _, _, _, _, rfl⟩ ?_ ?_
  · rintro done a rest e K hd ⟨st, u1, u2, u3, u4, u5, u6, u7, u8, u9, u10, u11, u12, u13, u14, u15, u16, u17, rfl⟩ hK
    obtain ⟨l3, x, l2, e1, e2, e3, e4⟩ := map_split hd
    subst e3
    simp only [body, asg, wpB, Env.put, List.set_cons_zero, List.set_cons_succ]
    simp only [t1, wpB, wpS, wpAs, wpE, wpT, isPk, prS, Env.get, Env.put, Env.puts, Env.frz, asg, truth, env0, envI, List.map_cons, List.map_nil, List.length_cons, List.length_nil, List.cons_append, List.nil_append, List.getElem?_cons_zero, List.getElem?_cons_succ, List.set_cons_zero, List.set_cons_succ, Option.isSome_some, true_and, List.replicate_succ, List.replicate_zero, Nat.sub_self, Nat.reduceSub, Nat.reduceAdd, List.append_nil, List.nil_append, Nat.zero_add]
    refine ⟨ns, x, rfl, fun a b c => ?_⟩
    simp only [wpB, wpS, wpAs, wpE, wpT, isPk, prS, Env.get, Env.put, Env.puts, Env.frz, asg, truth, env0, envI, List.map_cons, List.map_nil, List.length_cons, List.length_nil, List.cons_append, List.nil_append, List.getElem?_cons_zero, List.getElem?_cons_succ, List.set_cons_zero, List.set_cons_succ, Option.isSome_some, true_and, List.replicate_succ, List.replicate_zero, Nat.sub_self, Nat.reduceSub, Nat.reduceAdd, List.append_nil, List.nil_append, Nat.zero_add]
    have hb : Box (st ++ [.lst [.int a, .int b, .int c]]) st.length := ⟨a, b, c, by rw [List.getElem?_append_right (Nat.le_refl _), Nat.sub_self]; rfl⟩
    refine one2 _ hb fun ps st2 w hl hf hb2 => ?_
    refine one3 _ ps hf fun w1 w2 => ?_
    cases ps with
    | nil => cases hl
    | cons p0 ps =>
      refine one4 p0 ps hf (by omega) fun w6 w7 => ?_
      refine one5 p0 ps hf (by omega) fun w5 w10 => ?_
      refine one6 _ hb2 fun r st3 r0 r1 hb3 => ?_
      refine one7 (p0 :: ps) r hf (by omega) fun w6 w7 => ?_
      refine one8 (p0 :: ps) r hf (by omega) fun w6 w7 => ?_
      have hcl := pCut_len (p0 :: ps) none (some r)
      refine one9 (pCut (p0 :: ps) none (some r)) (fun p hp => hf p (pCut_mem hp)) (by omega) ?_
      refine one10 _ r (by rw [List.length_map, pCut_n r0 (by omega)]; omega) ?_
      refine one11 _ hb3 fun zs st4 w hzl hzf hb4 => ?_
      refine one12 zs hzf hzl fun w16 => ?_
      refine one13 zs hzf hzl fun w16 => ?_
      exact hK _ ⟨_, _, _, _, _, _, _, _, _, _, _, _, _, _, _, _, _, _, rfl⟩
  · rintro e ⟨st, u1, u2, u3, u4, u5, u6, u7, u8, u9, u10, u11, u12, u13, u14, u15, u16, u17, rfl⟩
    simp only [wpB, wpS, wpAs, wpE, wpT, isPk, prS, Env.get, Env.put, Env.puts, Env.frz, asg, truth, env0, envI, List.map_cons, List.map_nil, List.length_cons, List.length_nil, List.cons_append, List.nil_append, List.getElem?_cons_zero, List.getElem?_cons_succ, List.set_cons_zero, List.set_cons_succ, Option.isSome_some, true_and, List.replicate_succ, List.replicate_zero, Nat.sub_self, Nat.reduceSub, Nat.reduceAdd, List.append_nil, List.nil_append, Nat.zero_add]
    exact q _
end RF.K3

end
section
set_option maxRecDepth 100000
set_option maxHeartbeats 0
/-! The text by places; its bodies compiled. -/
namespace RF.K3
open PySem L2
def top (i : Nat) : Stmt := PySem.Challenge.pw_ringfates_k03_sums_and_products.main.body.getD i (.Pass ⟨0, 0, 0, 0⟩)
abbrev d0 : Stmt := top 8
abbrev d1 : Stmt := inClass (top 10) 0
abbrev d2 : Stmt := inClass (top 10) 7
abbrev d3 : Stmt := inClass (top 10) 8
abbrev d4 : Stmt := inClass (top 10) 9
abbrev d5 : Stmt := inClass (top 10) 15
abbrev d6 : Stmt := inClass (top 10) 3
abbrev d7 : Stmt := top 12
abbrev d8 : Stmt := top 13
abbrev d9 : Stmt := top 14
abbrev d10 : Stmt := top 15
abbrev d11 : Stmt := top 16
abbrev d12 : Stmt := top 17
abbrev d13 : Stmt := top 18
abbrev d14 : Stmt := top 19
abbrev d15 : Stmt := top 20
abbrev d16 : Stmt := top 21
def ct : CT where
  glob := [("Part", .cls 0), ("common", .fn 0), ("_law_box", .fn 7), ("_law_take", .fn 8), ("_law_low", .fn 9), ("_law_plus", .fn 10), ("_law_times", .fn 11), ("_law_is", .fn 12), ("_law_whole_number", .fn 13), ("_law_fraction", .fn 14), ("_law_two_right", .fn 15)]
  names := ["__add__", "__sub__", "__mul__", "__floordiv__", "__mod__", "__neg__", "__abs__", "__eq__", "__bool__", "__str__", "__repr__", "__len__", "__contains__", "__getitem__", "top", "bottom"]
  ar := fun f => [2, 3, 2, 2, 2, 2, 2, 2, 2, 2, 2, 2, 2, 1, 1, 2, 1].getD f 0
  df := fun f => if f = 1 then [.int 1] else []
  ini := fun _ => 1
  cmt := [((0, "summed"), 6)]
  mths := [(0, 2), (1, 3), (2, 4), (7, 5)]
def N0 : List Str := ["a", "b"]
theorem c0 : cBody ct ⟨[], false⟩ N0 (defScope d0) (defBody d0) = b0 := by kernel_rfl
theorem sc0 : FnScope N0 ["a", "b"] (defScope d0) := ⟨rfl, rfl, rfl, by decide +kernel, rfl, by decide +kernel, by decide +kernel⟩
def N1 : List Str := ["self", "top", "bottom", "shared"]
theorem c1 : cBody ct ⟨[], false⟩ N1 (defScope d1) (defBody d1) = b1 := by kernel_rfl
theorem sc1 : FnScope N1 ["self", "top", "bottom"] (defScope d1) := ⟨rfl, rfl, rfl, by decide +kernel, rfl, by decide +kernel, by decide +kernel⟩
def N2 : List Str := ["self", "other"]
theorem c2 : cBody ct ⟨[], false⟩ N2 (defScope d2) (defBody d2) = b2 := by kernel_rfl
theorem sc2 : FnScope N2 ["self", "other"] (defScope d2) := ⟨rfl, rfl, rfl, by decide +kernel, rfl, by decide +kernel, by decide +kernel⟩
def N3 : List Str := ["self", "other"]
theorem c3 : cBody ct ⟨[], false⟩ N3 (defScope d3) (defBody d3) = b3 := by kernel_rfl
theorem sc3 : FnScope N3 ["self", "other"] (defScope d3) := ⟨rfl, rfl, rfl, by decide +kernel, rfl, by decide +kernel, by decide +kernel⟩
def N4 : List Str := ["self", "other"]
theorem c4 : cBody ct ⟨[], false⟩ N4 (defScope d4) (defBody d4) = b4 := by kernel_rfl
theorem sc4 : FnScope N4 ["self", "other"] (defScope d4) := ⟨rfl, rfl, rfl, by decide +kernel, rfl, by decide +kernel, by decide +kernel⟩
def N5 : List Str := ["self", "other"]
theorem c5 : cBody ct ⟨[], false⟩ N5 (defScope d5) (defBody d5) = b5 := by kernel_rfl
theorem sc5 : FnScope N5 ["self", "other"] (defScope d5) := ⟨rfl, rfl, rfl, by decide +kernel, rfl, by decide +kernel, by decide +kernel⟩
def N6 : List Str := ["cls", "parts", "found", "part"]
theorem c6 : cBody ct ⟨[], false⟩ N6 (defScope d6) (defBody d6) = b6 := by kernel_rfl
theorem sc6 : FnScope N6 ["cls", "parts"] (defScope d6) := ⟨rfl, rfl, rfl, by decide +kernel, rfl, by decide +kernel, by decide +kernel⟩
def N7 : List Str := ["_law_script", "_law_k", "_law_cell", "_law_seed"]
theorem c7 : cBody ct ⟨[], true⟩ N7 (defScope d7) (defBody d7) = b7 := by kernel_rfl
theorem sc7 : FnScope N7 ["_law_script", "_law_k"] (defScope d7) := ⟨rfl, rfl, rfl, by decide +kernel, rfl, by decide +kernel, by decide +kernel⟩
def N8 : List Str := ["_law_box_here", "_law_many", "_law_digit", "_law_one"]
theorem c8 : cBody ct ⟨[], false⟩ N8 (defScope d8) (defBody d8) = b8 := by kernel_rfl
theorem sc8 : FnScope N8 ["_law_box_here", "_law_many"] (defScope d8) := ⟨rfl, rfl, rfl, by decide +kernel, rfl, by decide +kernel, by decide +kernel⟩
def N9 : List Str := ["_law_top", "_law_bottom", "_law_a", "_law_b", "_law_shared"]
theorem c9 : cBody ct ⟨[], false⟩ N9 (defScope d9) (defBody d9) = b9 := by kernel_rfl
theorem sc9 : FnScope N9 ["_law_top", "_law_bottom"] (defScope d9) := ⟨rfl, rfl, rfl, by decide +kernel, rfl, by decide +kernel, by decide +kernel⟩
def N10 : List Str := ["_law_one", "_law_other"]
theorem c10 : cBody ct ⟨[], false⟩ N10 (defScope d10) (defBody d10) = b10 := by kernel_rfl
theorem sc10 : FnScope N10 ["_law_one", "_law_other"] (defScope d10) := ⟨rfl, rfl, rfl, by decide +kernel, rfl, by decide +kernel, by decide +kernel⟩
def N11 : List Str := ["_law_one", "_law_other"]
theorem c11 : cBody ct ⟨[], false⟩ N11 (defScope d11) (defBody d11) = b11 := by kernel_rfl
theorem sc11 : FnScope N11 ["_law_one", "_law_other"] (defScope d11) := ⟨rfl, rfl, rfl, by decide +kernel, rfl, by decide +kernel, by decide +kernel⟩
def N12 : List Str := ["_law_part", "_law_pair"]
theorem c12 : cBody ct ⟨[], false⟩ N12 (defScope d12) (defBody d12) = b12 := by kernel_rfl
theorem sc12 : FnScope N12 ["_law_part", "_law_pair"] (defScope d12) := ⟨rfl, rfl, rfl, by decide +kernel, rfl, by decide +kernel, by decide +kernel⟩
def N13 : List Str := ["_law_box_here", "_law_form"]
theorem c13 : cBody ct ⟨[], false⟩ N13 (defScope d13) (defBody d13) = b13 := by kernel_rfl
theorem sc13 : FnScope N13 ["_law_box_here"] (defScope d13) := ⟨rfl, rfl, rfl, by decide +kernel, rfl, by decide +kernel, by decide +kernel⟩
def N14 : List Str := ["_law_box_here"]
theorem c14 : cBody ct ⟨[], false⟩ N14 (defScope d14) (defBody d14) = b14 := by kernel_rfl
theorem sc14 : FnScope N14 ["_law_box_here"] (defScope d14) := ⟨rfl, rfl, rfl, by decide +kernel, rfl, by decide +kernel, by decide +kernel⟩
def N15 : List Str := ["_law_one", "_law_other", "_law_a", "_law_b", "_law_first", "_law_second"]
theorem c15 : cBody ct ⟨[], false⟩ N15 (defScope d15) (defBody d15) = b15 := by kernel_rfl
theorem sc15 : FnScope N15 ["_law_one", "_law_other"] (defScope d15) := ⟨rfl, rfl, rfl, by decide +kernel, rfl, by decide +kernel, by decide +kernel⟩
def N16 : List Str := ["_law_script", "_law_k", "_law_box_here", "_law_pairs", "_law_one", "_law_other", "_law_top", "_law_bottom", "_law_kept", "_law_some", "_law_fresh", "_law_many", "_law_total", "_law_parts", "_law_halves", "_law_sizes", "_law_size", "_law_turn"]
theorem c16 : cBody ct ⟨[], false⟩ N16 (defScope d16) (defBody d16) = b16 := by kernel_rfl
theorem sc16 : FnScope N16 ["_law_script"] (defScope d16) := ⟨rfl, rfl, rfl, by decide +kernel, rfl, by decide +kernel, by decide +kernel⟩
end RF.K3

end
section
set_option maxRecDepth 100000
set_option maxHeartbeats 0
/-! The context of the law; all defs keep their promises. -/
namespace RF.K3
open PySem L2 PySem.Spec PyProof.Rows
def psL : List (List Str) := [["a", "b"], ["self", "top", "bottom"], ["self", "other"], ["self", "other"], ["self", "other"], ["self", "other"], ["cls", "parts"], ["_law_script", "_law_k"], ["_law_box_here", "_law_many"], ["_law_top", "_law_bottom"], ["_law_one", "_law_other"], ["_law_one", "_law_other"], ["_law_part", "_law_pair"], ["_law_box_here"], ["_law_box_here"], ["_law_one", "_law_other"], ["_law_script"]]
def ctxOf (P : Program) (wd : World) (K : PySem.W.Frag) (mg : Str → Option Value) (base : Heap) (aP : Addr) (fa : Nat → Addr) (fd : Nat → FuncData) : Ctx where
  P := P
  w := wd
  K := K
  mg := mg
  base := base
  ca := fun _ => aP
  fl := fun c => match c with
    | 0 => ["top", "bottom"]
    | _ => []
  fa := fa
  fd := fd
  ps := fun f => psL.getD f []
  df := ct.df
  mn := fun i => ct.names.getD i ""
  ini := fun _ => 1
theorem fund_mk {K : PySem.W.Frag} {x qual : Str} {st : Stmt} {f T : Addr} {oc tc : Value} {od an td : Option Addr} {osl tsl : Array (Option Value)} {kV doc pm cdv cv : Value} {tk : Tok} {n : Nat}
    (l : K.lookup f = some ⟨oc, od, .func (PySem.W.fnOf x qual (defArgs st) (defBody st) (defScope st) (.ref T) kV doc pm an cdv cv), osl⟩) (lT : K.lookup T = some ⟨tc, td, .seq #[Value.int 1 tk] n, tsl⟩) (c : PySem.W.codeIn K cdv qual = true) (k : PySem.W.keepIn K (.ref f) = true) :
    FunD K x qual (defArgs st) (defBody st) (defScope st) [V.int 1] [] f (PySem.W.fnOf x qual (defArgs st) (defBody st) (defScope st) (.ref T) kV doc pm an cdv cv) :=
  ⟨⟨oc, od, .ref T, kV, doc, pm, an, cdv, cv, osl, rfl, l, c, .inr ⟨by simp, T, _, [Value.int 1 tk], n, rfl, lT, rfl, .cons ⟨tk, rfl⟩ .nil⟩, .inl rfl⟩, k⟩
theorem defAt_of {C : Ctx} {f : Nat} {N : List Str} {x qual : Str} {st : Stmt} (F : L2.Fun C.K x qual st (C.fa f) (C.fd f)) (sc : FnScope N (C.ps f) (defScope st)) : DefAt C f N (defBody st) (defScope st) := by
  obtain ⟨oc, od, kV, doc, pm, an, cdv, cv, osl, e, l, c⟩ := F.ex
  exact ⟨⟨x, qual, _, .none, kV, doc, pm, cdv, cv, oc, an, od, osl, e, l, c⟩, sc⟩
theorem defAt_D {C : Ctx} {f : Nat} {N : List Str} {x qual : Str} {pr : Arguments} {b : List Stmt} {s : Scope} {dvs : List V} {kws : List (Str × V)} (F : FunD C.K x qual pr b s dvs kws (C.fa f) (C.fd f)) (sc : FnScope N (C.ps f) s) : DefAt C f N b s := by
  obtain ⟨oc, od, dV, kV, doc, pm, an, cdv, cv, osl, e, l, c, _, _⟩ := F.ex
  exact ⟨⟨x, qual, _, dV, kV, doc, pm, cdv, cv, oc, an, od, osl, e, l, c⟩, sc⟩
theorem all_mk {P : Program} {wd : World} {K : PySem.W.Frag} {h : Heap} {mg : Str → Option Value} {fa aP pS : Addr} {rest : List Value} {f0 f1 f2 f3 f4 f5 f6 f7 f8 f9 f10 f11 f12 f13 f14 f15 f16 : Addr} {e0 e1 e2 e3 e4 e5 e6 e7 e8 e9 e10 e11 e12 e13 e14 e15 e16 : FuncData} (KX : K.In h) (G : h.Ns mainGlobals mg) (hfa : mg "law" = some (.ref fa))
    (F0 : L2.Fun K "common" "common" d0 f0 e0)
    (F1 : FunD K "__init__" "Part.__init__" (defArgs d1) (defBody d1) (defScope d1) [V.int 1] [] f1 e1)
    (F2 : L2.Fun K "__add__" "Part.__add__" d2 f2 e2)
    (F3 : L2.Fun K "__sub__" "Part.__sub__" d3 f3 e3)
    (F4 : L2.Fun K "__mul__" "Part.__mul__" d4 f4 e4)
    (F5 : L2.Fun K "__eq__" "Part.__eq__" d5 f5 e5)
    (F6 : L2.Fun K "summed" "Part.summed" d6 f6 e6)
    (F7 : L2.Fun K "_law_box" "_law_box" d7 f7 e7)
    (F8 : L2.Fun K "_law_take" "_law_take" d8 f8 e8)
    (F9 : L2.Fun K "_law_low" "_law_low" d9 f9 e9)
    (F10 : L2.Fun K "_law_plus" "_law_plus" d10 f10 e10)
    (F11 : L2.Fun K "_law_times" "_law_times" d11 f11 e11)
    (F12 : L2.Fun K "_law_is" "_law_is" d12 f12 e12)
    (F13 : L2.Fun K "_law_whole_number" "_law_whole_number" d13 f13 e13)
    (F14 : L2.Fun K "_law_fraction" "_law_fraction" d14 f14 e14)
    (F15 : L2.Fun K "_law_two_right" "_law_two_right" d15 f15 e15)
    (F16 : L2.Fun K "law" "law" d16 f16 e16)
    (g0 : PySem.W.nsIn K mainGlobals "common" = some (some (.ref f0)))
    (m1 : PySem.W.findIn K (.ref aP) "__init__" = some (some (.ref f1))) (i1 : PySem.W.isFn K (.ref f1) = true)
    (m2 : PySem.W.findIn K (.ref aP) "__add__" = some (some (.ref f2))) (i2 : PySem.W.isFn K (.ref f2) = true)
    (m3 : PySem.W.findIn K (.ref aP) "__sub__" = some (some (.ref f3))) (i3 : PySem.W.isFn K (.ref f3) = true)
    (m4 : PySem.W.findIn K (.ref aP) "__mul__" = some (some (.ref f4))) (i4 : PySem.W.isFn K (.ref f4) = true)
    (m5 : PySem.W.findIn K (.ref aP) "__eq__" = some (some (.ref f5))) (i5 : PySem.W.isFn K (.ref f5) = true)
    (g7 : PySem.W.nsIn K mainGlobals "_law_box" = some (some (.ref f7)))
    (g8 : PySem.W.nsIn K mainGlobals "_law_take" = some (some (.ref f8)))
    (g9 : PySem.W.nsIn K mainGlobals "_law_low" = some (some (.ref f9)))
    (g10 : PySem.W.nsIn K mainGlobals "_law_plus" = some (some (.ref f10)))
    (g11 : PySem.W.nsIn K mainGlobals "_law_times" = some (some (.ref f11)))
    (g12 : PySem.W.nsIn K mainGlobals "_law_is" = some (some (.ref f12)))
    (g13 : PySem.W.nsIn K mainGlobals "_law_whole_number" = some (some (.ref f13)))
    (g14 : PySem.W.nsIn K mainGlobals "_law_fraction" = some (some (.ref f14)))
    (g15 : PySem.W.nsIn K mainGlobals "_law_two_right" = some (some (.ref f15)))
    (g16 : PySem.W.nsIn K mainGlobals "law" = some (some (.ref f16)))
    (gP : PySem.W.nsIn K mainGlobals "Part" = some (some (.ref aP)))
    (pg : PySem.W.plainGet K aP Str.empty = true)
    (hd : PySem.W.hasDictIn K aP = true)
    (po : PySem.W.plainOver K aP = true)
    (sa : PySem.W.findIn K (.ref aP) "__setattr__" = some (some (.builtin "object.__setattr__")))
    (mk : PySem.W.makesIn K aP = true)
    (kc : PySem.W.keepIn K (.ref aP) = true)
    (nT : PySem.W.findIn K (.ref aP) "top" = some none)
    (nB : PySem.W.findIn K (.ref aP) "bottom" = some none)
    (sf : PySem.W.selfFirst K aP = true)
    (ne : PySem.W.findIn K (.ref aP) "__ne__" = some (some (.builtin "object.__ne__")))
    (mo : PySem.W.mroIn K aP (.type "object") = some true)
    (tyP : PySem.W.typeIn K (.ref aP) = some (.type "type"))
    (s1 : PySem.W.subIn K (.ref aP) (.ref aP) = some true)
    (cc : PySem.W.findIn K (.ref aP) "__class__" = some (some (.builtin "object.__class__")))
    (cg : PySem.W.specialIn K (.builtin "object.__class__") "__get__" = some (some (.builtin "getset_descriptor.__get__")))
    (ctk : PySem.W.takesIn K (.builtin "object.__class__") = some true)
    (rd : PySem.W.readsIn K aP (.type "type") = true)
    (ga : PySem.W.specialIn K (.ref aP) "__getattribute__" = some (some (.builtin "type.__getattribute__")))
    (fc : PySem.W.findCls K (.ref aP) (.type "type") "summed" = some (.get (.builtin "classmethod.__get__") (.ref pS) .none (.ref aP)))
    (rc : PySem.W.recIn K pS "classmethod" = some (.ref f6 :: rest))
    (fi : PySem.W.fnIn K f6 = true)
    (kb0 : PySem.W.subIn K (.type "int") (.ref aP) = some false)
    (kb1 : PySem.W.subIn K (.type "bool") (.ref aP) = some false)
    (kb2 : PySem.W.subIn K (.type "str") (.ref aP) = some false)
    (kb3 : PySem.W.subIn K (.type "NoneType") (.ref aP) = some false)
    (kb4 : PySem.W.subIn K (.type "tuple") (.ref aP) = some false)
    (kb5 : PySem.W.subIn K (.type "list") (.ref aP) = some false)
    (z0 : PySem.W.nsIn K mainGlobals "len" = some none)
    (z1 : PySem.W.nsIn K mainGlobals "abs" = some none)
    (z2 : PySem.W.nsIn K mainGlobals "min" = some none)
    (z3 : PySem.W.nsIn K mainGlobals "max" = some none)
    (z4 : PySem.W.nsIn K mainGlobals "repr" = some none)
    (z5 : PySem.W.nsIn K mainGlobals "isinstance" = some none)
    (z6 : PySem.W.nsIn K mainGlobals "int" = some none)
    (z7 : PySem.W.nsIn K mainGlobals "tuple" = some none)
    (z8 : PySem.W.nsIn K mainGlobals "range" = some none) :
    ∀ base : Heap, ∃ C : Ctx, C.P = P ∧ C.w = wd ∧ C.K = K ∧ C.mg = mg ∧ C.base = base ∧ ∃ fd : FuncData, (∀ (s : Shared) (u : Value), BindsTo s fd ⟨[u], []⟩ [("_law_script", u)]) ∧ FG C 40 fa fd ["_law_script"] (spH C 1 S16) := by
  have ef := hfa.symm.trans (PySem.W.mg_of KX G g16)
  cases ef
  intro base
  let C : Ctx := ctxOf P wd K mg base aP (fun f => [f0, f1, f2, f3, f4, f5, f6, f7, f8, f9, f10, f11, f12, f13, f14, f15, fa].getD f 0) (fun f => [e0, e1, e2, e3, e4, e5, e6, e7, e8, e9, e10, e11, e12, e13, e14, e15, e16].getD f e0)
  refine ⟨C, rfl, rfl, rfl, rfl, rfl, e16, fun s u => ?_, ?_⟩
  · obtain ⟨oc, od, kV, doc, pm, an, cdv, cv, osl, e, l, c⟩ := F16.ex
    rw [e]
    exact .of_eq rfl
  have cl : Cls K aP := ⟨pg, hd, po, sa⟩
  have k1 : PySem.W.kitOne K (.ref aP) (.ref aP) = some true := if_pos (beq_self_eq_true _)
  have kA : ∀ n, PySem.W.subIn K (.type n) (.ref aP) = some false → PySem.W.kitOne K (.type n) (.ref aP) = some false := fun n hs => by
    have hc : (PySem.W.clsIn K aP).isSome = true := by
      obtain ⟨cd, hc, _⟩ := PySem.W.any_some hd
      rw [hc]
      rfl
    unfold PySem.W.kitOne
    have hne : (Value.type n == Value.ref aP) = false := beq_eq_false_iff_ne.mpr (fun z => by cases z)
    rw [hne, if_neg Bool.false_ne_true]
    unfold PySem.W.kitCls
    dsimp only
    rw [hc, tyP]
    exact hs
  have B0 := F0.binds (ps := ["a", "b"]) fun _ _ _ _ _ _ us hl => match us, hl with | [_, _], _ => rfl
  have B2 := F2.binds (ps := ["self", "other"]) fun _ _ _ _ _ _ us hl => match us, hl with | [_, _], _ => rfl
  have B3 := F3.binds (ps := ["self", "other"]) fun _ _ _ _ _ _ us hl => match us, hl with | [_, _], _ => rfl
  have B4 := F4.binds (ps := ["self", "other"]) fun _ _ _ _ _ _ us hl => match us, hl with | [_, _], _ => rfl
  have B5 := F5.binds (ps := ["self", "other"]) fun _ _ _ _ _ _ us hl => match us, hl with | [_, _], _ => rfl
  have B6 := F6.binds (ps := ["cls", "parts"]) fun _ _ _ _ _ _ us hl => match us, hl with | [_, _], _ => rfl
  have B7 := F7.binds (ps := ["_law_script", "_law_k"]) fun _ _ _ _ _ _ us hl => match us, hl with | [_, _], _ => rfl
  have B8 := F8.binds (ps := ["_law_box_here", "_law_many"]) fun _ _ _ _ _ _ us hl => match us, hl with | [_, _], _ => rfl
  have B9 := F9.binds (ps := ["_law_top", "_law_bottom"]) fun _ _ _ _ _ _ us hl => match us, hl with | [_, _], _ => rfl
  have B10 := F10.binds (ps := ["_law_one", "_law_other"]) fun _ _ _ _ _ _ us hl => match us, hl with | [_, _], _ => rfl
  have B11 := F11.binds (ps := ["_law_one", "_law_other"]) fun _ _ _ _ _ _ us hl => match us, hl with | [_, _], _ => rfl
  have B12 := F12.binds (ps := ["_law_part", "_law_pair"]) fun _ _ _ _ _ _ us hl => match us, hl with | [_, _], _ => rfl
  have B13 := F13.binds (ps := ["_law_box_here"]) fun _ _ _ _ _ _ us hl => match us, hl with | [_], _ => rfl
  have B14 := F14.binds (ps := ["_law_box_here"]) fun _ _ _ _ _ _ us hl => match us, hl with | [_], _ => rfl
  have B15 := F15.binds (ps := ["_law_one", "_law_other"]) fun _ _ _ _ _ _ us hl => match us, hl with | [_, _], _ => rfl
  have B16 := F16.binds (ps := ["_law_script"]) fun _ _ _ _ _ _ us hl => match us, hl with | [_], _ => rfl
  have FI : FT C (C.fa 1) (C.fd 1) (C.ps 1) (C.df 1) := by
    refine ⟨F1.kp, fun m h1 h2 => ?_⟩
    have h1 : 3 ≤ m + 1 := h1
    have h2 : m ≤ 3 := h2
    have hm : m = 2 ∨ m = 3 := by omega
    rcases hm with rfl | rfl
    · obtain ⟨ds, v, b⟩ := F1.binds1 (ps := ["self", "top", "bottom"]) 2 0 (by simp) rfl fun T kV doc pm an cdv cv us its hu hi => match us, hu, its, hi with
        | [_, _], _, [_], _ => ⟨_, rfl, rfl⟩
      exact ⟨ds, _, b, v, fun F mu => .cons (.int 1) .nil⟩
    · obtain ⟨ds, v, b⟩ := F1.binds1 (ps := ["self", "top", "bottom"]) 3 1 (by simp) rfl fun T kV doc pm an cdv cv us its hu hi => match us, hu, its, hi with
        | [_, _, _], _, [_], _ => ⟨_, rfl, rfl⟩
      exact ⟨ds, _, b, v, fun F mu => .nil⟩
  have St : Stat C prog := {
    ft := fun f hf => match f, hf with
      | 0, _ => FT.plain F0.kp B0
      | 1, ⟨_, _, _, _, z⟩ => z.elim
      | 2, _ => FT.plain F2.kp B2
      | 3, _ => FT.plain F3.kp B3
      | 4, _ => FT.plain F4.kp B4
      | 5, _ => FT.plain F5.kp B5
      | 6, _ => FT.plain F6.kp B6
      | 7, _ => FT.plain F7.kp B7
      | 8, _ => FT.plain F8.kp B8
      | 9, _ => FT.plain F9.kp B9
      | 10, _ => FT.plain F10.kp B10
      | 11, _ => FT.plain F11.kp B11
      | 12, _ => FT.plain F12.kp B12
      | 13, _ => FT.plain F13.kp B13
      | 14, _ => FT.plain F14.kp B14
      | 15, _ => FT.plain F15.kp B15
      | 16, _ => FT.plain F16.kp B16
      | _ + 17, ⟨_, _, _, _, z⟩ => z.elim
    len := fun f vs st Q X h => match f, h with
      | 0, h => (w0 vs st Q X h).1
      | 1, z => False.elim z
      | 2, h => (w2 vs st Q X h).1
      | 3, h => (w3 vs st Q X h).1
      | 4, h => (w4 vs st Q X h).1
      | 5, h => (w5 vs st Q X h).1
      | 6, h => (w6 vs st Q X h).1
      | 7, h => (w7 vs st Q X h).1
      | 8, h => (w8 vs st Q X h).1
      | 9, h => (w9 vs st Q X h).1
      | 10, h => (w10 vs st Q X h).1
      | 11, h => (w11 vs st Q X h).1
      | 12, h => (w12 vs st Q X h).1
      | 13, h => (w13 vs st Q X h).1
      | 14, h => (w14 vs st Q X h).1
      | 15, h => (w15 vs st Q X h).1
      | 16, h => (w16 vs st Q X h).1
      | _ + 17, z => False.elim z
    kind := fun f hf => match f, hf with
      | 0, _ => rfl
      | 1, ⟨_, _, _, _, z⟩ => z.elim
      | _ + 2, _ => rfl
    ini := fun c f h => match c, h with
      | 0, h => by
        cases h
        exact ⟨rfl, rfl, ⟨mk, m1, i1, kc⟩, FI, fun vs st Q X h => (w1 0 vs st Q X h).1⟩
      | _ + 1, h => by cases h
    prop := fun c m f h => by cases h
    meth := fun c m f h => by
      simp only [prog] at h
      split at h
      · cases h; exact ⟨cl, ⟨m2, i2, F2.kp⟩, (by show ("__add__" : Str) ∉ (["top", "bottom"] : List Str); decide +kernel), sf⟩
      · cases h; exact ⟨cl, ⟨m3, i3, F3.kp⟩, (by show ("__sub__" : Str) ∉ (["top", "bottom"] : List Str); decide +kernel), sf⟩
      · cases h; exact ⟨cl, ⟨m4, i4, F4.kp⟩, (by show ("__mul__" : Str) ∉ (["top", "bottom"] : List Str); decide +kernel), sf⟩
      · cases h; exact ⟨cl, ⟨m5, i5, F5.kp⟩, (by show ("__eq__" : Str) ∉ (["top", "bottom"] : List Str); decide +kernel), sf⟩
      · cases h
    fld := fun c m i h => by
      simp only [prog] at h
      split at h
      · cases h; exact ⟨cl, nT, rfl⟩
      · cases h; exact ⟨cl, nB, rfl⟩
      · cases h
    isb := fun c h n hn => by
      simp only [List.mem_cons, List.not_mem_nil, or_false] at hn
      rcases hn with rfl | rfl | rfl | rfl | rfl | rfl
      · exact ⟨kA _ kb0, kb0⟩
      · exact ⟨kA _ kb1, kb1⟩
      · exact ⟨kA _ kb2, kb2⟩
      · exact ⟨kA _ kb3, kb3⟩
      · exact ⟨kA _ kb4, kb4⟩
      · exact ⟨kA _ kb5, kb5⟩
    isi := fun d c b h => by
      simp only [prog] at h
      split at h
      · cases h; exact ⟨k1, s1, cl, cc, cg, ctk, mo⟩
      · cases h
    fls := fun c => match c with
      | 0 => (by show (["top", "bottom"] : List Str).length ≤ 900 ∧ (["top", "bottom"] : List Str).Nodup; exact ⟨by decide, by decide +kernel⟩)
      | _ + 1 => (by show ([] : List Str).length ≤ 900 ∧ ([] : List Str).Nodup; exact ⟨by decide, List.nodup_nil⟩)
    ne := fun c f h => ⟨ne, mo⟩
    mn0 := rfl
    mn1 := rfl
    mn2 := rfl
    mn3 := rfl
    mn4 := rfl
    mn5 := rfl
    mn7 := rfl }
  have T : ∀ i, CTOk C (prog.sig i) ct := fun i => {
    fn := fun x f h => by
      have z := PySem.mem_of_lookup h
      simp only [ct, List.mem_cons, List.not_mem_nil, or_false, Prod.mk.injEq] at z
      rcases z with ⟨rfl, z⟩ | ⟨rfl, z⟩ | ⟨rfl, z⟩ | ⟨rfl, z⟩ | ⟨rfl, z⟩ | ⟨rfl, z⟩ | ⟨rfl, z⟩ | ⟨rfl, z⟩ | ⟨rfl, z⟩ | ⟨rfl, z⟩ | ⟨rfl, z⟩
      · cases z
      · cases z; exact ⟨PySem.W.mg_of KX G g0, F0.kp⟩
      · cases z; exact ⟨PySem.W.mg_of KX G g7, F7.kp⟩
      · cases z; exact ⟨PySem.W.mg_of KX G g8, F8.kp⟩
      · cases z; exact ⟨PySem.W.mg_of KX G g9, F9.kp⟩
      · cases z; exact ⟨PySem.W.mg_of KX G g10, F10.kp⟩
      · cases z; exact ⟨PySem.W.mg_of KX G g11, F11.kp⟩
      · cases z; exact ⟨PySem.W.mg_of KX G g12, F12.kp⟩
      · cases z; exact ⟨PySem.W.mg_of KX G g13, F13.kp⟩
      · cases z; exact ⟨PySem.W.mg_of KX G g14, F14.kp⟩
      · cases z; exact ⟨PySem.W.mg_of KX G g15, F15.kp⟩
    cls := fun x c h => by
      have z := PySem.mem_of_lookup h
      simp only [ct, List.mem_cons, List.not_mem_nil, or_false, Prod.mk.injEq] at z
      rcases z with ⟨rfl, z⟩ | ⟨rfl, z⟩ | ⟨rfl, z⟩ | ⟨rfl, z⟩ | ⟨rfl, z⟩ | ⟨rfl, z⟩ | ⟨rfl, z⟩ | ⟨rfl, z⟩ | ⟨rfl, z⟩ | ⟨rfl, z⟩ | ⟨rfl, z⟩
      · cases z; exact ⟨PySem.W.mg_of KX G gP, kc⟩
      · cases z
      · cases z
      · cases z
      · cases z
      · cases z
      · cases z
      · cases z
      · cases z
      · cases z
      · cases z
    blt := fun x hx _ => by
      simp only [bltNames, List.mem_cons, List.not_mem_nil, or_false] at hx
      rcases hx with rfl | rfl | rfl | rfl | rfl | rfl | rfl | rfl | rfl
      · exact PySem.W.mg_none_of KX G z0
      · exact PySem.W.mg_none_of KX G z1
      · exact PySem.W.mg_none_of KX G z2
      · exact PySem.W.mg_none_of KX G z3
      · exact PySem.W.mg_none_of KX G z4
      · exact PySem.W.mg_none_of KX G z5
      · exact PySem.W.mg_none_of KX G z6
      · exact PySem.W.mg_none_of KX G z7
      · exact PySem.W.mg_none_of KX G z8
    ar := fun f => match f with
      | 0 => rfl
      | 1 => rfl
      | 2 => rfl
      | 3 => rfl
      | 4 => rfl
      | 5 => rfl
      | 6 => rfl
      | 7 => rfl
      | 8 => rfl
      | 9 => rfl
      | 10 => rfl
      | 11 => rfl
      | 12 => rfl
      | 13 => rfl
      | 14 => rfl
      | 15 => rfl
      | 16 => rfl
      | _ + 17 => rfl
    df := fun f => rfl
    ini := fun c => rfl
    mn := fun i x h => by
      show x = ct.names.getD i ""
      rw [List.getD_eq_getElem?_getD, h]
      rfl
    cmt := fun c m g h => by
      have h : (match (c, m) == ((0, "summed") : Nat × Str) with
        | true => some 6
        | false => none) = some g := h
      split at h
      · rename_i e
        have e := beq_iff_eq.mp e
        cases e
        cases h
        exact ⟨.type "type", pS, ⟨rd, ga⟩, ⟨fc, ⟨rest, rc⟩, fi⟩⟩
      · cases h
    mths := fun c m g h => by
      have h : prog.meth c m = some g := h
      simp only [prog] at h
      split at h <;> cases h <;> decide }
  have H0 : ∀ f, f < 0 → Done C prog 0 f := fun f h => absurd h (Nat.not_lt_zero f)
  have H1 : ∀ f, f < 1 → Done C prog 2 f := more H0 (fg_def (f := 0) (defAt_of F0 sc0) (body_ok (T 0) sc0.nd c0) (tab_of St H0) w0)
  have H2 : ∀ f, f < 2 → Done C prog 4 f := more H1 (fg_init (c := 0) (defAt_D F1 sc1) (body_ok (T 1) sc1.nd c1) (tab_of St H1) w1)
  have H3 : ∀ f, f < 3 → Done C prog 6 f := more H2 (fg_def (f := 2) (defAt_of F2 sc2) (body_ok (T 2) sc2.nd c2) (tab_of St H2) w2)
  have H4 : ∀ f, f < 4 → Done C prog 8 f := more H3 (fg_def (f := 3) (defAt_of F3 sc3) (body_ok (T 3) sc3.nd c3) (tab_of St H3) w3)
  have H5 : ∀ f, f < 5 → Done C prog 10 f := more H4 (fg_def (f := 4) (defAt_of F4 sc4) (body_ok (T 4) sc4.nd c4) (tab_of St H4) w4)
  have H6 : ∀ f, f < 6 → Done C prog 12 f := more H5 (fg_def (f := 5) (defAt_of F5 sc5) (body_ok (T 5) sc5.nd c5) (tab_of St H5) w5)
  have H7 : ∀ f, f < 7 → Done C prog 14 f := more H6 (fg_def (f := 6) (defAt_of F6 sc6) (body_ok (T 6) sc6.nd c6) (tab_of St H6) w6)
  have H8 : ∀ f, f < 8 → Done C prog 16 f := more H7 (fg_def (f := 7) (defAt_of F7 sc7) (body_ok (T 7) sc7.nd c7) (tab_of St H7) w7)
  have H9 : ∀ f, f < 9 → Done C prog 18 f := more H8 (fg_def (f := 8) (defAt_of F8 sc8) (body_ok (T 8) sc8.nd c8) (tab_of St H8) w8)
  have H10 : ∀ f, f < 10 → Done C prog 20 f := more H9 (fg_def (f := 9) (defAt_of F9 sc9) (body_ok (T 9) sc9.nd c9) (tab_of St H9) w9)
  have H11 : ∀ f, f < 11 → Done C prog 22 f := more H10 (fg_def (f := 10) (defAt_of F10 sc10) (body_ok (T 10) sc10.nd c10) (tab_of St H10) w10)
  have H12 : ∀ f, f < 12 → Done C prog 24 f := more H11 (fg_def (f := 11) (defAt_of F11 sc11) (body_ok (T 11) sc11.nd c11) (tab_of St H11) w11)
  have H13 : ∀ f, f < 13 → Done C prog 26 f := more H12 (fg_def (f := 12) (defAt_of F12 sc12) (body_ok (T 12) sc12.nd c12) (tab_of St H12) w12)
  have H14 : ∀ f, f < 14 → Done C prog 28 f := more H13 (fg_def (f := 13) (defAt_of F13 sc13) (body_ok (T 13) sc13.nd c13) (tab_of St H13) w13)
  have H15 : ∀ f, f < 15 → Done C prog 30 f := more H14 (fg_def (f := 14) (defAt_of F14 sc14) (body_ok (T 14) sc14.nd c14) (tab_of St H14) w14)
  have H16 : ∀ f, f < 16 → Done C prog 32 f := more H15 (fg_def (f := 15) (defAt_of F15 sc15) (body_ok (T 15) sc15.nd c15) (tab_of St H15) w15)
  have H17 : ∀ f, f < 17 → Done C prog 34 f := more H16 (fg_def (f := 16) (defAt_of F16 sc16) (body_ok (T 16) sc16.nd c16) (tab_of St H16) w16)
  exact (H17 16 (by decide)).mono (by decide)
end RF.K3

end
section
theorem RF.K3.sp16 : RF.LawSp RF.K3.S16 63 := fun ns hl => ⟨ns, rfl, fun st' => rfl⟩
open PySem PySem.W PyProof.Rows
set_option maxRecDepth 100000 in
set_option maxHeartbeats 0 in
theorem PySem.Challenge.cw_ringfates_k03_sums_and_products_holds : PySem.Challenge.rw_ringfates_k03_sums_and_products.Holds := by
  w_on; o_law; k_head; (case hw => w_witness2)
  k_fill
  refine RF.law_fg (l := PySem.Challenge.rw_ringfates_k03_sums_and_products) (n := 63) (k := 40) (x := "_law_script") (sp := RF.K3.S16) rfl (by decide) rfl ⟨rfl, by decide, by decide⟩ rfl (fun w h Y => PySem.W.kIn_of Y) ?F RF.K3.sp16
  case F =>
    intro w mg fa h KX G hmg
    refine' RF.K3.all_mk KX G hmg (L2.fun_mk ?rf_l0 ?rf_c0 ?rf_kp0) (RF.K3.fund_mk ?rf_l1 ?rf_lT ?rf_c1 ?rf_kp1) (L2.fun_mk ?rf_l2 ?rf_c2 ?rf_kp2) (L2.fun_mk ?rf_l3 ?rf_c3 ?rf_kp3) (L2.fun_mk ?rf_l4 ?rf_c4 ?rf_kp4) (L2.fun_mk ?rf_l5 ?rf_c5 ?rf_kp5) (L2.fun_mk ?rf_l6 ?rf_c6 ?rf_kp6) (L2.fun_mk ?rf_l7 ?rf_c7 ?rf_kp7) (L2.fun_mk ?rf_l8 ?rf_c8 ?rf_kp8) (L2.fun_mk ?rf_l9 ?rf_c9 ?rf_kp9) (L2.fun_mk ?rf_l10 ?rf_c10 ?rf_kp10) (L2.fun_mk ?rf_l11 ?rf_c11 ?rf_kp11) (L2.fun_mk ?rf_l12 ?rf_c12 ?rf_kp12) (L2.fun_mk ?rf_l13 ?rf_c13 ?rf_kp13) (L2.fun_mk ?rf_l14 ?rf_c14 ?rf_kp14) (L2.fun_mk ?rf_l15 ?rf_c15 ?rf_kp15) (L2.fun_mk ?rf_l16 ?rf_c16 ?rf_kp16) ?rf_g0 ?rf_m1 ?rf_i1 ?rf_m2 ?rf_i2 ?rf_m3 ?rf_i3 ?rf_m4 ?rf_i4 ?rf_m5 ?rf_i5 ?rf_g7 ?rf_g8 ?rf_g9 ?rf_g10 ?rf_g11 ?rf_g12 ?rf_g13 ?rf_g14 ?rf_g15 ?rf_g16 ?rf_gP ?rf_x_pg ?rf_x_hd ?rf_x_po ?rf_x_sa ?rf_x_mk ?rf_x_kc ?rf_x_nT ?rf_x_nB ?rf_x_sf ?rf_x_ne ?rf_x_mo ?rf_x_tyP ?rf_x_s1 ?rf_x_cc ?rf_x_cg ?rf_x_ctk ?rf_x_rd ?rf_x_ga ?rf_x_fc ?rf_x_rc ?rf_x_fi ?rf_x_kb0 ?rf_x_kb1 ?rf_x_kb2 ?rf_x_kb3 ?rf_x_kb4 ?rf_x_kb5 ?rf_x_z0 ?rf_x_z1 ?rf_x_z2 ?rf_x_z3 ?rf_x_z4 ?rf_x_z5 ?rf_x_z6 ?rf_x_z7 ?rf_x_z8
    (case rf_gP => k_is)
    (case rf_g0 => k_is)
    (case rf_l0 => k_is)
    (case rf_c0 => k_is)
    (case rf_kp0 => k_is)
    (case rf_m1 => k_is)
    (case rf_i1 => k_is)
    (case rf_l1 => k_is)
    (case rf_lT => k_is)
    (case rf_c1 => k_is)
    (case rf_kp1 => k_is)
    (case rf_m2 => k_is)
    (case rf_i2 => k_is)
    (case rf_l2 => k_is)
    (case rf_c2 => k_is)
    (case rf_kp2 => k_is)
    (case rf_m3 => k_is)
    (case rf_i3 => k_is)
    (case rf_l3 => k_is)
    (case rf_c3 => k_is)
    (case rf_kp3 => k_is)
    (case rf_m4 => k_is)
    (case rf_i4 => k_is)
    (case rf_l4 => k_is)
    (case rf_c4 => k_is)
    (case rf_kp4 => k_is)
    (case rf_m5 => k_is)
    (case rf_i5 => k_is)
    (case rf_l5 => k_is)
    (case rf_c5 => k_is)
    (case rf_kp5 => k_is)
    (case rf_x_fc => k_is)
    (case rf_x_rc => k_is)
    (case rf_l6 => k_is)
    (case rf_c6 => k_is)
    (case rf_kp6 => k_is)
    (case rf_g7 => k_is)
    (case rf_l7 => k_is)
    (case rf_c7 => k_is)
    (case rf_kp7 => k_is)
    (case rf_g8 => k_is)
    (case rf_l8 => k_is)
    (case rf_c8 => k_is)
    (case rf_kp8 => k_is)
    (case rf_g9 => k_is)
    (case rf_l9 => k_is)
    (case rf_c9 => k_is)
    (case rf_kp9 => k_is)
    (case rf_g10 => k_is)
    (case rf_l10 => k_is)
    (case rf_c10 => k_is)
    (case rf_kp10 => k_is)
    (case rf_g11 => k_is)
    (case rf_l11 => k_is)
    (case rf_c11 => k_is)
    (case rf_kp11 => k_is)
    (case rf_g12 => k_is)
    (case rf_l12 => k_is)
    (case rf_c12 => k_is)
    (case rf_kp12 => k_is)
    (case rf_g13 => k_is)
    (case rf_l13 => k_is)
    (case rf_c13 => k_is)
    (case rf_kp13 => k_is)
    (case rf_g14 => k_is)
    (case rf_l14 => k_is)
    (case rf_c14 => k_is)
    (case rf_kp14 => k_is)
    (case rf_g15 => k_is)
    (case rf_l15 => k_is)
    (case rf_c15 => k_is)
    (case rf_kp15 => k_is)
    (case rf_g16 => k_is)
    (case rf_l16 => k_is)
    (case rf_c16 => k_is)
    (case rf_kp16 => k_is)
    (case rf_x_pg => k_is)
    (case rf_x_hd => k_is)
    (case rf_x_po => k_is)
    (case rf_x_sa => k_is)
    (case rf_x_mk => k_is)
    (case rf_x_kc => k_is)
    (case rf_x_nT => k_is)
    (case rf_x_nB => k_is)
    (case rf_x_sf => k_is)
    (case rf_x_ne => k_is)
    (case rf_x_mo => k_is)
    (case rf_x_tyP => k_is)
    (case rf_x_s1 => k_is)
    (case rf_x_cc => k_is)
    (case rf_x_cg => k_is)
    (case rf_x_ctk => k_is)
    (case rf_x_rd => k_is)
    (case rf_x_ga => k_is)
    (case rf_x_fi => k_is)
    (case rf_x_kb0 => k_is)
    (case rf_x_kb1 => k_is)
    (case rf_x_kb2 => k_is)
    (case rf_x_kb3 => k_is)
    (case rf_x_kb4 => k_is)
    (case rf_x_kb5 => k_is)
    (case rf_x_z0 => k_is)
    (case rf_x_z1 => k_is)
    (case rf_x_z2 => k_is)
    (case rf_x_z3 => k_is)
    (case rf_x_z4 => k_is)
    (case rf_x_z5 => k_is)
    (case rf_x_z6 => k_is)
    (case rf_x_z7 => k_is)
    (case rf_x_z8 => k_is)

end
