import PyProof.Rows.All
import Wide.All
import OpenK.AllK
import Wide.FinOn
import HandS.ForMost
import HandS.CallSlots
import HandS.TryOnly
import HandS.ForExc
import HandS.IsInst
import HandS.Strs
import HandS.SortInts
import HandS.TupAny
import HandS.TupMul
import HandS.Wide
import HandS.SetFor
import HandS.EndBits
import KE.SortData
import KE.DataCmp
import KE.KSortedM
import KE.KExcSuper
import HandS.ExcInit
import HandS.ExcSuper
import KE.KExcIs
import HandS.ExcField
import HandS.HotCalls
import KE.GoesRaise
import HandS.TryMany
import KE.RegKSuper
import KE.RegKTryMore
import KE.RegKIsAll
import PySem.Challenge.RW_lastdoor_k09_whole_combination_or_twin
set_option Elab.async false
set_option linter.all false
set_option maxRecDepth 100000
/-! MiniPy: a small language of Python texts with data as trees; its meaning as plain functions. -/
namespace MP
open PySem L2

inductive Val where
  | non | bl (b : Bool) | int (i : Int) | str (s : Str)
  | tup (xs : List Val) | lst (xs : List Val) | loc (n : Nat) | scr (xs : List Val)
  | obj (c : Str) (ns : List Str) (xs : List Val)

inductive Cell where
  | lst (xs : List Val) | frz (xs : List Val) | dk (kvs : List (Key × Val)) | dead
  | obj (c : Str) (ns : List Str) (xs : List Val) | fob (c : Str) (ns : List Str) (xs : List Val)
abbrev Store := List Cell
abbrev Env := List (Option Val)
inductive R (α : Type) where
  | ok (a : α) | exn (c : Str) (fs : List Val) (st : Store) | stuck
abbrev RV := R (Val × Store)
abbrev Mir := List Val → Store → RV
abbrev Tab := Str → Option Mir

def R.bind {α β : Type} (r : R α) (f : α → R β) : R β := match r with
  | .ok a => f a
  | .exn c fs st => .exn c fs st
  | .stuck => .stuck
@[simp] theorem R.bind_ok {α β : Type} (a : α) (f : α → R β) : (R.ok a).bind f = f a := rfl
@[simp] theorem R.bind_exn {α β : Type} (c : Str) (fs : List Val) (st : Store) (f : α → R β) : (R.exn c fs st).bind f = .exn c fs st := rfl
@[simp] theorem R.bind_stuck {α β : Type} (f : α → R β) : (R.stuck : R α).bind f = .stuck := rfl

/-- the largest length of a list, a tuple, a text that is made -/
def szMax : Nat := 100000

inductive BOp where | add | sub | mul | fdiv | mod | pow
  deriving DecidableEq
inductive COp where | eq | ne | lt | le | gt | ge | is_ | isnot | in_ | notin
  deriving DecidableEq
inductive Ty where | int | bool | str | tuple | list
  deriving DecidableEq
/-- built-in functions of one argument that give a plain value -/
inductive F1 where | len | int | abs | bool | sum | min | max | lenset
  deriving DecidableEq
/-- .. that give a new list or tuple -/
inductive G1 where | list | tuple | sorted | sortset
  deriving DecidableEq

/-- what a loop stores to -/
inductive Tg where | one (i : Nat) | many (is : List Nat)
mutual
inductive E where
  | var (i : Nat) | int (i : Int) | bl (b : Bool) | non | str (s : Str) | glob (x : Str)
  | tup (es : Es) | lst (m : Bool) (es : Es)
  | bin (m : Bool) (op : BOp) (a b : E) | neg (a : E) | not (a : E)
  | cmp (op : COp) (a b : E) | chain (op op' : COp) (a b c : E)
  | bo (k : Bool) (es : Es) | ifx (c a b : E)
  | call (f : Str) (es : Es)
  | isi (a : E) (t : Ty) | isi2 (a : E) (t u : Ty)
  | f1 (f : F1) (a : E) | mm (k : Bool) (a b : E) | g1 (m : Bool) (f : G1) (a : E)
  | sub (a i : E) | slc (m : Bool) (a lo hi : E) | no
  | rng (es : Es)
  | comp (m : Bool) (x : Nat) (it c elt : E)
  | compt (m : Bool) (is : List Nat) (it c elt : E)
  | compc (m : Bool) (t : Tg) (a c elt : E)
  | frz (a : E)
  | app (o a : E)
  | xfld (h j : Nat) | xis (h : Nat) (ys : List (Str × List Str))
  | fld (c f : Str) (a : E) | new (c : Str) (es : Es) | meth (c m : Str) (o : E) (es : Es)
inductive Es where
  | nil | cons (e : E) (r : Es)
end

mutual
inductive S where
  | asg (i : Nat) (e : E)
  | asgt (is : List Nat) (e : E) | fort (is : List Nat) (it : E) (b : Ss)
  | sto (o i e : E)
  | stf (c f : Str) (o e : E)
  | expr (e : E)
  | ite (c : E) (a b : Ss)
  | forr (i : Nat) (it : E) (body : Ss)
  | forc (t : Tg) (a : E) (body : Ss)
  | whil (n : Nat) (c : E) (body : Ss)
  | ret (e : E) | retn | pass | brk | cnt | never
  | raise (c : Str) (es : Es)
  | tryx (b : Ss) (hs : Hs)
inductive Ss where
  | nil | cons (s : S) (r : Ss)
inductive Hs where
  | nil | cons (x : Str) (D : List Str) (sl : Option Nat) (b : Ss) (r : Hs)
end

/-! ### values -/
/-- the items of a list or a tuple; true: a list -/
def seqOf (st : Store) : Val → Option (Bool × List Val)
  | .tup xs => some (false, xs)
  | .lst xs => some (true, xs)
  | .scr xs => some (true, xs)
  | .loc n => match st[n]? with
    | some (.lst xs) => some (true, xs)
    | some (.frz xs) => some (true, xs)
    | _ => none
  | _ => none
/-- the items of a list that was made by the program -/
def lstOf (st : Store) : Val → Option (List Val)
  | .lst xs => some xs
  | .loc n => match st[n]? with
    | some (.lst xs) => some xs
    | some (.frz xs) => some xs
    | _ => none
  | _ => none

mutual
def toPD : Val → PyData
  | .non => .none
  | .bl b => .bool b
  | .int i => .int i
  | .str s => .str s
  | .tup xs => .tuple (toPDs xs)
  | .lst xs => .list (toPDs xs)
  | .scr xs => .list (toPDs xs)
  | .loc _ => .dict []
  | .obj _ _ _ => .dict []
def toPDs : List Val → List PyData
  | [] => []
  | x :: xs => toPD x :: toPDs xs
end

def newL (m : Bool) (xs : List Val) (st : Store) : RV :=
  if xs.length ≤ szMax then (if m then .ok (.loc st.length, st ++ [.lst xs]) else .ok (.lst xs, st)) else .stuck
def newT (xs : List Val) (st : Store) : RV := if xs.length ≤ szMax then .ok (.tup xs, st) else .stuck

def mulOk (i j : Int) : Bool := decide (i.natAbs.log2 + j.natAbs.log2 < 100000000)
def binV (m : Bool) (op : BOp) (x y : Val) (st : Store) : RV := match op, x, y with
  | .add, .int i, .int j => .ok (.int (i + j), st)
  | .sub, .int i, .int j => .ok (.int (i - j), st)
  | .mul, .int i, .int j => if mulOk i j then .ok (.int (i * j), st) else .stuck
  | .fdiv, .int i, .int j => if 0 < j ∧ j.natAbs.log2 < 9000 then .ok (.int (i / j), st) else .stuck
  | .mod, .int i, .int j => if 0 < j then .ok (.int (i % j), st) else .stuck
  | .pow, .int i, .int j => if 0 ≤ j ∧ j ≤ 1000000 ∧ i.natAbs < 2 ^ 64 then .ok (.int (i ^ j.toNat), st) else .stuck
  | .add, .str a, .str b => if a.length + b.length ≤ szMax then .ok (.str (a ++ b), st) else .stuck
  | .add, .tup xs, .tup ys => newT (xs ++ ys) st
  | .mul, .tup xs, .int k => if xs.isEmpty = false ∧ -1000 ≤ k ∧ k ≤ 1000 ∧ xs.length ≤ 100 then newT (List.replicate k.toNat xs).flatten st else .stuck
  | .add, a, b => match lstOf st a, lstOf st b with
    | some xs, some ys => newL m (xs ++ ys) st
    | _, _ => .stuck
  | .mul, a, .int k => match lstOf st a with
    | some xs => if xs.length * k.toNat ≤ szMax ∧ k ≤ 1000000 ∧ -1000000 ≤ k then newL m (List.replicate k.toNat xs).flatten st else .stuck
    | none => .stuck
  | _, _, _ => .stuck

def flat : Val → Bool
  | .non => true | .bl _ => true | .int _ => true | .str _ => true | _ => false
/-- == of flat things, as Python has it -/
def eqF (x y : Val) : Bool := PyData.eqv (toPD x) (toPD y)
/-- can be ordered, place by place -/
def ordOk (x y : Val) : Bool := PySem.W.alike (toPD x) (toPD y) && (PyData.canLay0 (toPD x) && (PyData.canLay0 (toPD y) && decide ((toPD x).depth ≤ 60))) && (match x with | .non => false | _ => true)
def ltV (x y : Val) : Bool := PySem.W.dataLt (toPD x) (toPD y)
def cmpV (op : COp) (x y : Val) (st : Store) : R Bool := match op with
  | .eq => if SeqAt.shaped (toPD x) && SeqAt.shaped (toPD y) then .ok (PyData.eqv (toPD x) (toPD y)) else .stuck
  | .ne => if SeqAt.shaped (toPD x) && SeqAt.shaped (toPD y) then .ok (!PyData.eqv (toPD x) (toPD y)) else .stuck
  | .lt => match x, y with | .int i, .int j => .ok (decide (i < j)) | x, y => if ordOk x y then .ok (ltV x y) else .stuck
  | .le => match x, y with | .int i, .int j => .ok (decide (i ≤ j)) | x, y => if ordOk x y then .ok (!ltV y x) else .stuck
  | .gt => match x, y with | .int i, .int j => .ok (decide (j < i)) | x, y => if ordOk x y then .ok (ltV y x) else .stuck
  | .ge => match x, y with | .int i, .int j => .ok (decide (j ≤ i)) | x, y => if ordOk x y then .ok (!ltV x y) else .stuck
  | .is_ => match y with | .non => .ok (match x with | .non => true | _ => false) | .bl b => .ok (match x with | .bl a => a == b | _ => false) | _ => .stuck
  | .isnot => match y with | .non => .ok (match x with | .non => false | _ => true) | .bl b => .ok (match x with | .bl a => !(a == b) | _ => true) | _ => .stuck
  | .in_ => match seqOf st y with
    | some (_, xs) => if flat x && xs.all flat then .ok (xs.any fun z => eqF z x) else .stuck
    | none => .stuck
  | .notin => match seqOf st y with
    | some (_, xs) => if flat x && xs.all flat then .ok (!(xs.any fun z => eqF z x)) else .stuck
    | none => .stuck

def truth (st : Store) (x : Val) : R Bool := match x with
  | .non => .ok false
  | .bl b => .ok b
  | .int i => .ok (i != 0)
  | .str y => if y.length ≤ szMax then .ok ((y.length : Int) != 0) else .stuck
  | v => match seqOf st v with
    | some (_, xs) => .ok (!xs.isEmpty)
    | none => .stuck

def isL : Ty → Bool
  | .list => true
  | _ => false
def isTy (st : Store) (t : Ty) : Val → Option Bool
  | .obj _ _ _ => none
  | .non => some false
  | .bl _ => some (match t with | .bool => true | .int => true | _ => false)
  | .int _ => some (match t with | .int => true | _ => false)
  | .str _ => some (match t with | .str => true | _ => false)
  | .tup _ => some (match t with | .tuple => true | _ => false)
  | .lst _ => some (isL t)
  | .scr _ => some (isL t)
  | .loc n => match st[n]? with
    | some (.lst _) => some (isL t)
    | some (.frz _) => some (isL t)
    | _ => none

def asInts : List Val → Option (List Int)
  | [] => some []
  | .int i :: xs => (asInts xs).map (i :: ·)
  | _ :: _ => none
def minL (k : Int) : List Int → Int
  | [] => k
  | x :: xs => minL (if x < k then x else k) xs
def maxL (k : Int) : List Int → Int
  | [] => k
  | x :: xs => maxL (if k < x then x else k) xs
def insI (k : Int) : List Int → List Int
  | [] => [k]
  | x :: xs => if k ≤ x then k :: x :: xs else x :: insI k xs
def sortI : List Int → List Int
  | [] => []
  | x :: xs => insI x (sortI xs)
def insS (k : Int) : List Int → List Int
  | [] => [k]
  | x :: xs => if k < x then k :: x :: xs else if k = x then x :: xs else x :: insS k xs
def sortS : List Int → List Int
  | [] => []
  | x :: xs => insS x (sortS xs)

def f1V (f : F1) (x : Val) (st : Store) : R Val := match f with
  | .len => match x with
    | .str y => if y.length ≤ szMax then .ok (.int y.length) else .stuck
    | v => match seqOf st v with
      | some (_, xs) => .ok (.int xs.length)
      | none => .stuck
  | .int => match x with | .int i => .ok (.int i) | .bl b => .ok (.int (if b then 1 else 0)) | _ => .stuck
  | .abs => match x with | .int i => .ok (.int (if i < 0 then -i else i)) | _ => .stuck
  | .bool => match x with | .int i => .ok (.bl (i != 0)) | .bl b => .ok (.bl b) | _ => .stuck
  | .sum => match seqOf st x with
    | some (true, xs) => match asInts xs with | some ns => .ok (.int ns.sum) | none => .stuck
    | _ => .stuck
  | .min => match seqOf st x with
    | some (true, xs) => match asInts xs with | some (n :: ns) => .ok (.int (minL n ns)) | _ => .stuck
    | _ => .stuck
  | .max => match seqOf st x with
    | some (true, xs) => match asInts xs with | some (n :: ns) => .ok (.int (maxL n ns)) | _ => .stuck
    | _ => .stuck
  | .lenset => match seqOf st x with
    | some (true, xs) => match asInts xs with | some ns => if ns.length < 64 then .ok (.int (sortS ns).length) else .stuck | none => .stuck
    | _ => .stuck
def leV (x y : Val) : Bool := PySem.W.dataLe false toPD x y
/-- can be sorted -/
def sortOk (xs : List Val) : Bool := (xs.all fun x => (xs.all fun y => PySem.W.alike (toPD x) (toPD y)) && (PyData.canLay0 (toPD x) && decide ((toPD x).depth ≤ 60))) &&
  ((xs.all fun x => match x with | .tup (_ :: _) => true | _ => false) || (xs.all fun x => match x with | .tup _ => false | .non => false | _ => true))
def mmV (k : Bool) (x y : Val) : R Val := match x, y with
  | .int i, .int j => .ok (.int (if k then (if j > i then j else i) else (if j < i then j else i)))
  | _, _ => .stuck
def g1V (m : Bool) (f : G1) (x : Val) (st : Store) : RV := match f with
  | .list => match seqOf st x with | some (_, xs) => newL m xs st | none => .stuck
  | .tuple => match seqOf st x with | some (_, xs) => newT xs st | none => .stuck
  | .sorted => match seqOf st x with
    | some (true, xs) => match asInts xs with | some ns => newL m ((sortI ns).map .int) st | none => if sortOk xs then newL m (xs.mergeSort leV) st else .stuck
    | _ => .stuck
  | .sortset => match seqOf st x with
    | some (true, xs) => match asInts xs with
      | some ns => if ns.length < 64 then newL m ((sortS ns).map .int) st else .stuck
      | none => .stuck
    | _ => .stuck

/-- x[i] -/
def ixV (st : Store) (x i : Val) : R Val := match i with
  | .int k => match x with
    | .str z => if z.length ≤ szMax then (match atI z.cps.toList k with | some c => .ok (.str ⟨#[c]⟩) | none => .stuck) else .stuck
    | v => match seqOf st v with
      | some (_, xs) => match atI xs k with | some y => .ok y | none => .stuck
      | none => .stuck
  | _ => .stuck
def partV (absent : Bool) (v : Val) : R (Option Int) := if absent then .ok none else match v with | .int i => .ok (some i) | _ => .stuck
def cutA (xs : List Val) (lo hi : Option Int) : List Val := (xs.drop (HT.sIx xs.length 0 lo)).take (HT.sIx xs.length xs.length hi - HT.sIx xs.length 0 lo)
def slcV (m : Bool) (st : Store) (x : Val) (lo hi : Option Int) : RV := match x with
  | .str z => .stuck
  | v => match seqOf st v with
    | some (true, xs) => newL m (cutA xs lo hi) st
    | some (false, xs) => newT (cutA xs lo hi) st
    | none => .stuck

def rangeL (lo : Int) (n : Nat) : List Val := (List.range n).map fun i => Val.int (lo + (i : Nat))
def rngOk (i : Int) : Bool := decide (-1000000 ≤ i ∧ i ≤ 1000000)
def rngV : List Val → R (List Val)
  | [.int j] => if rngOk j then .ok (rangeL 0 j.toNat) else .stuck
  | [.int i, .int j] => if rngOk i && rngOk j then .ok (rangeL i (j - i).toNat) else .stuck
  | [.int i, .int j, .int k] => if rngOk i && (rngOk j && decide (k = -1)) then .ok ((List.range (i - j).toNat).map fun n => Val.int (i - (n : Nat))) else .stuck
  | _ => .stuck

/-- the loop of a comprehension -/
def compL (c : Env → Store → R (Bool × Store)) (e : Env → Store → RV) (x : Nat) : List Val → Env → Store → R (List Val × Store)
  | [], _, st => .ok ([], st)
  | v :: vs, env, st => (c (env.set x (some v)) st).bind fun (b, st1) => if b then
      (e (env.set x (some v)) st1).bind fun (y, st2) => (compL c e x vs env st2).bind fun (ys, st3) => .ok (y :: ys, st3)
    else compL c e x vs env st1
/-- several names at once -/
def setN : List Nat → List Val → Env → Env
  | i :: is, v :: vs, env => setN is vs (env.set i (some v))
  | _, _, env => env
def seqN (is : List Nat) (v : Val) (env : Env) (st : Store) : Option Env := match seqOf st v with
  | some (_, xs) => if xs.length = is.length then some (setN is xs env) else none
  | none => none
/-- .. with several names -/
def compT (c : Env → Store → R (Bool × Store)) (e : Env → Store → RV) (is : List Nat) : List Val → Env → Store → R (List Val × Store)
  | [], _, st => .ok ([], st)
  | v :: vs, env, st => match seqN is v env st with
    | some env1 => (c env1 st).bind fun (b, st1) => if b then
        (e env1 st1).bind fun (y, st2) => (compT c e is vs env st2).bind fun (ys, st3) => .ok (y :: ys, st3)
      else compT c e is vs env st1
    | none => .stuck
def setTg (t : Tg) (v : Val) (env : Env) (st : Store) : Option Env := match t with
  | .one i => some (env.set i (some v))
  | .many is => seqN is v env st
open Classical in
/-- .. over what stands in v, which stays so -/
noncomputable def compC (c : Env → Store → R (Bool × Store)) (e : Env → Store → RV) (t : Tg) (a : Val) (p : Bool × List Val) : List Val → Env → Store → R (List Val × Store)
  | [], _, st => if seqOf st a = some p then .ok ([], st) else .stuck
  | v :: vs, env, st => if seqOf st a = some p then (match setTg t v env st with
    | some env1 => (c env1 st).bind fun (b, st1) => if b then
        (e env1 st1).bind fun (y, st2) => (compC c e t a p vs env st2).bind fun (ys, st3) => .ok (y :: ys, st3)
      else compC c e t a p vs env st1
    | none => .stuck) else .stuck
def noExn {α : Type} : R α → R α
  | .ok a => .ok a
  | _ => .stuck

def isNo : E → Bool
  | .no => true
  | _ => false

/-! ### the meaning of expressions -/
/-- what an expression gives as a value, as a test, as a thing to walk -/
structure Ev where
  v : Env → Store → RV
  t : Env → Store → R (Bool × Store)
  i : Env → Store → R (List Val × Store)
def tOf (v : Env → Store → RV) : Env → Store → R (Bool × Store) := fun env st => (v env st).bind fun p => (truth p.2 p.1).bind fun b => .ok (b, p.2)
def iOf (v : Env → Store → RV) : Env → Store → R (List Val × Store) := fun env st => (v env st).bind fun p => match p.1 with
  | .tup xs => .ok (xs, p.2)
  | .lst xs => .ok (xs, p.2)
  | .scr xs => .ok (xs, p.2)
  | _ => .stuck
def mk (v : Env → Store → RV) : Ev := ⟨v, tOf v, iOf v⟩
def mkN (v : Env → Store → RV) : Ev := ⟨v, fun _ _ => .stuck, iOf v⟩

def vVar (i : Nat) : Env → Store → RV := fun env st => match env[i]? with | some (some v) => .ok (v, st) | _ => .stuck
def vFrz (x : Val) (st : Store) : RV := match x with
  | .loc n => match st[n]? with
    | some (.lst xs) => .ok (.lst xs, st.set n (.frz xs))
    | some (.frz xs) => .ok (.lst xs, st)
    | some (.obj c ns xs) => .ok (.obj c ns xs, st.set n (.fob c ns xs))
    | some (.fob c ns xs) => .ok (.obj c ns xs, st)
    | _ => .stuck
  | v => .ok (v, st)
def isCell (st : Store) : Val → Bool
  | .loc n => match st[n]? with | some (.lst _) => true | _ => false
  | _ => false
def vApp (x y : Val) (st : Store) : RV := match x with
  | .loc n => match st[n]? with
    | some (.lst xs) => if xs.length < szMax then .ok (.non, st.set n (.lst (xs ++ [y]))) else .stuck
    | _ => .stuck
  | _ => .stuck
/-- o.f -/
def vFld (c f : Str) (x : Val) (st : Store) : R Val := match x with
  | .obj d ns xs => if c = d then (match (ns.zip xs).lookup f with | some v => .ok v | none => .stuck) else .stuck
  | .loc n => match st[n]? with
    | some (.obj d ns xs) => if c = d then (match (ns.zip xs).lookup f with | some v => .ok v | none => .stuck) else .stuck
    | some (.fob d ns xs) => if c = d then (match (ns.zip xs).lookup f with | some v => .ok v | none => .stuck) else .stuck
    | _ => .stuck
  | _ => .stuck
/-- the place of a name -/
def ixF (f : Str) : List Str → Option Nat
  | [] => none
  | n :: ns => if f = n then some 0 else (ixF f ns).map (· + 1)
/-- o.f = y -/
def vStf (c f : Str) (x y : Val) (st : Store) : R Store := match x with
  | .loc n => match st[n]? with
    | some (.obj d ns xs) => if c = d ∧ ns.length = xs.length ∧ ns.length < 100 then (match ixF f ns with
      | some i => .ok (st.set n (.obj c ns (xs.set i y)))
      | none => .ok (st.set n (.obj c (ns ++ [f]) (xs ++ [y])))) else .stuck
    | _ => .stuck
  | _ => .stuck
/-- an object of the class -/
def isObj (c m : Str) (st : Store) : Val → Bool
  | .obj d ns _ => decide (c = d) && !ns.contains m
  | .loc n => match st[n]? with
    | some (.obj d ns _) => decide (c = d) && !ns.contains m
    | some (.fob d ns _) => decide (c = d) && !ns.contains m
    | _ => false
  | _ => false
/-- the name under which a method stands -/
def mName (c m : Str) : Str := c ++ ("." ++ m)
section
variable (Φ : Tab) (G : Str → Option Val)
mutual
noncomputable def ev : E → Ev
  | .var i => mk (vVar i)
  | .int i => mk fun _ st => .ok (.int i, st)
  | .bl b => mk fun _ st => .ok (.bl b, st)
  | .non => mk fun _ st => .ok (.non, st)
  | .str s => mk fun _ st => .ok (.str s, st)
  | .glob x => mk fun _ st => match G x with | some v => .ok (v, st) | none => .stuck
  | .tup es => mk fun env st => (evs es env st).bind fun p => newT p.1 p.2
  | .lst m es => mk fun env st => (evs es env st).bind fun p => newL m p.1 p.2
  | .bin m op a b => mk fun env st => ((ev a).v env st).bind fun p => ((ev b).v env p.2).bind fun q => binV m op p.1 q.1 q.2
  | .neg a => mk fun env st => ((ev a).v env st).bind fun p => match p.1 with | .int i => .ok (.int (-i), p.2) | _ => .stuck
  | .not a => ⟨fun env st => ((ev a).v env st).bind fun p => match p.1 with | .bl b => .ok (.bl (!b), p.2) | _ => .stuck, fun env st => ((ev a).t env st).bind fun p => .ok (!p.1, p.2), fun _ _ => .stuck⟩
  | .cmp op a b => mk fun env st => ((ev a).v env st).bind fun p => ((ev b).v env p.2).bind fun q => (cmpV op p.1 q.1 q.2).bind fun k => .ok (.bl k, q.2)
  | .chain op op' a b c => mk fun env st => ((ev a).v env st).bind fun p => ((ev b).v env p.2).bind fun q => (cmpV op p.1 q.1 q.2).bind fun k =>
      if k then ((ev c).v env q.2).bind fun r => (cmpV op' q.1 r.1 r.2).bind fun k' => .ok (.bl k', r.2) else .ok (.bl false, q.2)
  | .bo k es => ⟨evBo k es, evBoT k es, fun _ _ => .stuck⟩
  | .ifx c a b => mkN fun env st => ((ev c).t env st).bind fun p => if p.1 then (ev a).v env p.2 else (ev b).v env p.2
  | .call f es => mk fun env st => (evs es env st).bind fun p => match Φ f with | some m => m p.1 p.2 | none => .stuck
  | .isi a t => mk fun env st => ((ev a).v env st).bind fun p => match isTy p.2 t p.1 with | some b => .ok (.bl b, p.2) | none => .stuck
  | .isi2 a t u => mk fun env st => ((ev a).v env st).bind fun p => match isTy p.2 t p.1, isTy p.2 u p.1 with | some b, some b' => .ok (.bl (b || b'), p.2) | _, _ => .stuck
  | .f1 f a => mk fun env st => ((ev a).v env st).bind fun p => (f1V f p.1 p.2).bind fun y => .ok (y, p.2)
  | .mm k a b => mk fun env st => ((ev a).v env st).bind fun p => ((ev b).v env p.2).bind fun q => (mmV k p.1 q.1).bind fun z => .ok (z, q.2)
  | .g1 m f a => mk fun env st => ((ev a).v env st).bind fun p => g1V m f p.1 p.2
  | .sub a i => mk fun env st => ((ev a).v env st).bind fun p => ((ev i).v env p.2).bind fun q => (ixV q.2 p.1 q.1).bind fun y => .ok (y, q.2)
  | .slc m a lo hi => mk fun env st => ((ev a).v env st).bind fun p => ((ev lo).v env p.2).bind fun q => (partV (isNo lo) q.1).bind fun l' =>
      ((ev hi).v env q.2).bind fun r => (partV (isNo hi) r.1).bind fun h' => slcV m r.2 p.1 l' h'
  | .no => ⟨fun _ st => .ok (.non, st), fun _ st => .ok (true, st), fun _ _ => .stuck⟩
  | .rng es => ⟨fun _ _ => .stuck, fun _ _ => .stuck, fun env st => (evs es env st).bind fun p => (rngV p.1).bind fun xs => .ok (xs, p.2)⟩
  | .comp m x it c elt => mk fun env st => ((ev it).i env st).bind fun p => if p.1.length ≤ szMax then
      ((compL (ev c).t (ev elt).v x p.1 env p.2).bind fun q => newL m q.1 q.2) else .stuck
  | .compt m is it c elt => mk fun env st => ((ev it).i env st).bind fun p => if p.1.length ≤ szMax then
      ((compT (ev c).t (ev elt).v is p.1 env p.2).bind fun q => newL m q.1 q.2) else .stuck
  | .compc m t a c elt => mk fun env st => ((ev a).v env st).bind fun p => match seqOf p.2 p.1 with
    | some q => if q.2.length ≤ szMax then ((compC (ev c).t (ev elt).v t p.1 q q.2 env p.2).bind fun r => newL m r.1 r.2) else .stuck
    | none => .stuck
  | .frz a => mkN fun env st => ((ev a).v env st).bind fun p => vFrz p.1 p.2
  | .app o a => mkN fun env st => ((ev o).v env st).bind fun p => if isCell p.2 p.1 then ((ev a).v env p.2).bind fun q => vApp p.1 q.1 q.2 else .stuck
  | .xfld h j => mk fun env st => match env[h + 1]? with | some (some (.tup fs)) => (match fs[j]? with | some v => .ok (v, st) | none => .stuck) | _ => .stuck
  | .xis h ys => mk fun env st => match env[h]? with | some (some (.str c)) => .ok (.bl (ys.any fun p => p.2.contains c), st) | _ => .stuck
  | .fld c f a => mk fun env st => ((ev a).v env st).bind fun p => (vFld c f p.1 p.2).bind fun y => .ok (y, p.2)
  | .new c es => mk fun env st => (evs es env st).bind fun p => match Φ (mName c "__init__") with
    | some m => (m (.loc p.2.length :: p.1) (p.2 ++ [.obj c [] []])).bind fun q => (match q.1 with | .non => .ok (.loc p.2.length, q.2) | _ => .stuck)
    | none => .stuck
  | .meth c m o es => mk fun env st => ((ev o).v env st).bind fun p => if isObj c m p.2 p.1 then (evs es env p.2).bind fun q => (match Φ (mName c m) with | some f => f (p.1 :: q.1) q.2 | none => .stuck) else .stuck
noncomputable def evs : Es → Env → Store → R (List Val × Store)
  | .nil, _, st => .ok ([], st)
  | .cons e r, env, st => ((ev e).v env st).bind fun p => (evs r env p.2).bind fun q => .ok (p.1 :: q.1, q.2)
/-- and, or as values: all but the last are booleans -/
noncomputable def evBo : Bool → Es → Env → Store → RV
  | _, .nil, _, _ => .stuck
  | k, .cons e r, env, st => match r with
    | .nil => (ev e).v env st
    | .cons _ _ => ((ev e).v env st).bind fun p => match p.1 with
      | .bl b => if b = k then evBo k r env p.2 else .ok (.bl b, p.2)
      | _ => .stuck
noncomputable def evBoT : Bool → Es → Env → Store → R (Bool × Store)
  | _, .nil, _, _ => .stuck
  | k, .cons e r, env, st => match r with
    | .nil => (ev e).t env st
    | .cons _ _ => ((ev e).t env st).bind fun p => if p.1 = k then evBoT k r env p.2 else .ok (p.1, p.2)
end
end
/-! ### the meaning of statements -/
inductive RS where
  | next (env : Env) (st : Store) | ret (v : Val) (st : Store) | brk (env : Env) (st : Store) | cnt (env : Env) (st : Store)
  | exn (c : Str) (fs : List Val) (env : Env) (st : Store) | stuck
def RS.bind (r : RS) (f : Env → Store → RS) : RS := match r with
  | .next env st => f env st
  | r => r
@[simp] theorem RS.bind_next (env : Env) (st : Store) (f : Env → Store → RS) : (RS.next env st).bind f = f env st := rfl
@[simp] theorem RS.bind_ret (v : Val) (st : Store) (f : Env → Store → RS) : (RS.ret v st).bind f = .ret v st := rfl
@[simp] theorem RS.bind_stuck (f : Env → Store → RS) : RS.stuck.bind f = .stuck := rfl
@[simp] theorem RS.bind_brk (env : Env) (st : Store) (f : Env → Store → RS) : (RS.brk env st).bind f = .brk env st := rfl
@[simp] theorem RS.bind_cnt (env : Env) (st : Store) (f : Env → Store → RS) : (RS.cnt env st).bind f = .cnt env st := rfl
@[simp] theorem RS.bind_exn (c : Str) (fs : List Val) (env : Env) (st : Store) (f : Env → Store → RS) : (RS.exn c fs env st).bind f = .exn c fs env st := rfl
/-- an expression's end, in a statement -/
def R.st {α : Type} (r : R α) (env : Env) (f : α → RS) : RS := match r with
  | .ok a => f a
  | .exn c fs st => .exn c fs env st
  | .stuck => .stuck
@[simp] theorem R.st_ok {α : Type} (a : α) (env : Env) (f : α → RS) : (R.ok a).st env f = f a := rfl
@[simp] theorem R.st_stuck {α : Type} (env : Env) (f : α → RS) : (R.stuck : R α).st env f = .stuck := rfl
@[simp] theorem R.st_exn {α : Type} (c : Str) (fs : List Val) (st : Store) (env : Env) (f : α → RS) : (R.exn c fs st : R α).st env f = .exn c fs env st := rfl
def forL (i : Nat) (body : Env → Store → RS) : List Val → Env → Store → RS
  | [], env, st => .next env st
  | v :: vs, env, st => match body (env.set i (some v)) st with
    | .next env' st' => forL i body vs env' st'
    | .cnt env' st' => forL i body vs env' st'
    | .brk env' st' => .next env' st'
    | r => r
def forT (is : List Nat) (body : Env → Store → RS) : List Val → Env → Store → RS
  | [], env, st => .next env st
  | v :: vs, env, st => match seqN is v env st with
    | some env1 => (match body env1 st with
      | .next env' st' => forT is body vs env' st'
      | .cnt env' st' => forT is body vs env' st'
      | .brk env' st' => .next env' st'
      | r => r)
    | none => .stuck
open Classical in
noncomputable def forC (t : Tg) (body : Env → Store → RS) (a : Val) (p : Bool × List Val) : List Val → Env → Store → RS
  | [], env, st => if seqOf st a = some p then .next env st else .stuck
  | v :: vs, env, st => if seqOf st a = some p then (match setTg t v env st with
    | some env1 => (match body env1 st with
      | .next env' st' => forC t body a p vs env' st'
      | .cnt env' st' => forC t body a p vs env' st'
      | .brk env' st' => .next env' st'
      | r => r)
    | none => .stuck) else .stuck
def whileL (c : Env → Store → R (Bool × Store)) (body : Env → Store → RS) : Nat → Env → Store → RS
  | 0, _, _ => .stuck
  | n + 1, env, st => (c env st).st env fun p => if p.1 then (match body env p.2 with
    | .next env' st' => whileL c body n env' st'
    | .cnt env' st' => whileL c body n env' st'
    | .brk env' st' => .next env' st'
    | r => r) else .next env p.2
/-- the end of an except suite: n names, the caught one gone -/
def clrS (sl : Option Nat) (env : Env) : Env := match sl with | some i => env.set i none | none => env
def endH (sl : Option Nat) (n : Nat) : RS → RS
  | .next env st => .next (clrS sl (env.take n)) st
  | .brk env st => .brk (clrS sl (env.take n)) st
  | .cnt env st => .cnt (clrS sl (env.take n)) st
  | .ret v st => .ret v st
  | _ => .stuck
def vSto (x k y : Val) (st : Store) : R Store := match x, k with
  | .loc n, .int j => match st[n]? with
    | some (.lst xs) => match ixN xs.length j with
      | some m => .ok (st.set n (.lst (xs.set m y)))
      | none => .stuck
    | _ => .stuck
  | _, _ => .stuck
section
variable (Φ : Tab) (G : Str → Option Val)
mutual
noncomputable def evS : S → Env → Store → RS
  | .asg i e, env, st => ((ev Φ G e).v env st).st env fun p => .next (env.set i (some p.1)) p.2
  | .sto o i e, env, st => ((ev Φ G e).v env st).st env fun p => ((ev Φ G o).v env p.2).st env fun q => ((ev Φ G i).v env q.2).st env fun r =>
      (vSto q.1 r.1 p.1 r.2).st env fun st' => .next env st'
  | .stf c f o e, env, st => ((ev Φ G e).v env st).st env fun p => ((ev Φ G o).v env p.2).st env fun q => (vStf c f q.1 p.1 q.2).st env fun st' => .next env st'
  | .expr e, env, st => ((ev Φ G e).v env st).st env fun p => .next env p.2
  | .ite c a b, env, st => ((ev Φ G c).t env st).st env fun p => if p.1 then evSs a env p.2 else evSs b env p.2
  | .forr i it body, env, st => ((ev Φ G it).i env st).st env fun p => forL i (evSs body) p.1 env p.2
  | .forc t a body, env, st => ((ev Φ G a).v env st).st env fun p => (match seqOf p.2 p.1 with | some q => forC t (evSs body) p.1 q q.2 env p.2 | none => .stuck)
  | .asgt is e, env, st => ((ev Φ G e).v env st).st env fun p => (match seqN is p.1 env p.2 with | some env' => .next env' p.2 | none => .stuck)
  | .fort is it body, env, st => ((ev Φ G it).i env st).st env fun p => forT is (evSs body) p.1 env p.2
  | .whil n c body, env, st => whileL (ev Φ G c).t (evSs body) n env st
  | .ret e, env, st => ((ev Φ G e).v env st).st env fun p => .ret p.1 p.2
  | .retn, _, st => .ret .non st
  | .pass, env, st => .next env st
  | .brk, env, st => .brk env st
  | .cnt, env, st => .cnt env st
  | .never, _, _ => .stuck
  | .raise c es, env, st => (evs Φ G es env st).st env fun p => .exn c p.1 env p.2
  | .tryx b hs, env, st => match evSs b env st with
    | .exn c fs env' st' => evHs hs c fs env' st'
    | r => r
noncomputable def evHs : Hs → Str → List Val → Env → Store → RS
  | .nil, c, fs, env, st => .exn c fs env st
  | .cons _ D sl b r, c, fs, env, st => if D.contains c then endH sl env.length (evSs b (clrS sl env ++ [some (.str c), some (.tup fs)]) st) else evHs r c fs env st
noncomputable def evSs : Ss → Env → Store → RS
  | .nil, env, st => .next env st
  | .cons s r, env, st => (evS s env st).bind (evSs r)
end
end
/-- a def: its number of names, its body -/
noncomputable def runB (Φ : Tab) (G : Str → Option Val) (n : Nat) (body : Ss) (vs : List Val) (st : Store) : RV :=
  match evSs Φ G body (vs.map some ++ List.replicate (n - vs.length) none) st with
  | .next _ st' => .ok (.non, st')
  | .ret v st' => .ok (v, st')
  | .exn c fs _ st' => .exn c fs st'
  | _ => .stuck
end MP
/-! MiniPy: how trees and stores lie in the abstract heap. -/
namespace MP
open PySem L2

/-- the written part, the module's names -/
structure Kf where
  k : PySem.W.Frag
  mg : Str → Option Value
section
variable (K : Kf) (F : Hp) (μ : Nat → Addr) (n : Nat)
mutual
def RepV : Val → V → Prop
  | .non, v => v = .non
  | .bl b, v => v = .bl b
  | .int i, v => v = .int i
  | .str s, v => v = .str s
  | .tup xs, v => ∃ a vs, v = .ref a ∧ SqT K.k F a vs ∧ RepL xs vs
  | .lst xs, v => ∃ a vs, v = .ref a ∧ F a = some (.lst vs) ∧ RepL xs vs
  | .scr xs, v => ∃ a vs, v = .ref a ∧ SqL K.k F a vs ∧ RepL xs vs
  | .loc m, v => v = .ref (μ m) ∧ m < n
  | .obj c ns xs, v => ∃ a dx Ca vs, v = .ref a ∧ K.mg c = some (.ref Ca) ∧ F a = some (.ins Ca dx (ns.zip vs)) ∧ F dx = some (.own a) ∧ ns.length = xs.length ∧ RepL xs vs
def RepL : List Val → List V → Prop
  | [], vs => vs = []
  | x :: xs, vs => ∃ v r, vs = v :: r ∧ RepV x v ∧ RepL xs r
end
end

theorem sqL_mono {K : PySem.W.Frag} {F F' : Hp} {a : Addr} {xs : List V} (e : Same F F') (h : SqL K F a xs) : SqL K F' a xs := e.seq h
theorem sqT_mono {K : PySem.W.Frag} {F F' : Hp} {a : Addr} {xs : List V} (e : Same F F') (h : SqT K F a xs) : SqT K F' a xs := by
  rcases h with (h | ⟨o, h⟩) | h
  · exact .inl (.inl (e _ _ h))
  · exact .inl (.inr ⟨o, e _ _ h⟩)
  · exact .inr h

section
variable {K : Kf} {F F' : Hp} {μ μ' : Nat → Addr} {n n' : Nat}
mutual
theorem RepV.mono (e : Same F F') (m : ∀ i, i < n → μ' i = μ i) (l : n ≤ n') : ∀ {x : Val} {v : V}, RepV K F μ n x v → RepV K F' μ' n' x v
  | .non, _, h => h
  | .bl _, _, h => h
  | .int _, _, h => h
  | .str _, _, h => h
  | .tup xs, _, ⟨a, vs, h1, h2, h3⟩ => ⟨a, vs, h1, sqT_mono e h2, RepL.mono e m l h3⟩
  | .lst xs, _, ⟨a, vs, h1, h2, h3⟩ => ⟨a, vs, h1, e _ _ h2, RepL.mono e m l h3⟩
  | .scr xs, _, ⟨a, vs, h1, h2, h3⟩ => ⟨a, vs, h1, sqL_mono e h2, RepL.mono e m l h3⟩
  | .loc k, _, ⟨h1, h2⟩ => ⟨by rw [h1, m k h2], Nat.lt_of_lt_of_le h2 l⟩
  | .obj c ns xs, _, ⟨a, dx, Ca, vs, h1, h2, h3, h4, h5, h6⟩ => ⟨a, dx, Ca, vs, h1, h2, e _ _ h3, e _ _ h4, h5, RepL.mono e m l h6⟩
theorem RepL.mono (e : Same F F') (m : ∀ i, i < n → μ' i = μ i) (l : n ≤ n') : ∀ {xs : List Val} {vs : List V}, RepL K F μ n xs vs → RepL K F' μ' n' xs vs
  | [], _, h => h
  | x :: xs, _, ⟨v, r, h1, h2, h3⟩ => ⟨v, r, h1, RepV.mono e m l h2, RepL.mono e m l h3⟩
end
theorem RepL.len : ∀ {xs : List Val} {vs : List V}, RepL K F μ n xs vs → vs.length = xs.length
  | [], _, h => by cases h; rfl
  | x :: xs, _, ⟨v, r, h1, _, h3⟩ => by subst h1; simp [RepL.len h3]
theorem RepL.get : ∀ {xs : List Val} {vs : List V} {i : Nat} {x : Val}, RepL K F μ n xs vs → xs[i]? = some x → ∃ v, vs[i]? = some v ∧ RepV K F μ n x v
  | [], _, _, _, _, e => by simp at e
  | y :: ys, _, 0, x, ⟨v, r, h1, h2, _⟩, e => by
    simp at e; subst e; subst h1; exact ⟨v, rfl, h2⟩
  | y :: ys, _, i + 1, x, ⟨v, r, h1, _, h3⟩, e => by
    subst h1
    obtain ⟨w, h4, h5⟩ := RepL.get (i := i) (x := x) h3 (by simpa using e)
    exact ⟨w, by simpa using h4, h5⟩
theorem RepL.getV : ∀ {xs : List Val} {vs : List V} {i : Nat} {v : V}, RepL K F μ n xs vs → vs[i]? = some v → ∃ x, xs[i]? = some x ∧ RepV K F μ n x v
  | [], _, _, _, h, e => by cases h; simp at e
  | y :: ys, _, 0, x, ⟨v, r, h1, h2, _⟩, e => by
    subst h1; simp at e; subst e; exact ⟨y, rfl, h2⟩
  | y :: ys, _, i + 1, x, ⟨v, r, h1, _, h3⟩, e => by
    subst h1
    obtain ⟨w, h4, h5⟩ := RepL.getV (i := i) (v := x) h3 (by simpa using e)
    exact ⟨w, by simpa using h4, h5⟩
theorem RepL.append : ∀ {xs ys : List Val} {vs ws : List V}, RepL K F μ n xs vs → RepL K F μ n ys ws → RepL K F μ n (xs ++ ys) (vs ++ ws)
  | [], _, _, _, h, q => by cases h; exact q
  | x :: xs, _, _, _, ⟨v, r, h1, h2, h3⟩, q => by subst h1; exact ⟨v, _, rfl, h2, RepL.append h3 q⟩
theorem RepL.set {y : Val} {w : V} (hy : RepV K F μ n y w) : ∀ {xs : List Val} {vs : List V} (i : Nat), RepL K F μ n xs vs → RepL K F μ n (xs.set i y) (vs.set i w)
  | [], _, _, h => by cases h; rfl
  | x :: xs, _, 0, ⟨v, r, h1, h2, h3⟩ => by subst h1; exact ⟨w, r, rfl, hy, h3⟩
  | x :: xs, _, i + 1, ⟨v, r, h1, h2, h3⟩ => by subst h1; exact ⟨v, _, rfl, h2, RepL.set hy i h3⟩
theorem RepL.take : ∀ {xs : List Val} {vs : List V} (i : Nat), RepL K F μ n xs vs → RepL K F μ n (xs.take i) (vs.take i)
  | _, _, 0, _ => by rw [List.take_zero, List.take_zero]; rfl
  | [], _, i + 1, h => by cases h; rfl
  | x :: xs, _, i + 1, ⟨v, r, h1, h2, h3⟩ => by subst h1; exact ⟨v, _, rfl, h2, RepL.take i h3⟩
theorem RepL.drop : ∀ {xs : List Val} {vs : List V} (i : Nat), RepL K F μ n xs vs → RepL K F μ n (xs.drop i) (vs.drop i)
  | _, _, 0, h => h
  | [], _, i + 1, h => by cases h; rfl
  | x :: xs, _, i + 1, ⟨v, r, h1, h2, h3⟩ => by subst h1; exact RepL.drop i h3
theorem RepL.rep {xs : List Val} {vs : List V} (h : RepL K F μ n xs vs) : ∀ k : Nat, RepL K F μ n (List.replicate k xs).flatten (List.replicate k vs).flatten
  | 0 => by simp [RepL]
  | k + 1 => by simpa [List.replicate_succ] using h.append (RepL.rep h k)
theorem RepL.ints : ∀ {ns : List Int} {vs : List V}, RepL K F μ n (ns.map Val.int) vs → vs = ns.map V.int
  | [], _, h => h
  | i :: ns, _, ⟨v, r, h1, h2, h3⟩ => by subst h1; rw [RepL.ints h3]; cases h2; rfl
theorem repL_ints : ∀ (ns : List Int), RepL K F μ n (ns.map Val.int) (ns.map V.int)
  | [] => rfl
  | i :: ns => ⟨_, _, rfl, rfl, repL_ints ns⟩
theorem repL_nil : RepL K F μ n [] [] := rfl
theorem RepL.nil_iff {xs : List Val} {vs : List V} (h : RepL K F μ n xs vs) : vs = [] ↔ xs = [] := by
  have e := h.len
  constructor
  · intro q; subst q; cases xs with
    | nil => rfl
    | cons => simp at e
  · intro q; subst q; exact h

/-! closed: every place of the store that stands in it lies below n -/
mutual
def closed (n : Nat) : Val → Bool
  | .loc m => decide (m < n)
  | .tup xs => closedL n xs
  | .lst xs => closedL n xs
  | .scr xs => closedL n xs
  | .obj _ _ xs => closedL n xs
  | .non => true | .bl _ => true | .int _ => true | .str _ => true
def closedL (n : Nat) : List Val → Bool
  | [] => true
  | x :: xs => closed n x && closedL n xs
end
mutual
theorem RepV.closed : ∀ {x : Val} {v : V}, RepV K F μ n x v → MP.closed n x = true
  | .non, _, _ => rfl
  | .bl _, _, _ => rfl
  | .int _, _, _ => rfl
  | .str _, _, _ => rfl
  | .tup xs, _, ⟨a, vs, h1, h2, h3⟩ => RepL.closed h3
  | .lst xs, _, ⟨a, vs, h1, h2, h3⟩ => RepL.closed h3
  | .scr xs, _, ⟨a, vs, h1, h2, h3⟩ => RepL.closed h3
  | .loc k, _, ⟨h1, h2⟩ => decide_eq_true h2
  | .obj c ns xs, _, ⟨a, dx, Ca, vs, h1, h2, h3, h4, h5, h6⟩ => RepL.closed h6
theorem RepL.closed : ∀ {xs : List Val} {vs : List V}, RepL K F μ n xs vs → MP.closedL n xs = true
  | [], _, _ => rfl
  | x :: xs, _, ⟨v, r, h1, h2, h3⟩ => by
    show (MP.closed n x && MP.closedL n xs) = true
    rw [RepV.closed h2, RepL.closed h3]; rfl
end
mutual
theorem RepV.shut : ∀ {x : Val} {v : V}, RepV K F μ n x v → MP.closed n' x = true → RepV K F μ n' x v
  | .non, _, h, _ => h
  | .bl _, _, h, _ => h
  | .int _, _, h, _ => h
  | .str _, _, h, _ => h
  | .tup xs, _, ⟨a, vs, h1, h2, h3⟩, c => ⟨a, vs, h1, h2, RepL.shut h3 c⟩
  | .lst xs, _, ⟨a, vs, h1, h2, h3⟩, c => ⟨a, vs, h1, h2, RepL.shut h3 c⟩
  | .scr xs, _, ⟨a, vs, h1, h2, h3⟩, c => ⟨a, vs, h1, h2, RepL.shut h3 c⟩
  | .loc k, _, ⟨h1, h2⟩, c => ⟨h1, of_decide_eq_true c⟩
  | .obj _ ns xs, _, ⟨a, dx, Ca, vs, h1, h2, h3, h4, h5, h6⟩, c => ⟨a, dx, Ca, vs, h1, h2, h3, h4, h5, RepL.shut h6 c⟩
theorem RepL.shut : ∀ {xs : List Val} {vs : List V}, RepL K F μ n xs vs → MP.closedL n' xs = true → RepL K F μ n' xs vs
  | [], _, h, _ => h
  | x :: xs, _, ⟨v, r, h1, h2, h3⟩, c => by
    have c' : (MP.closed n' x && MP.closedL n' xs) = true := c
    rw [Bool.and_eq_true] at c'
    exact ⟨v, r, h1, RepV.shut h2 c'.1, RepL.shut h3 c'.2⟩
end
mutual
theorem closed_mono (l : n ≤ n') : ∀ {x : Val}, MP.closed n x = true → MP.closed n' x = true
  | .non, _ => rfl
  | .bl _, _ => rfl
  | .int _, _ => rfl
  | .str _, _ => rfl
  | .tup xs, h => closedL_mono l h
  | .lst xs, h => closedL_mono l h
  | .scr xs, h => closedL_mono l h
  | .loc k, h => decide_eq_true (Nat.lt_of_lt_of_le (of_decide_eq_true h) l)
  | .obj _ _ xs, h => closedL_mono l h
theorem closedL_mono (l : n ≤ n') : ∀ {xs : List Val}, MP.closedL n xs = true → MP.closedL n' xs = true
  | [], _ => rfl
  | x :: xs, h => by
    have c' : (MP.closed n x && MP.closedL n xs) = true := h
    rw [Bool.and_eq_true] at c'
    show (MP.closed n' x && MP.closedL n' xs) = true
    rw [closed_mono l c'.1, closedL_mono l c'.2]; rfl
end

/-- dicts: the same keys in the same order -/
def RepK (K : Kf) (F : Hp) (μ : Nat → Addr) (n : Nat) : List (Key × Val) → List (Key × V) → Prop
  | [], r => r = []
  | (k, x) :: xs, r => ∃ v q, r = (k, v) :: q ∧ RepV K F μ n x v ∧ RepK K F μ n xs q
theorem RepK.mono (e : Same F F') (m : ∀ i, i < n → μ' i = μ i) (l : n ≤ n') : ∀ {xs : List (Key × Val)} {vs : List (Key × V)}, RepK K F μ n xs vs → RepK K F' μ' n' xs vs
  | [], _, h => h
  | (k, x) :: xs, _, ⟨v, r, h1, h2, h3⟩ => ⟨v, r, h1, h2.mono e m l, RepK.mono e m l h3⟩
def closedK (n : Nat) (kvs : List (Key × Val)) : Bool := kvs.all fun p => closed n p.2
theorem RepK.closed : ∀ {xs : List (Key × Val)} {vs : List (Key × V)}, RepK K F μ n xs vs → closedK n xs = true
  | [], _, _ => rfl
  | (k, x) :: xs, _, ⟨v, r, h1, h2, h3⟩ => by
    show (MP.closed n x && closedK n xs) = true
    rw [RepV.closed h2, RepK.closed h3]; rfl
theorem RepK.shut : ∀ {xs : List (Key × Val)} {vs : List (Key × V)}, RepK K F μ n xs vs → closedK n' xs = true → RepK K F μ n' xs vs
  | [], _, h, _ => h
  | (k, x) :: xs, _, ⟨v, r, h1, h2, h3⟩, c => by
    have c' : (MP.closed n' x && closedK n' xs) = true := c
    rw [Bool.and_eq_true] at c'
    exact ⟨v, r, h1, h2.shut c'.1, RepK.shut h3 c'.2⟩
theorem closedK_mono (l : n ≤ n') : ∀ {xs : List (Key × Val)}, closedK n xs = true → closedK n' xs = true
  | [], _ => rfl
  | (k, x) :: xs, h => by
    have c' : (MP.closed n x && closedK n xs) = true := h
    rw [Bool.and_eq_true] at c'
    show (MP.closed n' x && closedK n' xs) = true
    rw [closed_mono l c'.1, closedK_mono l c'.2]; rfl
end

/-- the fixed things: the written part, the module's names, the error classes' fields; in an except suite: the caught error (its address, class, dict), its slot, the classes it may be of, the number of names -/
structure Fx where
  K : PySem.W.Frag
  mg : Str → Option Value
  Xn : Str → Option (List Str)
  hot : Bool := false
  cA : Addr := 0
  cC : Value := .none
  cD : Option Addr := none
  cI : Option Nat := none
  eD : List Str := []
  nN : Nat := 0
abbrev Fx.kf (Y : Fx) : Kf := ⟨Y.K, Y.mg⟩
/-- in a suite two hidden names stand behind the frame's: the caught error's class and its fields -/
def HotOk (Y : Fx) (F : Hp) (μ : Nat → Addr) (n : Nat) (env : Env) (σ : L2.St) : Prop := σ.length = Y.nN ∧ ∃ (c : Str) (fs : List Val) (dd : Addr) (ns : List Str) (vs : List V),
  env[σ.length]? = some (some (.str c)) ∧ env[σ.length + 1]? = some (some (.tup fs)) ∧ c ∈ Y.eD ∧ Y.mg c = some Y.cC ∧ Y.Xn c = some ns ∧ Y.cD = some dd ∧ ns.length = vs.length ∧ F dd = some (.xd (ns.zip vs)) ∧ RepL Y.kf F μ n fs vs ∧ ∀ i, Y.cI = some i → σ[i]? = some (some (.ref Y.cA))
/-! ### the store -/
def CellOk (K : Kf) (F : Hp) (μ : Nat → Addr) (n : Nat) (H : Hp) (a : Addr) : Cell → Prop
  | .lst xs => F a = none ∧ ∃ vs, H a = some (.lst vs) ∧ RepL K F μ n xs vs
  | .frz xs => ∃ vs, F a = some (.lst vs) ∧ RepL K F μ n xs vs
  | .dk kvs => F a = none ∧ ∃ r, H a = some (.dK r) ∧ RepK K F μ n kvs r
  | .dead => True
  | .obj c ns xs => F a = none ∧ ∃ dx Ca vs, K.mg c = some (.ref Ca) ∧ H a = some (.ins Ca dx (ns.zip vs)) ∧ F dx = some (.own a) ∧ ns.length = xs.length ∧ RepL K F μ n xs vs
  | .fob c ns xs => RepV K F μ n (.obj c ns xs) (.ref a)
def closedC (n : Nat) : Cell → Bool
  | .lst xs => closedL n xs
  | .frz xs => closedL n xs
  | .dk kvs => closedK n kvs
  | .dead => true
  | .obj _ _ xs => closedL n xs
  | .fob _ _ xs => closedL n xs
/-- a cell that may change -/
def live : Cell → Bool
  | .lst _ => true | .dk _ => true | .obj _ _ _ => true | _ => false
structure StOk (K : Kf) (F : Hp) (μ : Nat → Addr) (st : Store) (H : Hp) : Prop where
  cell : ∀ i c, st[i]? = some c → CellOk K F μ st.length H (μ i) c
  inj : ∀ i j c d, st[i]? = some c → st[j]? = some d → live c = true → live d = true → μ i = μ j → i = j
/-- a is no place of a cell that may change -/
def Quiet (μ : Nat → Addr) (st : Store) (a : Addr) : Prop := ∀ i c, st[i]? = some c → live c = true → μ i ≠ a
/-- what lies behind lies also here -/
structure Ext (F : Hp) (μ : Nat → Addr) (st : Store) (H : Hp) (F' : Hp) (μ' : Nat → Addr) (st' : Store) (H' : Hp) : Prop where
  same : Same F F'
  mu : ∀ i, i < st.length → μ' i = μ i
  len : st.length ≤ st'.length
  frm : ∀ a o, H a = some o → Quiet μ st a → H' a = some o
  new : ∀ i c, st'[i]? = some c → live c = true → (∃ d, st[i]? = some d ∧ live d = true) ∨ H (μ' i) = none
  dom : ∀ a o, H a = some o → ∃ o', H' a = some o'
  fz : ∀ a o, F' a = some o → F a = some o ∨ H a = none ∨ ∃ i c, st[i]? = some c ∧ live c = true ∧ μ i = a
theorem Ext.refl {F : Hp} {μ : Nat → Addr} {st : Store} {H : Hp} : Ext F μ st H F μ st H := ⟨Same.refl F, fun _ _ => rfl, Nat.le_refl _, fun _ _ h _ => h, fun _ c h l => .inl ⟨c, h, l⟩, fun _ o h => ⟨o, h⟩, fun _ _ h => .inl h⟩
theorem Ext.trans {F F1 F2 : Hp} {μ μ1 μ2 : Nat → Addr} {st st1 st2 : Store} {H H1 H2 : Hp} (a : Ext F μ st H F1 μ1 st1 H1) (b : Ext F1 μ1 st1 H1 F2 μ2 st2 H2) : Ext F μ st H F2 μ2 st2 H2 where
  same := a.same.trans b.same
  mu := fun i h => (b.mu i (Nat.lt_of_lt_of_le h a.len)).trans (a.mu i h)
  len := Nat.le_trans a.len b.len
  frm := fun x o h q => b.frm x o (a.frm x o h q) fun i c hc hl z => by
    rcases a.new i c hc hl with ⟨d, hd, ld⟩ | hn
    · have hi := (List.getElem?_eq_some_iff.mp hd).1
      rw [a.mu i hi] at z
      exact q i d hd ld z
    · rw [z, h] at hn; cases hn
  new := fun i c hc hl => by
    rcases b.new i c hc hl with ⟨d, hd, ld⟩ | hn
    · rcases a.new i d hd ld with ⟨d', hd', ld'⟩ | hn
      · exact .inl ⟨d', hd', ld'⟩
      · have hi := (List.getElem?_eq_some_iff.mp hd).1
        exact .inr (by rw [b.mu i hi]; exact hn)
    · refine .inr ?_
      cases q : H (μ2 i) with
      | none => rfl
      | some o =>
        obtain ⟨o', h'⟩ := a.dom _ o q
        rw [hn] at h'; cases h'
  dom := fun x o h => let ⟨o1, h1⟩ := a.dom x o h; b.dom x o1 h1
  fz := fun x o h => by
    rcases b.fz x o h with h1 | h1 | ⟨i, c, hc, hl, hx⟩
    · exact a.fz x o h1
    · refine .inr (.inl ?_)
      cases q : H x with
      | none => rfl
      | some u => obtain ⟨u', hu⟩ := a.dom x u q; rw [h1] at hu; cases hu
    · rcases a.new i c hc hl with ⟨d, hd, ld⟩ | hn
      · have hi := (List.getElem?_eq_some_iff.mp hd).1
        exact .inr (.inr ⟨i, d, hd, ld, by rw [← a.mu i hi]; exact hx⟩)
      · exact .inr (.inl (by rw [← hx]; exact hn))
section
variable {K : Kf} {F F' : Hp} {μ μ' : Nat → Addr} {st st' : Store} {H H' : Hp}
theorem Ext.v (e : Ext F μ st H F' μ' st' H') {x : Val} {v : V} (h : RepV K F μ st.length x v) : RepV K F' μ' st'.length x v := h.mono e.same e.mu e.len
theorem Ext.l (e : Ext F μ st H F' μ' st' H') {x : List Val} {v : List V} (h : RepL K F μ st.length x v) : RepL K F' μ' st'.length x v := h.mono e.same e.mu e.len
/-- the frame's names -/
structure EnvOk (Y : Fx) (F : Hp) (μ : Nat → Addr) (n : Nat) (env : Env) (σ : L2.St) : Prop where
  len : σ.length ≤ env.length
  sz : σ.length = Y.nN
  val : ∀ (i : Nat) (x : Val), i < σ.length → env[i]? = some (some x) → ∃ v, σ[i]? = some (some v) ∧ RepV Y.kf F μ n x v
  cold : Y.hot = false → env.length = σ.length
  warm : Y.hot = true → HotOk Y F μ n env σ
theorem HotOk.mono {Y : Fx} {n n' : Nat} {env : Env} {σ : L2.St} (e : Same F F') (m : ∀ i, i < n → μ' i = μ i) (l : n ≤ n') (h : HotOk Y F μ n env σ) : HotOk Y F' μ' n' env σ := by
  obtain ⟨h0, c, fs, dd, ns, vs, h1, h2, hd, h3, h4, h5, h6, h7, h8, h9⟩ := h
  exact ⟨h0, c, fs, dd, ns, vs, h1, h2, hd, h3, h4, h5, h6, e _ _ h7, h8.mono e m l, h9⟩
theorem Ext.env {Y : Fx} (e : Ext F μ st H F' μ' st' H') {env : Env} {σ : L2.St} (h : EnvOk Y F μ st.length env σ) : EnvOk Y F' μ' st'.length env σ :=
  ⟨h.len, h.sz, fun i x hi q => let ⟨v, h1, h2⟩ := h.val i x hi q; ⟨v, h1, e.v h2⟩, h.cold, fun w => (h.warm w).mono e.same e.mu e.len⟩
theorem EnvOk.set {Y : Fx} {n : Nat} {env : Env} {σ : L2.St} (h : EnvOk Y F μ n env σ) {x : Val} {v : V} (r : RepV Y.kf F μ n x v) (i : Nat) (hc : Y.hot = true → i < Y.nN ∧ Y.cI ≠ some i) : EnvOk Y F μ n (env.set i (some x)) (σ.set i (some v)) := by
  refine ⟨by rw [List.length_set, List.length_set]; exact h.len, by rw [List.length_set]; exact h.sz, fun j y hj e => ?_, fun w => by rw [List.length_set, List.length_set]; exact h.cold w, fun w => ?_⟩
  · rw [List.length_set] at hj
    by_cases hij : i = j
    · subst hij
      have hl : i < env.length := Nat.lt_of_lt_of_le hj h.len
      rw [List.getElem?_set_self hl] at e
      rw [List.getElem?_set_self hj]
      cases e
      exact ⟨v, rfl, r⟩
    · rw [List.getElem?_set_ne hij] at e
      rw [List.getElem?_set_ne hij]
      exact h.val j y hj e
  · obtain ⟨c1, c2⟩ := hc w
    obtain ⟨h0, c, fs, dd, ns, vs, h1, h2, hd, h3, h4, h5, h6, h7, h8, h9⟩ := h.warm w
    have hi : i < σ.length := by rw [h0]; exact c1
    refine ⟨by rw [List.length_set]; exact h0, c, fs, dd, ns, vs, ?_, ?_, hd, h3, h4, h5, h6, h7, h8, fun j hj => ?_⟩
    · rw [List.length_set, List.getElem?_set_ne (Nat.ne_of_lt hi)]; exact h1
    · rw [List.length_set, List.getElem?_set_ne (by omega)]; exact h2
    · have : i ≠ j := fun z => c2 (by rw [hj, z])
      rw [List.getElem?_set_ne this]; exact h9 j hj
/-- all together -/
structure Good (K : Kf) (F : Hp) (μ : Nat → Addr) (st : Store) (H : Hp) : Prop where
  same : Same F H
  st : StOk K F μ st H

theorem CellOk.mono {n n' : Nat} {a : Addr} {c : Cell} (e : Same F F') (m : ∀ i, i < n → μ' i = μ i) (l : n ≤ n') (h : CellOk K F μ n H a c) (hF : live c = true → F' a = none) (hH : live c = true → H' a = H a) : CellOk K F' μ' n' H' a c := by
  cases c with
  | lst xs =>
    obtain ⟨h1, vs, h2, h3⟩ := h
    exact ⟨hF rfl, vs, (hH rfl).trans h2, h3.mono e m l⟩
  | frz xs =>
    obtain ⟨vs, h2, h3⟩ := h
    exact ⟨vs, e _ _ h2, h3.mono e m l⟩
  | dk kvs =>
    obtain ⟨h1, vs, h2, h3⟩ := h
    exact ⟨hF rfl, vs, (hH rfl).trans h2, h3.mono e m l⟩
  | dead => trivial
  | obj c ns xs =>
    obtain ⟨h1, dx, Ca, vs, h2, h3, h4, h5, h6⟩ := h
    exact ⟨hF rfl, dx, Ca, vs, h2, (hH rfl).trans h3, e _ _ h4, h5, h6.mono e m l⟩
  | fob c ns xs => exact RepV.mono e m l (x := .obj c ns xs) h
theorem CellOk.there {n : Nat} {a : Addr} {c : Cell} (h : CellOk K F μ n H a c) (hl : live c = true) : ∃ o, H a = some o := by
  cases c with
  | lst xs => obtain ⟨_, vs, h2, _⟩ := h; exact ⟨_, h2⟩
  | frz xs => cases hl
  | dk kvs => obtain ⟨_, vs, h2, _⟩ := h; exact ⟨_, h2⟩
  | dead => cases hl
  | obj c ns xs => obtain ⟨_, dx, Ca, vs, _, h3, _⟩ := h; exact ⟨_, h3⟩
  | fob c ns xs => cases hl
theorem CellOk.free {n : Nat} {a : Addr} {c : Cell} (h : CellOk K F μ n H a c) (hl : live c = true) : F a = none := by
  cases c with
  | lst xs => exact h.1
  | frz xs => cases hl
  | dk kvs => exact h.1
  | dead => cases hl
  | obj c ns xs => exact h.1
  | fob c ns xs => cases hl

/-- a new object, frozen at once -/
theorem Good.frozen (g : Good K F μ st H) {p : Addr} {o : HO} (hp : H p = none) : Good K (upd F p o) μ st (upd H p o) ∧ Ext F μ st H (upd F p o) μ st (upd H p o) := by
  have hF : F p = none := g.same.free hp
  have sm : Same F (upd F p o) := fun b u e => by rw [upd_ne (ne_of_none e hF)]; exact e
  refine ⟨⟨fun b u e => ?_, ⟨fun i c e => ?_, g.st.inj⟩⟩, ⟨sm, fun _ _ => rfl, Nat.le_refl _, fun a u h _ => by rw [upd_ne (ne_of_none h hp)]; exact h, fun _ c h l => .inl ⟨c, h, l⟩, fun a u h => ⟨u, by rw [upd_ne (ne_of_none h hp)]; exact h⟩, fun a u h => by
    by_cases ha : a = p
    · exact .inr (.inl (by rw [ha]; exact hp))
    · rw [upd_ne ha] at h; exact .inl h⟩⟩
  · by_cases hb : b = p
    · subst hb; rw [upd_same] at e ⊢; exact e
    · rw [upd_ne hb] at e ⊢; exact g.same _ _ e
  · have ck := g.st.cell i c e
    refine ck.mono sm (fun _ _ => rfl) (Nat.le_refl _) (fun hl => ?_) fun hl => ?_
    · obtain ⟨u, hu⟩ := ck.there hl
      rw [upd_ne (ne_of_none hu hp)]
      exact ck.free hl
    · obtain ⟨u, hu⟩ := ck.there hl
      rw [upd_ne (ne_of_none hu hp)]
/-- other things laid beside -/
theorem Good.beside (g : Good K F μ st H) {p : Addr} {o : HO} (hp : H p = none) : Good K F μ st (upd H p o) := by
  have hF : F p = none := g.same.free hp
  refine ⟨fun b u e => ?_, ⟨fun i c e => ?_, g.st.inj⟩⟩
  · rw [upd_ne (ne_of_none e hF)]; exact g.same _ _ e
  · have ck := g.st.cell i c e
    refine ck.mono (Same.refl _) (fun _ _ => rfl) (Nat.le_refl _) (fun hl => ck.free hl) fun hl => ?_
    obtain ⟨u, hu⟩ := ck.there hl
    rw [upd_ne (ne_of_none hu hp)]
/-- a new cell -/
def muSet (μ : Nat → Addr) (i : Nat) (a : Addr) : Nat → Addr := fun k => if k = i then a else μ k
theorem Good.celled {H0 : Hp} {o : HO} (g0 : Good K F μ st H0) {p : Addr} {c : Cell} (hp : H0 p = none) (eH : H = upd H0 p o) (hc : CellOk K F μ st.length H p c) :
    Good K F (muSet μ st.length p) (st ++ [c]) H ∧ Ext F μ st H0 F (muSet μ st.length p) (st ++ [c]) H ∧ RepV K F (muSet μ st.length p) (st ++ [c]).length (.loc st.length) (.ref p) := by
  have g : Good K F μ st H := by rw [eH]; exact g0.beside hp
  have hF : F p = none := g0.same.free hp
  have hnew : ∀ i d, st[i]? = some d → live d = true → μ i ≠ p := fun i d e hl z => by
    obtain ⟨u, hu⟩ := (g0.st.cell i d e).there hl
    rw [z, hp] at hu; cases hu
  have mu : ∀ i, i < st.length → muSet μ st.length p i = μ i := fun i h => by unfold muSet; rw [if_neg (Nat.ne_of_lt h)]
  have mp : muSet μ st.length p st.length = p := by unfold muSet; rw [if_pos rfl]
  have ln : (st ++ [c]).length = st.length + 1 := by simp
  refine ⟨⟨g.same, ⟨fun i d e => ?_, fun i j d d' e1 e2 l1 l2 q => ?_⟩⟩, ⟨Same.refl _, mu, by omega, fun a u h _ => by rw [eH, upd_ne (ne_of_none h hp)]; exact h, fun i d e l => ?_, fun a u h => ⟨u, by rw [eH, upd_ne (ne_of_none h hp)]; exact h⟩, fun _ _ h => .inl h⟩, ?_⟩
  · rw [ln]
    by_cases hi : i < st.length
    · rw [List.getElem?_append_left hi] at e
      rw [mu i hi]
      exact (g.st.cell i d e).mono (Same.refl _) mu (Nat.le_succ _) (fun hl => (g.st.cell i d e).free hl) fun _ => rfl
    · have hi' : i = st.length := by
        have := (List.getElem?_eq_some_iff.mp e).1
        rw [ln] at this; omega
      subst hi'
      simp at e
      subst e
      rw [mp]
      exact hc.mono (Same.refl _) mu (Nat.le_succ _) (fun hl => hF) fun _ => rfl
  · have key : ∀ k d, (st ++ [c])[k]? = some d → k ≠ st.length → st[k]? = some d ∧ k < st.length := fun k d e hk => by
      have h1 := (List.getElem?_eq_some_iff.mp e).1
      rw [ln] at h1
      have h2 : k < st.length := by omega
      rw [List.getElem?_append_left h2] at e
      exact ⟨e, h2⟩
    by_cases hi : i = st.length
    · by_cases hj : j = st.length
      · rw [hi, hj]
      · obtain ⟨e2, hj2⟩ := key j d' e2 hj
        rw [hi, mp, mu j hj2] at q
        exact absurd q.symm (hnew j d' e2 l2)
    · obtain ⟨e1, hi2⟩ := key i d e1 hi
      by_cases hj : j = st.length
      · rw [hj, mp, mu i hi2] at q
        exact absurd q (hnew i d e1 l1)
      · obtain ⟨e2, hj2⟩ := key j d' e2 hj
        rw [mu i hi2, mu j hj2] at q
        exact g.st.inj i j d d' e1 e2 l1 l2 q
  · by_cases hi : i < st.length
    · rw [List.getElem?_append_left hi] at e
      exact .inl ⟨d, e, l⟩
    · have h1 := (List.getElem?_eq_some_iff.mp e).1
      rw [ln] at h1
      have e2 : i = st.length := by omega
      exact .inr (by rw [e2, mp]; exact hp)
  · refine ⟨by rw [mp], by rw [ln]; omega⟩
theorem Good.fresh (g : Good K F μ st H) {p : Addr} (hp : H p = none) : ∀ i d, st[i]? = some d → live d = true → μ i ≠ p := fun i d e hl z => by
  obtain ⟨o, ho⟩ := (g.st.cell i d e).there hl
  rw [z, hp] at ho; cases ho
/-- a live cell is written -/
theorem Good.write (g : Good K F μ st H) {i : Nat} {c c' : Cell} {o : HO} (hc : st[i]? = some c) (hl : live c = true) (hl' : live c' = true)
    (hn : CellOk K F μ st.length (upd H (μ i) o) (μ i) c') : Good K F μ (st.set i c') (upd H (μ i) o) ∧ Ext F μ st H F μ (st.set i c') (upd H (μ i) o) := by
  have ck := g.st.cell i c hc
  have hF := ck.free hl
  have hi : i < st.length := (List.getElem?_eq_some_iff.mp hc).1
  refine ⟨⟨fun b u e => ?_, ⟨fun j d e => ?_, fun j k d d' e1 e2 l1 l2 q => ?_⟩⟩, ⟨Same.refl _, fun _ _ => rfl, by simp, fun a u h q => by rw [upd_ne (Ne.symm (q i c hc hl))]; exact h, fun j d e l => ?_, fun a u h => ?_, fun _ _ h => .inl h⟩⟩
  · rw [upd_ne (ne_of_none e hF)]; exact g.same _ _ e
  · rw [List.length_set]
    by_cases hj : i = j
    · subst hj
      rw [List.getElem?_set_self hi] at e
      cases e
      exact hn
    · rw [List.getElem?_set_ne hj] at e
      have cj := g.st.cell j d e
      refine cj.mono (Same.refl _) (fun _ _ => rfl) (Nat.le_refl _) (fun h => cj.free h) fun h => ?_
      have : μ j ≠ μ i := fun z => hj (g.st.inj i j c d hc e hl h z.symm)
      rw [upd_ne this]
  · have fix : ∀ k d, (st.set i c')[k]? = some d → live d = true → ∃ d0, st[k]? = some d0 ∧ live d0 = true := fun k d e l => by
      by_cases hk : i = k
      · subst hk; exact ⟨c, hc, hl⟩
      · rw [List.getElem?_set_ne hk] at e; exact ⟨d, e, l⟩
    obtain ⟨d0, a1, a2⟩ := fix j d e1 l1
    obtain ⟨d1, b1, b2⟩ := fix k d' e2 l2
    exact g.st.inj j k d0 d1 a1 b1 a2 b2 q
  · by_cases hj : i = j
    · subst hj; exact .inl ⟨c, hc, hl⟩
    · rw [List.getElem?_set_ne hj] at e; exact .inl ⟨d, e, l⟩
  · by_cases ha : a = μ i
    · subst ha; exact ⟨o, upd_same⟩
    · exact ⟨u, by rw [upd_ne ha]; exact h⟩
/-- a live cell is frozen -/
theorem Good.freezeG (g : Good K F μ st H) {i : Nat} {c c' : Cell} {o : HO} (hc : st[i]? = some c) (hl : live c = true) (hl' : live c' = false) (hH : H (μ i) = some o) (hn : Same F (upd F (μ i) o) → CellOk K (upd F (μ i) o) μ (st.set i c').length H (μ i) c') :
    Good K (upd F (μ i) o) μ (st.set i c') H ∧ Ext F μ st H (upd F (μ i) o) μ (st.set i c') H := by
  have ck := g.st.cell i _ hc
  have hF := ck.free hl
  have hi : i < st.length := (List.getElem?_eq_some_iff.mp hc).1
  have sm : Same F (upd F (μ i) o) := fun b u e => by rw [upd_ne (ne_of_none e hF)]; exact e
  refine ⟨⟨fun b u e => ?_, ⟨fun j d e => ?_, fun j k d d' e1 e2 l1 l2 q => ?_⟩⟩, ⟨sm, fun _ _ => rfl, by simp, fun _ _ h _ => h, fun j d e l => ?_, fun _ u h => ⟨u, h⟩, fun a u h => ?_⟩⟩
  · by_cases hb : b = μ i
    · subst hb; rw [upd_same] at e; cases e; exact hH
    · rw [upd_ne hb] at e; exact g.same _ _ e
  · by_cases hj : i = j
    · subst hj
      rw [List.getElem?_set_self hi] at e
      cases e
      exact hn sm
    · rw [List.getElem?_set_ne hj] at e
      have cj := g.st.cell j d e
      refine cj.mono sm (fun _ _ => rfl) (by simp) (fun h => ?_) fun h => rfl
      have : μ j ≠ μ i := fun z => hj (g.st.inj i j _ d hc e hl h z.symm)
      rw [upd_ne this]
      exact cj.free h
  · have fix : ∀ k d, (st.set i c')[k]? = some d → live d = true → st[k]? = some d := fun k d e l => by
      by_cases hk : i = k
      · subst hk
        rw [List.getElem?_set_self hi] at e
        cases e; rw [hl'] at l; cases l
      · rw [List.getElem?_set_ne hk] at e; exact e
    exact g.st.inj j k d d' (fix j d e1 l1) (fix k d' e2 l2) l1 l2 q
  · by_cases hj : i = j
    · subst hj
      rw [List.getElem?_set_self hi] at e
      cases e; rw [hl'] at l; cases l
    · rw [List.getElem?_set_ne hj] at e; exact .inl ⟨d, e, l⟩
  · by_cases ha : a = μ i
    · exact .inr (.inr ⟨i, _, hc, hl, ha.symm⟩)
    · rw [upd_ne ha] at h; exact .inl h
/-- a list's cell is frozen -/
theorem Good.freeze (g : Good K F μ st H) {i : Nat} {xs : List Val} (hc : st[i]? = some (.lst xs)) :
    ∃ F', Good K F' μ (st.set i (.frz xs)) H ∧ Ext F μ st H F' μ (st.set i (.frz xs)) H ∧ RepV K F' μ (st.set i (.frz xs)).length (.lst xs) (.ref (μ i)) := by
  obtain ⟨hF, vs, hH, hr⟩ := g.st.cell i _ hc
  have sm : Same F (upd F (μ i) (.lst vs)) := fun b u e => by rw [upd_ne (ne_of_none e hF)]; exact e
  have hr' : RepL K (upd F (μ i) (.lst vs)) μ (st.set i (.frz xs)).length xs vs := hr.mono sm (fun _ _ => rfl) (by simp)
  obtain ⟨g1, e1⟩ := g.freezeG hc rfl (c' := .frz xs) rfl hH fun _ => ⟨vs, upd_same, hr'⟩
  exact ⟨_, g1, e1, ⟨_, vs, rfl, upd_same, hr'⟩⟩
/-- an object's cell is frozen -/
theorem Good.freezeO (g : Good K F μ st H) {i : Nat} {c : Str} {ns : List Str} {xs : List Val} (hc : st[i]? = some (.obj c ns xs)) :
    ∃ F', Good K F' μ (st.set i (.fob c ns xs)) H ∧ Ext F μ st H F' μ (st.set i (.fob c ns xs)) H ∧ RepV K F' μ (st.set i (.fob c ns xs)).length (.obj c ns xs) (.ref (μ i)) := by
  obtain ⟨hF, dx, Ca, vs, hm, hH, hd, hl, hr⟩ := g.st.cell i _ hc
  have sm : Same F (upd F (μ i) (.ins Ca dx (ns.zip vs))) := fun b u e => by rw [upd_ne (ne_of_none e hF)]; exact e
  have hv : RepV K (upd F (μ i) (.ins Ca dx (ns.zip vs))) μ (st.set i (.fob c ns xs)).length (.obj c ns xs) (.ref (μ i)) := ⟨_, dx, Ca, vs, rfl, hm, upd_same, sm _ _ hd, hl, hr.mono sm (fun _ _ => rfl) (by simp)⟩
  obtain ⟨g1, e1⟩ := g.freezeG hc rfl (c' := .fob c ns xs) rfl hH fun _ => hv
  exact ⟨_, g1, e1, hv⟩
/-- an object taken out -/
def era (H : Hp) (D : Addr) : Hp := fun a => if a = D then none else H a
theorem era_same {D : Addr} : era H D D = none := if_pos rfl
theorem era_ne {D a : Addr} (h : a ≠ D) : era H D a = H a := if_neg h
theorem upd_era {D : Addr} {o : HO} : upd (era H D) D o = upd H D o := by
  funext a
  by_cases h : a = D
  · subst h; rw [upd_same, upd_same]
  · rw [upd_ne h, upd_ne h, era_ne h]
/-- what was done beside an object D, without it -/
theorem Ext.ghost {D : Addr} {o : HO} (g : Good K F μ st H) (hD : H D = none) (e : Ext F μ st (upd H D o) F' μ' st' H') (g' : Good K F' μ' st' H') :
    H' D = some o ∧ Ext F μ st H F' μ' st' (era H' D) ∧ Good K F' μ' st' (era H' D) := by
  have hF : F D = none := g.same.free hD
  have hQ : Quiet μ st D := fun i c hc hl => g.fresh hD i c hc hl
  have hF' : F' D = none := by
    cases q : F' D with
    | none => rfl
    | some u =>
      rcases e.fz D u q with h | h | ⟨i, c, hc, hl, hx⟩
      · rw [hF] at h; cases h
      · rw [upd_same] at h; cases h
      · exact absurd hx (hQ i c hc hl)
  have hQ' : ∀ i c, st'[i]? = some c → live c = true → μ' i ≠ D := fun i c hc hl z => by
    rcases e.new i c hc hl with ⟨d, hd, ld⟩ | hn
    · have hi := (List.getElem?_eq_some_iff.mp hd).1
      exact hQ i d hd ld (by rw [← e.mu i hi]; exact z)
    · rw [z, upd_same] at hn; cases hn
  refine ⟨e.frm D o upd_same hQ, ⟨e.same, e.mu, e.len, fun a u h q => ?_, fun i c hc hl => ?_, fun a u h => ?_, fun a u h => ?_⟩, ⟨fun b u h => ?_, ⟨fun i c hc => ?_, g'.st.inj⟩⟩⟩
  · have ha := ne_of_none h hD
    rw [era_ne ha]
    exact e.frm a u (by rw [upd_ne ha]; exact h) q
  · rcases e.new i c hc hl with h | h
    · exact .inl h
    · have ha := hQ' i c hc hl
      rw [upd_ne ha] at h
      exact .inr h
  · have ha := ne_of_none h hD
    rw [era_ne ha]
    exact e.dom a u (by rw [upd_ne ha]; exact h)
  · rcases e.fz a u h with h1 | h1 | h1
    · exact .inl h1
    · by_cases ha : a = D
      · rw [ha, hF'] at h; cases h
      · rw [upd_ne ha] at h1; exact .inr (.inl h1)
    · exact .inr (.inr h1)
  · rw [era_ne (ne_of_none h hF')]; exact g'.same _ _ h
  · have ck := g'.st.cell i c hc
    exact ck.mono (Same.refl _) (fun _ _ => rfl) (Nat.le_refl _) (fun hl => ck.free hl) fun hl => era_ne (hQ' i c hc hl)

/-! ### reading sequences -/
theorem seqOf_rep (g : Good K F μ st H) {x : Val} {v : V} {k : Bool} {xs : List Val} (h : RepV K F μ st.length x v) (e : seqOf st x = some (k, xs)) :
    ∃ a vs, v = .ref a ∧ RepL K F μ st.length xs vs ∧ (if k = true then SqL K.k H a vs else SqT K.k H a vs) := by
  cases x with
  | tup ys =>
    obtain ⟨a, vs, h1, h2, h3⟩ := h
    cases e
    exact ⟨a, vs, h1, h3, by rw [if_neg Bool.false_ne_true]; exact sqT_mono g.same h2⟩
  | lst ys =>
    obtain ⟨a, vs, h1, h2, h3⟩ := h
    cases e
    exact ⟨a, vs, h1, h3, by rw [if_pos rfl]; exact SqL.of (g.same _ _ h2)⟩
  | scr ys =>
    obtain ⟨a, vs, h1, h2, h3⟩ := h
    cases e
    exact ⟨a, vs, h1, h3, by rw [if_pos rfl]; exact sqL_mono g.same h2⟩
  | loc m =>
    obtain ⟨h1, h2⟩ := h
    change (match st[m]? with | some (.lst xs) => some (true, xs) | some (.frz xs) => some (true, xs) | _ => none) = some (k, xs) at e
    split at e
    · rename_i ys hm
      cases e
      obtain ⟨_, vs, h3, h4⟩ := g.st.cell m _ hm
      exact ⟨_, vs, h1, h4, by rw [if_pos rfl]; exact SqL.of h3⟩
    · rename_i ys hm
      cases e
      obtain ⟨vs, h3, h4⟩ := g.st.cell m _ hm
      exact ⟨_, vs, h1, h4, by rw [if_pos rfl]; exact SqL.of (g.same _ _ h3)⟩
    · cases e
  | _ => cases e
theorem lstOf_rep (g : Good K F μ st H) {x : Val} {v : V} {xs : List Val} (h : RepV K F μ st.length x v) (e : lstOf st x = some xs) :
    ∃ a vs, v = .ref a ∧ RepL K F μ st.length xs vs ∧ H a = some (.lst vs) := by
  cases x with
  | lst ys =>
    obtain ⟨a, vs, h1, h2, h3⟩ := h
    cases e
    exact ⟨a, vs, h1, h3, g.same _ _ h2⟩
  | loc m =>
    obtain ⟨h1, h2⟩ := h
    change (match st[m]? with | some (.lst xs) => some xs | some (.frz xs) => some xs | _ => none) = some xs at e
    split at e
    · rename_i ys hm
      cases e
      obtain ⟨_, vs, h3, h4⟩ := g.st.cell m _ hm
      exact ⟨_, vs, h1, h4, h3⟩
    · rename_i ys hm
      cases e
      obtain ⟨vs, h3, h4⟩ := g.st.cell m _ hm
      exact ⟨_, vs, h1, h4, g.same _ _ h3⟩
    · cases e
  | _ => cases e
end
end MP
/-! MiniPy: a body against the text. -/
namespace MP
open PySem L2

/-! ### forms of expressions -/
def isName : Expr → Option Str | .Name x _ => some x | _ => none
def isInt : Expr → Option Int | .Constant (.int i) _ _ => some i | _ => none
def isBl : Expr → Option Bool | .Constant (.bool b) _ _ => some b | _ => none
def isNon : Expr → Bool | .Constant .none _ _ => true | _ => false
def isStr : Expr → Option Str | .Constant (.str s) _ _ => some s | _ => none
def isTup : Expr → Option (List Expr) | .Tuple es _ _ => some es | _ => none
def isLst : Expr → Option (List Expr) | .List es _ => some es | _ => none
def isBin : Expr → Option (Expr × Operator × Expr) | .BinOp a op b _ => some (a, op, b) | _ => none
def isUn : Expr → Option (UnaryOp × Expr) | .UnaryOp op a _ => some (op, a) | _ => none
def isCmp : Expr → Option (Expr × CmpOp × Expr) | .Compare a [op] [b] _ => some (a, op, b) | _ => none
def isChain : Expr → Option (Expr × CmpOp × Expr × CmpOp × Expr) | .Compare a [op, op'] [b, c] _ => some (a, op, b, op', c) | _ => none
def isBo : Expr → Option (BoolOp × List Expr) | .BoolOp op es _ => some (op, es) | _ => none
def isIfx : Expr → Option (Expr × Expr × Expr) | .IfExp c a b _ => some (c, a, b) | _ => none
def isCall : Expr → Option (Str × List Expr) | .Call (.Name x _) es [] _ => some (x, es) | _ => none
def isMeth : Expr → Option (Expr × Str × List Expr × Bool) | .Call (.Attribute o m apos) es [] cpos => some (o, m, es, apos.endLine == cpos.line) | _ => none
def isSub : Expr → Option (Expr × Expr) | .Subscript a i _ => some (a, i) | _ => none
def isSlice : Expr → Option (Option Expr × Option Expr) | .Slice lo hi none _ => some (lo, hi) | _ => none
def isComp : Expr → Option (Expr × Expr × Expr × List Expr × Scope) | .ListComp elt [⟨tg, it, ifs, 0⟩] sc _ => some (elt, tg, it, ifs, sc) | _ => none

section
variable {pe : Expr}
theorem isName_eq {x : Str} (h : isName pe = some x) : ∃ p, pe = .Name x p := by cases pe <;> first | (cases h; exact ⟨_, rfl⟩) | cases h
theorem isInt_eq {i : Int} (h : isInt pe = some i) : ∃ j p, pe = .Constant (.int i) j p := by
  cases pe <;> first | (rename_i c j p; cases c <;> first | (cases h; exact ⟨_, _, rfl⟩) | cases h) | cases h
theorem isBl_eq {b : Bool} (h : isBl pe = some b) : ∃ j p, pe = .Constant (.bool b) j p := by
  cases pe <;> first | (rename_i c j p; cases c <;> first | (cases h; exact ⟨_, _, rfl⟩) | cases h) | cases h
theorem isNon_eq (h : isNon pe = true) : ∃ j p, pe = .Constant .none j p := by
  cases pe <;> first | (rename_i c j p; cases c <;> first | (cases h; exact ⟨_, _, rfl⟩) | cases h) | cases h
theorem isStr_eq {s : Str} (h : isStr pe = some s) : ∃ j p, pe = .Constant (.str s) j p := by
  cases pe <;> first | (rename_i c j p; cases c <;> first | (cases h; exact ⟨_, _, rfl⟩) | cases h) | cases h
theorem isTup_eq {es : List Expr} (h : isTup pe = some es) : ∃ k p, pe = .Tuple es k p := by cases pe <;> first | (cases h; exact ⟨_, _, rfl⟩) | cases h
theorem isLst_eq {es : List Expr} (h : isLst pe = some es) : ∃ p, pe = .List es p := by cases pe <;> first | (cases h; exact ⟨_, rfl⟩) | cases h
theorem isBin_eq {a b : Expr} {op : Operator} (h : isBin pe = some (a, op, b)) : ∃ p, pe = .BinOp a op b p := by cases pe <;> first | (cases h; exact ⟨_, rfl⟩) | cases h
theorem isUn_eq {a : Expr} {op : UnaryOp} (h : isUn pe = some (op, a)) : ∃ p, pe = .UnaryOp op a p := by cases pe <;> first | (cases h; exact ⟨_, rfl⟩) | cases h
theorem isCmp_eq {a b : Expr} {op : CmpOp} (h : isCmp pe = some (a, op, b)) : ∃ p, pe = .Compare a [op] [b] p := by
  unfold isCmp at h; split at h <;> first | (cases h; exact ⟨_, rfl⟩) | cases h
theorem isChain_eq {a b c : Expr} {op op' : CmpOp} (h : isChain pe = some (a, op, b, op', c)) : ∃ p, pe = .Compare a [op, op'] [b, c] p := by
  unfold isChain at h; split at h <;> first | (cases h; exact ⟨_, rfl⟩) | cases h
theorem isBo_eq {op : BoolOp} {es : List Expr} (h : isBo pe = some (op, es)) : ∃ p, pe = .BoolOp op es p := by cases pe <;> first | (cases h; exact ⟨_, rfl⟩) | cases h
theorem isIfx_eq {a b c : Expr} (h : isIfx pe = some (c, a, b)) : ∃ p, pe = .IfExp c a b p := by cases pe <;> first | (cases h; exact ⟨_, rfl⟩) | cases h
theorem isCall_eq {x : Str} {es : List Expr} (h : isCall pe = some (x, es)) : ∃ p q, pe = .Call (.Name x p) es [] q := by
  unfold isCall at h; split at h <;> first | (cases h; exact ⟨_, _, rfl⟩) | cases h
theorem isMeth_eq {o : Expr} {m : Str} {es : List Expr} {k : Bool} (h : isMeth pe = some (o, m, es, k)) : ∃ p q, pe = .Call (.Attribute o m p) es [] q ∧ k = (p.endLine == q.line) := by
  unfold isMeth at h; split at h <;> first | (cases h; exact ⟨_, _, rfl, rfl⟩) | cases h
theorem isSub_eq {a i : Expr} (h : isSub pe = some (a, i)) : ∃ p, pe = .Subscript a i p := by cases pe <;> first | (cases h; exact ⟨_, rfl⟩) | cases h
theorem isSlice_eq {lo hi : Option Expr} (h : isSlice pe = some (lo, hi)) : ∃ p, pe = .Slice lo hi none p := by
  unfold isSlice at h; split at h <;> first | (cases h; exact ⟨_, rfl⟩) | cases h
theorem isComp_eq {elt tg it : Expr} {ifs : List Expr} {sc : Scope} (h : isComp pe = some (elt, tg, it, ifs, sc)) : ∃ p, pe = .ListComp elt [⟨tg, it, ifs, 0⟩] sc p := by
  unfold isComp at h; split at h <;> first | (cases h; exact ⟨_, rfl⟩) | cases h
end

/-! ### side conditions -/
def notStar : Expr → Bool | .Starred _ _ => false | _ => true
def notLc : Expr → Bool | .ListComp .. => false | .SetComp .. => false | .DictComp .. => false | _ => true
def notSet : Expr → Bool | .Set .. => false | _ => true
def notSlice : Expr → Bool | .Slice .. => false | _ => true
def plainBase : Expr → Bool | .Name .. => true | .Attribute .. => true | .Subscript .. => true | .Call _ (_ :: _) _ _ => true | _ => false
def plainT : Expr → Bool | .UnaryOp .. => false | .BoolOp .. => false | .IfExp .. => false | .Compare .. => false | _ => true
section
variable {e : Expr} {env : PySem.Env}
theorem star_cons {es : List Expr} (h : notStar e = true) : starEach (e :: es) env = (false, eval e env) :: starEach es env := by
  cases e <;> first | rfl | cases h
def noStars : List Expr → Bool | [] => true | e :: es => notStar e && noStars es
theorem star_any {pos : Pos} : ∀ {es : List Expr}, noStars es = true → (backTo pos (starEach es env)).any (·.1) = false
  | [], _ => rfl
  | e :: es, h => by
    have h' : (notStar e && noStars es) = true := h
    rw [Bool.and_eq_true] at h'
    rw [star_cons h'.1]
    show (false || (backTo pos (starEach es env)).any (·.1)) = false
    rw [star_any h'.2]; rfl
theorem star_all {pos : Pos} : ∀ {es : List Expr}, noStars es = true → (backTo pos (starEach es env)).all (fun x => !x.1) = true
  | [], _ => rfl
  | e :: es, h => by
    have h' : (notStar e && noStars es) = true := h
    rw [Bool.and_eq_true] at h'
    rw [star_cons h'.1]
    show (true && (backTo pos (starEach es env)).all (fun x => !x.1)) = true
    rw [star_all h'.2]; rfl
theorem sw_false {t : Option Expr} {l : Nat} (h : notLc e = true) : swapsWith e t l env = pure false := by
  cases e <;> first | rfl | cases h
theorem folded_id (h : notSet e = true) : ∀ x, foldedSetIterable e env x = pure x := by
  cases e <;> first | (intro _; rfl) | cases h
theorem plain_ix (h : notSlice e = true) : PlainIx e := by
  cases e <;> first | exact fun _ _ => rfl | cases h
theorem base_id {m : Str} (h : plainBase e = true) : attributeBase e m env (eval e env) = eval e env := by
  cases e with
  | Call f args kws pos =>
    cases args with
    | nil => cases h
    | cons a as => cases f <;> rfl
  | _ => first | rfl | cases h
theorem true_id (h : plainT e = true) : ∀ whole, isTrue e env whole = (do let v ← whole; standAt e.pos; holding [v] (truthy v)) := by
  cases e <;> first | (intro _; rfl) | cases h
theorem marks_not {op : CmpOp} (h : notSet e = true) : behindInMarks op e = false := by
  cases e <;> first | rfl | cases h
theorem sub_assign {i : Expr} {pos : Pos} (h : notSlice i = true) : ∀ v, assign (.Subscript e i pos) env v = (do
      let ov ← holding [v] (eval e env)
      let iv ← holding [v, ov] (eval i env)
      standAt pos
      holding [v, ov, iv] (setItem ov iv v)
      release [v, ov, iv] []) := by
  cases i <;> first | (intro _; rfl) | cases h
end

/-! ### the checker -/
abbrev Names := List (Str × NameKind)
def visB (ns : Names) (x : Str) : Bool := match ns.lookup x with | some .local => true | some .cell => true | some .free => true | _ => false
def locB (ns : Names) (x : Str) : Bool := match ns.lookup x with | some .local => true | some .cell => true | _ => false
def glB (ns : Names) (x : Str) : Bool := match ns.lookup x with | some .globalImplicit => true | _ => false
def okName (x : Str) : Bool := !(x == ("__debug__" : Str)) && (!(x == ("__classdict__" : Str)) && decide (x ≠ ("__name__" : Str)))
def relN (ns sc : Names) : Names := ns.map fun (n, k) => if (k == .free && true && sc.lookup n == some .cell) then (n, .cell) else (n, k)
def cOp : COp → CmpOp | .eq => .Eq | .ne => .NotEq | .lt => .Lt | .le => .LtE | .gt => .Gt | .ge => .GtE | .is_ => .Is | .isnot => .IsNot | .in_ => .In | .notin => .NotIn
def bOp : BOp → Operator | .add => .Add | .sub => .Sub | .mul => .Mult | .fdiv => .FloorDiv | .mod => .Mod | .pow => .Pow
def opEq : Operator → Operator → Bool
  | .Add, .Add => true | .Sub, .Sub => true | .Mult, .Mult => true | .FloorDiv, .FloorDiv => true | .Mod, .Mod => true | .Pow, .Pow => true | _, _ => false
def cEq : CmpOp → CmpOp → Bool
  | .Eq, .Eq => true | .NotEq, .NotEq => true | .Lt, .Lt => true | .LtE, .LtE => true | .Gt, .Gt => true | .GtE, .GtE => true | .Is, .Is => true | .IsNot, .IsNot => true | .In, .In => true | .NotIn, .NotIn => true | _, _ => false
theorem opEq_eq {a b : Operator} (h : opEq a b = true) : a = b := by cases a <;> cases b <;> first | rfl | cases h
theorem cEq_eq {a b : CmpOp} (h : cEq a b = true) : a = b := by cases a <;> cases b <;> first | rfl | cases h
def tyName : Ty → String | .int => "int" | .bool => "bool" | .str => "str" | .tuple => "tuple" | .list => "list"
def tyStr : Ty → Str | .int => "int" | .bool => "bool" | .str => "str" | .tuple => "tuple" | .list => "list"
def f1Str : F1 → Str | .len => "len" | .int => "int" | .abs => "abs" | .bool => "bool" | .sum => "sum" | .min => "min" | .max => "max" | .lenset => "len"
def g1Str : G1 → Str | .list => "list" | .tuple => "tuple" | .sorted => "sorted" | .sortset => "sorted"
def btNames : List Str := ["int", "bool", "str", "tuple", "list", "len", "abs", "sum", "min", "max", "sorted", "set", "range", "isinstance"]

/-- calm: not within an except suite; hot: in a suite, eI the slot of the caught error, eD the classes it may be of; xn: the error classes with their fields; sub: class names with those of xn that are below -/
structure Cfg where
  N : List Str
  fs : List Str
  bs : List Str
  hfs : List Str := []
  calm : Bool := true
  hot : Bool := false
  eI : Option Nat := none
  eD : List Str := []
  xn : List (Str × List Str) := []
  sub : List (Str × List Str) := []
  cs : List (Str × List Str) := []
  nw : List Str := []
  ms : List (Str × Str) := []
def isAttr : Expr → Option (Expr × Str) | .Attribute a f _ => some (a, f) | _ => none
theorem isAttr_eq {pe a : Expr} {f : Str} (h : isAttr pe = some (a, f)) : ∃ p, pe = .Attribute a f p := by cases pe <;> first | (cases h; exact ⟨_, rfl⟩) | cases h
def idxF (f : Str) : List Str → Option Nat
  | [] => none
  | n :: ns => if f = n then some 0 else (idxF f ns).map (· + 1)
/-- a name of the caught error -/
def errB (C : Cfg) (ns : Names) (pe : Expr) : Bool := match isName pe with | some y => C.hot && (match C.eI with | some i => decide (C.N[i]? = some y) | none => false) && (visB ns y && okName y) | none => false
def clsB (C : Cfg) (ns : Names) (p : Str × List Str) (pe : Expr) : Bool := match isName pe with | some y => decide (y = p.1) && (glB ns y && (okName y && decide (C.sub.lookup y = some p.2))) | none => false
def clssB (C : Cfg) (ns : Names) : List (Str × List Str) → List Expr → Bool
  | [], [] => true
  | p :: ps, e :: es => notStar e && (clsB C ns p e && clssB C ns ps es)
  | _, _ => false
def noIter : F1 → Bool | .sum => false | .min => false | .max => false | _ => true
def blkNames (ns : Names) (sc : Scope) : Names := relN sc.names ns
/-- the own names of a comprehension's block: its target -/
def blkC' (C : Cfg) (ns : Names) (sc : Scope) (y : Str) (x : Nat) : Bool := blkC C.N { kind := .function, names := ns, isGenerator := false, isCoroutine := false } sc [(y, x)] && (match sc.kind with | .function => true | _ => false)

def tgN : List Expr → List Nat → List (Str × Nat)
  | t :: ts, i :: is => (match isName t with | some x => (x, i) | none => ("", i)) :: tgN ts is
  | _, _ => []
def chkT0 (C : Cfg) (sc : Scope) : List Nat → List Expr → Bool
  | [], [] => true
  | i :: is, t :: ts => (match isName t with | some x => decide (C.N[i]? = some x) && locB sc.names x | none => false) && chkT0 C sc is ts
  | _, _ => false
def blkCT (C : Cfg) (ns : Names) (sc : Scope) (own : List (Str × Nat)) : Bool := blkC C.N { kind := .function, names := ns, isGenerator := false, isCoroutine := false } sc own && (match sc.kind with | .function => true | _ => false)
def tgC (C : Cfg) (ns : Names) (sc : Scope) (tg : Expr) : Tg → Bool
  | .one x => (match isName tg with
    | some y => decide (C.N[x]? = some y) && (locB sc.names y && blkC' C ns sc y x)
    | none => false)
  | .many is => (match isTup tg with
    | some ts => chkT0 C sc is ts && blkCT C ns sc (tgN ts is)
    | none => false)
theorem tgN_snd : ∀ {ts : List Expr} {is : List Nat}, ts.length = is.length → (tgN ts is).map (·.2) = is
  | [], [], _ => rfl
  | t :: ts, i :: is, h => by
    unfold tgN
    rw [List.map_cons, tgN_snd (by simpa using h)]
    split <;> rfl
mutual
def chkE (C : Cfg) (ns : Names) : E → Expr → Bool
  | .var i, pe => match isName pe with | some x => decide (C.N[i]? = some x) && (visB ns x && okName x) | none => false
  | .int i, pe => match isInt pe with | some j => decide (i = j) | none => false
  | .bl b, pe => match isBl pe with | some c => decide (b = c) | none => false
  | .non, pe => isNon pe
  | .str s, pe => match isStr pe with | some t => decide (s = t) | none => false
  | .glob g, pe => match isName pe with | some x => decide (g = x) && (glB ns x && okName x) | none => false
  | .tup es, pe => match isTup pe with | some ps => chkEs C ns es ps | none => false
  | .lst _ es, pe => match isLst pe with | some ps => chkEs C ns es ps | none => false
  | .bin _ op a b, pe => match isBin pe with | some (p, o, q) => opEq (bOp op) o && (chkE C ns a p && chkE C ns b q) | none => false
  | .neg a, pe => match isUn pe with | some (.USub, p) => chkE C ns a p | _ => false
  | .not a, pe => match isUn pe with | some (.Not, p) => chkE C ns a p | _ => false
  | .cmp op a b, pe => match isCmp pe with | some (p, o, q) => cEq (cOp op) o && (notSet q && (chkE C ns a p && chkE C ns b q)) | none => false
  | .chain op op' a b c, pe => match isChain pe with | some (p, o, q, o', r) => cEq (cOp op) o && (cEq (cOp op') o' && (notSet r && (chkE C ns a p && (chkE C ns b q && chkE C ns c r)))) | none => false
  | .bo k es, pe => match isBo pe with | some (.And, ps) => k && chkEs C ns es ps | some (.Or, ps) => !k && chkEs C ns es ps | _ => false
  | .ifx c a b, pe => match isIfx pe with | some (r, p, q) => chkE C ns c r && (chkE C ns a p && chkE C ns b q) | none => false
  | .call f es, pe => match isCall pe with | some (x, ps) => decide (f = x) && (!ps.isEmpty && (C.fs.contains f && (glB ns x && (okName x && (noStars ps && chkEs C ns es ps))))) | none => false
  | .isi a t, pe => match isCall pe with
    | some (x, [p, q]) => decide (x = "isinstance") && (glB ns x && (notStar p && (chkE C ns a p && (match isName q with | some y => decide (y = tyStr t) && (glB ns y && C.bs.contains y) | none => false)))) && C.bs.contains "isinstance"
    | _ => false
  | .isi2 a t u, pe => match isCall pe with
    | some (x, [p, q]) => decide (x = "isinstance") && (glB ns x && (notStar p && (chkE C ns a p && (match isTup q with
        | some [q1, q2] => (match isName q1, isName q2 with | some y, some z => decide (y = tyStr t) && (glB ns y && (C.bs.contains y && (decide (z = tyStr u) && (glB ns z && C.bs.contains z)))) | _, _ => false)
        | _ => false)))) && C.bs.contains "isinstance"
    | _ => false
  | .f1 .lenset a, pe => match isCall pe with
    | some (x, [p]) => C.calm && (decide (x = "len") && (glB ns x && (C.bs.contains x && (match isCall p with
        | some (y, [q]) => decide (y = "set") && (glB ns y && (C.bs.contains y && (notStar q && chkE C ns a q)))
        | _ => false))))
    | _ => false
  | .f1 f a, pe => match isCall pe with
    | some (x, [p]) => decide (x = f1Str f) && (glB ns x && (notStar p && (C.bs.contains x && (chkE C ns a p && (C.calm || noIter f)))))
    | _ => false
  | .mm k a b, pe => match isCall pe with
    | some (x, [p, q]) => C.calm && (decide (x = if k then "max" else "min") && (glB ns x && (notStar p && (notStar q && (C.bs.contains x && (chkE C ns a p && chkE C ns b q))))))
    | _ => false
  | .g1 _ .sortset a, pe => match isCall pe with
    | some (x, [p]) => C.calm && (decide (x = "sorted") && (glB ns x && (C.bs.contains x && (match isCall p with
        | some (y, [q]) => decide (y = "set") && (glB ns y && (C.bs.contains y && (notStar q && chkE C ns a q)))
        | _ => false))))
    | _ => false
  | .g1 _ f a, pe => match isCall pe with
    | some (x, [p]) => decide (x = g1Str f) && (glB ns x && (notStar p && (C.bs.contains x && chkE C ns a p)))
    | _ => false
  | .sub a i, pe => match isSub pe with | some (p, q) => notSlice q && (chkE C ns a p && chkE C ns i q) | none => false
  | .slc _ a lo hi, pe => match isSub pe with
    | some (p, q) => chkE C ns a p && (match isSlice q with
        | some (l, h) => (match l with | none => isNo lo | some l => !isNo lo && chkE C ns lo l) && (match h with | none => isNo hi | some h => !isNo hi && chkE C ns hi h)
        | none => false)
    | none => false
  | .no, _ => false
  | .rng es, pe => match isCall pe with
    | some (x, ps) => decide (x = "range") && (glB ns x && (C.bs.contains x && ((decide (ps.length = 1) || (decide (ps.length = 2) || decide (ps.length = 3))) && (noStars ps && chkEs C ns es ps))))
    | none => false
  | .compt _ is it c elt, pe => match isComp pe with
    | some (pelt, tg, pit, ifs, sc) => C.calm && (match isTup tg with
        | some ts => chkT0 C sc is ts && blkCT C ns sc (tgN ts is)
        | none => false) && (notSet pit && (chkE C ns it pit && (chkE C (blkNames ns sc) elt pelt && (match ifs with
          | [] => isNo c
          | [pc] => !isNo c && chkE C (blkNames ns sc) c pc
          | _ => false))))
    | none => false
  | .compc _ t a c elt, pe => match isComp pe with
    | some (pelt, tg, pit, ifs, sc) => C.calm && tgC C ns sc tg t && (notSet pit && (chkE C ns a pit && (chkE C (blkNames ns sc) elt pelt && (match ifs with
          | [] => isNo c
          | [pc] => !isNo c && chkE C (blkNames ns sc) c pc
          | _ => false))))
    | none => false
  | .comp _ x it c elt, pe => match isComp pe with
    | some (pelt, tg, pit, ifs, sc) => C.calm && (match isName tg with
        | some y => decide (C.N[x]? = some y) && (locB sc.names y && blkC' C ns sc y x)
        | none => false) && (notSet pit && (chkE C ns it pit && (chkE C (blkNames ns sc) elt pelt && (match ifs with
          | [] => isNo c
          | [pc] => !isNo c && chkE C (blkNames ns sc) c pc
          | _ => false))))
    | none => false
  | .frz a, pe => chkE C ns a pe
  | .app o a, pe => match isMeth pe with
    | some (po, m, [p], k) => decide (m = "append") && (k && (plainBase po && (notStar p && (chkE C ns o po && chkE C ns a p))))
    | _ => false
  | .xfld h j, pe => match isAttr pe with
    | some (p, f) => decide (h = C.N.length) && (errB C ns p && C.xn.all fun q => !C.eD.contains q.1 || decide (idxF f q.2 = some j))
    | none => false
  | .xis h ys, pe => match isCall pe with
    | some (x, [p, q]) => decide (x = "isinstance") && (decide (h = C.N.length) && (errB C ns p && (glB ns x && (C.bs.contains "isinstance" && (notStar p && (notStar q && (match isTup q with
        | some qs => decide (ys.length ≤ 100) && clssB C ns ys qs
        | none => (match ys with | [y] => clsB C ns y q | _ => false))))))))
    | _ => false
  | .fld c f a, pe => match isAttr pe with
    | some (p, g) => decide (f = g) && (plainBase p && ((match C.cs.lookup c with | some l => l.contains f | none => false) && chkE C ns a p))
    | none => false
  | .new c es, pe => match isCall pe with | some (x, ps) => C.calm && (decide (c = x) && (!ps.isEmpty && (C.nw.contains c && (glB ns x && (okName x && (noStars ps && chkEs C ns es ps)))))) | none => false
  | .meth c m o es, pe => match isMeth pe with
    | some (po, m', ps, k) => C.calm && (decide (m = m') && (k && (plainBase po && (C.ms.contains (c, m) && (chkE C ns o po && (noStars ps && (decide (ps.length < 29) && chkEs C ns es ps)))))))
    | none => false
def chkEs (C : Cfg) (ns : Names) : Es → List Expr → Bool
  | .nil, [] => true
  | .cons e r, p :: ps => notStar p && (chkE C ns e p && chkEs C ns r ps)
  | _, _ => false
end
end MP
set_option maxHeartbeats 4000000
/-! tuple * int: nothing, or the same. -/
namespace L2
open PySem PySem.Spec PyProof.Rows
theorem tuple_mulS (l : Addr) (items : Array Value) (n : Nat) (dd : Option Addr) (sl : Array (Option Value)) (x : Int) (u : Tok) (c0 : (decide (x < -(2 ^ 63)) || decide (x ≥ 2 ^ 63)) = false) (c1 : (items.isEmpty || x == 1) = true) :
    Meets (Builtin.«tuple.__mul__» ⟨[.ref l, .int x u], []⟩) (fun _ R s => s.heap.get? l = some { cls := .type "tuple", dict := dd, data := .seq items n, slots := sl } ∧ R (.ok (.ret (Value.ref l))) s) :=
  .of_wp fun prog w A R s h => by
    obtain ⟨hp, g, d, tk, os⟩ := s
    obtain ⟨hl, h⟩ := h
    have f1 := AutoSeq1.idx_int
    wp_walk using wpAny_loadPart' hl
    repeat (first
      | (refine wpAny_ite_false (decide_eq_false (by rw [c0]; exact Bool.false_ne_true)) ?_; wp_walk using wpAny_loadPart' hl)
      | (refine wpAny_ite_true (decide_eq_true c1) ?_; wp_walk using wpAny_loadPart' hl))
    exact ⟨_, rfl, h⟩
theorem tuple_mulN (l : Addr) (items : Array Value) (n : Nat) (dd : Option Addr) (sl : Array (Option Value)) (x : Int) (u : Tok) (c0 : (decide (x < -(2 ^ 63)) || decide (x ≥ 2 ^ 63)) = false) (c1 : (items.isEmpty || x == 1) = false) (c2 : (decide (x ≤ 0) || items.isEmpty) = true) :
    Meets (Builtin.«tuple.__mul__» ⟨[.ref l, .int x u], []⟩) (fun _ R s => s.heap.get? l = some { cls := .type "tuple", dict := dd, data := .seq items n, slots := sl } ∧
      R (.ok (.ret (Value.ref s.heap.objs.size))) { s with heap := s.heap.push { cls := Value.type "tuple", data := Data.seq #[] }, toks := s.toks }) :=
  .of_wp fun prog w A R s h => by
    obtain ⟨hp, g, d, tk, os⟩ := s
    obtain ⟨hl, h⟩ := h
    have f1 := AutoSeq1.idx_int
    wp_walk using wpAny_loadPart' hl
    repeat (first
      | (refine wpAny_ite_false (decide_eq_false (by rw [c0]; exact Bool.false_ne_true)) ?_; wp_walk using wpAny_loadPart' hl)
      | (refine wpAny_ite_false (decide_eq_false (by rw [c1]; exact Bool.false_ne_true)) ?_; wp_walk using wpAny_loadPart' hl)
      | (refine wpAny_ite_true (decide_eq_true c2) ?_; wp_walk using wpAny_loadPart' hl))
    exact ⟨_, rfl, h⟩
/-- no times -/
def rRepT0 (K : PySem.W.Frag) : R2 := fun x y H Q => ∃ l k xs, x = .ref l ∧ y = .int k ∧ SqT K H l xs ∧ xs ≠ [] ∧ k ≤ 0 ∧ -1000 ≤ k ∧ ∀ p, H p = none → Q (.ref p) (upd H p (.tup []))
/-- once -/
def rRepT1 (K : PySem.W.Frag) : R2 := fun x y H Q => ∃ l xs, x = .ref l ∧ y = .int 1 ∧ SqT K H l xs ∧ Q (.ref l) H
section
variable {X : Cx}
theorem op_repT0 : OpR X (binaryOp .Mult) (rRepT0 X.K) := by
  intro pins s σ H x y v u Q I rx ry h
  obtain ⟨l, k, xs, rfl, rfl, hT, hne, h1, h2, q⟩ := h
  cases rx
  obtain ⟨t, rfl⟩ := ry
  obtain ⟨its, r, ⟨⟨cls, dd, data, sl⟩, ho, hc, n, hd⟩, hs⟩ := I.tuple hT
  simp only at hc hd
  subst hc hd
  have hle : its.length = xs.length := r.length.symm
  have hn : its ≠ [] := fun e => hne (by
    rw [e] at hle
    exact List.eq_nil_of_length_eq_zero hle.symm)
  have hi : its.toArray.isEmpty = false := by
    cases its with
    | nil => exact absurd rfl hn
    | cons a b => rfl
  have c0 : (decide (k < -(2 ^ 63)) || decide (k ≥ 2 ^ 63)) = false := by
    rw [decide_eq_false (by omega), decide_eq_false (by omega)] <;> rfl
  have c1 : (its.toArray.isEmpty || k == 1) = false := by
    rw [hi, Bool.false_or]
    exact beq_eq_false_iff_ne.mpr (by omega)
  have c2 : (decide (k ≤ 0) || its.toArray.isEmpty) = true := by
    rw [decide_eq_true h1]; rfl
  refine wpAny_binaryOp_repeat_ref (T := "tuple") (U := "int") (by decide) ⟨_, ho, rfl⟩ (fun s' => typeIs_int s' k t) noFill_tuple_mul F.fills_int_mul F.slot_int_rmul repeat_tuple F.slot_int_index.lookup
    (call_meets F.slot_int_rmul (typeIs_int s k t) F.entry_int_rmul (F.args_int_rmul_2 _ _) (int_rmul_tuple k t l its.toArray n dd sl)
      ⟨ho, rfl, ⟨_, ho, rfl⟩, call_meets F.slot_tuple_mul ⟨_, ho, rfl⟩ F.entry_tuple_mul (F.args_tuple_mul_2 _ _) (tuple_mulN l its.toArray n dd sl k t c0 c1 c2) ⟨ho, ?_⟩⟩)
  refine ⟨.ref s.heap.objs.size, _, I.laid (t' := s.toks) (o := .tup []) (fun b ob q => Heap.get?_push_of_some _ q) (Nat.le_refl _) ?_, rfl, q _ (I.hok.fresh (Nat.le_refl _))⟩
  exact ⟨Nat.zero_le _, [], .nil, by rw [show (#[] : Array Value) = ([] : List Value).toArray from rfl]; exact IsTup.new _ _⟩
theorem op_repT1 : OpR X (binaryOp .Mult) (rRepT1 X.K) := by
  intro pins s σ H x y v u Q I rx ry h
  obtain ⟨l, xs, rfl, rfl, hT, q⟩ := h
  cases rx
  obtain ⟨t, rfl⟩ := ry
  obtain ⟨its, r, ⟨⟨cls, dd, data, sl⟩, ho, hc, n, hd⟩, hs⟩ := I.tuple hT
  simp only at hc hd
  subst hc hd
  have c0 : (decide ((1 : Int) < -(2 ^ 63)) || decide ((1 : Int) ≥ 2 ^ 63)) = false := by decide
  have c1 : (its.toArray.isEmpty || (1 : Int) == 1) = true := by simp
  refine wpAny_binaryOp_repeat_ref (T := "tuple") (U := "int") (by decide) ⟨_, ho, rfl⟩ (fun s' => typeIs_int s' 1 t) noFill_tuple_mul F.fills_int_mul F.slot_int_rmul repeat_tuple F.slot_int_index.lookup
    (call_meets F.slot_int_rmul (typeIs_int s 1 t) F.entry_int_rmul (F.args_int_rmul_2 _ _) (int_rmul_tuple 1 t l its.toArray n dd sl)
      ⟨ho, rfl, ⟨_, ho, rfl⟩, call_meets F.slot_tuple_mul ⟨_, ho, rfl⟩ F.entry_tuple_mul (F.args_tuple_mul_2 _ _) (tuple_mulS l its.toArray n dd sl 1 t c0 c1) ⟨ho, ?_⟩⟩)
  exact ⟨.ref l, _, I, rfl, q⟩
end
end L2
/-! MiniPy: what is wanted behind a piece, and the operations by values. -/
namespace MP
open PySem L2

/-- an error of the program's own class c with its fields -/
def ExnOk (Y : Fx) (F : Hp) (μ : Nat → Addr) (n : Nat) (c : Str) (fs : List Val) (cls : Value) (d : Option Addr) : Prop :=
  Y.mg c = some cls ∧ ∃ dd ns vs, d = some dd ∧ Y.Xn c = some ns ∧ ns.length = vs.length ∧ F dd = some (.xd (ns.zip vs)) ∧ RepL Y.kf F μ n fs vs

/-- what is wanted behind a piece -/
def RP {α : Type} (Y : Fx) (F : Hp) (μ : Nat → Addr) (st : Store) (H : Hp) (r : R (α × Store)) (k : Hp → (Nat → Addr) → Hp → α → Store → Prop) (W : XK) : Prop := match r with
  | .ok p => ∀ F' μ' H', Ext F μ st H F' μ' p.2 H' → Good Y.kf F' μ' p.2 H' → k F' μ' H' p.1 p.2
  | .exn c fs st' => ∀ F' μ' H' cls d, Ext F μ st H F' μ' st' H' → Good Y.kf F' μ' st' H' → ExnOk Y F' μ' st'.length c fs cls d → W cls d H'
  | .stuck => False
def kV (Y : Fx) (Q : VK) : Hp → (Nat → Addr) → Hp → Val → Store → Prop := fun F μ H x st => ∀ w, RepV Y.kf F μ st.length x w → Q w H
def kT (Q : Bool → Hp → Prop) : Hp → (Nat → Addr) → Hp → Bool → Store → Prop := fun _ _ H b _ => Q b H
def kA (Y : Fx) (Q : List V → Hp → Prop) : Hp → (Nat → Addr) → Hp → List Val → Store → Prop := fun F μ H xs st => ∀ ws, RepL Y.kf F μ st.length xs ws → Q ws H
section
variable {α β : Type} {Y : Fx} {F F1 H H1 : Hp} {μ μ1 : Nat → Addr} {st st1 : Store} {r : R (α × Store)} {k k' : Hp → (Nat → Addr) → Hp → α → Store → Prop} {W : XK}
theorem RP.ext (e : Ext F μ st H F1 μ1 st1 H1) (h : RP Y F μ st H r k W) : RP Y F1 μ1 st1 H1 r k W := by
  cases r with
  | ok p => exact fun F' μ' H' e' g => h F' μ' H' (e.trans e') g
  | exn c fs s => exact fun F' μ' H' cls d e' g x => h F' μ' H' cls d (e.trans e') g x
  | stuck => exact h
theorem RP.impE (h : RP Y F μ st H r k W) (i : ∀ F' μ' H' a st', r = .ok (a, st') → Ext F μ st H F' μ' st' H' → Good Y.kf F' μ' st' H' → k F' μ' H' a st' → k' F' μ' H' a st') : RP Y F μ st H r k' W := by
  cases r with
  | ok p => exact fun F' μ' H' e' g => i F' μ' H' p.1 p.2 rfl e' g (h F' μ' H' e' g)
  | exn c fs s => exact h
  | stuck => exact h
theorem RP.bind {f : α × Store → R (β × Store)} {kb : Hp → (Nat → Addr) → Hp → β → Store → Prop} (h : RP Y F μ st H (r.bind f) kb W) :
    RP Y F μ st H r (fun F' μ' H' a st' => RP Y F' μ' st' H' (f (a, st')) kb W) W := by
  cases r with
  | ok p => exact fun F' μ' H' e' g => RP.ext e' h
  | exn c fs s => exact h
  | stuck => exact h
theorem RP.bindP {δ : Type} {r : R δ} {f : δ → R (β × Store)} {kb : Hp → (Nat → Addr) → Hp → β → Store → Prop} (hx : ∀ c fs s, r ≠ .exn c fs s) (h : RP Y F μ st H (r.bind f) kb W) : ∃ a, r = .ok a ∧ RP Y F μ st H (f a) kb W := by
  cases r with
  | ok a => exact ⟨a, rfl, h⟩
  | exn c fs s => exact absurd rfl (hx c fs s)
  | stuck => exact False.elim h
theorem RP.wish {W' : XK} (h : RP Y F μ st H r k W) (w : ∀ c d H, W c d H → W' c d H) : RP Y F μ st H r k W' := by
  cases r with
  | ok p => exact h
  | exn c fs s => exact fun F' μ' H' cls d e g x => w _ _ _ (h F' μ' H' cls d e g x)
  | stuck => exact h
end

/-! ### new lists and tuples -/
theorem szMax_le {n : Nat} (h : n ≤ szMax) : n ≤ sizeLine := Nat.le_trans h (by rw [sizeLine_eq]; decide)
section
variable {Y : Fx} {F : Hp} {μ : Nat → Addr} {st : Store} {H : Hp} {W : XK} {Q : VK} {xs : List Val} {vs : List V} {m : Bool}
theorem newL_ok (g : Good Y.kf F μ st H) (h : RP Y F μ st H (newL m xs st) (kV Y Q) W) (r : RepL Y.kf F μ st.length xs vs) : vs.length ≤ sizeLine ∧ ∀ p, H p = none → Q (.ref p) (upd H p (.lst vs)) := by
  unfold newL at h
  by_cases hl : xs.length ≤ szMax
  · rw [if_pos hl] at h
    refine ⟨by rw [r.len]; exact szMax_le hl, fun p hp => ?_⟩
    cases m with
    | true =>
      rw [if_pos rfl] at h
      have hF : F p = none := g.same.free hp
      obtain ⟨g', e', r'⟩ := g.celled hp (o := .lst vs) rfl (c := .lst xs) ⟨hF, vs, upd_same, r⟩
      exact h _ _ _ e' g' _ r'
    | false =>
      rw [if_neg Bool.false_ne_true] at h
      obtain ⟨g', e'⟩ := g.frozen (o := .lst vs) hp
      exact h _ _ _ e' g' _ ⟨p, vs, rfl, upd_same, e'.l r⟩
  · rw [if_neg hl] at h; exact False.elim h
theorem newT_ok (g : Good Y.kf F μ st H) (h : RP Y F μ st H (newT xs st) (kV Y Q) W) (r : RepL Y.kf F μ st.length xs vs) : vs.length ≤ sizeLine ∧ ∀ p, H p = none → Q (.ref p) (upd H p (.tup vs)) := by
  unfold newT at h
  by_cases hl : xs.length ≤ szMax
  · rw [if_pos hl] at h
    refine ⟨by rw [r.len]; exact szMax_le hl, fun p hp => ?_⟩
    obtain ⟨g', e'⟩ := g.frozen (o := .tup vs) hp
    exact h _ _ _ e' g' _ ⟨p, vs, rfl, SqT.of upd_same, e'.l r⟩
  · rw [if_neg hl] at h; exact False.elim h
/-- the same tuple once more -/
theorem newT_same (g : Good Y.kf F μ st H) (h : RP Y F μ st H (newT xs st) (kV Y Q) W) {a : Addr} (r : RepV Y.kf F μ st.length (.tup xs) (.ref a)) : Q (.ref a) H := by
  unfold newT at h
  by_cases hl : xs.length ≤ szMax
  · rw [if_pos hl] at h
    exact h _ _ _ Ext.refl g _ r
  · rw [if_neg hl] at h; exact False.elim h
end

/-! ### the operations -/
/-- two values in, by their trees -/
def r2 (Y : Fx) (W : XK) (f : Val → Val → Store → RV) : R2 := fun x y H Q => ∃ F μ st a b, Good Y.kf F μ st H ∧ RepV Y.kf F μ st.length a x ∧ RepV Y.kf F μ st.length b y ∧ RP Y F μ st H (f a b st) (kV Y Q) W
def flatB (x : Val) : Bool := flat x
section
variable {X : Cx} {Y : Fx} {W : XK}
theorem rep_int {K : Kf} {F : Hp} {μ : Nat → Addr} {n : Nat} {i : Int} {x : V} (h : RepV K F μ n (.int i) x) : x = .int i := h
theorem repV_ext {F : Hp} {μ : Nat → Addr} {st : Store} {H : Hp} {Q : VK} {v : Val} {w : V} (g : Good Y.kf F μ st H) (h : RP Y F μ st H (.ok (v, st)) (kV Y Q) W) (r : RepV Y.kf F μ st.length v w) : Q w H := h F μ H Ext.refl g w r

theorem op_add_all (hK : X.K = Y.K) {m : Bool} : OpR X (binaryOp .Add) (r2 Y W (binV m .add)) := by
  intro pins s σ H x y v u Q I rx ry h
  obtain ⟨F, μ, st, a, b, g, ra, rb, h⟩ := h
  have lists : ∀ xs ys, lstOf st a = some xs → lstOf st b = some ys → RP Y F μ st H (newL m (xs ++ ys) st) (kV Y Q) W → wpAny (model X.prog X.w) X.A (binaryOp .Add v u) (EP X pins σ Q) X.xe s := fun xs ys h1 h2 h => by
    obtain ⟨p, vs, e1, r1, q1⟩ := lstOf_rep g ra h1
    obtain ⟨q, ws, e2, r2', q2⟩ := lstOf_rep g rb h2
    obtain ⟨z, k⟩ := newL_ok g h (r1.append r2')
    rw [List.length_append] at z
    exact op_cat pins s σ H x y v u Q I rx ry ⟨p, q, vs, ws, e1, e2, q1, q2, z, k⟩
  have rest : RP Y F μ st H (match lstOf st a, lstOf st b with | some xs, some ys => newL m (xs ++ ys) st | _, _ => .stuck) (kV Y Q) W → wpAny (model X.prog X.w) X.A (binaryOp .Add v u) (EP X pins σ Q) X.xe s := fun h => by
    split at h
    · rename_i xs ys h1 h2
      exact lists xs ys h1 h2 h
    · exact False.elim h
  cases a with
  | int i =>
    cases b with
    | int j =>
      have ex : x = .int i := ra
      have ey : y = .int j := rb
      subst ex ey
      exact op_add pins s σ H _ _ v u Q I rx ry ⟨i, j, rfl, rfl, repV_ext g h rfl⟩
    | _ => exact False.elim h
  | str i =>
    cases b with
    | str j =>
      have ex : x = .str i := ra
      have ey : y = .str j := rb
      subst ex ey
      have h' : RP Y F μ st H (if i.length + j.length ≤ szMax then .ok (.str (i ++ j), st) else .stuck) (kV Y Q) W := h
      by_cases hl : i.length + j.length ≤ szMax
      · rw [if_pos hl] at h'
        exact op_add_str pins s σ H _ _ v u Q I rx ry ⟨i, j, rfl, rfl, szMax_le hl, repV_ext g h' rfl⟩
      · rw [if_neg hl] at h'; exact False.elim h'
    | _ => exact False.elim h
  | tup xs =>
    cases b with
    | tup ys =>
      obtain ⟨p, vs, e1, q1, r1⟩ := id ra
      obtain ⟨q, ws, e2, q2, r2'⟩ := id rb
      have h' : RP Y F μ st H (newT (xs ++ ys) st) (kV Y Q) W := h
      obtain ⟨z, k⟩ := newT_ok g h' (r1.append r2')
      rw [List.length_append] at z
      refine op_catA pins s σ H x y v u Q I rx ry ⟨p, q, vs, ws, e1, e2, by rw [hK]; exact sqT_mono g.same q1, by rw [hK]; exact sqT_mono g.same q2, z, fun e => ?_, fun _ e => ?_, fun _ _ => k⟩
      · have ex : xs = [] := r1.nil_iff.mp e
        subst ex
        exact newT_same g h' (by rw [List.nil_append, ← e2]; exact rb)
      · have ey : ys = [] := r2'.nil_iff.mp e
        subst ey
        rw [List.append_nil] at h'
        exact newT_same g h' (by rw [← e1]; exact ra)
    | _ => exact False.elim h
  | non => cases b <;> exact False.elim h
  | bl _ => cases b <;> exact False.elim h
  | lst xs => cases b <;> exact rest h
  | loc n => cases b <;> exact rest h
  | scr xs => cases b <;> exact rest h
  | obj _ _ _ => cases b <;> exact rest h
theorem op_sub_all {m : Bool} : OpR X (binaryOp .Sub) (r2 Y W (binV m .sub)) := by
  intro pins s σ H x y v u Q I rx ry h
  obtain ⟨F, μ, st, a, b, g, ra, rb, h⟩ := h
  cases a <;> cases b <;> first
    | exact False.elim h
    | (rename_i i j
       have ex : x = .int i := ra
       have ey : y = .int j := rb
       subst ex ey
       exact op_sub pins s σ H _ _ v u Q I rx ry ⟨i, j, rfl, rfl, repV_ext g h rfl⟩)
theorem op_mod_all {m : Bool} : OpR X (binaryOp .Mod) (r2 Y W (binV m .mod)) := by
  intro pins s σ H x y v u Q I rx ry h
  obtain ⟨F, μ, st, a, b, g, ra, rb, h⟩ := h
  cases a <;> cases b <;> first
    | exact False.elim h
    | (rename_i i j
       have ex : x = .int i := ra
       have ey : y = .int j := rb
       subst ex ey
       have h' : RP Y F μ st H (if 0 < j then .ok (.int (i % j), st) else .stuck) (kV Y Q) W := h
       by_cases hj : 0 < j
       · rw [if_pos hj] at h'
         exact op_mod pins s σ H _ _ v u Q I rx ry ⟨i, j, rfl, rfl, hj, repV_ext g h' rfl⟩
       · rw [if_neg hj] at h'; exact False.elim h')
theorem op_fdiv_all {m : Bool} : OpR X (binaryOp .FloorDiv) (r2 Y W (binV m .fdiv)) := by
  intro pins s σ H x y v u Q I rx ry h
  obtain ⟨F, μ, st, a, b, g, ra, rb, h⟩ := h
  cases a <;> cases b <;> first
    | exact False.elim h
    | (rename_i i j
       have ex : x = .int i := ra
       have ey : y = .int j := rb
       subst ex ey
       have h' : RP Y F μ st H (if 0 < j ∧ j.natAbs.log2 < 9000 then .ok (.int (i / j), st) else .stuck) (kV Y Q) W := h
       by_cases hj : 0 < j ∧ j.natAbs.log2 < 9000
       · rw [if_pos hj] at h'
         exact op_fdivW pins s σ H _ _ v u Q I rx ry ⟨i, j, rfl, rfl, hj, repV_ext g h' rfl⟩
       · rw [if_neg hj] at h'; exact False.elim h')
theorem op_pow_all {m : Bool} : OpR X (binaryOp .Pow) (r2 Y W (binV m .pow)) := by
  intro pins s σ H x y v u Q I rx ry h
  obtain ⟨F, μ, st, a, b, g, ra, rb, h⟩ := h
  cases a <;> cases b <;> first
    | exact False.elim h
    | (rename_i i j
       have ex : x = .int i := ra
       have ey : y = .int j := rb
       subst ex ey
       have h' : RP Y F μ st H (if 0 ≤ j ∧ j ≤ 1000000 ∧ i.natAbs < 2 ^ 64 then .ok (.int (i ^ j.toNat), st) else .stuck) (kV Y Q) W := h
       by_cases hj : 0 ≤ j ∧ j ≤ 1000000 ∧ i.natAbs < 2 ^ 64
       · rw [if_pos hj] at h'
         exact op_pow pins s σ H _ _ v u Q I rx ry ⟨i, j, rfl, rfl, hj, repV_ext g h' rfl⟩
       · rw [if_neg hj] at h'; exact False.elim h')
theorem bitsX (x : Int) : Builtin.Int.intBits x ≤ x.natAbs.log2 + 1 := by unfold Builtin.Int.intBits; split <;> omega
theorem fitsX {i j : Int} (h : mulOk i j = true) : IntMulOk i j := fun z => by
  have l := of_decide_eq_true (Bool.and_eq_true_iff.mp z).2
  have q : i.natAbs.log2 + j.natAbs.log2 < 100000000 := of_decide_eq_true h
  rw [show bitsLine = 134217728 from by decide] at l
  have h1 := bitsX i; have h2 := bitsX j
  omega
/-- * of factors of together less than a hundred million bits -/
theorem op_mulX : OpR X (binaryOp .Mult) (rI (fun i j => mulOk i j = true) fun i j => .int (i * j)) := opI fun _ _ _ _ _ _ _ hc q => PyProof.Rows.mul_int q (fitsX hc)
theorem op_mul_all (hK : X.K = Y.K) {m : Bool} : OpR X (binaryOp .Mult) (r2 Y W (binV m .mul)) := by
  intro pins s σ H x y v u Q I rx ry h
  obtain ⟨F, μ, st, a, b, g, ra, rb, h⟩ := h
  have lists : ∀ (k : Int), b = .int k → RP Y F μ st H (match lstOf st a with | some xs => if xs.length * k.toNat ≤ szMax ∧ k ≤ 1000000 ∧ -1000000 ≤ k then newL m (List.replicate k.toNat xs).flatten st else .stuck | none => .stuck) (kV Y Q) W →
      wpAny (model X.prog X.w) X.A (binaryOp .Mult v u) (EP X pins σ Q) X.xe s := fun k eb h => by
    rw [eb] at rb
    have ey : y = .int k := rb
    subst ey
    split at h
    · rename_i xs h1
      obtain ⟨p, vs, e1, r1, q1⟩ := lstOf_rep g ra h1
      by_cases hk : xs.length * k.toNat ≤ szMax ∧ k ≤ 1000000 ∧ -1000000 ≤ k
      · rw [if_pos hk] at h
        obtain ⟨z, q⟩ := newL_ok g h (r1.rep k.toNat)
        exact op_rep pins s σ H x _ v u Q I rx ry ⟨p, k, vs, e1, rfl, q1, by omega, by omega, by rw [r1.len]; exact szMax_le hk.1, q⟩
      · rw [if_neg hk] at h; exact False.elim h
    · exact False.elim h
  cases a with
  | int i =>
    cases b with
    | int j =>
      have ex : x = .int i := ra
      have ey : y = .int j := rb
      subst ex ey
      have h' : RP Y F μ st H (if mulOk i j then .ok (.int (i * j), st) else .stuck) (kV Y Q) W := h
      by_cases hj : mulOk i j = true
      · rw [if_pos hj] at h'
        exact op_mulX pins s σ H _ _ v u Q I rx ry ⟨i, j, rfl, rfl, hj, repV_ext g h' rfl⟩
      · rw [if_neg hj] at h'; exact False.elim h'
    | _ => exact False.elim h
  | tup xs =>
    cases b with
    | int k =>
      obtain ⟨p, vs, e1, q1, r1⟩ := id ra
      have ey : y = .int k := rb
      subst ey
      have h' : RP Y F μ st H (if xs.isEmpty = false ∧ -1000 ≤ k ∧ k ≤ 1000 ∧ xs.length ≤ 100 then newT (List.replicate k.toNat xs).flatten st else .stuck) (kV Y Q) W := h
      by_cases hk : xs.isEmpty = false ∧ -1000 ≤ k ∧ k ≤ 1000 ∧ xs.length ≤ 100
      · rw [if_pos hk] at h'
        have hne : vs ≠ [] := fun e => by
          have ex : xs = [] := r1.nil_iff.mp e
          subst ex
          exact absurd hk.1 (by decide)
        by_cases k2 : 2 ≤ k
        · obtain ⟨z, q⟩ := newT_ok g h' (r1.rep k.toNat)
          exact op_repT pins s σ H x _ v u Q I rx ry ⟨p, k, vs, e1, rfl, by rw [hK]; exact sqT_mono g.same q1, hne, k2, hk.2.2.1, by rw [r1.len]; omega, q⟩
        · by_cases k1 : k = 1
          · subst k1
            have e0 : (List.replicate (1 : Int).toNat xs).flatten = xs := by simp
            rw [e0] at h'
            rw [e1] at ra
            exact op_repT1 pins s σ H x _ v u Q I rx ry ⟨p, vs, e1, rfl, by rw [hK]; exact sqT_mono g.same q1, newT_same g h' ra⟩
          · have e0 : (List.replicate k.toNat xs).flatten = [] := by
              have : k.toNat = 0 := by omega
              rw [this]; rfl
            rw [e0] at h'
            obtain ⟨z, q⟩ := newT_ok g h' (vs := []) rfl
            exact op_repT0 pins s σ H x _ v u Q I rx ry ⟨p, k, vs, e1, rfl, by rw [hK]; exact sqT_mono g.same q1, hne, by omega, hk.2.1, q⟩
      · rw [if_neg hk] at h'; exact False.elim h'
    | _ => exact False.elim h
  | non => cases b <;> exact False.elim h
  | bl _ => cases b <;> exact False.elim h
  | str _ => cases b <;> exact False.elim h
  | lst xs => cases b <;> first | exact False.elim h | exact lists _ rfl h
  | loc n => cases b <;> first | exact False.elim h | exact lists _ rfl h
  | scr xs => cases b <;> exact False.elim h
  | obj _ _ _ => cases b <;> exact False.elim h
theorem op_bin (hK : X.K = Y.K) {m : Bool} (op : BOp) : OpR X (binaryOp (bOp op)) (r2 Y W (binV m op)) := by
  cases op with
  | add => exact op_add_all hK
  | sub => exact op_sub_all
  | mul => exact op_mul_all hK
  | fdiv => exact op_fdiv_all
  | mod => exact op_mod_all
  | pow => exact op_pow_all
end
end MP
/-! MiniPy: comparisons, truth, types, subscripts, built-in functions, by values. -/
namespace MP
open PySem L2 PySem.Spec PyProof.Rows

section
variable {K : Kf} {F H : Hp} {μ : Nat → Addr} {n : Nat}
mutual
theorem dp_rep (sm : Same F H) : ∀ {x : Val} {v : V}, RepV K F μ n x v → PyData.canLay0 (toPD x) = true → Dp K.k H v (toPD x)
  | .non, _, h, _ => by cases h; exact .non
  | .bl b, _, h, _ => by cases h; exact .bl b
  | .int i, _, h, _ => by cases h; exact .int i
  | .str s, _, h, _ => by cases h; exact .str s
  | .tup xs, _, ⟨a, vs, h1, h2, h3⟩, c => by subst h1; exact .tup (sqT_mono sm h2) (dps_rep sm h3 c)
  | .lst xs, _, ⟨a, vs, h1, h2, h3⟩, c => by subst h1; exact .lst (SqL.of (sm _ _ h2)) (dps_rep sm h3 c)
  | .scr xs, _, ⟨a, vs, h1, h2, h3⟩, c => by subst h1; exact .lst (sqL_mono sm h2) (dps_rep sm h3 c)
  | .loc _, _, _, c => by cases c
theorem dps_rep (sm : Same F H) : ∀ {xs : List Val} {vs : List V}, RepL K F μ n xs vs → PyData.canLayAll0 (toPDs xs) = true → DpAll K.k H vs (toPDs xs)
  | [], _, h, _ => by cases h; exact .nil
  | x :: xs, _, ⟨v, r, h1, h2, h3⟩, c => by
    subst h1
    have c' : (PyData.canLay0 (toPD x) && PyData.canLayAll0 (toPDs xs)) = true := c
    rw [Bool.and_eq_true] at c'
    exact .cons (dp_rep sm h2 c'.1) (dps_rep sm h3 c'.2)
end
theorem flat_rep {x : Val} {v : V} (h : RepV K F μ n x v) (f : flat x = true) : flatV v = true := by
  cases x with
  | non => cases h; rfl
  | bl b => cases h; rfl
  | int i => cases h; rfl
  | str s => cases h; rfl
  | _ => cases f
theorem eqF_rep {x y : Val} {v w : V} (h : RepV K F μ n x v) (h' : RepV K F μ n y w) (f : flat x = true) (f' : flat y = true) : eqV v w = eqF x y := by
  cases x with
  | non => cases h; cases y <;> first | (cases h'; rfl) | cases f'
  | bl b => cases h; cases y <;> first | (cases h'; rfl) | cases f'
  | int i => cases h; cases y <;> first | (cases h'; rfl) | cases f'
  | str s => cases h; cases y <;> first | (cases h'; rfl) | cases f'
  | _ => cases f
theorem flats_rep : ∀ {xs : List Val} {vs : List V}, RepL K F μ n xs vs → xs.all flat = true → vs.all flatV = true
  | [], _, h, _ => by cases h; rfl
  | x :: xs, _, ⟨v, r, h1, h2, h3⟩, f => by
    subst h1
    rw [List.all_cons, Bool.and_eq_true] at f
    rw [List.all_cons, flat_rep h2 f.1, flats_rep h3 f.2]; rfl
theorem in_rep {x : Val} {v : V} (h : RepV K F μ n x v) (f : flat x = true) : ∀ {xs : List Val} {vs : List V}, RepL K F μ n xs vs → xs.all flat = true → inV v vs = xs.any fun z => eqF z x
  | [], _, q, _ => by cases q; rfl
  | y :: xs, _, ⟨w, r, h1, h2, h3⟩, g => by
    subst h1
    rw [List.all_cons, Bool.and_eq_true] at g
    have e1 := eqF_rep h2 h g.1 f
    have e2 := in_rep h f h3 g.2
    show (eqV w v || inV v r) = _
    rw [e1, e2]; rfl
end

/-- a comparison by trees -/
def rC (Y : Fx) (op : COp) : R2 := fun x y H Q => ∃ F μ st a b k, Good Y.kf F μ st H ∧ RepV Y.kf F μ st.length a x ∧ RepV Y.kf F μ st.length b y ∧ cmpV op a b st = .ok k ∧ Q (.bl k) H
section
variable {X : Cx} {Y : Fx}
theorem seqIn (hK : X.K = Y.K) {F H : Hp} {μ : Nat → Addr} {st : Store} {b : Val} {y : V} {k : Bool} {xs : List Val} (g : Good Y.kf F μ st H) (rb : RepV Y.kf F μ st.length b y) (e : seqOf st b = some (k, xs)) :
    ∃ p vs, y = .ref p ∧ RepL Y.kf F μ st.length xs vs ∧ (SqL X.K H p vs ∨ SqT X.K H p vs) := by
  obtain ⟨p, vs, e1, r1, q1⟩ := seqOf_rep g rb e
  refine ⟨p, vs, e1, r1, ?_⟩
  rw [hK]
  cases k with
  | true => rw [if_pos rfl] at q1; exact .inl q1
  | false => rw [if_neg Bool.false_ne_true] at q1; exact .inr q1
def twoI (op : COp) (i j : Int) : Bool := match op with | .lt => decide (i < j) | .le => decide (i ≤ j) | .gt => decide (j < i) | _ => decide (j ≤ i)
def twoD (op : COp) (a b : Val) : Bool := match op with | .lt => ltV a b | .le => !ltV b a | .gt => ltV b a | _ => !ltV a b
theorem cmp_two {op : COp} {a b : Val} {st : Store} {k : Bool} (h : op = .lt ∨ op = .le ∨ op = .gt ∨ op = .ge) (e : cmpV op a b st = .ok k) :
    (∃ i j, a = .int i ∧ b = .int j ∧ k = twoI op i j) ∨ (ordOk a b = true ∧ k = twoD op a b) := by
  rcases h with rfl | rfl | rfl | rfl
  all_goals
    unfold cmpV at e
    dsimp only at e
    split at e
    · cases e; exact .inl ⟨_, _, rfl, rfl, rfl⟩
    · split at e
      · rename_i h; cases e; exact .inr ⟨h, rfl⟩
      · cases e
/-- of data -/
theorem ord_reads (hK : X.K = Y.K) {pins : List (Addr × Obj)} {s : Shared} {σ : L2.St} {F H : Hp} {μ : Nat → Addr} {st : Store} {a b : Val} {x y : V} {v u : Value} (hu : X.A.units + 64 < cLine) (I : Inv X pins σ H s) (rx : RelV x v) (ry : RelV y u) (g : Good Y.kf F μ st H) (ra : RepV Y.kf F μ st.length a x) (rb : RepV Y.kf F μ st.length b y) (h : ordOk a b = true) :
    ∃ as bs, Reads s.heap v (toPD a) as ∧ Reads s.heap u (toPD b) bs ∧ PySem.W.alike (toPD a) (toPD b) = true ∧ toPD a ≠ .none ∧ X.A.units + min (toPD a).depth (toPD b).depth < cLine := by
  unfold ordOk at h
  simp only [Bool.and_eq_true, decide_eq_true_eq] at h
  obtain ⟨⟨h1, h2, h3, h4⟩, h5⟩ := h
  obtain ⟨as, r1⟩ := Dp.reads I (toPD a) x v (by rw [hK]; exact dp_rep g.same ra h2) rx
  obtain ⟨bs, r2⟩ := Dp.reads I (toPD b) y u (by rw [hK]; exact dp_rep g.same rb h3) ry
  refine ⟨as, bs, r1, r2, h1, ?_, ?_⟩
  · cases a <;> first | (cases h5; done) | (intro z; cases z)
  · have := Nat.min_le_left (toPD a).depth (toPD b).depth
    omega
/-- is, is not of truth values -/
theorem plain_bl {x : V} {v : Value} (r : RelV x v) (b : Bool) : plainIs v (.bool b) = true := by
  cases x <;> first | (have e : v = _ := r; subst e; rfl) | (obtain ⟨t, e⟩ := r; subst e; rfl)
theorem op_isBlG {X : Cx} : OpR X (compareOp .Is) (fun x y H Q => ∃ b : Bool, y = .bl b ∧ Q (.bl (decide (x = .bl b))) H) := by
  intro pins s σ H x y v u Q I rx ry h
  obtain ⟨b, rfl, q⟩ := h
  cases (show u = Value.bool b from ry)
  by_cases e : x = .bl b
  · subst e
    cases (show v = Value.bool b from rx)
    exact wpAny_is_self rfl ⟨.bl true, H, I, rfl, by simpa using q⟩
  · refine wpAny_is_other (plain_bl rx b) (fun z => e ?_) ⟨.bl false, H, I, rfl, by simpa [e] using q⟩
    subst z
    cases x <;> first | (have e : Value.bool b = _ := rx; cases e; done) | (obtain ⟨t, e⟩ := rx; cases e; done) | (have e : Value.bool b = Value.bool _ := rx; cases e; rfl)
theorem op_notBlG {X : Cx} : OpR X (compareOp .IsNot) (fun x y H Q => ∃ b : Bool, y = .bl b ∧ Q (.bl (!decide (x = .bl b))) H) := by
  intro pins s σ H x y v u Q I rx ry h
  obtain ⟨b, rfl, q⟩ := h
  cases (show u = Value.bool b from ry)
  by_cases e : x = .bl b
  · subst e
    cases (show v = Value.bool b from rx)
    exact wpAny_isNot_self rfl ⟨.bl false, H, I, rfl, by simpa using q⟩
  · refine wpAny_isNot_other (plain_bl rx b) (fun z => e ?_) ⟨.bl true, H, I, rfl, by simpa [e] using q⟩
    subst z
    cases x <;> first | (have e : Value.bool b = _ := rx; cases e; done) | (obtain ⟨t, e⟩ := rx; cases e; done) | (have e : Value.bool b = Value.bool _ := rx; cases e; rfl)
theorem op_cmp (hK : X.K = Y.K) (hu : X.A.units + 64 < cLine) (op : COp) : OpR X (compareOp (cOp op)) (rC Y op) := by
  intro pins s σ H x y v u Q I rx ry h
  obtain ⟨F, μ, st, a, b, k, g, ra, rb, e, q⟩ := h
  cases op with
  | eq =>
    change (if (SeqAt.shaped (toPD a) && SeqAt.shaped (toPD b)) = true then R.ok (PyData.eqv (toPD a) (toPD b)) else .stuck) = .ok k at e
    by_cases hs : (SeqAt.shaped (toPD a) && SeqAt.shaped (toPD b)) = true
    · rw [if_pos hs] at e
      cases e
      rw [Bool.and_eq_true] at hs
      refine op_eqD hu pins s σ H x y v u Q I rx ry ⟨toPD a, toPD b, ?_, ?_, hs.1, hs.2, q⟩
      · rw [hK]; exact dp_rep g.same ra (SeqAt.canLay_of_shaped hs.1)
      · rw [hK]; exact dp_rep g.same rb (SeqAt.canLay_of_shaped hs.2)
    · rw [if_neg hs] at e; cases e
  | ne =>
    change (if (SeqAt.shaped (toPD a) && SeqAt.shaped (toPD b)) = true then R.ok (!PyData.eqv (toPD a) (toPD b)) else .stuck) = .ok k at e
    by_cases hs : (SeqAt.shaped (toPD a) && SeqAt.shaped (toPD b)) = true
    · rw [if_pos hs] at e
      cases e
      rw [Bool.and_eq_true] at hs
      refine op_neD hu pins s σ H x y v u Q I rx ry ⟨toPD a, toPD b, ?_, ?_, hs.1, hs.2, q⟩
      · rw [hK]; exact dp_rep g.same ra (SeqAt.canLay_of_shaped hs.1)
      · rw [hK]; exact dp_rep g.same rb (SeqAt.canLay_of_shaped hs.2)
    · rw [if_neg hs] at e; cases e
  | lt =>
    rcases cmp_two (.inl rfl) e with ⟨i, j, rfl, rfl, rfl⟩ | ⟨ho, rfl⟩
    · have ex : x = .int i := ra; have ey : y = .int j := rb; subst ex ey
      exact op_lt pins s σ H _ _ v u Q I rx ry ⟨i, j, rfl, rfl, q⟩
    · obtain ⟨as, bs, r1, r2, h1, h2, h3⟩ := ord_reads hK hu I rx ry g ra rb ho
      exact PySem.W.lt_data r1 r2 h1 h2 h3 ⟨.bl _, H, I, rfl, q⟩
  | le =>
    rcases cmp_two (.inr (.inl rfl)) e with ⟨i, j, rfl, rfl, rfl⟩ | ⟨ho, rfl⟩
    · have ex : x = .int i := ra; have ey : y = .int j := rb; subst ex ey
      exact op_le pins s σ H _ _ v u Q I rx ry ⟨i, j, rfl, rfl, q⟩
    · obtain ⟨as, bs, r1, r2, h1, h2, h3⟩ := ord_reads hK hu I rx ry g ra rb ho
      exact PySem.W.le_data r1 r2 h1 h2 h3 ⟨.bl _, H, I, rfl, q⟩
  | gt =>
    rcases cmp_two (.inr (.inr (.inl rfl))) e with ⟨i, j, rfl, rfl, rfl⟩ | ⟨ho, rfl⟩
    · have ex : x = .int i := ra; have ey : y = .int j := rb; subst ex ey
      exact op_gt pins s σ H _ _ v u Q I rx ry ⟨i, j, rfl, rfl, q⟩
    · obtain ⟨as, bs, r1, r2, h1, h2, h3⟩ := ord_reads hK hu I rx ry g ra rb ho
      exact PySem.W.gt_data r1 r2 h1 h2 h3 ⟨.bl _, H, I, rfl, q⟩
  | ge =>
    rcases cmp_two (.inr (.inr (.inr rfl))) e with ⟨i, j, rfl, rfl, rfl⟩ | ⟨ho, rfl⟩
    · have ex : x = .int i := ra; have ey : y = .int j := rb; subst ex ey
      exact op_ge pins s σ H _ _ v u Q I rx ry ⟨i, j, rfl, rfl, q⟩
    · obtain ⟨as, bs, r1, r2, h1, h2, h3⟩ := ord_reads hK hu I rx ry g ra rb ho
      exact PySem.W.ge_data r1 r2 h1 h2 h3 ⟨.bl _, H, I, rfl, q⟩
  | is_ =>
    cases b with
    | non =>
      have ey : y = .non := rb
      subst ey
      refine op_isN pins s σ H x _ v u Q I rx ry ⟨rfl, ?_⟩
      have ek : decide (x = V.non) = k := by
        cases a with
        | non => cases e; cases ra; rfl
        | bl _ => cases e; cases ra; rfl
        | int _ => cases e; cases ra; rfl
        | str _ => cases e; cases ra; rfl
        | tup _ => cases e; obtain ⟨_, _, h1, _⟩ := ra; subst h1; rfl
        | lst _ => cases e; obtain ⟨_, _, h1, _⟩ := ra; subst h1; rfl
        | scr _ => cases e; obtain ⟨_, _, h1, _⟩ := ra; subst h1; rfl
        | loc _ => cases e; obtain ⟨h1, _⟩ := ra; subst h1; rfl
        | obj _ _ _ => cases e; obtain ⟨_, _, _, _, h1, _⟩ := ra; subst h1; rfl
      rw [ek]; exact q
    | bl c =>
      have ey : y = .bl c := rb
      subst ey
      refine op_isBlG pins s σ H x _ v u Q I rx ry ⟨c, rfl, ?_⟩
      have ek : (decide (x = V.bl c)) = k := by
        cases a with
        | bl d => cases e; cases ra; cases c <;> cases d <;> rfl
        | non => cases e; cases ra; rfl
        | int _ => cases e; cases ra; rfl
        | str _ => cases e; cases ra; rfl
        | tup _ => cases e; obtain ⟨_, _, h1, _⟩ := ra; subst h1; rfl
        | lst _ => cases e; obtain ⟨_, _, h1, _⟩ := ra; subst h1; rfl
        | scr _ => cases e; obtain ⟨_, _, h1, _⟩ := ra; subst h1; rfl
        | loc _ => cases e; obtain ⟨h1, _⟩ := ra; subst h1; rfl
        | obj _ _ _ => cases e; obtain ⟨_, _, _, _, h1, _⟩ := ra; subst h1; rfl
      rw [ek]; exact q
    | _ => cases e
  | isnot =>
    cases b with
    | non =>
      have ey : y = .non := rb
      subst ey
      refine op_notN pins s σ H x _ v u Q I rx ry ⟨rfl, ?_⟩
      have ek : (!decide (x = V.non)) = k := by
        cases a with
        | non => cases e; cases ra; rfl
        | bl _ => cases e; cases ra; rfl
        | int _ => cases e; cases ra; rfl
        | str _ => cases e; cases ra; rfl
        | tup _ => cases e; obtain ⟨_, _, h1, _⟩ := ra; subst h1; rfl
        | lst _ => cases e; obtain ⟨_, _, h1, _⟩ := ra; subst h1; rfl
        | scr _ => cases e; obtain ⟨_, _, h1, _⟩ := ra; subst h1; rfl
        | loc _ => cases e; obtain ⟨h1, _⟩ := ra; subst h1; rfl
        | obj _ _ _ => cases e; obtain ⟨_, _, _, _, h1, _⟩ := ra; subst h1; rfl
      rw [ek]; exact q
    | bl c =>
      have ey : y = .bl c := rb
      subst ey
      refine op_notBlG pins s σ H x _ v u Q I rx ry ⟨c, rfl, ?_⟩
      have ek : (!decide (x = V.bl c)) = k := by
        cases a with
        | bl d => cases e; cases ra; cases c <;> cases d <;> rfl
        | non => cases e; cases ra; rfl
        | int _ => cases e; cases ra; rfl
        | str _ => cases e; cases ra; rfl
        | tup _ => cases e; obtain ⟨_, _, h1, _⟩ := ra; subst h1; rfl
        | lst _ => cases e; obtain ⟨_, _, h1, _⟩ := ra; subst h1; rfl
        | scr _ => cases e; obtain ⟨_, _, h1, _⟩ := ra; subst h1; rfl
        | loc _ => cases e; obtain ⟨h1, _⟩ := ra; subst h1; rfl
        | obj _ _ _ => cases e; obtain ⟨_, _, _, _, h1, _⟩ := ra; subst h1; rfl
      rw [ek]; exact q
    | _ => cases e
  | in_ =>
    change (match seqOf st b with | some (_, xs) => if (flat a && xs.all flat) = true then R.ok (xs.any fun z => eqF z a) else .stuck | none => .stuck) = .ok k at e
    split at e
    · rename_i kk xs hq
      by_cases hf : (flat a && xs.all flat) = true
      · rw [if_pos hf] at e
        cases e
        rw [Bool.and_eq_true] at hf
        obtain ⟨p, vs, e1, r1, q1⟩ := seqIn hK g rb hq
        refine op_in_seq pins s σ H x y v u Q I rx ry ⟨p, vs, e1, q1, flat_rep ra hf.1, flats_rep r1 hf.2, ?_⟩
        rw [if_neg Bool.false_ne_true, in_rep ra hf.1 r1 hf.2]; exact q
      · rw [if_neg hf] at e; cases e
    · cases e
  | notin =>
    change (match seqOf st b with | some (_, xs) => if (flat a && xs.all flat) = true then R.ok (!(xs.any fun z => eqF z a)) else .stuck | none => .stuck) = .ok k at e
    split at e
    · rename_i kk xs hq
      by_cases hf : (flat a && xs.all flat) = true
      · rw [if_pos hf] at e
        cases e
        rw [Bool.and_eq_true] at hf
        obtain ⟨p, vs, e1, r1, q1⟩ := seqIn hK g rb hq
        refine op_notIn_seq pins s σ H x y v u Q I rx ry ⟨p, vs, e1, q1, flat_rep ra hf.1, flats_rep r1 hf.2, ?_⟩
        rw [if_pos rfl, in_rep ra hf.1 r1 hf.2]; exact q
      · rw [if_neg hf] at e; cases e
    · cases e

/-- truth -/
theorem truth_rep (hK : X.K = Y.K) {F H : Hp} {μ : Nat → Addr} {st : Store} {x : Val} {v : V} {k : Bool} (g : Good Y.kf F μ st H) (r : RepV Y.kf F μ st.length x v) (e : truth st x = .ok k) : TruV X.K v H k := by
  have seqs : ∀ kk xs, seqOf st x = some (kk, xs) → k = (!xs.isEmpty) → TruV X.K v H k := fun kk xs hq ek => by
    obtain ⟨p, vs, e1, r1, q1⟩ := seqIn hK g r hq
    subst e1
    have em : xs.isEmpty = vs.isEmpty := by
      have := r1.nil_iff
      cases xs <;> cases vs <;> first | rfl | (simp at this)
    rw [em] at ek
    rcases q1 with q1 | q1
    · exact .inl ⟨vs, q1, ek⟩
    · exact .inr (.inl ⟨vs, q1, ek⟩)
  have rest : (match seqOf st x with | some (_, xs) => R.ok (!xs.isEmpty) | none => .stuck) = .ok k → TruV X.K v H k := fun e => by
    split at e
    · rename_i kk xs hq
      cases e
      exact seqs kk xs hq rfl
    · cases e
  cases x with
  | non => cases r; cases e; rfl
  | bl b => cases r; cases e; rfl
  | int i => cases r; cases e; rfl
  | str y =>
    cases r
    change (if y.length ≤ szMax then R.ok ((y.length : Int) != 0) else .stuck) = .ok k at e
    by_cases hl : y.length ≤ szMax
    · rw [if_pos hl] at e; cases e; exact ⟨szMax_le hl, rfl⟩
    · rw [if_neg hl] at e; cases e
  | tup xs => exact rest e
  | lst xs => exact rest e
  | loc m => exact rest e
  | scr xs => exact rest e
  | obj _ _ _ => exact rest e

/-- types -/
def tyOf : Val → String
  | .non => "NoneType" | .bl _ => "bool" | .int _ => "int" | .str _ => "str" | .tup _ => "tuple" | .lst _ => "list" | .loc _ => "list" | .scr _ => "list" | .obj _ _ _ => "object"
theorem kb_non (t : Ty) : kitB "NoneType" (tyName t) = some false := by cases t <;> decide +kernel
theorem kb_bool (t : Ty) : kitB "bool" (tyName t) = some (match t with | .bool => true | .int => true | _ => false) := by cases t <;> decide +kernel
theorem kb_int (t : Ty) : kitB "int" (tyName t) = some (match t with | .int => true | _ => false) := by cases t <;> decide +kernel
theorem kb_str (t : Ty) : kitB "str" (tyName t) = some (match t with | .str => true | _ => false) := by cases t <;> decide +kernel
theorem kb_tuple (t : Ty) : kitB "tuple" (tyName t) = some (match t with | .tuple => true | _ => false) := by cases t <;> decide +kernel
theorem kb_list (t : Ty) : kitB "list" (tyName t) = some (isL t) := by cases t <;> decide +kernel
theorem kit_tab {st : Store} {t : Ty} {b : Bool} {x : Val} (e : isTy st t x = some b) : kitB (tyOf x) (tyName t) = some b := by
  cases x with
  | non => rw [← e]; exact kb_non t
  | bl c => rw [← e]; exact kb_bool t
  | int i => rw [← e]; exact kb_int t
  | str i => rw [← e]; exact kb_str t
  | tup i => rw [← e]; exact kb_tuple t
  | lst i => rw [← e]; exact kb_list t
  | scr i => rw [← e]; exact kb_list t
  | obj _ _ _ => cases e
  | loc m =>
    change (match st[m]? with | some (.lst _) => some (isL t) | some (.frz _) => some (isL t) | _ => none) = some b at e
    split at e
    · rw [← e]; exact kb_list t
    · rw [← e]; exact kb_list t
    · cases e
theorem tyX_rep (hK : X.K = Y.K) {F H : Hp} {μ : Nat → Addr} {st : Store} {x : Val} {v : V} {b : Bool} {t : Ty} (g : Good Y.kf F μ st H) (r : RepV Y.kf F μ st.length x v) (e : isTy st t x = some b) : TyX X.K H v (.type (tyOf x)) := by
  rw [hK]
  cases x with
  | obj _ _ _ => cases e
  | non => cases r; exact .base .non
  | bl _ => cases r; exact .base (.bl _)
  | int _ => cases r; exact .base (.int _)
  | str _ => cases r; exact .base (.str _)
  | tup xs =>
    obtain ⟨a, vs, h1, h2, _⟩ := r
    subst h1
    rcases sqT_mono g.same h2 with (h | ⟨o, h⟩) | ⟨o, its, n, hk, hc, _⟩
    · exact .base (.tup h)
    · exact .fTuple h
    · exact .kTuple hk hc
  | lst xs =>
    obtain ⟨a, vs, h1, h2, _⟩ := r
    subst h1
    exact .base (.lst (g.same _ _ h2))
  | scr xs =>
    obtain ⟨a, vs, h1, h2, _⟩ := r
    subst h1
    rcases sqL_mono g.same h2 with (h | ⟨o, h⟩) | ⟨o, its, n, hk, hc, _⟩
    · exact .base (.lst h)
    · exact .base (.frz h)
    · exact .kList hk hc
  | loc m =>
    obtain ⟨h1, _⟩ := r
    subst h1
    change (match st[m]? with | some (.lst _) => some (isL t) | some (.frz _) => some (isL t) | _ => none) = some b at e
    split at e
    · rename_i ys hm
      obtain ⟨_, vs, h3, _⟩ := g.st.cell m _ hm
      exact .base (.lst h3)
    · rename_i ys hm
      obtain ⟨vs, h3, _⟩ := g.st.cell m _ hm
      exact .base (.lst (g.same _ _ h3))
    · cases e

/-- subscripts -/
def rI (Y : Fx) : R2 := fun x y H Q => ∃ F μ st a b c, Good Y.kf F μ st H ∧ RepV Y.kf F μ st.length a x ∧ RepV Y.kf F μ st.length b y ∧ ixV st a b = .ok c ∧ ∀ w, RepV Y.kf F μ st.length c w → Q w H
theorem atI_rep {K : Kf} {F : Hp} {μ : Nat → Addr} {n : Nat} {xs : List Val} {vs : List V} {i : Int} {c : Val} (r : RepL K F μ n xs vs) (e : atI xs i = some c) : ∃ w, atI vs i = some w ∧ RepV K F μ n c w := by
  unfold atI at e ⊢
  rw [r.len]
  cases h : ixN xs.length i with
  | none => rw [h] at e; cases e
  | some j =>
    rw [h] at e
    exact r.get e
theorem ix_all (hK : X.K = Y.K) : IxR X (rI Y) := by
  intro value slice pins s σ H x y v u Q I rx ry h hs
  obtain ⟨F, μ, st, a, b, c, g, ra, rb, e, q⟩ := h
  cases b with
  | int i =>
    have ey : y = .int i := rb
    subst ey
    have rest : (match seqOf st a with | some (_, xs) => (match atI xs i with | some y => R.ok y | none => .stuck) | none => .stuck) = .ok c → wpAny (model X.prog X.w) X.A (subscriptTail value slice v u) (EP X pins σ Q) X.xe s := fun e => by
      split at e
      · rename_i kk xs hq
        split at e
        · rename_i z hz
          cases e
          obtain ⟨p, vs, e1, r1, q1⟩ := seqIn hK g ra hq
          obtain ⟨w, hw, rw'⟩ := atI_rep r1 hz
          rcases q1 with q1 | q1
          · exact ix_seq value slice pins s σ H x _ v u Q I rx ry (.inl ⟨p, vs, i, w, e1, rfl, q1, hw, q w rw'⟩) hs
          · exact ix_seq value slice pins s σ H x _ v u Q I rx ry (.inr (.inl ⟨p, vs, i, w, e1, rfl, q1, hw, q w rw'⟩)) hs
        · cases e
      · cases e
    cases a with
    | str z =>
      have ex : x = .str z := ra
      subst ex
      change (if z.length ≤ szMax then (match atI z.cps.toList i with | some c => R.ok (Val.str ⟨#[c]⟩) | none => .stuck) else .stuck) = .ok c at e
      by_cases hl : z.length ≤ szMax
      · rw [if_pos hl] at e
        split at e
        · rename_i d hd
          cases e
          exact ix_seq value slice pins s σ H _ _ v u Q I rx ry (.inr (.inr ⟨z, i, d, rfl, rfl, szMax_le hl, hd, q _ rfl⟩)) hs
        · cases e
      · rw [if_neg hl] at e; cases e
    | non => exact rest e
    | bl _ => exact rest e
    | int _ => exact rest e
    | tup xs => exact rest e
    | lst xs => exact rest e
    | loc m => exact rest e
    | scr xs => exact rest e
    | obj _ _ _ => exact rest e
  | _ => cases e

/-- slices -/
def rSl (Y : Fx) (W : XK) (m : Bool) : V → Option Int → Option Int → Hp → VK → Prop := fun x lo hi H Q => ∃ F μ st a, Good Y.kf F μ st H ∧ RepV Y.kf F μ st.length a x ∧ RP Y F μ st H (slcV m st a lo hi) (kV Y Q) W
theorem cut_rep {K : Kf} {F : Hp} {μ : Nat → Addr} {n : Nat} {xs : List Val} {vs : List V} (lo hi : Option Int) (r : RepL K F μ n xs vs) : RepL K F μ n (cutA xs lo hi) (cutV vs lo hi) := by
  unfold cutA cutV
  rw [r.len]
  exact (r.drop _).take _
theorem sl_all (hK : X.K = Y.K) {W : XK} {m : Bool} : SlR X (rSl Y W m) := by
  intro pins s σ H x v vl vu lo hi sl Q I rx hs pl pu h
  obtain ⟨F, μ, st, a, g, ra, h⟩ := h
  have rest : RP Y F μ st H (match seqOf st a with | some (true, xs) => newL m (cutA xs lo hi) st | some (false, xs) => newT (cutA xs lo hi) st | none => .stuck) (kV Y Q) W → ∃ T id, typeLookup (.type T) "__getitem__" = pure (some (.builtin id)) ∧ s.TypeIs v T ∧ wpAny (model X.prog X.w) X.A (getItem v (.ref sl)) (EP X pins σ Q) X.xe s := fun h => by
    split at h
    · rename_i xs hq
      obtain ⟨p, vs, e1, r1, q1⟩ := seqOf_rep g ra hq
      rw [if_pos rfl] at q1
      obtain ⟨z, k⟩ := newL_ok g h (cut_rep lo hi r1)
      exact sl_list pins s σ H x v vl vu lo hi sl Q I rx hs pl pu ⟨p, vs, e1, by rw [hK]; exact q1, k⟩
    · rename_i xs hq
      obtain ⟨p, vs, e1, r1, q1⟩ := seqOf_rep g ra hq
      rw [if_neg Bool.false_ne_true] at q1
      obtain ⟨z, k⟩ := newT_ok g h (cut_rep lo hi r1)
      refine sl_tupA pins s σ H x v vl vu lo hi sl Q I rx hs pl pu ⟨p, vs, e1, by rw [hK]; exact q1, fun hw => ?_, fun _ => k⟩
      have hc : cutA xs lo hi = xs := by
        rw [r1.len] at hw
        unfold cutA
        rw [hw.1, hw.2]
        simp
      rw [hc] at h
      cases a with
      | tup ys =>
        have ey : ys = xs := by injection hq with hq; injection hq
        subst ey
        exact newT_same g h (by rw [← e1]; exact ra)
      | lst ys => injection hq with hq; injection hq with h1 h2; cases h1
      | scr ys => injection hq with hq; injection hq with h1 h2; cases h1
      | loc mm =>
        change (match st[mm]? with | some (.lst xs) => some (true, xs) | some (.frz xs) => some (true, xs) | _ => none) = some (false, xs) at hq
        split at hq <;> cases hq
      | _ => cases hq
    · exact False.elim h
  cases a with
  | str z => exact False.elim h
  | _ => exact rest h
end
end MP
/-! MiniPy: set(xs) of a list of ints. -/
namespace L2
open PySem PySem.Spec PyProof.Rows
abbrev set0 (w : World) : Obj := { cls := .type "set", dict := none, data := .set #[] 0 (.fresh 0 0 (!w.params.followText "set-order")) }
section
variable {P : Program} {w : World} {A : Around} {E : Value → Shared → Prop} {s : Shared}
set_option maxHeartbeats 3200000 in
theorem call_set_lstI {l : Addr} {items : Array Value} (ns : List Int) {Q : Value → Shared → Prop} (hh : A.handled = none) (hl : s.heap.IsList l items) (hit : IntsAre items.toList ns) (hb : ns.length + 1 < scanBound)
    (h : ∀ (h' : Heap) (tk c : Nat), SetR w h' s.heap.objs.size (fun j => decide (j ∈ ns)) c → c ≤ ns.length → (∀ b o, s.heap.get? b = some o → h'.get? b = some o) → Q (.ref s.heap.objs.size) { s with heap := h', toks := tk }) :
    wpAny (model P w) A (call (.type "set") [.ref l]) Q E s := by
  have hsz0 : items.size = ns.length := by
    have q := IntsAre.length hit
    rw [Array.length_toList] at q
    exact q
  obtain ⟨c, tl, hmro⟩ := F.called_set.mro
  have hmd := F.called_set.made
  have hsub := F.called_set.sub
  refine wpAny_call (codeAny_of_tree ?_)
  show wpAny _ _ (callAny (.type "set") _) _ _ _
  refine wpAny_pure ⟨Code.quiet_builtin _ (by decide +kernel), codeAny_builtin F.entry_type_call ?_⟩
  rw [Around.under_plain (weight_type_call_type "set" [.ref l] []) rfl]
  have h1 := F.called_set.notType
  have h2 := F.called_set.canCreate
  have hct := F.typeCall_set_1 (.ref l)
  repeat (any_goals (first | assumption | wp_step))

  refine codeAny_mono (code_set_led1 (.ref l) (E := E) (Q₁ := fun obj u₁ => obj = .ref s.heap.objs.size ∧ u₁ = { s with heap := s.heap.push (set0 w) }) ⟨rfl, rfl⟩) fun r u₁ hr => ?_
  cases r with
  | error e => exact hr
  | ok fl =>
    cases fl with
    | ret obj =>
      obtain ⟨rfl, rfl⟩ := hr
      have hS : (s.heap.push (set0 w)).get? s.heap.objs.size = some (set0 w) := Heap.get?_push_size _ rfl
      have hT : Shared.TypeIs { s with heap := s.heap.push (set0 w) } (.ref s.heap.objs.size) "set" := ⟨_, hS, rfl⟩
      have hli := F.called_set.init.lookup
      have hbi := F.called_set.init.bind (.ref s.heap.objs.size)
      repeat (any_goals (first | assumption | wp_step))

      refine codeAny_mono (codeAny_call_builtin (R := wants (fun r u₂ => r = .none ∧ ∃ h' tk c, u₂ = { s with heap := h', toks := tk } ∧ SetR w h' s.heap.objs.size (fun j => decide (j ∈ ns)) c ∧ c ≤ ns.length ∧
          (∀ b o, s.heap.get? b = some o → h'.get? b = some o)) E) F.called_set.init.plain F.entry_set_init (check_set_init_1 hT ?_)) fun q₂ u₂ hq₂ => ?_
      · obtain ⟨ol, hol, hcl, nl, hdl⟩ := hl
        obtain ⟨ocls, odict, odata, oslots⟩ := ol
        simp only at hcl hdl
        subst hcl; subst hdl
        have hol' : (s.heap.push (set0 w)).get? l = some { cls := .type "list", dict := odict, data := .seq items nl, slots := oslots } := Heap.get?_push_of_some _ hol
        have hsls := F.sub_list_set
        have hslf := F.sub_list_frozenset
        have hnd : (Value.type "list" == Value.type "dict") = false := by decide
        have hl1 : (s.heap.push (set0 w)).IsList l items := ⟨_, hol', rfl, nl, rfl⟩
        unfold Builtin.«set.__init__» noKeywords Builtin.Frozenset.updateFrom
        generalize hPJ : pyIter = PJ
        wp_walk
        subst hPJ

        refine wpAny_pyIter_list hl1 ?_
        refine wpAny_bind (wpAny_runValue ?_)
        have hlS : l < s.heap.objs.size := Heap.lt_size hol
        have hh3 : A.in1.in1.in1.handled = none := by simp [hh]
        have hz1 : (s.heap.push (set0 w)).objs.size = s.heap.objs.size + 1 := Heap.size_push ..
        have hneI : l ≠ (s.heap.push (set0 w)).objs.size := by
          rw [Heap.size_push]; exact Nat.ne_of_lt (Nat.lt_succ_of_lt hlS)
        have hSf : s.heap.objs.size ∉ [(s.heap.push (set0 w)).objs.size, l] := by
          rw [Heap.size_push]; simp only [List.mem_cons, List.mem_singleton, List.not_mem_nil, or_false, not_or]
          exact ⟨Nat.ne_of_lt (Nat.lt_succ_self _), Nat.ne_of_gt hlS⟩
        have hval : ∀ (i : Nat) (v : Value), items[i]? = some v → ∃ k t, ns[i]? = some k ∧ v = .int k t := fun i v hv => by
          have hi : i < ns.length := by rw [← hsz0]; exact (Array.getElem?_eq_some_iff.mp hv).1
          obtain ⟨t, e⟩ := PyProof.Rows.IntsAre.int_at hit i v (by rw [Array.getElem?_toList]; exact hv)
          refine ⟨ns[i], t, List.getElem?_eq_getElem hi, ?_⟩
          rw [e, List.getD_eq_getElem?_getD, List.getElem?_eq_getElem hi] <;> rfl
        refine set_update_ints ((Walks.list hh3 _ l hneI items).toS) s.heap.objs.size
          hSf ns hsz0 hb hval (items.size - 0) 0 _ (by omega) (Nat.zero_le _)
          ⟨⟨_, Heap.get?_push_size _ rfl, rfl, rfl⟩, (hl1.push _)⟩ ?hS0 ?hR
        case hS0 =>
          have hget : ((s.heap.push (set0 w)).push { cls := .type "list_iterator", data := .fields #[.ref l, .int 0 0] }).get? s.heap.objs.size
              = some (set0 w) := Heap.get?_push_of_some _ hS
          exact ⟨0, Nat.le_refl 0, setR_new_at hget⟩
        case hR =>
          intro s' c' hm hc' hS'
          obtain ⟨h', g2, d', tj', os'⟩ := s'
          have eg : g2 = s.gens := hm.gens
          have ed : d' = s.drawn := hm.drawn
          have eo : os' = s.os := hm.os
          subst eg; subst ed; subst eo
          show wpAny _ _ _ _ _ _
          refine wpAny_pure ?_
          show wpAny _ _ (ret Value.none) _ _ _
          rw [hsz0] at hc'
          refine wpAny_pure ⟨rfl, h', tj', c', rfl, hS', hc', fun b o e => ?_⟩
          have hb0 : b < s.heap.objs.size := Heap.lt_size e
          have hb1 : b ≠ s.heap.objs.size := Nat.ne_of_lt hb0
          have hb2 : b ≠ (s.heap.push (set0 w)).objs.size := by
            rw [Heap.size_push]; exact Nat.ne_of_lt (Nat.lt_succ_of_lt hb0)
          exact hm.heap b o (by simp only [List.mem_cons, List.mem_singleton, List.not_mem_nil, or_false, not_or]; exact ⟨hb1, hb2⟩) (Heap.get?_push_of_some _ (Heap.get?_push_of_some _ e))

      · cases q₂ with
        | error e => exact hq₂
        | ok fl₂ =>
          cases fl₂ with
          | ret r =>
            obtain ⟨rfl, h', tk, c', rfl, hS', hc', hk'⟩ := hq₂
            repeat (any_goals (first | assumption | wp_step))
            exact h _ _ _ hS' hc' hk'
          | _ => exact hq₂.elim
    | _ => exact hr.elim

end
end L2
/-! MiniPy: built-in functions, by values. -/
namespace MP
open PySem L2 PySem.Spec PyProof.Rows

/-! ### sorting, least, greatest -/
theorem insI_perm (k : Int) : ∀ xs : List Int, (insI k xs).Perm (k :: xs)
  | [] => List.Perm.refl _
  | x :: xs => by
    unfold insI
    by_cases h : k ≤ x
    · rw [if_pos h]
    · rw [if_neg h]
      exact ((insI_perm k xs).cons x).trans (List.Perm.swap k x xs)
theorem sortI_perm : ∀ xs : List Int, (sortI xs).Perm xs
  | [] => List.Perm.refl _
  | x :: xs => (insI_perm x (sortI xs)).trans ((sortI_perm xs).cons x)
theorem insI_sorted (k : Int) : ∀ xs : List Int, xs.Pairwise (· ≤ ·) → (insI k xs).Pairwise (· ≤ ·)
  | [], _ => by unfold insI; simp
  | x :: xs, h => by
    unfold insI
    obtain ⟨h1, h2⟩ := List.pairwise_cons.mp h
    by_cases hk : k ≤ x
    · rw [if_pos hk]
      exact List.pairwise_cons.mpr ⟨fun y hy => by
        rcases List.mem_cons.mp hy with rfl | hy
        · exact hk
        · exact Int.le_trans hk (h1 y hy), h⟩
    · rw [if_neg hk]
      refine List.pairwise_cons.mpr ⟨fun y hy => ?_, insI_sorted k xs h2⟩
      rcases List.mem_cons.mp ((insI_perm k xs).mem_iff.mp hy) with rfl | hy
      · omega
      · exact h1 y hy
theorem sortI_sorted : ∀ xs : List Int, (sortI xs).Pairwise (· ≤ ·)
  | [] => List.Pairwise.nil
  | x :: xs => insI_sorted x _ (sortI_sorted xs)
theorem sortI_only {ns ns' : List Int} (p : ns'.Perm ns) (s : ns'.Pairwise (· ≤ ·)) : ns' = sortI ns := PySem.W.ksm_same (p.trans (sortI_perm ns).symm) s (sortI_sorted ns)
theorem insS_mem (k : Int) : ∀ (xs : List Int) (y : Int), y ∈ insS k xs ↔ y = k ∨ y ∈ xs
  | [], y => by unfold insS; simp
  | x :: xs, y => by
    unfold insS
    by_cases h : k < x
    · rw [if_pos h]; simp
    · rw [if_neg h]
      by_cases h2 : k = x
      · rw [if_pos h2]; subst h2; simp
      · rw [if_neg h2, List.mem_cons, insS_mem k xs y, List.mem_cons]
        constructor
        · rintro (h | h | h) <;> simp [h]
        · rintro (h | h | h) <;> simp [h]
theorem insS_up (k : Int) : ∀ xs : List Int, xs.Pairwise (· < ·) → (insS k xs).Pairwise (· < ·)
  | [], _ => by unfold insS; simp
  | x :: xs, h => by
    unfold insS
    obtain ⟨h1, h2⟩ := List.pairwise_cons.mp h
    by_cases hk : k < x
    · rw [if_pos hk]
      exact List.pairwise_cons.mpr ⟨fun y hy => by
        rcases List.mem_cons.mp hy with rfl | hy
        · exact hk
        · exact Int.lt_trans hk (h1 y hy), h⟩
    · rw [if_neg hk]
      by_cases he : k = x
      · rw [if_pos he]; exact h
      · rw [if_neg he]
        refine List.pairwise_cons.mpr ⟨fun y hy => ?_, insS_up k xs h2⟩
        rcases (insS_mem k xs y).mp hy with rfl | hy
        · omega
        · exact h1 y hy
theorem sortS_mem : ∀ (xs : List Int) (y : Int), y ∈ sortS xs ↔ y ∈ xs
  | [], y => by unfold sortS; simp
  | x :: xs, y => by unfold sortS; rw [insS_mem, sortS_mem xs y, List.mem_cons]
theorem sortS_up : ∀ xs : List Int, (sortS xs).Pairwise (· < ·)
  | [] => List.Pairwise.nil
  | x :: xs => insS_up x _ (sortS_up xs)
theorem up_only : ∀ {a b : List Int}, a.Pairwise (· < ·) → b.Pairwise (· < ·) → (∀ k, k ∈ a ↔ k ∈ b) → a = b
  | [], [], _, _, _ => rfl
  | [], y :: b, _, _, h => by have := (h y).mpr List.mem_cons_self; cases this
  | x :: a, [], _, _, h => by have := (h x).mp List.mem_cons_self; cases this
  | x :: a, y :: b, ha, hb, h => by
    obtain ⟨a1, a2⟩ := List.pairwise_cons.mp ha
    obtain ⟨b1, b2⟩ := List.pairwise_cons.mp hb
    have e : x = y := by
      have h1 := (h x).mp List.mem_cons_self
      have h2 := (h y).mpr List.mem_cons_self
      rcases List.mem_cons.mp h1 with h1 | h1
      · exact h1
      · rcases List.mem_cons.mp h2 with h2 | h2
        · exact h2.symm
        · have := a1 y h2; have := b1 x h1; omega
    subst e
    have hh : ∀ k, k ∈ a ↔ k ∈ b := fun k => by
      constructor
      · intro hk
        rcases List.mem_cons.mp ((h k).mp (List.mem_cons_of_mem _ hk)) with e | hk'
        · have := a1 k hk; omega
        · exact hk'
      · intro hk
        rcases List.mem_cons.mp ((h k).mpr (List.mem_cons_of_mem _ hk)) with e | hk'
        · have := b1 k hk; omega
        · exact hk'
    rw [up_only a2 b2 hh]
theorem minL_spec : ∀ (k : Int) (xs : List Int), minL k xs ∈ k :: xs ∧ ∀ y ∈ k :: xs, minL k xs ≤ y
  | k, [] => by unfold minL; simp
  | k, x :: xs => by
    unfold minL
    by_cases hx : x < k
    · rw [if_pos hx]
      obtain ⟨h1, h2⟩ := minL_spec x xs
      refine ⟨List.mem_cons_of_mem _ h1, fun y hy => ?_⟩
      have h3 := h2 _ List.mem_cons_self
      rcases List.mem_cons.mp hy with rfl | hy
      · omega
      · exact h2 y hy
    · rw [if_neg hx]
      obtain ⟨h1, h2⟩ := minL_spec k xs
      refine ⟨?_, fun y hy => ?_⟩
      · rcases List.mem_cons.mp h1 with h | h
        · rw [h]; exact List.mem_cons_self
        · exact List.mem_cons_of_mem _ (List.mem_cons_of_mem _ h)
      · have h3 := h2 _ List.mem_cons_self
        rcases List.mem_cons.mp hy with rfl | hy
        · exact h3
        · rcases List.mem_cons.mp hy with rfl | hy
          · omega
          · exact h2 y (List.mem_cons_of_mem _ hy)
theorem maxL_spec : ∀ (k : Int) (xs : List Int), maxL k xs ∈ k :: xs ∧ ∀ y ∈ k :: xs, y ≤ maxL k xs
  | k, [] => by unfold maxL; simp
  | k, x :: xs => by
    unfold maxL
    by_cases hx : k < x
    · rw [if_pos hx]
      obtain ⟨h1, h2⟩ := maxL_spec x xs
      refine ⟨List.mem_cons_of_mem _ h1, fun y hy => ?_⟩
      have h3 := h2 _ List.mem_cons_self
      rcases List.mem_cons.mp hy with rfl | hy
      · omega
      · exact h2 y hy
    · rw [if_neg hx]
      obtain ⟨h1, h2⟩ := maxL_spec k xs
      refine ⟨?_, fun y hy => ?_⟩
      · rcases List.mem_cons.mp h1 with h | h
        · rw [h]; exact List.mem_cons_self
        · exact List.mem_cons_of_mem _ (List.mem_cons_of_mem _ h)
      · have h3 := h2 _ List.mem_cons_self
        rcases List.mem_cons.mp hy with rfl | hy
        · exact h3
        · rcases List.mem_cons.mp hy with rfl | hy
          · omega
          · exact h2 y (List.mem_cons_of_mem _ hy)
theorem asInts_eq : ∀ {xs : List Val} {ns : List Int}, asInts xs = some ns → xs = ns.map Val.int
  | [], ns, h => by cases h; rfl
  | x :: xs, ns, h => by
    cases x with
    | int i =>
      change (asInts xs).map (i :: ·) = some ns at h
      cases e : asInts xs with
      | none => rw [e] at h; cases h
      | some ms => rw [e] at h; cases h; rw [asInts_eq e]; rfl
    | _ => cases h

/-! ### one argument, a plain value -/
def rF1 (Y : Fx) (f : F1) : List V → Hp → VK → Prop := fun vs H Q => ∃ F μ st a v c, vs = [v] ∧ Good Y.kf F μ st H ∧ RepV Y.kf F μ st.length a v ∧ f1V f a st = .ok c ∧ ∀ w, RepV Y.kf F μ st.length c w → Q w H
def f1Val : F1 → Value | .len => .builtin "len" | .int => .type "int" | .abs => .builtin "abs" | .bool => .type "bool" | .sum => .builtin "sum" | .min => .builtin "min" | .max => .builtin "max" | .lenset => .builtin "len"
section
variable {X : Cx} {Y : Fx}
theorem intsAt (hK : X.K = Y.K) {F H : Hp} {μ : Nat → Addr} {st : Store} {a : Val} {v : V} {xs : List Val} {ns : List Int} (g : Good Y.kf F μ st H) (ra : RepV Y.kf F μ st.length a v) (e : seqOf st a = some (true, xs)) (e2 : asInts xs = some ns) :
    ∃ p, v = .ref p ∧ SqL X.K H p (ns.map V.int) := by
  obtain ⟨p, vs, e1, r1, q1⟩ := seqOf_rep g ra e
  rw [if_pos rfl] at q1
  have ex := asInts_eq e2
  subst ex
  rw [r1.ints] at q1
  exact ⟨p, e1, by rw [hK]; exact q1⟩
theorem call_f1 (hK : X.K = Y.K) (f : F1) (hf : f ≠ .lenset) (hc0 : noIter f = false → X.calm = true) : CallR X (f1Val f) (rF1 Y f) := by
  intro pins s σ H vs us Q I r h
  obtain ⟨F, μ, st, a, v, c, rfl, g, ra, e, q⟩ := h
  cases f with
  | lenset => exact absurd rfl hf
  | len =>
    have rest : (match seqOf st a with | some (_, xs) => R.ok (Val.int xs.length) | none => .stuck) = .ok c → wpAny (model X.prog X.w) X.A (call (.builtin "len") us) (EP X pins σ Q) X.xe s := fun e => by
      split at e
      · rename_i kk xs hq
        cases e
        obtain ⟨p, vs, e1, r1, q1⟩ := seqIn hK g ra hq
        subst e1
        exact call_len_seq pins s σ H _ us Q I r ⟨p, vs, rfl, q1, by rw [r1.len]; exact q _ rfl⟩
      · cases e
    cases a with
    | str y =>
      have ex : v = .str y := ra
      subst ex
      change (if y.length ≤ szMax then R.ok (Val.int y.length) else .stuck) = .ok c at e
      by_cases hl : y.length ≤ szMax
      · rw [if_pos hl] at e; cases e
        exact call_len_str pins s σ H _ us Q I r ⟨y, rfl, szMax_le hl, q _ rfl⟩
      · rw [if_neg hl] at e; cases e
    | non => exact rest e
    | bl _ => exact rest e
    | int _ => exact rest e
    | tup xs => exact rest e
    | lst xs => exact rest e
    | loc m => exact rest e
    | scr xs => exact rest e
    | obj _ _ _ => exact rest e
  | int =>
    cases a <;> first
      | (rename_i i; have ex : v = .int i := ra; subst ex; cases e
         exact call_int1 pins s σ H _ us Q I r (.inl ⟨i, rfl, q _ rfl⟩))
      | (rename_i b; have ex : v = .bl b := ra; subst ex; cases e
         exact call_int1 pins s σ H _ us Q I r (.inr ⟨b, rfl, q _ rfl⟩))
      | cases e
  | abs =>
    cases a <;> first
      | (rename_i i; have ex : v = .int i := ra; subst ex; cases e
         exact call_abs pins s σ H _ us Q I r ⟨i, rfl, q _ rfl⟩)
      | cases e
  | bool =>
    cases a <;> first
      | (rename_i i; have ex : v = .int i := ra; subst ex; cases e
         exact call_bool1 pins s σ H _ us Q I r (.inl ⟨i, rfl, q _ rfl⟩))
      | (rename_i b; have ex : v = .bl b := ra; subst ex; cases e
         exact call_bool1 pins s σ H _ us Q I r (.inr ⟨b, rfl, q _ rfl⟩))
      | cases e
  | sum =>
    change (match seqOf st a with | some (true, xs) => (match asInts xs with | some ns => R.ok (Val.int ns.sum) | none => .stuck) | _ => .stuck) = .ok c at e
    split at e
    · rename_i xs hq
      split at e
      · rename_i ns hn
        cases e
        obtain ⟨p, e1, q1⟩ := intsAt hK g ra hq hn
        subst e1
        exact cr_sum (hc0 rfl) pins s σ H _ us Q I r ⟨p, ns, rfl, q1, q _ rfl⟩
      · cases e
    · cases e
  | min =>
    change (match seqOf st a with | some (true, xs) => (match asInts xs with | some (n :: ns) => R.ok (Val.int (minL n ns)) | _ => .stuck) | _ => .stuck) = .ok c at e
    split at e
    · rename_i xs hq
      split at e
      · rename_i n ns hn
        cases e
        obtain ⟨p, e1, q1⟩ := intsAt hK g ra hq hn
        subst e1
        obtain ⟨m1, m2⟩ := minL_spec n ns
        refine cr_min (hc0 rfl) pins s σ H _ us Q I r ⟨p, n :: ns, rfl, q1, by simp, fun m h1 h2 => ?_⟩
        have em : m = minL n ns := Int.le_antisymm (h2 _ m1) (m2 _ h1)
        rw [em]; exact q _ rfl
      · cases e
    · cases e
  | max =>
    change (match seqOf st a with | some (true, xs) => (match asInts xs with | some (n :: ns) => R.ok (Val.int (maxL n ns)) | _ => .stuck) | _ => .stuck) = .ok c at e
    split at e
    · rename_i xs hq
      split at e
      · rename_i n ns hn
        cases e
        obtain ⟨p, e1, q1⟩ := intsAt hK g ra hq hn
        subst e1
        obtain ⟨m1, m2⟩ := maxL_spec n ns
        refine cr_max (hc0 rfl) pins s σ H _ us Q I r ⟨p, n :: ns, rfl, q1, by simp, fun m h1 h2 => ?_⟩
        have em : m = maxL n ns := Int.le_antisymm (m2 _ h1) (h2 _ m1)
        rw [em]; exact q _ rfl
      · cases e
    · cases e

def rMm (Y : Fx) (k : Bool) : List V → Hp → VK → Prop := fun vs H Q => ∃ F μ st a b v w c, vs = [v, w] ∧ Good Y.kf F μ st H ∧ RepV Y.kf F μ st.length a v ∧ RepV Y.kf F μ st.length b w ∧ mmV k a b = .ok c ∧ ∀ z, RepV Y.kf F μ st.length c z → Q z H
theorem call_mm (hc : X.calm = true) (k : Bool) : CallR X (.builtin (if k then "max" else "min")) (rMm Y k) := by
  intro pins s σ H vs us Q I r h
  obtain ⟨F, μ, st, a, b, v, w, c, rfl, g, ra, rb, e, q⟩ := h
  cases a <;> cases b <;> first
    | (rename_i i j
       have ex : v = .int i := ra
       have ey : w = .int j := rb
       subst ex ey
       cases e
       cases k with
       | true => exact call_max2 hc pins s σ H _ us Q I r ⟨i, j, rfl, q _ rfl⟩
       | false => exact call_min2 hc pins s σ H _ us Q I r ⟨i, j, rfl, q _ rfl⟩)
    | cases e

/-! ### one argument, a new list or tuple -/
def rG1 (Y : Fx) (W : XK) (m : Bool) (f : G1) : List V → Hp → VK → Prop := fun vs H Q => ∃ F μ st a v, vs = [v] ∧ Good Y.kf F μ st H ∧ RepV Y.kf F μ st.length a v ∧ RP Y F μ st H (g1V m f a st) (kV Y Q) W
theorem call_g_list (hK : X.K = Y.K) {W : XK} {m : Bool} : CallR X (.type "list") (rG1 Y W m .list) := by
  intro pins s σ H vs us Q I r h
  obtain ⟨F, μ, st, a, v, rfl, g, ra, h⟩ := h
  change RP Y F μ st H (match seqOf st a with | some (_, xs) => newL m xs st | none => .stuck) (kV Y Q) W at h
  split at h
  · rename_i kk xs hq
    obtain ⟨p, vs, e1, r1, q1⟩ := seqIn hK g ra hq
    subst e1
    obtain ⟨z, k⟩ := newL_ok g h r1
    exact call_list_of pins s σ H _ us Q I r ⟨p, vs, rfl, q1, k⟩
  · exact False.elim h
theorem call_g_tuple (hK : X.K = Y.K) {W : XK} {m : Bool} : CallR X (.type "tuple") (rG1 Y W m .tuple) := by
  intro pins s σ H vs us Q I r h
  obtain ⟨F, μ, st, a, v, rfl, g, ra, h⟩ := h
  change RP Y F μ st H (match seqOf st a with | some (_, xs) => newT xs st | none => .stuck) (kV Y Q) W at h
  split at h
  · rename_i kk xs hq
    obtain ⟨p, vs, e1, r1, q1⟩ := seqOf_rep g ra hq
    subst e1
    cases kk with
    | true =>
      rw [if_pos rfl] at q1
      obtain ⟨z, k⟩ := newT_ok g h r1
      exact call_tuple_of pins s σ H _ us Q I r ⟨p, vs, rfl, .inl ⟨by rw [hK]; exact q1, k⟩⟩
    | false =>
      rw [if_neg Bool.false_ne_true] at q1
      refine call_tuple_of pins s σ H _ us Q I r ⟨p, vs, rfl, .inr ⟨by rw [hK]; exact q1, ?_⟩⟩
      cases a with
      | tup ys =>
        have ey : ys = xs := by injection hq with hq; injection hq
        subst ey
        exact newT_same g h ra
      | lst ys => injection hq with hq; injection hq with h1 h2; cases h1
      | scr ys => injection hq with hq; injection hq with h1 h2; cases h1
      | loc mm =>
        change (match st[mm]? with | some (.lst xs) => some (true, xs) | some (.frz xs) => some (true, xs) | _ => none) = some (false, xs) at hq
        split at hq <;> cases hq
      | _ => cases hq
  · exact False.elim h
theorem each_rep {K : Kf} {F : Hp} {μ : Nat → Addr} {n : Nat} : ∀ {xs : List Val} {vs : List V} {us : List Value}, RepL K F μ n xs vs → Vals vs us → PySem.W.EachIs (fun u x => ∃ v, RelV v u ∧ RepV K F μ n x v) us xs
  | [], _, _, h, r => by cases h; cases r; exact .nil
  | x :: xs, _, us, ⟨v, q, h1, h2, h3⟩, r => by
    subst h1
    exact match us, r with
    | _, .cons a b => .cons ⟨v, a, h2⟩ (each_rep h3 b)
theorem rep_each {K : Kf} {F : Hp} {μ : Nat → Addr} {n : Nat} : ∀ {xs : List Val} {us : List Value}, PySem.W.EachIs (fun u x => ∃ v, RelV v u ∧ RepV K F μ n x v) us xs → ∃ vs, RepL K F μ n xs vs ∧ Vals vs us
  | _, _, .nil => ⟨[], rfl, .nil⟩
  | _, _, .cons ⟨v, a, h⟩ t => by
    obtain ⟨vs, h1, h2⟩ := rep_each t
    exact ⟨v :: vs, ⟨v, vs, rfl, h, h1⟩, .cons a h2⟩
theorem alikes_of {xs : List Val} (h : (xs.all fun x => (xs.all fun y => PySem.W.alike (toPD x) (toPD y)) && (PyData.canLay0 (toPD x) && decide ((toPD x).depth ≤ 60))) = true) : PySem.W.AllAlike (xs.map toPD) := by
  intro d hd d' hd'
  obtain ⟨b, h1, rfl⟩ := List.mem_map.mp hd
  obtain ⟨b', h2, rfl⟩ := List.mem_map.mp hd'
  rw [List.all_eq_true] at h
  have := h b h1
  rw [Bool.and_eq_true, List.all_eq_true] at this
  exact this.1 b' h2
theorem sortable_of {xs : List Val} (h : ((xs.all fun x => match x with | .tup (_ :: _) => true | _ => false) || (xs.all fun x => match x with | .tup _ => false | .non => false | _ => true)) = true) : PySem.W.Sortable (xs.map toPD) := by
  rw [Bool.or_eq_true] at h
  rcases h with h | h
  · refine .inl fun d hd => ?_
    obtain ⟨b, h1, rfl⟩ := List.mem_map.mp hd
    rw [List.all_eq_true] at h
    have q := h b h1
    split at q
    · exact ⟨_, _, rfl⟩
    · cases q
  · refine .inr fun d hd => ?_
    obtain ⟨b, h1, rfl⟩ := List.mem_map.mp hd
    rw [List.all_eq_true] at h
    have q := h b h1
    cases b <;> first | (cases q; done) | exact ⟨(by intro z; cases z), (by intro ys z; cases z)⟩
theorem call_g_sorted (hK : X.K = Y.K) (hu : X.A.units + 64 < cLine) {W : XK} {m : Bool} : CallR X (.builtin "sorted") (rG1 Y W m .sorted) := by
  intro pins s σ H vs us Q I r h
  obtain ⟨F, μ, st, a, v, rfl, g, ra, h⟩ := h
  change RP Y F μ st H (match seqOf st a with | some (true, xs) => (match asInts xs with | some ns => newL m ((sortI ns).map .int) st | none => if sortOk xs then newL m (xs.mergeSort leV) st else .stuck) | _ => .stuck) (kV Y Q) W at h
  split at h
  · rename_i xs hq
    split at h
    · rename_i ns hn
      obtain ⟨p, e1, q1⟩ := intsAt hK g ra hq hn
      subst e1
      obtain ⟨z, k⟩ := newL_ok g h (repL_ints (sortI ns))
      refine cr_sortedI pins s σ H _ us Q I r ⟨p, ns, rfl, q1, fun ns' l hp hs hl => ?_⟩
      rw [sortI_only hp hs]
      exact k l hl
    · by_cases ho : sortOk xs = true
      · rw [if_pos ho] at h
        unfold sortOk at ho
        rw [Bool.and_eq_true] at ho
        obtain ⟨p, vs, e1, r1, q1⟩ := seqOf_rep g ra hq
        subst e1
        rw [if_pos rfl] at q1
        rw [Vals.ref1 r]
        obtain ⟨its, rv, hl, hz⟩ := I.list (show SqL X.K H p vs by rw [hK]; exact q1)
        have er := each_rep r1 rv
        have hd : ∀ x ∈ xs, PyData.canLay0 (toPD x) = true ∧ (toPD x).depth ≤ 60 := fun x hx => by
          have := ho.1
          rw [List.all_eq_true] at this
          have := this x hx
          simp only [Bool.and_eq_true, decide_eq_true_eq] at this
          exact this.2
        have er2 : PySem.W.EachIs (fun u x => ∃ as, Reads s.heap u (toPD x) as) its xs := (PySem.W.each_mem er).mono fun u x ⟨⟨v, hv, hr⟩, hx⟩ => Dp.reads I (toPD x) v u (by rw [hK]; exact dp_rep g.same hr (hd x hx).1) hv
        have hlen := rv.length
        have hlx := r1.len
        refine PySem.W.sorted_data hl.isList er er2 (alikes_of ho.1) (sortable_of ho.2) (by omega) (fun b hb => by have := (hd b hb).2; omega) fun out hlo hout => ?_
        obtain ⟨ws, h1, h2⟩ := rep_each hout
        have hl2 : RepL Y.kf F μ st.length (xs.mergeSort leV) ws := h1
        obtain ⟨z, k⟩ := newL_ok g h hl2
        have hfr : H (s.heap.objs.size + 1) = none := I.hok.fresh (Nat.le_succ _)
        refine ⟨.ref (s.heap.objs.size + 1), upd H (s.heap.objs.size + 1) (.lst ws), I.laid (t' := s.toks) (fun b o e => sortedAll_old e) (Nat.le_succ _) ?_, rfl, k _ hfr⟩
        obtain ⟨n, hn⟩ := sortedAll_at s.heap its (List.toArray out)
        refine ⟨?_, out, n, h2, hn⟩
        have := hl2.len
        rw [List.length_mergeSort] at this
        omega
      · rw [if_neg ho] at h; exact False.elim h
  · exact False.elim h
/-- set(xs): an object whose members are known -/
def rMkSet (Y : Fx) (w : World) : List V → Hp → VK → Prop := fun vs H Q => ∃ F μ st a v xs ns, vs = [v] ∧ Good Y.kf F μ st H ∧ RepV Y.kf F μ st.length a v ∧ seqOf st a = some (true, xs) ∧ asInts xs = some ns ∧ ns.length < 64 ∧
  ∀ p n, H p = none → n < 64 → Q (.ref p) (upd H p (SetO w p (fun j => decide (j ∈ ns)) n))
theorem call_mkset (hK : X.K = Y.K) (hc : X.calm = true) : CallR X (.type "set") (rMkSet Y X.w) := by
  intro pins s σ H vs us Q I r h
  obtain ⟨F, μ, st, a, v, xs, ns, rfl, g, ra, hq, hn, h64, q⟩ := h
  obtain ⟨p, e1, q1⟩ := intsAt hK g ra hq hn
  subst e1
  obtain ⟨its, rv, pl, hz⟩ := I.list q1
  rw [Vals.ref1 r]
  have hi : IntsAre its ns := rv.ints
  refine call_set_lstI ns (I.ok.hd hc) pl.isList (by simpa using hi) (by unfold scanBound; omega) fun h' tk c R1 hcn k => ?_
  have hp : H s.heap.objs.size = none := I.hok.fresh (Nat.le_refl _)
  exact ⟨.ref s.heap.objs.size, _, I.laid (t' := tk) k (Nat.le_refl _) (setO_new R1), rfl, q _ c hp (by omega)⟩
theorem keys_ints : ∀ {es : List (Int × Value)}, (∀ e ∈ es, GoodE e) → ∃ ns : List Int, es.map keyOf = ns ∧ ns.length = es.length
  | es, _ => ⟨es.map keyOf, rfl, by simp⟩
theorem call_lenset : CallR X (.builtin "len") (fun xs H Q => ∃ (p : Addr) (ns : List Int) (n : Nat), xs = [.ref p] ∧ H p = some (SetO X.w p (fun j => decide (j ∈ ns)) n) ∧ n < 64 ∧ Q (.int (sortS ns).length) H) := by
  intro pins s σ H vs us Q I r h
  obtain ⟨p, ns, n, rfl, hp, h64, q⟩ := h
  rw [Vals.ref1 r]
  obtain ⟨o, es, ep, t, ho, hx, hd, hg, hnd, hm, hsz, hf, hn, _, _⟩ := setO_get I hp
  have hlen : (sortS ns).length = es.size := by
    have h1 : (sortS ns).Perm (es.toList.map keyOf) := by
      refine (List.perm_ext_iff_of_nodup ?_ hnd).mpr fun k => ?_
      · exact (sortS_up ns).imp fun {a b} hab => by omega
      · rw [← hm k, sortS_mem]; simp
    rw [h1.length_eq]; simp
  exact call_len_set ho hx hd hf (by omega) ⟨.int es.size, H, I.tok _, ⟨_, rfl⟩, by rw [← hlen]; exact q⟩
end
end MP
set_option maxHeartbeats 4000000
/-! MiniPy: the program's own errors over ValueError, whose __init__ says super().__init__('..') and stores its parameters. -/
namespace MP
open PySem PySem.W PySem.Calls PyProof.Rows PySem.HandSPX L2

/-- self.n = n, for each of ns -/
def asgsB : List Stmt → List Str → Bool
  | [], [] => true
  | .Assign [.Attribute (.Name a _) n _] (.Name b _) _ :: r, m :: ns => decide (a = "self") && (decide (n = m) && (decide (b = m) && asgsB r ns))
  | _, _ => false
def bodyB : List Stmt → List Str → Bool
  | .Expr (.Call (.Attribute (.Call (.Name a _) [] [] _) m p2) [.Constant (.str _) _ _] [] p4) _ :: r, ns => decide (a = "super") && (decide (m = "__init__") && ((p2.endLine == p4.line) && asgsB r ns))
  | _, _ => false
/-- the scope: the parameters are local, super global, __class__ captured -/
def iscB (sc : Scope) (ns : List Str) : Bool :=
  (match sc.kind with | .function => true | _ => false) && (!sc.isCoroutine && (!sc.isGenerator && (decide (sc.names.lookup ("super" : Str) = some .globalImplicit) && (decide (sc.names.lookup ("__class__" : Str) = some .free) && ((("self" : Str) :: ns).all (fun n => decide (sc.names.lookup n = some .local) && !(n == ("__debug__" : Str))) && sc.names.all fun y => match y.2 with | .cell => false | _ => true)))))
theorem asgsB_cons {st : Stmt} {r : List Stmt} {ns : List Str} (h : asgsB (st :: r) ns = true) : ∃ p1 p2 p3 p4 n ms, ns = n :: ms ∧ st = .Assign [.Attribute (.Name "self" p1) n p2] (.Name n p3) p4 ∧ asgsB r ms = true := by
  unfold asgsB at h
  split at h
  · rename_i heq1; cases heq1
  · rename_i a p1 n p2 b p3 p4 r' m ms heq1
    cases heq1
    simp only [Bool.and_eq_true, decide_eq_true_eq] at h
    obtain ⟨rfl, rfl, rfl, h4⟩ := h
    exact ⟨p1, p2, p3, p4, _, ms, rfl, rfl, h4⟩
  · cases h
theorem bodyB_eq {b : List Stmt} {ns : List Str} (h : bodyB b ns = true) : ∃ p0 p1 p2 p3 p4 p5 txt j r, b = .Expr (.Call (.Attribute (.Call (.Name "super" p0) [] [] p1) "__init__" p2) [.Constant (.str txt) j p3] [] p4) p5 :: r ∧ (p2.endLine == p4.line) = true ∧ asgsB r ns = true := by
  unfold bodyB at h
  split at h
  · simp only [Bool.and_eq_true, decide_eq_true_eq] at h
    obtain ⟨rfl, rfl, h2, h3⟩ := h
    exact ⟨_, _, _, _, _, _, _, _, _, rfl, h2, h3⟩
  · cases h

structure SupTxt (P : Program) (K : Frag) (mg : Str → Option Value) (C D fI : Addr) (st : Stmt) (ns : List Str) : Prop where
  cls : ∃ nm q N bs bm sn sub ab col dd k0 k1 k2 k3 k5, K.lookup C = some (excClassObj nm q C N bs bm true sn sub ab col dd k0 k1 k2 k3 k5 "ValueError.__new__") ∧ refsVE bm = true
  sa : findIn K (.ref C) "__setattr__" = some (some (.builtin "object.__setattr__"))
  exC : subIn K (.ref C) (.type "BaseException") = some true
  veC : subIn K (.ref C) (.type "ValueError") = some true
  tyC : typeIn K (.ref C) = some (.type "type")
  kC : keepIn K (.ref C) = true
  iC : findIn K (.ref C) "__init__" = some (some (.ref fI))
  tI : typeIn K (.ref fI) = some (.type "function")
  no : ∀ n ∈ ns, findIn K (.ref C) n = some none
  fn : ∃ (oc : Value) (od : Option Addr) (qual : Str) (kV doc pm : Value) (an : Option Addr) (cda : Addr) (ct : Value) (cc : Addr) (osl : Array (Option Value)),
    K.lookup fI = some ⟨oc, od, .func (ksFn "__init__" qual (defArgs st) (defBody st) (defScope st) .none kV doc pm an (.ref cda) ct cc), osl⟩ ∧ codeIn K (.ref cda) qual = true ∧
      (∃ (ccl : Value) (cdd : Option Addr) (vs : Array Value) (ccs : Array (Option Value)) (file : Str) (tf : Tok), K.lookup cda = some ⟨ccl, cdd, .fields vs, ccs⟩ ∧ vs[2]? = some (.str file tf) ∧ ((P.main.file : Str) == file) = true) ∧
      (∃ (cl : Value) (cld : Option Addr) (csl : Array (Option Value)), K.lookup cc = some ⟨cl, cld, .cell (some (.ref D)), csl⟩)
  clD : ∃ cdD, clsIn K D = some cdD
  sub : mroIn K C (.ref D) = some true
  sup : ks_superIn K C D "__init__" = some (some (.builtin "ValueError.__init__"))
  glb : mg "super" = none
  top : (P.main.scope.names.lookup ("super" : Str)).isSome = false
  opq : nsIn K cStatics "thirdparty.any" = some none
  body : bodyB (defBody st) ns = true
  scope : iscB (defScope st) ns = true
  ar : ((defArgs st).posonlyargs ++ (defArgs st).args).head?.map (·.arg) = some "self"
  nd : ns.Nodup ∧ ("self" : Str) ∉ ns ∧ ns ≠ []
  bind : ∀ (qual : Str) (kV doc pm : Value) (an : Option Addr) (cdv ct : Value) (cc : Addr) (us : List Value), us.length = ns.length + 1 → bindArgs (ksFn "__init__" qual (defArgs st) (defBody st) (defScope st) .none kV doc pm an cdv ct cc) ⟨us, []⟩ = pure ((("self" : Str) :: ns).zip us)

theorem lk_put {α : Type} (f g : Str) (y : α) (fs : List (Str × α)) : ((f, y) :: fs).lookup g = if g = f then some y else fs.lookup g := by
  by_cases h : g = f
  · subst h; simp [List.lookup]
  · have e : (g == f) = false := by simpa using h
    rw [if_neg h]; simp [List.lookup, e]

section
variable {P : Program} {w : World} {A : Around} {E : Value → Shared → Prop} {K : Frag} {mg : Str → Option Value} {base : Heap} {C D fI : Addr} {st : Stmt} {ns : List Str}
theorem kin_but {h h' : Heap} {x : Addr} (X : K.In base) (kb : ∀ b o, base.get? b = some o → h.get? b = some o) (hx : base.get? x = none) (k : ∀ b o, b ≠ x → h.get? b = some o → h'.get? b = some o) : ∀ b o, base.get? b = some o → h'.get? b = some o := fun b o e =>
  k b o (fun z => by rw [z, hx] at e; cases e) (kb b o e)
/-- the further stores -/
theorem sup_more (T : SupTxt P K mg C D fI st ns) (X : K.In base) {env : PySem.Env} {x dx t1 : Addr} {m : Str → Option Value} (hk : env.scope.kind = .function) (hbx : base.get? x = none) (hbd : ∀ o, base.get? dx = some o → False)
    (self : m ("self" : Str) = some (.ref x) ∧ env.kindOf "self" = some .local) {Q : Flow → Shared → Prop} : ∀ (r : List Stmt) (ms : List Str) (vs : List Value) (done : List (Str × Value)) (mA : Str → Option Value) (s : Shared),
    asgsB r ms = true → (∀ n ∈ ms, n ∈ ns) → ms.length = vs.length → (∀ n v, (n, v) ∈ ms.zip vs → m n = some v ∧ env.kindOf n = some .local ∧ (n == ("__debug__" : Str)) = false) → env.locals ≠ x → env.locals ≠ dx →
    (∀ b o, base.get? b = some o → s.heap.get? b = some o) → s.heap.Ns env.locals m → s.heap.get? x = some { cls := .ref C, dict := some dx, data := .fields #[.ref t1, .none, .none, .none, .bool false, .none] } → s.heap.Ns1 dx mA → (∀ f, mA f = done.lookup f) → done.length + ms.length ≤ 900 →
    (∀ h' tk mB, (∀ b o, b ≠ x → b ≠ dx → s.heap.get? b = some o → h'.get? b = some o) → h'.get? x = some { cls := .ref C, dict := some dx, data := .fields #[.ref t1, .none, .none, .none, .bool false, .none] } → h'.Ns1 dx mB → (∀ f, mB f = ((ms.zip vs).reverse ++ done).lookup f) → Q .next { s with heap := h', toks := tk }) →
    wpAny (model P w) A (execs r env) Q E s := by
  intro r
  induction r with
  | nil =>
    intro ms vs done mA s ha hin hl hm hLx hLd kb hn hx hd hA hz hq
    cases ms with
    | cons _ _ => cases ha
    | nil =>
      obtain ⟨hp, g, d, t, os⟩ := s
      exact wpAny_execs_nil (hq hp t mA (fun b o _ _ e => e) hx hd (by simpa using hA))
  | cons a r ih =>
    intro ms vs done mA s ha hin hl hm hLx hLd kb hn hx hd hA hz hq
    obtain ⟨p1, p2, p3, p4, n, ms', rfl, rfl, ha'⟩ := asgsB_cons ha
    cases vs with
    | nil => cases hl
    | cons v vs =>
      obtain ⟨nm, q, N, bs, bm, sn, sub, ab, col, dd, k0, k1, k2, k3, k5, hC, hbm⟩ := T.cls
      have hcl : clsIn K C = some { name := nm, bases := bs, mro := .ref C :: bm, ns := N, qualname := q, hasDict := true, slotNames := sn, subclasses := sub, abstract := ab, collection := col, hasDel := false } := by unfold clsIn; rw [hC] <;> rfl
      obtain ⟨hmn, hkn, hdn⟩ := hm n v (List.mem_cons_self ..)
      obtain ⟨hp, g, d, t, os⟩ := s
      obtain ⟨oD, esD, epD, hoD, hdD, hrD⟩ := hd
      have X1 : K.In hp := X.keeps kb
      refine wpAny_execs_cons (plainObj_wpAny_Assign_Attribute (ESX.ldL hn hmn (ESX.ldL hn self.1 ?_ hk self.2 (by decide +kernel)) hk hkn hdn) rfl)
      refine set_plain X1 (ox := { cls := .ref C, dict := some dx, data := .fields #[.ref t1, .none, .none, .none, .bool false, .none] }) (od := some oD) ⟨hx, rfl, rfl, hoD⟩ T.sa ?_
      have hw : Within mA (done.map (·.1)) := fun y hy => by
        rw [hA y] at hy
        cases hl' : done.lookup y with
        | none => exact absurd hl' hy
        | some u => exact List.mem_map_of_mem (f := (·.1)) (PySem.mem_of_lookup hl')
      refine OEX.osa_old X1 hx ⟨oD, esD, epD, hoD, hdD, hrD⟩ hw (by rw [List.length_map]; omega) hcl (show refsVE (.ref C :: bm) = true from hbm) rfl (T.no n (hin n (List.mem_cons_self ..))) (fun h' tk' k hn' => ?_)
      have kb' : ∀ b o, base.get? b = some o → h'.get? b = some o := fun b o e => k b o (fun z => hbd o (by rw [← z]; exact e)) (kb b o e)
      have hdx : dx ≠ x := fun z => by
        rw [z, hx] at hoD
        cases hoD
        cases hdD
      refine ih ms' vs ((n, v) :: done) _ _ ha' (fun y hy => hin y (List.mem_cons_of_mem _ hy)) (by simpa using hl) (fun y u hy => hm y u (List.mem_cons_of_mem _ hy)) hLx hLd kb' (hn.at fun o e => k _ _ hLd e) (k _ _ (Ne.symm hdx) hx) hn' (fun f => ?_) (by simp at hz ⊢; omega) (fun h2 tk2 mB k2 hx2 hd2 hB => hq h2 tk2 mB (fun b o hb hb2 e => k2 b o hb hb2 (k b o hb2 e)) hx2 hd2 fun f => ?_)
      · rw [lk_put, hA f]
      · rw [hB f]; simp
end
end MP
set_option maxHeartbeats 4000000
/-! MiniPy: such an error is made. -/
namespace MP
open PySem PySem.W PySem.Calls PyProof.Rows PySem.HandSPX L2
section
variable {P : Program} {w : World} {A : Around} {E : Value → Shared → Prop} {K : Frag} {mg : Str → Option Value} {base : Heap} {C D fI : Addr} {st : Stmt} {ns : List Str} {R : Result → Shared → Prop}
/-- ValueError.__init__, bound to the object, called -/
theorem mw_call {h : Heap} {g : Array GenState} {d : Drawn} {t : Nat} {os : OsState} {nm q : Str} {N : Addr} {bs bm : List Value} {sn : List Str} {sub : List Value} {ab : Bool} {col : Option Bool} {dd : Option Addr} {k0 k1 k2 k3 k5 : Option Value} {u x t0 : Addr} {rest : List Value} {Q : Value → Shared → Prop}
    (hC : h.get? C = some (excClassObj nm q C N bs bm true sn sub ab col dd k0 k1 k2 k3 k5 "ValueError.__new__")) (he : h.get? x = some (excO C t0)) (hu : h.get? u = some (kxs_mw "ValueError.__init__" x)) (hz : rest.length ≤ sizeLine)
    (hq : ∀ h' t1, (∀ b o, b ≠ x → h.get? b = some o → h'.get? b = some o) → h'.get? x = some (excO C t1) → Q .none ⟨h', g, d, t, os⟩) :
    wpAny (model P w) A (call (.ref u) rest) Q E ⟨h, g, d, t, os⟩ := by
  have FB := F.excBase_ValueError
  refine wpAny_call (codeAny_of_tree ?_)
  show wpAny (model P w) A.in1 (callAny (.ref u) ⟨rest, []⟩) _ _ _
  simp only [callAny]
  refine wpAny_bind (wpAny_load hu ?_)
  simp only [kxs_mw, show ((Value.type "method-wrapper" == Value.type "method") || (Value.type "method-wrapper" == Value.type "builtin_function_or_method") || (Value.type "method-wrapper" == Value.type "method-wrapper")) = true by decide, if_true]
  refine KFB.if_so (by decide) ?_
  refine wpAny_bind (check_bound_init FB.toExcCallFacts hC he rfl (wpAny_bind (wpAny_pure (wpAny_pure ?_))))
  refine ⟨plainId_quiet FB.init.plain _, codeAny_builtin FB.initEntry ?_⟩
  exact exc_init_tree (cls := .ref C) (t0 := t0) (dv := none) (c2 := .none) (c3 := .none) (b4 := .bool false) he hz fun h' k e' _ => hq h' _ k e'
theorem sup_call {p0 p1 p2 p3 p4 : Pos} {txt : Str} {jj : Nat} {env : PySem.Env} (hl : (p2.endLine == p4.line) = true) :
    eval (.Call (.Attribute (.Call (.Name "super" p0) [] [] p1) "__init__" p2) [.Constant (.str txt) jj p3] [] p4) env = (do
      let ov ← attributeBase (.Call (.Name "super" p0) [] [] p1) "__init__" env (eval (.Call (.Name "super" p0) [] [] p1) env)
      standAt p2.atName
      let (f, first) ← holding [ov] (getMethod ov "__init__" (do return (← importBound (.Call (.Name "super" p0) [] [] p1) env).getD true))
      callWith p4 f first (backTo p4 (starEach [.Constant (.str txt) jj p3] env)) []) := by
  have hp : methodCallPos true (.Call (.Name "super" p0) [] [] p1) env p2 p4 = pure p4 := by
    unfold methodCallPos
    rw [hl]; rfl
  have e : ∀ ov, methodCall (.Call (.Name "super" p0) [] [] p1) "__init__" p2 p4 env ov 1 (backTo p4 (starEach [.Constant (.str txt) jj p3] env)) [] = (do
      let (f, first) ← holding [ov] (getMethod ov "__init__" (do return (← importBound (.Call (.Name "super" p0) [] [] p1) env).getD true))
      callWith p4 f first (backTo p4 (starEach [.Constant (.str txt) jj p3] env)) []) := fun ov => by
    have hf : methodCallForm 1 (backTo p4 (starEach [.Constant (.str txt) jj p3] env)) [] = true := rfl
    unfold methodCall
    rw [hf, hp]
    simp only [pure_bind]
    rfl
  show (do
      let ov ← attributeBase (.Call (.Name "super" p0) [] [] p1) "__init__" env (eval (.Call (.Name "super" p0) [] [] p1) env)
      standAt p2.atName
      methodCall (.Call (.Name "super" p0) [] [] p1) "__init__" p2 p4 env ov 1 (backTo p4 (starEach [.Constant (.str txt) jj p3] env)) []) = _
  simp only [e]
theorem lookup_rev {α : Type} : ∀ {l : List (Str × α)} {n : Str} {v : α}, (l.map (·.1)).Nodup → (n, v) ∈ l → l.reverse.lookup n = some v
  | [], _, _, _, h => by cases h
  | (a, b) :: l, n, v, nd, h => by
    rw [List.map_cons, List.nodup_cons] at nd
    rw [List.reverse_cons, List.lookup_append]
    rcases List.mem_cons.mp h with h | h
    · obtain ⟨rfl, rfl⟩ := Prod.mk.inj h
      have : l.reverse.lookup n = none := by
        cases q : l.reverse.lookup n with
        | none => rfl
        | some u =>
          have := PySem.mem_of_lookup q
          exact absurd (List.mem_map_of_mem (f := (·.1)) (List.mem_reverse.mp this)) nd.1
      rw [this]
      simp
    · rw [lookup_rev nd.2 h]; rfl
theorem sup_init (T : SupTxt P K mg C D fI st ns) (M : Mod K mg base) {s : Shared} (kb : ∀ b o, base.get? b = some o → s.heap.get? b = some o) {x t0 : Addr} {us : List Value} (hx : s.heap.get? x = some (excO C t0)) (hbx : base.get? x = none) (hus : us.length = ns.length) (hn900 : ns.length ≤ 900)
    (hroom : A.depth < recursionLimit)
    (hq : ∀ h' tk dx t1 mA, (∀ b o, b ≠ x → s.heap.get? b = some o → h'.get? b = some o) → h'.get? x = some { cls := .ref C, dict := some dx, data := .fields #[.ref t1, .none, .none, .none, .bool false, .none] } → s.heap.objs.size ≤ dx → dx ≠ x → h'.Ns1 dx mA →
      (∀ f, mA f = (ns.zip us).reverse.lookup f) → R (.ok (.ret .none)) { s with heap := h', toks := tk }) :
    codeAny (model P w) A (.call (.ref fI) ⟨.ref x :: us, []⟩) R s := by
  obtain ⟨oc, od, qual, kV, doc, pm, an, cda, ct, cc, osl, ho, hcd, ⟨ccl, cdd, vs, ccs, file, tf, hcode, hvs, hfile⟩, ⟨cl, cld, csl, hcell⟩⟩ := T.fn
  obtain ⟨nm, q, N, bs, bm, sn, sub, ab, col, dd, k0, k1, k2, k3, k5, hC, hbm⟩ := T.cls
  have hcl : clsIn K C = some { name := nm, bases := bs, mro := .ref C :: bm, ns := N, qualname := q, hasDict := true, slotNames := sn, subclasses := sub, abstract := ab, collection := col, hasDel := false } := by unfold clsIn; rw [hC] <;> rfl
  obtain ⟨p0, p1, p2, p3, p4, p5, txt, jj, r, hbody, hline, hasg⟩ := bodyB_eq T.body
  have hsc := T.scope
  unfold iscB at hsc
  simp only [Bool.and_eq_true, decide_eq_true_eq, List.all_eq_true, Bool.not_eq_true'] at hsc
  obtain ⟨sk, sco, sgen, ssup, scls, sloc, scell⟩ := hsc
  have hk : (defScope st).kind = .function := by
    split at sk
    · assumption
    · cases sk
  have X : K.In s.heap := M.kin.keeps kb
  obtain ⟨n0, ns', hns0⟩ : ∃ n0 ns', ns = n0 :: ns' := by
    cases ns with
    | nil => exact absurd rfl T.nd.2.2
    | cons a b => exact ⟨a, b, rfl⟩
  have hb : BindsTo s (ksFn "__init__" qual (defArgs st) (defBody st) (defScope st) .none kV doc pm an (.ref cda) ct cc) ⟨.ref x :: us, []⟩ ((("self" : Str) :: ns).zip (.ref x :: us)) := .of_eq (T.bind qual kV doc pm an (.ref cda) ct cc (.ref x :: us) (by simp [hus]))
  refine ks_codeAny_call_defAt (fd := ksFn "__init__" qual (defArgs st) (defBody st) (defScope st) .none kV doc pm an (.ref cda) ct cc) (body := defBody st) hroom (X _ _ ho) rfl (M.nolimit.keeps kb) (codeRec_of X hcd) rfl hb (fun y hy e => ?_) (fun y hy => ?_) (fun h₁ hns hk₁ => ?_) sco sgen hk
  · have := scell y hy
    rw [e] at this; cases this
  · exact (sloc y.1 (List.of_mem_zip hy).1).1
  · generalize hfd : ksFn "__init__" qual (defArgs st) (defBody st) (defScope st) .none kV doc pm an (.ref cda) ct cc = fd at hb ⊢
    have e1 : fd.scope = defScope st := by rw [← hfd]
    generalize henv : callEnv fd s.heap.objs.size fI = env
    have es : env.scope = defScope st := by rw [← henv, ← e1]; rfl
    have eL : env.locals = s.heap.objs.size := by rw [← henv]; rfl
    have ef : env.func = some fI := by rw [← henv]; rfl
    have ec : env.code = .ref cda := by rw [← henv, ← hfd]; rfl
    have eg : env.globals = mainGlobals := by rw [← henv, ← hfd]; rfl
    have eb : env.builtins = builtinsNs := by rw [← henv, ← hfd]; rfl
    have ecl : env.cells = [(("__class__" : Str), cc)] := by rw [← henv, ← hfd]; rfl
    have ek : env.scope.kind = .function := by rw [es]; exact hk
    have kos : ∀ y, env.kindOf y = (defScope st).names.lookup y := fun y => by rw [← es]; rfl
    have kb1 : ∀ b o, base.get? b = some o → h₁.get? b = some o := fun b o e => hk₁ b o (kb b o e)
    have X1 : K.In h₁ := M.kin.keeps kb1
    have hx1 := hk₁ _ _ hx
    have nods : ((("self" : Str) :: ns).zip (Value.ref x :: us)).map (·.1) = ("self" : Str) :: ns := by
      rw [List.map_fst_zip]; simp [hus]
    have nodk : (("self" : Str) :: ns).Nodup := List.nodup_cons.mpr ⟨T.nd.2.1, T.nd.1⟩
    have hm : ∀ n v, (n, v) ∈ (("self" : Str) :: ns).zip (Value.ref x :: us) → ((("self" : Str) :: ns).zip (Value.ref x :: us)).reverse.lookup n = some v := fun n v hv => lookup_rev (by rw [nods]; exact nodk) hv
    have hself := hm "self" (.ref x) (List.mem_cons_self ..)
    rw [hbody]
    refine ks_wpAt_execs_cons (ks_wpAt_Expr_any (ks_wpAt_MethodCall ?_ (sup_call hline)) (by simp [interactive, ek]) rfl)
    · obtain ⟨ar, har, harn⟩ : ∃ ar, (fd.params.posonlyargs ++ fd.params.args).head? = some ar ∧ ar.arg = "self" := by
        have := T.ar
        rw [← hfd]
        cases hh : ((defArgs st).posonlyargs ++ (defArgs st).args).head? with
        | none => rw [hh] at this; cases this
        | some ar => rw [hh] at this; exact ⟨ar, rfl, Option.some.inj this⟩
      obtain ⟨cdD, hcD⟩ := T.clD
      obtain ⟨oD, hD1, hD2⟩ : ∃ oD, h₁.get? D = some oD ∧ oD.data = .cls cdD := by
        unfold clsIn at hcD
        split at hcD
        · rename_i c d cd' sl hoD
          cases hcD
          exact ⟨_, X1 _ _ hoD, rfl⟩
        · cases hcD
      have hfo : h₁.get? fI = some ⟨oc, od, .func fd, osl⟩ := by rw [← hfd]; exact X1 _ _ ho
      refine ks_wpAt_super_base (env := env) (by rw [kos]; exact ssup) (by rw [kos]; exact scls) (by decide +kernel) ef hfo rfl har ec (X1 _ _ hcode) rfl hvs hfile T.top ?_
      obtain ⟨mb, hb1, hb2⟩ := M.blt
      refine ks_loadName_global ek (by rw [kos]; exact ssup) (loadGlobal_builtin (by rw [eg]; exact M.glob.keeps kb1) T.glb (by rw [eb]; exact hb1.keeps kb1) ((hb2 _ (by decide +kernel)).trans (by decide +kernel)) ⟨rfl, ?_⟩)
      refine wpAny_loadName_free ek (by rw [kos]; exact scls) (by rw [ecl]; rfl) ⟨_, X1 _ _ hcell, rfl⟩ ?_
      refine wpAny_loadName_local ek (by rw [kos, harn]; exact (sloc "self" (List.mem_cons_self ..)).1) (by rw [eL]; exact hns) (by rw [harn]; exact hself) ?_
      refine ks_wpAny_isType_cls hD1 hD2 ⟨rfl, ?_⟩
      refine ks_wpAny_call_super hD1 hD2 hx1 rfl (fun c e => by cases e) (looks_mroIn X1 T.sub) (fun h2 hso k2 => ?_)
      have X2 : K.In h2 := X1.keeps k2
      have hx2 := k2 _ _ hx1
      have I2 : InstAt h2 x (excO C t0) C none := ⟨hx2, rfl, rfl, trivial⟩
      refine kxs_getMethod kxs_ValueError hso (looks_opaque X2 T.opq) (l₀ := .ref C :: bm) (fun A Q E s k q => wpAny_bind ((looks_clsIn X2 hcl) A _ E s k (wpAny_pure q))) rfl X2 (by
        have := T.sup
        unfold ks_superIn at this
        rw [hcl] at this
        exact this) (I2.type.andThen (looks_subIn X2 T.veC)) (ks_ne X2 I2 hcl) (by decide +kernel) ?_
      have hmw : (h2.push (kxs_mw "ValueError.__init__" x)).get? h2.objs.size = some (kxs_mw "ValueError.__init__" x) := Heap.get?_push_at rfl rfl
      have k3 : ∀ b o, h2.get? b = some o → (h2.push (kxs_mw "ValueError.__init__" x)).get? b = some o := fun b o e => Heap.get?_push_of_some _ e
      refine kxs_callWith (i := "ValueError.__init__") (x := x) rfl (evalArgs_plain (spliced_more (Constant_str (spliced_none ⟨hmw, ?_⟩)) rfl))
      refine mw_call (X2.keeps k3 _ _ hC) (k3 _ _ hx2) hmw (by show 1 ≤ sizeLine; rw [sizeLine_eq]; omega) fun h4 t4 k4 hx4 => ?_
      have hLx : s.heap.objs.size ≠ x := Nat.ne_of_gt (Heap.lt_size hx)
      have up4 : ∀ b o, b ≠ x → h₁.get? b = some o → h4.get? b = some o := fun b o hb e => k4 b o hb (k3 _ _ (k2 _ _ e))
      have kb4 : ∀ b o, base.get? b = some o → h4.get? b = some o := fun b o e => up4 b o (fun z => by rw [z, hbx] at e; cases e) (kb1 b o e)
      have X4 : K.In h4 := M.kin.keeps kb4
      have hn4 : h4.Ns env.locals (fun y => ((("self" : Str) :: ns).zip (Value.ref x :: us)).reverse.lookup y) := by rw [eL]; exact hns.at fun o e => up4 _ _ hLx e
      refine wpAt_of_wpAny ?_
      subst hns0
      cases us with
      | nil => simp at hus
      | cons u0 us =>
        cases r with
        | nil => cases hasg
        | cons a r =>
          obtain ⟨q1, q2, q3, q4, n, ms, en, ea, hasg'⟩ := asgsB_cons hasg
          cases en
          subst ea
          have hmn0 := hm n0 u0 (List.mem_cons_of_mem _ (List.mem_cons_self ..))
          have hkn := sloc n0 (List.mem_cons_of_mem _ (List.mem_cons_self ..))
          refine wpAny_execs_cons (plainObj_wpAny_Assign_Attribute (ESX.ldL hn4 hmn0 (ESX.ldL hn4 hself ?_ ek (by rw [kos]; exact (sloc "self" (List.mem_cons_self ..)).1) (by decide +kernel)) ek (by rw [kos]; exact hkn.1) hkn.2) rfl)
          refine set_plain X4 (ox := excO C t4) (od := none) ⟨hx4, rfl, rfl, trivial⟩ T.sa ?_
          refine exc_osa X4 hx4 hcl (show refsVE (.ref C :: bm) = true from hbm) rfl (T.no n0 (List.mem_cons_self ..)) (fun h5 tk5 dx k5 dn dne hx5 hn5 => ?_)
          have hL4 : s.heap.objs.size < h4.objs.size := by rw [← eL]; exact hn4.lt
          have hdL : env.locals ≠ dx := by rw [eL]; exact Nat.ne_of_lt (Nat.lt_of_lt_of_le hL4 dn)
          have kb5 : ∀ b o, base.get? b = some o → h5.get? b = some o := fun b o e => k5 b o (fun z => by rw [z, hbx] at e; cases e) (kb4 b o e)
          refine sup_more T M.kin (mg := mg) (x := x) (dx := dx) (t1 := t4) (m := fun y => ((("self" : Str) :: n0 :: ns').zip (Value.ref x :: u0 :: us)).reverse.lookup y) ek hbx (fun o e => absurd (Heap.lt_size (kb4 _ _ e)) (Nat.not_lt.mpr dn)) ⟨hself, by rw [kos]; exact (sloc "self" (List.mem_cons_self ..)).1⟩ r ns' us [(n0, u0)] _ _ hasg' (fun y hy => List.mem_cons_of_mem _ hy) (by simpa using hus.symm)
            (fun y v hv => ⟨hm y v (List.mem_cons_of_mem _ (List.mem_cons_of_mem _ hv)), by rw [kos]; exact (sloc y (List.mem_cons_of_mem _ (List.mem_cons_of_mem _ (List.of_mem_zip hv).1))).1, (sloc y (List.mem_cons_of_mem _ (List.mem_cons_of_mem _ (List.of_mem_zip hv).1))).2⟩)
            (by rw [eL]; exact hLx) hdL kb5 (hn4.at fun o e => k5 _ _ (by rw [eL]; exact hLx) e) hx5 hn5 (fun f => ?_) (by simp at hn900 ⊢; omega) (fun h6 tk6 mB k6 hx6 hd6 hB => ?_)
          · rw [lk_put]; rfl
          · refine hq h6 tk6 dx t4 mB (fun b o hb e => ?_) hx6 (Nat.le_trans (Nat.le_of_lt hL4) dn) dne hd6 (fun f => ?_)
            · have hb4 := up4 b o hb (hk₁ b o e)
              exact k6 b o hb (Nat.ne_of_lt (Nat.lt_of_lt_of_le (Heap.lt_size hb4) dn)) (k5 b o hb hb4)
            · rw [hB f]; simp
end
end MP
set_option maxHeartbeats 4000000
/-! MiniPy: raising such an error. -/
namespace MP
open PySem PySem.Spec PyProof.Rows L2
/-- C(..): its fields by their names -/
def tMkX (C : Addr) (ns : List Str) (ta : TA) : L2.St → Hp → XK → Prop := fun σ H Q => ta σ H fun vs H1 => vs.length = ns.length ∧ ∀ d, H1 d = none → Q (.ref C) (some d) (upd H1 d (.xd (ns.zip vs)))
theorem zip_rel {ns : List Str} : ∀ {vs : List V} {us : List Value}, Vals vs us → ∀ f, RelO ((ns.zip vs).lookup f) ((ns.zip us).lookup f) := by
  induction ns with
  | nil => intro vs us _ f; exact True.intro
  | cons n ns ih =>
    intro vs us r f
    cases r with
    | nil => exact True.intro
    | cons rv rr =>
      rw [List.zip_cons_cons, List.zip_cons_cons, lk_put, lk_put]
      by_cases h : f = n
      · rw [if_pos h, if_pos h]; exact rv
      · rw [if_neg h, if_neg h]; exact ih rr f
theorem rev_lookup {α : Type} {l : List (Str × α)} (nd : (l.map (·.1)).Nodup) (f : Str) : l.reverse.lookup f = l.lookup f := by
  cases h : l.lookup f with
  | some v => exact lookup_rev nd (PySem.mem_of_lookup h)
  | none =>
    cases h2 : l.reverse.lookup f with
    | none => rfl
    | some v =>
      have m := List.mem_reverse.mp (PySem.mem_of_lookup h2)
      have : ∃ u, l.lookup f = some u := by
        clear h h2 nd
        induction l with
        | nil => cases m
        | cons a l ih =>
          obtain ⟨n, y⟩ := a
          rw [lk_put]
          by_cases q : f = n
          · rw [if_pos q]; exact ⟨_, rfl⟩
          · rw [if_neg q]
            rcases List.mem_cons.mp m with m | m
            · cases m; exact absurd rfl q
            · exact ih m
      obtain ⟨u, hu⟩ := this
      rw [h] at hu; cases hu
section
variable {X : Cx} {C D fI : Addr} {st : Stmt} {ns : List Str} {e : Expr} {es : List Expr} {ta : TA} {x : Str} {p pos : Pos}
theorem pmk_sup (T : SupTxt X.prog X.K X.mg C D fI st ns) (hz : ns.length ≤ 900) (hr : X.A.depth + 1 < recursionLimit) (hg : Gl X x) (hm : X.mg x = some (.ref C)) (ha : PA X (e :: es) ta)
    (hdb : (x == ("__debug__" : Str)) = false) (he : starEach (e :: es) X.env = (false, eval e X.env) :: starEach es X.env) (hpl : (backTo pos (starEach es X.env)).any (·.1) = false) :
    PMk X (.Call (.Name x p) (e :: es) [] pos) (tMkX C ns ta) := by
  intro pins s σ H Q I h
  obtain ⟨nm, q, N, bs, bm, sn, sub, ab, col, dd, k0, k1, k2, k3, k5, hC, hbm⟩ := T.cls
  refine wpAny_Call_Name_kw (ld_glob I hg hm ?_ hdb)
  refine PySem.W.callWith_K (h₀ := X.base) I.ok.mod.kin T.kC (thn (ha.run pos pins s σ H _ I h) fun us s1 ⟨vs, H1, I1, r1, hl, q1⟩ => ⟨I1.kIn, ?_⟩) he hpl
  show wpAny _ _ (call (.ref C) us) _ _ _
  have hus : us.length = ns.length := by rw [← r1.length]; exact hl
  have hbk := I1.bk
  obtain ⟨hp, g, dr, tk, os⟩ := s1
  have keep0 : ∀ b o, hp.get? b = some o → ((hp.push (PySem.W.kdv_tup us)).push (PySem.HandSPX.excO C hp.objs.size)).get? b = some o := fun b o e => Heap.get?_push_of_some _ (Heap.get?_push_of_some _ e)
  have hget : ((hp.push (PySem.W.kdv_tup us)).push (PySem.HandSPX.excO C hp.objs.size)).get? (hp.objs.size + 1) = some (PySem.HandSPX.excO C hp.objs.size) := by heap_get
  have hbx : X.base.get? (hp.objs.size + 1) = none := by
    cases z : X.base.get? (hp.objs.size + 1) with
    | none => rfl
    | some o => exact absurd (Nat.lt_of_succ_lt (Heap.lt_size (hbk _ _ z))) (Nat.lt_irrefl _)
  have hsz : us.length ≤ sizeLine := by rw [hus, sizeLine_eq]; omega
  refine wpAny_call (PySem.HandSPX.call_own F.excBase_ValueError (fun Y => PySem.HandSPX.refsVE_contains Y bm hbm) (I1.kIn _ _ hC) (PySem.W.looks_findIn I1.kIn T.iC) (fun self => PySem.W.bind_fn I1.kIn self T.tI) hsz ?_)
  refine sup_init T I1.ok.mod (fun b o e => keep0 b o (hbk b o e)) hget hbx hus hz (by rw [make_depth]; exact hr) fun h' tk' d t1 mA k' hx dn dne hns hA => ⟨rfl, ?_⟩
  have old : ∀ b o, hp.get? b = some o → h'.get? b = some o := fun b o e => k' b o (Nat.ne_of_lt (Nat.lt_succ_of_lt (Heap.lt_size e))) (keep0 b o e)
  obtain ⟨G', g1, g2⟩ := restrict h' fun b => decide (b ≠ hp.objs.size + 1)
  have gk : ∀ b, b ≠ hp.objs.size + 1 → G'.get? b = h'.get? b := fun b hb => g1 b (decide_eq_true hb)
  have ge : G'.get? (hp.objs.size + 1) = none := g2 _ (by simp)
  have old' : ∀ b o, hp.get? b = some o → G'.get? b = some o := fun b o q => (gk b (Nat.ne_of_lt (Nat.lt_succ_of_lt (Heap.lt_size q)))).trans (old b o q)
  have dbig : hp.objs.size ≤ d := by
    have z : (((hp.push (PySem.W.kdv_tup us)).push (PySem.HandSPX.excO C hp.objs.size)).objs.size) ≤ d := dn
    rw [Heap.size_push, Heap.size_push] at z
    omega
  have ob : ObjOk X.prog X.w (upd H1 d (.xd (ns.zip vs))) G' d (.xd (ns.zip vs)) :=
    ⟨mA, hns.at (fun o q => (gk d dne).trans q), fun f => by
      rw [hA f, rev_lookup (by rw [List.map_fst_zip (by omega)]; exact T.nd.1)]
      exact zip_rel r1 f⟩
  have J : Inv X pins σ (upd H1 d (.xd (ns.zip vs))) ⟨G', g, dr, tk', os⟩ := I1.laid (t' := tk') old' dbig ob
  refine ⟨hp.objs.size + 1, _, _, ⟨G', g, dr, tk', os⟩, _, .ref C, some d, rfl, J, fun b o q => ?_, ge, hx, ⟨rfl, rfl⟩, rfl, rfl, ?_, rfl, I1.bare, raises_own T.exC T.tyC, q1 d (I1.hok.fresh dbig)⟩
  · by_cases hb : b = hp.objs.size + 1
    · have q' : G'.get? b = some o := q
      rw [hb, ge] at q'; cases q'
    · exact (gk b hb).symm.trans q
  · rw [upd_ne (Ne.symm dne)]
    exact I1.hok.fresh (Nat.le_succ _)
end
end MP
set_option maxHeartbeats 4000000
/-! MiniPy: isinstance of the error that a suite holds, its dict laid. -/
namespace MP
open PySem PySem.Spec PyProof.Rows L2
/-- what the written part says of the class, so that isinstance asks its errors rightly -/
structure ExIs (K : PySem.W.Frag) (C : Addr) : Prop where
  cl : (PySem.W.clsIn K C).isSome = true
  ga : PySem.W.findIn K (.ref C) "__getattribute__" = some (some (.builtin "BaseException.__getattribute__"))
  gt : PySem.W.findIn K (.ref C) "__getattr__" = some none
  sub : PySem.W.subIn K (.ref C) (.type "BaseException") = some true
  ha : PySem.W.findIn K (.ref C) "__class__" = some (some (.builtin "object.__class__"))
  hn : PySem.W.specialIn K (.builtin "object.__class__") "__get__" = some (some (.builtin "getset_descriptor.__get__"))
  ht : PySem.W.takesIn K (.builtin "object.__class__") = some true
  hm : PySem.W.mroIn K C (.type "object") = some true
  hd : PySem.W.hasDictIn K C = true
def rIsX (K : PySem.W.Frag) (C a dd : Addr) : List V → Hp → VK → Prop := fun xs H Q => (∃ fs, H dd = some (.xd fs)) ∧
  ((∃ c u b, xs = [.ref a, c] ∧ ClsV c u ∧ PySem.W.kitOne K (.ref C) u = some b ∧ Q (.bl b) H) ∨
    ∃ (tp : Addr) (cs : List V) (us : List Value) (b : Bool), xs = [.ref a, .ref tp] ∧ H tp = some (.tup cs) ∧ Paired ClsV cs us ∧ PySem.W.kitAny K (.ref C) us = some b ∧ Q (.bl b) H)
theorem call_isX {X : Cx} {a C dd : Addr} {oe : Obj} {pn : List (Addr × Obj)} (T : ExIs X.K C) (hz : Zc (.ref C) (some dd) oe) (hf : ∃ vs, oe.data = .fields vs) : CallR (X.suite a ((a, oe) :: pn)) (.builtin "isinstance") (rIsX X.K C a dd) := by
  intro pins s σ H xs us Q I r h
  obtain ⟨⟨fs, hdd⟩, h⟩ := h
  obtain ⟨hget, _⟩ := I.pin (a, oe) (List.mem_append.mpr (.inl List.mem_cons_self))
  obtain ⟨vs, hv⟩ := hf
  obtain ⟨mA, ⟨od, e1, e2, hod, e4⟩, _⟩ := (show ObjOk X.prog X.w H s.heap dd (.xd fs) from I.hok dd _ hdd)
  have J : PySem.W.InstAt s.heap a oe C (some od) := by
    obtain ⟨oc, o2, oda, osl⟩ := oe
    obtain ⟨h1, h2⟩ := hz
    dsimp only at h1 h2 hv
    subst h1 hv
    obtain ⟨rfl, _⟩ := h2
    exact ⟨hget, rfl, rfl, hod⟩
  have Z := PySem.W.kitx_exc (x := a) (od := some od) (ox := oe) T.cl T.ga T.gt T.sub T.ha T.hn T.ht T.hm
  rcases h with ⟨c, u, b, rfl, hc, e, q⟩ | ⟨tp, cs, ws, b, rfl, hT, k, e, q⟩
  · cases r with
    | cons rx rr =>
      cases rr with
      | cons rt rr =>
        cases rr
        cases rx
        have ec := hc.eq rt
        subst ec
        exact PySem.W.kia_one Z I.kIn J e (fun z => nomatch z) fun tk => ⟨.bl b, H, I.tok tk, rfl, q⟩
  · cases r with
    | cons rx rr =>
      cases rr with
      | cons rt rr =>
        cases rr
        cases rx
        cases rt
        obtain ⟨_, its, rv, o, h1, h2, n, h3⟩ := (show ObjOk X.prog X.w H s.heap tp (.tup cs) from I.hok tp _ hT)
        have e3 := ClsV.all k rv
        subst e3
        obtain ⟨oc, o2, dt, sl⟩ := o
        simp only at h2 h3
        subst h2 h3
        exact PySem.W.kia_tup Z I.kIn J h1 e (fun z => nomatch z) fun tk => ⟨.bl b, H, I.tok tk, rfl, q⟩
end MP
set_option maxHeartbeats 2000000
/-! MiniPy: defs that are called within an except suite and neither raise nor walk. -/
namespace MP
open PySem PySem.Spec PyProof.Rows L2
/-- the promise of a def wherever it is called -/
structure FnW (P : Program) (w : World) (K : PySem.W.Frag) (mg : Str → Option Value) (base : Heap) (CX : CXT) (k : Nat) (f : Addr) (fd : FuncData) (ps : List Str) (sp : Sp) : Prop where
  len : ∀ vs H Q E, sp vs H Q E → vs.length = ps.length
  run : ∀ (A : Around) (outer : List PySem.Env) (s : Shared) (H : Hp) (args : Args) (us : List Value) (vs : List V) (Q : VK) (E : XK), L2H.RoomH k A → Env0 P w K mg base A outer s H → BindsTo s fd args (ps.zip us) → Vals vs us → sp vs H Q E →
    codeAny (model P w) A (.call (.ref f) args) (CR CX outer P w H s Q E) s
/-- its body's context -/
def cxW (CX : CXT) (P : Program) (w : World) (K : PySem.W.Frag) (mg : Str → Option Value) (base : Heap) (N : List Str) (qual : Str) (scope : Scope) (f : Addr) (cd : Value) (A : Around) (outer : List PySem.Env) (s : Shared) (H : Hp) (E : XK) : Cx :=
  { cxOf CX P w K mg base N qual scope f cd A outer s H E with calm := false }
theorem ok_hot {X Z : Cx} (ok : X.Ok) (h : Z = { X with A := Z.A, calm := false, xe := Z.xe }) (hf : Z.A.frames = X.A.frames) : Z.Ok := by
  rw [h] at hf ⊢
  exact ⟨ok.mod, ok.kind, ok.glob, ok.blt, ok.above, ok.inj, ok.has, ok.cab, (fun z => absurd (show false = true from z) Bool.false_ne_true), hf.trans ok.frames, ok.stk, ok.exf, ok.bs, ok.bsz, ok.noex, ok.exfs, ok.funs, ok.frf⟩
theorem inv_hot {X Z : Cx} {pins : List (Addr × Obj)} {σ : L2.St} {H : Hp} {s : Shared} (I : Inv X pins σ H s) (h : Z = { X with A := Z.A, calm := false, xe := Z.xe }) (hf : Z.A.frames = X.A.frames) : Inv Z pins σ H s := by
  have okZ := ok_hot I.ok h hf
  rw [h] at okZ ⊢
  exact ⟨okZ, I.os, I.bare, I.base, I.loc, I.cell, I.free, I.freeC, I.pin, I.hok, I.len⟩
section
variable {P : Program} {w : World} {K : PySem.W.Frag} {mg : Str → Option Value} {base : Heap} {CX : CXT} {k : Nat} {f : Addr} {sp : Sp} {N ps : List Str}
theorem fn_ofW {name qual : Str} {params : Arguments} {body : List Stmt} {scope : Scope} {dV kV doc pm cdv ct oc : Value} {an od : Option Addr} {osl : Array (Option Value)}
    (lk : K.lookup f = some ⟨oc, od, .func (PySem.W.fnOf name qual params body scope dV kV doc pm an cdv ct), osl⟩) (hcd : PySem.W.codeIn K cdv qual = true) (S : FnScope N ps scope) (len : ∀ vs H Q E, sp vs H Q E → vs.length = ps.length)
    (hbody : ∀ (A : Around) (outer : List PySem.Env) (s : Shared) (H : Hp) (vs : List V) (Q : VK) (E : XK), L2H.RoomH k (A.deeper (envOfC qual scope s.heap.objs.size f cdv)) → sp vs H Q E →
      ∃ t, PSs (cxW CX P w K mg base N qual scope f cdv A outer s H E) body t ∧ t { nx := fun _ H' => Q .non H', rt := Q } (L2.start N vs) H) :
    FnW P w K mg base CX (k + 1) f (PySem.W.fnOf name qual params body scope dV kV doc pm an cdv ct) ps sp := by
  refine ⟨len, fun A outer s H args us vs Q E hr e0 hb r hsp => ?_⟩
  have hlen := len _ _ _ _ hsp
  have kin : K.In s.heap := e0.mod.kin.keeps fun b o e => (e0.bs b o e).1
  have nolim : s.heap.NoLimit := e0.mod.nolimit.keeps fun b o e => (e0.bs b o e).1
  have kinds : ∀ y ∈ ps.zip us, scope.names.lookup y.1 = some .local ∨ (scope.names.lookup y.1 = some .cell ∧ ((cellsFrom (s.heap.objs.size + 1) scope.names []).lookup y.1).isSome = true) := fun ⟨n, v⟩ hy =>
    (S.par n (List.of_mem_zip hy).1).elim .inl fun q => .inr ⟨q, PySem.W.cellsFrom_some _ _ _ (.inl q)⟩
  refine codeAny_call_function hr.depth (kin _ _ lk) rfl S.co S.gen rfl (PySem.W.codeRec_of kin hcd) (hb _ _ _ _ ?_)
  refine wpAny_newFunctionEnv_cells S.kind kinds fun env he s1 x => ?_
  subst he
  refine ⟨nolim.keeps x.toInCall.keep, codeAny_func ?_⟩
  obtain ⟨t, ht, hq⟩ := hbody A outer s H vs Q E (hr.deeper _) hsp
  have e1 : Env0 P w K mg base { A with handled := none } outer s H := ⟨e0.frames, e0.mod, e0.bs, e0.bsz, e0.funs, e0.frf, e0.hok, e0.bare⟩
  have I0 : Inv (cxOf CX P w K mg base N qual scope f cdv { A with handled := none } outer s H E) [] (L2.start N vs) H s1 := inv_start S rfl e1 hlen r x
  have I1 : Inv (cxW CX P w K mg base N qual scope f cdv A outer s H E) [] (L2.start N vs) H s1 := inv_hot I0 rfl rfl
  refine wpAny_mono (ht.run [] s1 (L2.start N vs) H _ I1 hq) (fun fl s' out => ?_) fun e s' out => out
  have fin : ∀ {τ : L2.St} {J : Hp} {v : V} {u : Value}, Inv (cxW CX P w K mg base N qual scope f cdv A outer s H E) [] τ J s' → RelV v u → Q v J → CE outer P w H s Q u s' := fun {τ J v u} inv rv q => ⟨v, J, inv.os, inv.bare, inv.base, inv.hok, rv, q⟩
  cases fl with
  | ret u => obtain ⟨v, τ, J, inv, rv, q⟩ := out; exact fin inv rv q
  | next => obtain ⟨τ, J, inv, q⟩ := out; exact fin (v := V.non) (u := Value.none) inv rfl q
  | brk => obtain ⟨_, _, _, q⟩ := out; exact False.elim q
  | cont => obtain ⟨_, _, _, q⟩ := out; exact False.elim q
theorem Fun.okW {x qual : Str} {st : Stmt} {fd : FuncData} (F : L2.Fun K x qual st f fd) (S : FnScope N ps (defScope st)) (len : ∀ vs H Q E, sp vs H Q E → vs.length = ps.length)
    (hbody : ∀ (cdv : Value) (A : Around) (outer : List PySem.Env) (s : Shared) (H : Hp) (vs : List V) (Q : VK) (E : XK), L2H.RoomH k (A.deeper (envOfC qual (defScope st) s.heap.objs.size f cdv)) → sp vs H Q E →
      ∃ t, PSs (cxW CX P w K mg base N qual (defScope st) f cdv A outer s H E) (defBody st) t ∧ t { nx := fun _ H' => Q .non H', rt := Q } (L2.start N vs) H) : FnW P w K mg base CX (k + 1) f fd ps sp := by
  obtain ⟨oc, od, kV, doc, pm, an, cdv, ct, osl, rfl, lk, hcd⟩ := F.ex
  exact fn_ofW lk hcd S len fun A outer s H vs Q E hr hsp => hbody cdv A outer s H vs Q E hr hsp
end
section
variable {X : Cx} {CX : CXT} {k : Nat} {f : Addr} {fd : FuncData} {ps : List Str} {sp : Sp} {E : L2.St → XK} {x : Str} {q pos : Pos} {e : Expr} {es : List Expr} {t : TA}
theorem pe_callW (F : FnW X.prog X.w X.K X.mg X.base CX k f fd ps sp) (hr : L2H.RoomH k X.A) (hg : Gl X x) (hm : X.mg x = some (.ref f)) (hk : PySem.W.keepIn X.K (.ref f) = true) (hb : Binds X.K fd ps []) (hx : ∀ σ, PassesAt CX X σ (E σ))
    (ha : PA X (e :: es) t) (hdb : (x == ("__debug__" : Str)) = false) (he : starEach (e :: es) X.env = (false, eval e X.env) :: starEach es X.env) (hpl : (backTo pos (starEach es X.env)).any (·.1) = false) :
    PE X (.Call (.Name x q) (e :: es) [] pos) (tCallS sp E t) := by
  refine ⟨fun pins s σ H Q I h => wpAny_Call_Name_kw (ld_glob I hg hm ?_ hdb)⟩
  refine PySem.W.callWith_K (h₀ := X.base) I.ok.mod.kin hk (thn (ha.run pos pins s σ H _ I h) fun us s1 ⟨vs, H1, I1, r, hs⟩ => ⟨I1.kIn, ?_⟩) he hpl
  have hs : sp vs H1 Q (E σ) := hs
  have hl : (us ++ []).length = ps.length := by rw [List.append_nil, ← r.length]; exact F.len _ _ _ _ hs
  have bd := hb s1 us I1.kIn hl
  rw [List.append_nil] at bd
  refine wpAny_call (codeAny_mono (F.run X.A X.stack s1 H1 ⟨us, []⟩ us vs Q (E σ) hr I1.env0 bd r hs) fun res s' hq => ?_)
  cases res with
  | error er => exact hx σ pins H1 s1 er s' I1 hq
  | ok fl =>
    cases fl with
    | ret u => exact I1.after hq
    | next => exact False.elim hq
    | brk => exact False.elim hq
    | cont => exact False.elim hq
end
end MP
/-! MiniPy: expressions. -/
namespace MP
open PySem L2 PySem.Spec PyProof.Rows

/-- what a def promises: what its mirror gives -/
def spOf (Y : Fx) (ar : Nat) (m : Mir) : Sp := fun vs H Q E => vs.length = ar ∧ ∃ F μ st args, Good Y.kf F μ st H ∧ RepL Y.kf F μ st.length args vs ∧ RP Y F μ st H (m args st) (kV Y Q) E

/-- the error classes: how they are made, asked, caught -/
structure XTab (P : Program) (Y : Fx) (C : Cfg) : Prop where
  made : ∀ c ns, Y.Xn c = some ns → ∃ (Ca Da fI : Addr) (st : Stmt), Y.mg c = some (.ref Ca) ∧ SupTxt P Y.K Y.mg Ca Da fI st ns ∧ ns.length ≤ 900 ∧ ExIs Y.K Ca
  xn : ∀ c ns, Y.Xn c = some ns → (c, ns) ∈ C.xn
  nx : ∀ c ns, C.xn.lookup c = some ns → Y.Xn c = some ns
  sub : ∀ y D, C.sub.lookup y = some D → ∃ (v : V) (u : Value), ClsV v u ∧ RelV v u ∧ (Y.mg y = some u ∨ (Y.mg y = none ∧ bootBuiltins y = some u ∧ y ≠ "__name__")) ∧
    ∀ c ns cls, Y.Xn c = some ns → Y.mg c = some cls → PySem.W.exmOne Y.K cls u = some (D.contains c) ∧ PySem.W.kitOne Y.K cls u = some (D.contains c)
structure Ctx (X : Cx) (Y : Fx) (Φ : Tab) (G : Str → Option Val) (C : Cfg) (ns : Names) (k : Nat) : Prop where
  K : X.K = Y.K
  mg : X.mg = Y.mg
  N : X.N = C.N
  nd : X.N.Nodup
  sc : X.env.scope.names = ns
  kind : X.env.scope.kind = .function
  calm : C.calm = true → X.calm = true ∧ C.hot = false
  hot : Y.hot = C.hot
  nN : Y.nN = C.N.length
  hotx : C.hot = true → Y.nN = C.N.length ∧ Y.cI = C.eI ∧ Y.eD = C.eD
  suite : C.hot = true → ∃ (X0 : Cx) (oe : Obj) (pn : List (Addr × Obj)), X = X0.suite Y.cA ((Y.cA, oe) :: pn) ∧ Zc Y.cC Y.cD oe ∧ ∃ vs, oe.data = .fields vs
  tb : XTab X.prog Y C
  units : X.A.units + 64 < cLine
  depth : X.A.depth + 1 < recursionLimit
  fn : ∀ x, x ∈ C.fs → ∃ m f fd ps, Φ x = some m ∧ (∀ args st, args.length ≠ List.length ps → m args st = .stuck) ∧ X.mg x = some (.ref f) ∧ PySem.W.keepIn X.K (.ref f) = true ∧ Binds X.K fd ps [] ∧
    (C.calm = true → Room k X.A ∧ FnOk X.prog X.w X.K X.mg X.base (L2.CX X.prog X.w) k f fd ps (spOf Y ps.length m)) ∧ (C.calm = false → L2H.RoomH k X.A ∧ FnW X.prog X.w X.K X.mg X.base (L2.CX X.prog X.w) k f fd ps (spOf Y ps.length m))
  hfn : C.calm = true → ∀ x, x ∈ C.hfs → ∃ m f fd ps, Φ x = some m ∧ (∀ args st, args.length ≠ List.length ps → m args st = .stuck) ∧ X.mg x = some (.ref f) ∧ PySem.W.keepIn X.K (.ref f) = true ∧ Binds X.K fd ps [] ∧
    L2H.RoomH k X.A ∧ FnW X.prog X.w X.K X.mg X.base (L2.CX X.prog X.w) k f fd ps (spOf Y ps.length m)
  gl : ∀ x v, G x = some v → ∃ (w : V) (u : Value), X.mg x = some u ∧ RelV w u ∧ ∀ F μ n, RepV Y.kf F μ n v w
  bt : ∀ x, x ∈ C.bs → X.mg x = none
  cls : ∀ c l, C.cs.lookup c = some l → ∃ Ca, X.mg c = some (.ref Ca) ∧ Cls X.K Ca ∧ ∀ f ∈ l, NoAttr X.K Ca f
  nw : C.calm = true → ∀ c, c ∈ C.nw → ∃ m f fd ps Ca k', Φ (mName c "__init__") = some m ∧ (∀ args st, args.length ≠ List.length ps → m args st = .stuck) ∧ X.mg c = some (.ref Ca) ∧ Mk X.K Ca f ∧ Binds X.K fd ps [] ∧
    Room (k' + 1) X.A ∧ FnOk X.prog X.w X.K X.mg X.base (L2.CX X.prog X.w) k' f fd ps (spOf Y ps.length m)
  mt : C.calm = true → ∀ c n, (c, n) ∈ C.ms → ∃ m f fd ps Ca, Φ (mName c n) = some m ∧ (∀ args st, args.length ≠ List.length ps → m args st = .stuck) ∧ X.mg c = some (.ref Ca) ∧ Cls X.K Ca ∧ Meth X.K Ca n f ∧ Binds X.K fd ps [] ∧
    Room k X.A ∧ FnOk X.prog X.w X.K X.mg X.base (L2.CX X.prog X.w) k f fd ps (spOf Y ps.length m)

def at_ (W : WX) (σ : L2.St) : XK := fun c d H => W c d σ H
section
variable (Y : Fx) (Φ : Tab) (G : Str → Option Val) (W : WX)
def tE (e : E) : TE := fun σ H Q => ∃ F μ st env, Good Y.kf F μ st H ∧ EnvOk Y F μ st.length env σ ∧ RP Y F μ st H ((ev Φ G e).v env st) (kV Y Q) (at_ W σ)
def tT (e : E) : TT := fun σ H Q => ∃ F μ st env, Good Y.kf F μ st H ∧ EnvOk Y F μ st.length env σ ∧ RP Y F μ st H ((ev Φ G e).t env st) (kT Q) (at_ W σ)
def tA (es : Es) : TA := fun σ H Q => ∃ F μ st env, Good Y.kf F μ st H ∧ EnvOk Y F μ st.length env σ ∧ RP Y F μ st H (evs Φ G es env st) (kA Y Q) (at_ W σ)
def tBo (k : Bool) (es : Es) : TE := fun σ H Q => ∃ F μ st env, Good Y.kf F μ st H ∧ EnvOk Y F μ st.length env σ ∧ RP Y F μ st H (evBo Φ G k es env st) (kV Y Q) (at_ W σ)
def tBoT (k : Bool) (es : Es) : TT := fun σ H Q => ∃ F μ st env, Good Y.kf F μ st H ∧ EnvOk Y F μ st.length env σ ∧ RP Y F μ st H (evBoT Φ G k es env st) (kT Q) (at_ W σ)
/-- J walks the values vs while F stands -/
structure WalkJ (F : Hp) (J : It) (vs : List V) : Prop where
  go : ∀ i H, Same F H → i < vs.length → J.go i H
  yld : ∀ i H x H', Same F H → i < vs.length → J.yld i H x H' → H' = H ∧ vs[i]? = some x
  stop : ∀ i H, Same F H → i = vs.length → J.stop i H
def kI (R : It → Hp → Prop) : Hp → (Nat → Addr) → Hp → List Val → Store → Prop := fun F μ H xs st => ∀ J vs, RepL Y.kf F μ st.length xs vs → WalkJ F J vs → R J H
def tI (e : E) : TI := fun σ H R => ∃ F μ st env, Good Y.kf F μ st H ∧ EnvOk Y F μ st.length env σ ∧ RP Y F μ st H ((ev Φ G e).i env st) (kI Y R) (at_ W σ)
end

section
variable {X : Cx} {e : Expr}
theorem PEimp {t t' : TE} (h : PE X e t) (i : ∀ σ H Q, t' σ H Q → t σ H Q) : PE X e t' := ⟨fun pins s σ H Q I q => h.run pins s σ H Q I (i σ H Q q)⟩
theorem PTimp {t t' : TT} (h : PT X e t) (i : ∀ σ H Q, t' σ H Q → t σ H Q) : PT X e t' := ⟨fun pins s σ H Q I q => h.run pins s σ H Q I (i σ H Q q)⟩
theorem PWimp {t t' : TT} (h : PW X e t) (i : ∀ σ H Q, t' σ H Q → t σ H Q) : PW X e t' := ⟨fun wh pins s σ H Q I q => h.run wh pins s σ H Q I (i σ H Q q)⟩
theorem PAimp {es : List Expr} {t t' : TA} (h : PA X es t) (i : ∀ σ H Q, t' σ H Q → t σ H Q) : PA X es t' := ⟨fun pos pins s σ H Q I q => h.run pos pins s σ H Q I (i σ H Q q)⟩
theorem PIimp {tg : Expr} {t t' : TI} (h : PI X tg e t) (i : ∀ σ H R, t' σ H R → t σ H R) : PI X tg e t' := ⟨fun pins s σ H R I q => h.run pins s σ H R I (i σ H R q)⟩
end

/-! one after another -/
section
variable {α : Type} {Y : Fx} {Φ : Tab} {G : Str → Option Val} {W : WX} {F H : Hp} {μ : Nat → Addr} {st : Store} {env : Env} {σ : L2.St} {k : Hp → (Nat → Addr) → Hp → α → Store → Prop} {W' : XK}
theorem goE {a : E} {f : Val × Store → R (α × Store)} {Q : VK} (g : Good Y.kf F μ st H) (en : EnvOk Y F μ st.length env σ) (h : RP Y F μ st H (((ev Φ G a).v env st).bind f) k (at_ W σ))
    (n : ∀ F1 μ1 H1 x st1 w, Ext F μ st H F1 μ1 st1 H1 → Good Y.kf F1 μ1 st1 H1 → EnvOk Y F1 μ1 st1.length env σ → RepV Y.kf F1 μ1 st1.length x w → RP Y F1 μ1 st1 H1 (f (x, st1)) k (at_ W σ) → Q w H1) : tE Y Φ G W a σ H Q :=
  ⟨F, μ, st, env, g, en, h.bind.impE fun F1 μ1 H1 x st1 _ e1 g1 h1 w r => n F1 μ1 H1 x st1 w e1 g1 (e1.env en) r h1⟩
theorem goT {a : E} {f : Bool × Store → R (α × Store)} {Q : Bool → Hp → Prop} (g : Good Y.kf F μ st H) (en : EnvOk Y F μ st.length env σ) (h : RP Y F μ st H (((ev Φ G a).t env st).bind f) k (at_ W σ))
    (n : ∀ F1 μ1 H1 x st1, Ext F μ st H F1 μ1 st1 H1 → Good Y.kf F1 μ1 st1 H1 → EnvOk Y F1 μ1 st1.length env σ → RP Y F1 μ1 st1 H1 (f (x, st1)) k (at_ W σ) → Q x H1) : tT Y Φ G W a σ H Q :=
  ⟨F, μ, st, env, g, en, h.bind.impE fun F1 μ1 H1 x st1 _ e1 g1 h1 => n F1 μ1 H1 x st1 e1 g1 (e1.env en) h1⟩
theorem goA {es : Es} {f : List Val × Store → R (α × Store)} {Q : List V → Hp → Prop} (g : Good Y.kf F μ st H) (en : EnvOk Y F μ st.length env σ) (h : RP Y F μ st H ((evs Φ G es env st).bind f) k (at_ W σ))
    (n : ∀ F1 μ1 H1 x st1 w, Ext F μ st H F1 μ1 st1 H1 → Good Y.kf F1 μ1 st1 H1 → EnvOk Y F1 μ1 st1.length env σ → RepL Y.kf F1 μ1 st1.length x w → RP Y F1 μ1 st1 H1 (f (x, st1)) k (at_ W σ) → Q w H1) : tA Y Φ G W es σ H Q :=
  ⟨F, μ, st, env, g, en, h.bind.impE fun F1 μ1 H1 x st1 _ e1 g1 h1 w r => n F1 μ1 H1 x st1 w e1 g1 (e1.env en) r h1⟩
end

/-! ### loops over what a walk gives -/
theorem walk_list {K : PySem.W.Frag} {F : Hp} {a : Addr} {vs : List V} (h : SqL K F a vs) : WalkJ F (Itl K a) vs where
  go := fun i H sm hi => ⟨vs, vs[i], sqL_mono sm h, by simp [hi]⟩
  yld := fun i H x H' sm hi ⟨e, q⟩ => ⟨e, q vs (sqL_mono sm h)⟩
  stop := fun i H sm hi => ⟨vs, sqL_mono sm h, by omega⟩
theorem walk_tup {K : PySem.W.Frag} {F : Hp} {a : Addr} {vs : List V} (h : SqT K F a vs) : WalkJ F (Itt K a) vs where
  go := fun i H sm hi => ⟨vs, vs[i], sqT_mono sm h, by simp [hi]⟩
  yld := fun i H x H' sm hi ⟨e, q⟩ => ⟨e, q vs (sqT_mono sm h)⟩
  stop := fun i H sm hi => ⟨vs, sqT_mono sm h, by omega⟩
def rangeV (lo : Int) (n : Nat) : List V := (List.range n).map fun i => V.int (lo + (i : Nat))
theorem rangeV_len (lo : Int) (n : Nat) : (rangeV lo n).length = n := by unfold rangeV; simp
theorem rangeV_get {lo : Int} {n i : Nat} (h : i < n) : (rangeV lo n)[i]? = some (.int (lo + (i : Nat))) := by unfold rangeV; simp [h]
theorem walk_rng (F : Hp) (lo : Int) (n : Nat) : WalkJ F (Itr lo n) (rangeV lo n) where
  go := fun i H sm hi => by rw [rangeV_len] at hi; exact hi
  yld := fun i H x H' sm hi ⟨e, q⟩ => ⟨e, by rw [rangeV_len] at hi; rw [rangeV_get hi, q]⟩
  stop := fun i H sm hi => by rw [rangeV_len] at hi; exact Nat.le_of_eq hi.symm
theorem repL_range {K : Kf} {F : Hp} {μ : Nat → Addr} {m : Nat} (lo : Int) (n : Nat) : RepL K F μ m (rangeL lo n) (rangeV lo n) := by
  have : rangeL lo n = ((List.range n).map fun i => lo + (i : Nat)).map Val.int := by unfold rangeL; simp
  rw [this]
  have e : rangeV lo n = ((List.range n).map fun i => lo + (i : Nat)).map V.int := by unfold rangeV; simp
  rw [e]
  exact repL_ints _
def revV (lo : Int) (n : Nat) : List V := (List.range n).map fun i => V.int (lo - (i : Nat))
theorem revV_len (lo : Int) (n : Nat) : (revV lo n).length = n := by unfold revV; simp
theorem walk_rev (F : Hp) (lo : Int) (n : Nat) : WalkJ F (Itc lo (-1) n) (revV lo n) where
  go := fun i H sm hi => by rw [revV_len] at hi; exact hi
  yld := fun i H x H' sm hi ⟨e, q⟩ => ⟨e, by
    rw [revV_len] at hi
    subst q
    unfold revV
    simp [hi]; omega⟩
  stop := fun i H sm hi => by rw [revV_len] at hi; exact Nat.le_of_eq hi.symm
theorem repL_rev {K : Kf} {F : Hp} {μ : Nat → Addr} {m : Nat} (lo : Int) (n : Nat) : RepL K F μ m ((List.range n).map fun k => Val.int (lo - (k : Nat))) (revV lo n) := by
  have e0 : ((List.range n).map fun k => Val.int (lo - (k : Nat))) = ((List.range n).map fun i => lo - ((i : Nat) : Int)).map Val.int := by simp
  have e : revV lo n = ((List.range n).map fun i => lo - ((i : Nat) : Int)).map V.int := by unfold revV; simp
  rw [e0, e]
  exact repL_ints _
theorem for_walk {F : Hp} {J : It} {vs : List V} (wj : WalkJ F J vs) {g : TG} {tb : TS} {D : Ends} {σ : L2.St} {H : Hp} (Pv : Nat → L2.St → Hp → Prop) (h0 : Pv 0 σ H) (sm : ∀ i σ H, Pv i σ H → Same F H)
    (hs : ∀ i x σ H, vs[i]? = some x → Pv i σ H → g x σ H fun σ2 H2 => tb { D with nx := Pv (i + 1), ct := Pv (i + 1), bk := D.nx } σ2 H2) (hd : ∀ σ H, Pv vs.length σ H → D.nx σ H) :
    ∃ W : Nat → Nat → L2.St → Hp → Prop, (∃ m, W 0 m σ H) ∧ ∀ i m σ H, W i m σ H →
      (J.stop i H ∧ D.nx σ H) ∨ (J.go i H ∧ ∃ N : L2.St → Hp → Prop, (∀ σ' H', N σ' H' → ∃ m', m' < m ∧ W (i + 1) m' σ' H') ∧ ∀ x H', J.yld i H x H' → g x σ H' fun σ2 H2 => tb { D with nx := N, ct := N, bk := D.nx } σ2 H2) := by
  refine ⟨fun i m σ H => m = vs.length - i ∧ i ≤ vs.length ∧ Pv i σ H, ⟨vs.length, by simp, Nat.zero_le _, h0⟩, ?_⟩
  rintro i m σ H ⟨rfl, hi, p⟩
  by_cases hlt : i < vs.length
  · refine .inr ⟨wj.go i H (sm _ _ _ p) hlt, Pv (i + 1), fun σ' H' p' => ⟨vs.length - (i + 1), by omega, rfl, hlt, p'⟩, fun x H' y => ?_⟩
    obtain ⟨e, y2⟩ := wj.yld i H x H' (sm _ _ _ p) hlt y
    subst e
    exact hs i x σ _ y2 p
  · have e : i = vs.length := by omega
    subst e
    exact .inl ⟨wj.stop _ H (sm _ _ _ p) rfl, hd σ H p⟩
/-- .. of a comprehension -/
theorem lc_walk {F : Hp} {J : It} {us : List V} (wj : WalkJ F J us) {g : TG} {tt : TT} {te : TE} {vs : List Nat} {σ : L2.St} {H1 : Hp} {D : Addr} {Qd : Hp → Prop} (Pv : Nat → Hp → Prop) (h0 : Pv 0 (upd H1 D (.lst []))) (sm : ∀ i H, Pv i H → Same F H)
    (hs : ∀ i x H, us[i]? = some x → Pv i H → g x (wipe σ vs) H fun σ2 H2 => wipe σ2 vs = wipe σ vs ∧ tt σ2 H2 fun b H3 =>
      if b = true then te σ2 H3 fun y H4 => ∃ acc, H4 D = some (.lst acc) ∧ acc.length < sizeLine ∧ Pv (i + 1) (upd H4 D (.lst (acc ++ [y]))) else Pv (i + 1) H3) (hd : ∀ H, Pv us.length H → Qd H) :
    ∃ W : Nat → Nat → Hp → Prop, (∃ m, W 0 m (upd H1 D (.lst []))) ∧ ∀ i m H, W i m H →
      (J.stop i H ∧ Qd H) ∨ (J.go i H ∧ ∃ Nx : Hp → Prop, (∀ H', Nx H' → ∃ m', m' < m ∧ W (i + 1) m' H') ∧ ∀ x H', J.yld i H x H' → g x (wipe σ vs) H' fun σ2 H2 => wipe σ2 vs = wipe σ vs ∧ tt σ2 H2 fun b H3 =>
        if b = true then te σ2 H3 fun y H4 => ∃ acc, H4 D = some (.lst acc) ∧ acc.length < sizeLine ∧ Nx (upd H4 D (.lst (acc ++ [y]))) else Nx H3) := by
  refine ⟨fun i m H => m = us.length - i ∧ i ≤ us.length ∧ Pv i H, ⟨us.length, by simp, Nat.zero_le _, h0⟩, ?_⟩
  rintro i m H ⟨rfl, hi, p⟩
  by_cases hlt : i < us.length
  · refine .inr ⟨wj.go i H (sm _ _ p) hlt, Pv (i + 1), fun H' p' => ⟨us.length - (i + 1), by omega, rfl, hlt, p'⟩, fun x H' y => ?_⟩
    obtain ⟨e, y2⟩ := wj.yld i H x H' (sm _ _ p) hlt y
    subst e
    exact hs i x _ y2 p
  · have e : i = us.length := by omega
    subst e
    exact .inl ⟨wj.stop _ H (sm _ _ p) rfl, hd H p⟩

/-- what lies at a, walked while it stays -/
def ItB (b : Bool) (K : PySem.W.Frag) (a : Addr) : It := if b then Itl K a else Itt K a
def SqB (b : Bool) (K : PySem.W.Frag) (H : Hp) (a : Addr) (vs : List V) : Prop := if b = true then SqL K H a vs else SqT K H a vs
theorem walk_b {b : Bool} {K : PySem.W.Frag} {F : Hp} {a : Addr} {vs : List V} (h : SqB b K F a vs) : WalkJ F (ItB b K a) vs := by
  cases b with
  | true => exact walk_list (h : SqL K F a vs)
  | false => exact walk_tup (h : SqT K F a vs)
theorem for_live {J : It} {n : Nat} {g : TG} {tb : TS} {D : Ends} {σ : L2.St} {H : Hp} (Pv : Nat → L2.St → Hp → List V → Prop) {vs0 : List V} (h0 : Pv 0 σ H vs0) (wj : ∀ i σ H vs, Pv i σ H vs → WalkJ H J vs ∧ vs.length = n)
    (hs : ∀ i x vs σ H, vs[i]? = some x → Pv i σ H vs → g x σ H fun σ2 H2 => tb { D with nx := fun σ H => ∃ vs, Pv (i + 1) σ H vs, ct := fun σ H => ∃ vs, Pv (i + 1) σ H vs, bk := D.nx } σ2 H2) (hd : ∀ σ H vs, Pv n σ H vs → D.nx σ H) :
    ∃ W : Nat → Nat → L2.St → Hp → Prop, (∃ m, W 0 m σ H) ∧ ∀ i m σ H, W i m σ H →
      (J.stop i H ∧ D.nx σ H) ∨ (J.go i H ∧ ∃ N : L2.St → Hp → Prop, (∀ σ' H', N σ' H' → ∃ m', m' < m ∧ W (i + 1) m' σ' H') ∧ ∀ x H', J.yld i H x H' → g x σ H' fun σ2 H2 => tb { D with nx := N, ct := N, bk := D.nx } σ2 H2) := by
  refine ⟨fun i m σ H => m = n - i ∧ i ≤ n ∧ ∃ vs, Pv i σ H vs, ⟨n, by simp, Nat.zero_le _, vs0, h0⟩, ?_⟩
  rintro i m σ H ⟨rfl, hi, vs, p⟩
  obtain ⟨w, hl⟩ := wj _ _ _ _ p
  by_cases hlt : i < n
  · refine .inr ⟨w.go i H (Same.refl _) (by omega), fun σ H => ∃ vs, Pv (i + 1) σ H vs, fun σ' H' p' => ⟨n - (i + 1), by omega, rfl, hlt, p'⟩, fun x H' y => ?_⟩
    obtain ⟨e, y2⟩ := w.yld i H x H' (Same.refl _) (by omega) y
    subst e
    exact hs i x vs σ _ y2 p
  · have e : i = n := by omega
    subst e
    exact .inl ⟨w.stop _ H (Same.refl _) hl.symm, hd σ H vs p⟩
theorem lc_live {J : It} {n : Nat} {g : TG} {tt : TT} {te : TE} {vs : List Nat} {σ : L2.St} {H1 : Hp} {D : Addr} {Qd : Hp → Prop} (Pv : Nat → Hp → List V → Prop) {us0 : List V} (h0 : Pv 0 (upd H1 D (.lst [])) us0) (wj : ∀ i H us, Pv i H us → WalkJ H J us ∧ us.length = n)
    (hs : ∀ i x us H, us[i]? = some x → Pv i H us → g x (wipe σ vs) H fun σ2 H2 => wipe σ2 vs = wipe σ vs ∧ tt σ2 H2 fun b H3 =>
      if b = true then te σ2 H3 fun y H4 => ∃ acc, H4 D = some (.lst acc) ∧ acc.length < sizeLine ∧ ∃ us, Pv (i + 1) (upd H4 D (.lst (acc ++ [y]))) us else ∃ us, Pv (i + 1) H3 us) (hd : ∀ H us, Pv n H us → Qd H) :
    ∃ W : Nat → Nat → Hp → Prop, (∃ m, W 0 m (upd H1 D (.lst []))) ∧ ∀ i m H, W i m H →
      (J.stop i H ∧ Qd H) ∨ (J.go i H ∧ ∃ Nx : Hp → Prop, (∀ H', Nx H' → ∃ m', m' < m ∧ W (i + 1) m' H') ∧ ∀ x H', J.yld i H x H' → g x (wipe σ vs) H' fun σ2 H2 => wipe σ2 vs = wipe σ vs ∧ tt σ2 H2 fun b H3 =>
        if b = true then te σ2 H3 fun y H4 => ∃ acc, H4 D = some (.lst acc) ∧ acc.length < sizeLine ∧ Nx (upd H4 D (.lst (acc ++ [y]))) else Nx H3) := by
  refine ⟨fun i m H => m = n - i ∧ i ≤ n ∧ ∃ us, Pv i H us, ⟨n, by simp, Nat.zero_le _, us0, h0⟩, ?_⟩
  rintro i m H ⟨rfl, hi, us, p⟩
  obtain ⟨w, hl⟩ := wj _ _ _ p
  by_cases hlt : i < n
  · refine .inr ⟨w.go i H (Same.refl _) (by omega), fun H => ∃ us, Pv (i + 1) H us, fun H' p' => ⟨n - (i + 1), by omega, rfl, hlt, p'⟩, fun x H' y => ?_⟩
    obtain ⟨e, y2⟩ := w.yld i H x H' (Same.refl _) (by omega) y
    subst e
    exact hs i x us _ y2 p
  · have e : i = n := by omega
    subst e
    exact .inl ⟨w.stop _ H (Same.refl _) hl.symm, hd H us p⟩
/-- a list or a tuple that a value names, walked -/
theorem pi_val {X : Cx} {tg l : Expr} {tl : TE} (hl : PE X l tl) :
    PI X tg l (fun σ H R => tl σ H fun x H1 => ∃ a, x = .ref a ∧ ((∃ xs, SqL X.K H1 a xs ∧ R (Itl X.K a) H1) ∨ (∃ xs, SqT X.K H1 a xs ∧ R (Itt X.K a) H1))) := by
  refine ⟨fun pins s σ H R I h => thn (hl.run pins s σ H _ I h) fun v s1 ⟨x, H1, I1, r1, a, ex, q1⟩ => ?_⟩
  subst ex
  cases r1
  have old : ∀ (ob : Obj) b o, s1.heap.get? b = some o → (s1.heap.push ob).get? b = some o := fun ob b o e => Heap.get?_push_of_some _ e
  have fp : ∀ b ∈ [s1.heap.objs.size], FpOk X pins H1 b := fun b hb => by
    rw [List.mem_singleton.mp hb]
    exact I1.fpOk (Nat.le_refl _) (I1.hok.fresh (Nat.le_refl _))
  rcases q1 with ⟨xs, hq, q⟩ | ⟨xs, hq, q⟩
  · obtain ⟨its, rv, p, hz⟩ := I1.list hq
    exact wpAny_pyIter_list p.isList ⟨_, _, _, _, H1, rfl, I1.kept (t' := s1.toks) (old _), turn_list a _, ⟨_, Heap.get?_push_size _ rfl, rfl, rfl⟩, fp, q⟩
  · obtain ⟨its, rv, p, hz⟩ := I1.tuple hq
    exact wpAny_pyIter_tuple (show s1.heap.IsTuple a its.toArray from p) ⟨_, _, _, _, H1, rfl, I1.kept (t' := s1.toks) (old _), turn_tuple a _, ⟨_, Heap.get?_push_size _ rfl, rfl, rfl⟩, fp, q⟩
theorem pi_seq {X : Cx} {tg l : Expr} {tl : TE} (hl : PE X l tl) :
    PI X tg l (fun σ H R => tl σ H fun x H1 => ∃ a b xs, x = .ref a ∧ SqB b X.K H1 a xs ∧ R (ItB b X.K a) H1) := by
  refine ⟨fun pins s σ H R I h => thn (hl.run pins s σ H _ I h) fun v s1 ⟨x, H1, I1, r1, a, b, xs, ex, hq, q⟩ => ?_⟩
  subst ex
  cases r1
  have old : ∀ (ob : Obj) b o, s1.heap.get? b = some o → (s1.heap.push ob).get? b = some o := fun ob b o e => Heap.get?_push_of_some _ e
  have fp : ∀ b ∈ [s1.heap.objs.size], FpOk X pins H1 b := fun b hb => by
    rw [List.mem_singleton.mp hb]
    exact I1.fpOk (Nat.le_refl _) (I1.hok.fresh (Nat.le_refl _))
  cases b with
  | true =>
    have hq : SqL X.K H1 a xs := hq
    obtain ⟨its, rv, p, hz⟩ := I1.list hq
    exact wpAny_pyIter_list p.isList ⟨_, _, _, _, H1, rfl, I1.kept (t' := s1.toks) (old _), turn_list a _, ⟨_, Heap.get?_push_size _ rfl, rfl, rfl⟩, fp, q⟩
  | false =>
    have hq : SqT X.K H1 a xs := hq
    obtain ⟨its, rv, p, hz⟩ := I1.tuple hq
    exact wpAny_pyIter_tuple (show s1.heap.IsTuple a its.toArray from p) ⟨_, _, _, _, H1, rfl, I1.kept (t' := s1.toks) (old _), turn_tuple a _, ⟨_, Heap.get?_push_size _ rfl, rfl, rfl⟩, fp, q⟩
end MP
/-! MiniPy: an exception that leaves a comprehension's element or test. -/
namespace L2
open PySem PySem.Spec PyProof.Rows
/-- an exception that a call let out: in flight, or noted at the frame L -/
def XF (X : Cx) (L : Addr) (W : WX) (u : Value) (s' : Shared) : Prop :=
  ∃ (a : Addr) (B : Heap) (sI : Shared) (pins : List (Addr × Obj)) (σ : St) (H : Hp) (cls : Value) (d : Option Addr),
    u = .ref a ∧ Inv X pins σ H sI ∧ (∀ b o, sI.heap.get? b = some o → b ∉ frs X.stack → B.get? b = some o) ∧ sI.heap.UpToSlots s'.heap ∧
      (HandSPX.FlyingZ B X.stack a (Zc cls d) s'.heap ∨ HandSPX.HeldZ B X.stack a (Zc cls d) L s'.heap) ∧ H a = none ∧ s'.os = sI.os ∧ AllBare s'.gens ∧ W cls d σ H
structure Tk (X : Cx) (W : WX) : Prop where
  run : ∃ (e0 : Env) (o0 : List Env) (L : Addr), X.stack = e0 :: o0 ∧ e0.frame = some L ∧ X.env.frame = some L ∧ ∀ u s', XF X L W u s' → X.xe u s'
theorem Takes.tk {X : Cx} {W : WX} (t : Takes X W) (hs : X.stack = X.env :: X.outer) (hf : X.env.frame = some X.env.locals) : Tk X W :=
  ⟨X.env, X.outer, X.env.locals, hs, hf, hf, fun u s' ⟨a, B, sI, pins, σ, H, cls, d, e, I, nb, up, sky, na, os, ag, w⟩ => t u s' ⟨a, B, sI, pins, σ, H, cls, d, e, I, nb, up, .inr sky, na, os, ag, w⟩⟩
section
variable {X : Cx} {pins : List (Addr × Obj)} {σ : St} {H : Hp} {sI s s' : Shared} {B : Heap} {W : WX} {E : XK} {L : Addr}
theorem XF.of_call (I : Inv X pins σ H s) (hW : ∀ cls d H', E cls d H' → W cls d σ H') {u : Value} (c : CX X.prog X.w X.stack H s E u s') : XF X L W u s' := by
  obtain ⟨a, B, H', cls, d, rfl, fl, hok, ub, na, os, ag, hE⟩ := c
  obtain ⟨G, g1, g2⟩ := restrict s'.heap fun b => (B.get? b).isSome || decide (b ∈ frs X.stack)
  have inB : ∀ b o, B.get? b = some o → G.get? b = some o := fun b o e => (g1 b (by simp [e])).trans (fl.1 b o e)
  have inF : ∀ b, b ∈ frs X.stack → G.get? b = s'.heap.get? b := fun b hb => g1 b (by simp [hb])
  have back : ∀ b o, G.get? b = some o → s'.heap.get? b = some o ∧ (b ∉ frs X.stack → B.get? b = some o) := fun b o e => by
    by_cases q : ((B.get? b).isSome || decide (b ∈ frs X.stack)) = true
    · have e1 : s'.heap.get? b = some o := (g1 b q).symm.trans e
      refine ⟨e1, fun hb => ?_⟩
      have q1 : (B.get? b).isSome = true := by simpa [hb] using q
      obtain ⟨o', e2⟩ := Option.isSome_iff_exists.mp q1
      rw [fl.1 b o' e2] at e1
      rw [e2, e1]
    · rw [g2 b (by simpa using q)] at e; cases e
  have there : ∀ b o, s.heap.get? b = some o → ∃ o', G.get? b = some o' := fun b o e => by
    by_cases hb : b ∈ frs X.stack
    · obtain ⟨sl, q⟩ := ub.slot b o e hb
      exact ⟨_, (inF b hb).trans q⟩
    · obtain ⟨o', q⟩ := ub.there b o e hb
      exact ⟨o', inB b o' q⟩
  refine ⟨a, B, { s with heap := G, gens := s'.gens, drawn := s'.drawn, toks := s'.toks }, pins, σ, H', cls, d, rfl, ?_, fun b o e hb => (back b o e).2 hb, Heap.UpToSlots.of_keeps fun b o e => (back b o e).1, .inl fl, na, os, ag, hW _ _ _ hE⟩
  exact I.call (ch := []) ⟨fun b o e n hb _ => inB b o (ub.keep b o e n hb), fun b o e n hb _ => by obtain ⟨sl, q⟩ := ub.slot b o e hb; exact ⟨sl, (inF b hb).trans q⟩, fun b o e n _ => ub.free b o e n, fun b o e _ => there b o e, ub.tups, ub.frzs, ub.tbls⟩ (hok.kept inB) ag fun _ z => nomatch z
theorem Tk.pas {W : WX} (t : Tk X W) (σ : St) : PassesAt (L2.CX X.prog X.w) X σ (WE W σ) := fun _ _ _ e s' I c => by
  obtain ⟨e0, o0, L, h1, h2, h3, h4⟩ := t.run
  exact h4 e s' (XF.of_call I (fun _ _ _ h => h) c)
end
/-- in a comprehension's block -/
abbrev Cx.blkX (X : Cx) (s : Shared) (H : Hp) (scope : Scope) (cenv : Env) (fp : List Addr) : Cx := { X.blk s H scope cenv fp with xe := notedBy (model X.prog X.w) X.A cenv (CompFails (model X.prog X.w) X.A X.xe cenv) }
theorem funFrames_less {h B B' : Heap} (k : ∀ b, B.get? b = none → B'.get? b = none) : ∀ {l : List Env}, h.FunFrames B l → h.FunFrames B' l
  | [], _ => trivial
  | _ :: _, ⟨hk, ⟨L, o, hf, hn, ho, hd⟩, hr⟩ => ⟨hk, ⟨L, o, hf, k L hn, ho, hd⟩, funFrames_less k hr⟩
section
variable {X : Cx} {pins : List (Addr × Obj)} {σ : St} {H3 : Hp} {s3 : Shared} {W : WX} {scope : Scope} {ce : Env} {fp : List Addr}
theorem tk_blk (I3 : Inv X pins σ H3 s3) (f3 : ∀ b ∈ fp, FpOk X pins H3 b) (hC : s3.heap.objs.size ≤ ce.locals) (hfr : ce.frame = X.env.frame) (tk : Tk X W) : Tk (X.blkX s3 H3 scope ce fp) (fun c d _ H => W c d σ H) := by
  obtain ⟨e0, o0, L, hs, h0, hL, run⟩ := tk.run
  refine ⟨e0, o0, L, hs, h0, hfr.trans hL, fun u s' xf => ?_⟩
  obtain ⟨a, B, sI, pins', σ', H2, cls, d, rfl, I, nb, up, sky, na, os, ag, w⟩ := xf
  have hA : X.A.frames = some (e0 :: o0) := by have := I.ok.frames; rw [← hs]; exact this
  have sky : HandSPX.FlyingZ B (e0 :: o0) a (Zc cls d) s'.heap ∨ HandSPX.HeldZ B (e0 :: o0) a (Zc cls d) L s'.heap := by rw [← hs]; exact sky
  have nC : ∀ b o, s3.heap.get? b = some o → b ≠ ce.locals := fun b o e q => by have := Heap.lt_size e; rw [q] at this; exact absurd (Nat.lt_of_lt_of_le this hC) (Nat.lt_irrefl _)
  have fin : ∀ h1, HandSPX.HeldZ B (e0 :: o0) a (Zc cls d) L h1 → s'.heap.UpToSlots h1 → CompFails (model X.prog X.w) X.A X.xe ce (.ref a) { s' with heap := h1 } := by
    intro h1 ⟨b1, b0, f1, oe, vs, T, oT, ts, he, hz, hd, hv1, hnT, hTe, hT, hdT, h3⟩ up1
    obtain ⟨m, hn, _⟩ := I.loc
    have hn : sI.heap.Ns ce.locals m := hn
    have hn1 : h1.Ns ce.locals m := hn.upToSlots fun b o e hd => (up.trans up1) b o e hd
    refine ⟨m, hn1, fun h₂ m₂ hn₂ hs₂ => ?_⟩
    obtain ⟨oC, es, ep, hC1, hdC, _⟩ := hn1
    have hane : a ≠ ce.locals := fun q => by rw [q, hC1] at he; cases he; rw [hdC] at hd; cases hd
    have hTne : T ≠ ce.locals := fun q => by rw [q, hC1] at hT; cases hT; rw [hdC] at hdT; cases hdT
    have hh : ∀ {h : Heap} {b : Addr} {o : Obj}, (h.hide ce.locals).get? b = some o → b ≠ ce.locals ∧ h.get? b = some o := fun {h b o} e => ⟨(fun q => by rw [q, Heap.hide_self] at e; cases e), Heap.of_hide e⟩
    have hnone : ∀ b, B.get? b = none → (B.hide ce.locals).get? b = none := fun b q => by
      cases z : (B.hide ce.locals).get? b with
      | none => rfl
      | some o => rw [(hh z).2] at q; cases q
    have he2 : h₂.get? a = some oe := (hs₂.2 _ hane).trans he
    have b2 : (B.hide ce.locals).StaysIn h₂ := fun b o e => (hs₂.2 b (hh e).1).trans (b1 b o (hh e).2)
    have f2 : h₂.FunFrames (B.hide ce.locals) (e0 :: o0) := funFrames_less hnone (Heap.FunFrames.sameBut hs₂ hn₂ f1)
    have t2 : HandSPX.TracedZ h₂ (B.hide ce.locals) a (Zc cls d) (rawInt L) := ⟨oe, vs, T, oT, ts, he2, hz, hd, hv1, hnone _ hnT, hTe, (hs₂.2 _ hTne).trans hT, hdT, h3⟩
    unfold PySem.passOn
    refine wpAny_bind (wpAny_field he2 hd hv1 ?_)
    rw [if_neg (show ¬ ((Value.ref T == Value.none) = true) from by simp)]
    rw [hfr.trans hL]
    refine wpAny_bind (HandSPX.setFlight_anyZ (fr := some L) b2 f2 t2 fun h₃ b3 f3' t3 up3 => ?_)
    refine wpAny_throw ?_
    refine run _ _ ⟨a, B.hide ce.locals, { sI with heap := sI.heap.hide ce.locals }, pins, σ, H2, cls, d, rfl, ?_, fun b o e hb => ?_, fun b o e hnf => ?_, .inr ?_, na, os, ag, w⟩
    · have kp : ∀ b o, s3.heap.get? b = some o → ∀ o', sI.heap.get? b = some o' → (sI.heap.hide ce.locals).get? b = some o' := fun b o e o' q => (Heap.hide_ne _ (nC b o e)).trans q
      refine I3.call' (ch := fp) I.os ⟨fun b o e n hb hx => kp b o e _ (I.base.keep b o e n hb hx), fun b o e n hb hx => ?_, fun b o e n hx => I.base.free b o e n hx, fun b o e hx => ?_, I.base.tups, I.base.frzs, I.base.tbls⟩ (fun b o q => (I.hok b o q).stay (fun c u hc r => (Heap.hide_ne _ fun z => ?_).trans r) (fun _ r => r) fun _ _ r => r) I.bare fun b hb => ⟨(f3 b hb).2.2.2.1, (f3 b hb).2.1, (f3 b hb).2.2.2.2.1, (f3 b hb).2.2.2.2.2⟩
      · obtain ⟨sl, q⟩ := I.base.slot b o e n hb hx
        exact ⟨sl, kp b o e _ q⟩
      · obtain ⟨o', q⟩ := I.base.there b o e hx
        exact ⟨o', kp b o e _ q⟩
      · have z0 : H2 ce.locals = none := I.free
        rcases hc with hc | hc
        · rw [← hc, z, z0] at q; cases q
        · rw [z, z0] at hc; cases hc
    · exact (Heap.hide_ne _ (hh e).1).trans (nb b o (hh e).2 hb)
    · obtain ⟨e1, e2⟩ := hh e
      obtain ⟨sl1, q1⟩ := up b o e2 hnf
      obtain ⟨sl2, q2⟩ := up1 b _ q1 hnf
      exact up3 b _ ((hs₂.2 b e1).trans q2) hnf |>.imp fun sl q => q
    · rw [hs]; exact ⟨b3, hnone _ b0, f3', t3⟩
  show wpAny (model X.prog X.w) X.A (noteFrame (.ref a) ce) (fun _ s'' => CompFails (model X.prog X.w) X.A X.xe ce (.ref a) s'') (CompFails (model X.prog X.w) X.A X.xe ce) s'
  rw [noteFrame_env _ (show ce.frame = e0.frame by rw [hfr, hL, h0])]
  rcases sky with fl | hd
  · exact HandSPX.looks_onZ Zc.steady hA h0 fl fin
  · exact HandSPX.againZ h0 hd.2.2.2 (fin s'.heap hd fun b o e _ => ⟨o.slots, e⟩)
end
end L2

namespace L2
open PySem PySem.Spec PyProof.Rows
section
variable {X : Cx}
/-- as tLc; what the tests and the element are wished may stand on the state at the start -/
def tLcX (wi : TI) (g : TG) (tt : St → TT) (te : St → TE) (vs : List Nat) : TE := fun σ H Q => wi σ H fun J H1 => ∀ D, H1 D = none → ∃ W : Nat → Nat → Hp → Prop, (∃ m, W 0 m (upd H1 D (.lst []))) ∧ ∀ i m H, W i m H →
  (J.stop i H ∧ Q (.ref D) H) ∨ (J.go i H ∧ ∃ Nx : Hp → Prop, (∀ H', Nx H' → ∃ m', m' < m ∧ W (i + 1) m' H') ∧ ∀ x H', J.yld i H x H' → g x (wipe σ vs) H' fun σ2 H2 => wipe σ2 vs = wipe σ vs ∧ tt σ σ2 H2 fun b H3 =>
    if b = true then te σ σ2 H3 fun y H4 => ∃ acc, H4 D = some (.lst acc) ∧ acc.length < sizeLine ∧ Nx (upd H4 D (.lst (acc ++ [y]))) else Nx H3)
theorem lc_coreX {Wo : WX} {pins : List (Addr × Obj)} {s : Shared} {σ : St} {H : Hp} {Q : VK} {elt tg iter : Expr} {ifs : List Expr} {scope : Scope} {own : List (Str × Nat)} {pos pos' : Pos} {wi : TI} {g : TG} {tt : St → TT} {te : St → TE} {use : Option (Value → Sem Unit)} {Qf : Value → Shared → Prop}
    (tk : Tk X Wo) (hc : X.calm = true) (hN : X.N.Nodup) (I : Inv X pins σ H s) (hi : PI X tg iter wi) (ok : BlkOk X.N X.env.scope scope own)
    (hg : ∀ (s : Shared) (H : Hp) (C : Addr) (cl : List (Str × Addr)) (fp : List Addr), PG (X.blkX s H scope (compEnvC scope cl C X.env) fp) tg g)
    (ht : ∀ (σ : St) (s : Shared) (H : Hp) (C : Addr) (cl : List (Str × Addr)) (fp : List Addr), Tk (X.blkX s H scope (compEnvC scope cl C X.env) fp) (fun c d _ H => Wo c d σ H) → PTs (X.blkX s H scope (compEnvC scope cl C X.env) fp) ifs (tt σ))
    (he : ∀ (σ : St) (s : Shared) (H : Hp) (C : Addr) (cl : List (Str × Addr)) (fp : List Addr), Tk (X.blkX s H scope (compEnvC scope cl C X.env) fp) (fun c d _ H => Wo c d σ H) → PE (X.blkX s H scope (compEnvC scope cl C X.env) fp) elt (te σ)) (hs : ∀ x, foldedSetIterable iter X.env x = pure x)
    (h : tLcX wi g tt te (own.map (·.2)) σ H Q)
    (hRR : ∀ D (ce : Env) s' m H', Inv X pins σ H' s' → Q (.ref D) H' → s'.heap.Ns ce.locals m → FpOk X pins H' ce.locals → compEnds (model X.prog X.w) X.A X.xe use Qf (.ref D) ce (.ok .next) s') :
    wpAny (model X.prog X.w) X.A (comprehension (.ListComp elt [⟨tg, iter, ifs, 0⟩] scope pos) scope X.env pos' (newList []) false (eval iter X.env) use) Qf X.xe s := by
  have hfree : ∀ y ∈ scope.names, y.2 = .free → ∃ c, X.env.cells.lookup y.1 = some c := fun y hy e => by
    rcases ok.free y hy e with k | k
    · exact I.ok.has _ (.inl k)
    · exact I.ok.has _ (.inr k)
  refine comprehension_at (use := use) rfl hs (closure_ok hfree) ok.kind (fun y hy e => by rw [ok.uniq y hy, e])
    (thn (hi.run pins s σ H _ I h) fun xv s1 hx => thn hx fun itv s2 h2 => ?_)
  obtain ⟨it, fp, tn, J, H2, e, I2, T, st2, f2, q⟩ := h2
  subst e
  refine wpAny_newObj_type (newEnv_comp ?_) (by show 0 ≤ sizeLine; decide)
  generalize hD : s2.heap.objs.size = D
  have hDn : H2 D = none := I2.hok.fresh (Nat.le_of_eq hD)
  obtain ⟨W, ⟨m0, w0⟩, turn⟩ := q D hDn
  generalize hs3 : ({ s2 with heap := s2.heap.push { cls := .type "list", data := .seq ([] : List Value).toArray } } : Shared) = s3
  have I3 : Inv X pins σ (upd H2 D (.lst [])) s3 := by
    rw [← hs3]
    refine I2.laid (t' := s2.toks) (fun b o e => Heap.get?_push_of_some _ e) (Nat.le_of_eq hD) ⟨Nat.zero_le _, [], 0, .nil, ?_⟩
    rw [← hD]
    exact Heap.get?_push_size _ rfl
  have h3 : s3.heap = s2.heap.push { cls := .type "list", data := .seq ([] : List Value).toArray } := by rw [← hs3]
  have f3 : ∀ b ∈ fp, FpOk X pins (upd H2 D (.lst [])) b ∧ b < s3.heap.objs.size := fun b hb => by
    obtain ⟨o, e, _⟩ := T.obj _ _ st2 b hb
    have hlt := Heap.lt_size e
    refine ⟨⟨?_, (f2 b hb).2⟩, by rw [h3, Heap.size_push]; exact Nat.lt_succ_of_lt hlt⟩
    rw [upd_ne (by rw [← hD]; exact Nat.ne_of_lt hlt)]
    exact (f2 b hb).1
  have st3 : tn 0 s3.heap := T.keep _ _ _ st2 fun b _ o e => by rw [h3]; exact Heap.get?_push_of_some _ e
  have I4 := block_start I3 ok hN f3
  show codeAny _ _ (.compStart (.ListComp elt [⟨tg, iter, ifs, 0⟩] scope pos) 0 (.ref it) (.ref D) (compEnvC scope (cellsFrom (s3.heap.objs.size + 1) scope.names (cloFrom X.env.cells scope.names [])) s3.heap.objs.size X.env)) (compEnds (model X.prog X.w) X.A X.xe use Qf (.ref D) (compEnvC scope (cellsFrom (s3.heap.objs.size + 1) scope.names (cloFrom X.env.cells scope.names [])) s3.heap.objs.size X.env)) { s3 with heap := pushCells (s3.heap.push { cls := .type "dict", data := .dict #[] }) scope.names }
  have tkb := tk_blk (scope := scope) (ce := compEnvC scope (cellsFrom (s3.heap.objs.size + 1) scope.names (cloFrom X.env.cells scope.names [])) s3.heap.objs.size X.env) (fp := fp) I3 (fun b hb => (f3 b hb).1) (Nat.le_refl _) rfl tk
  have pg := hg s3 (upd H2 D (.lst [])) s3.heap.objs.size (cellsFrom (s3.heap.objs.size + 1) scope.names (cloFrom X.env.cells scope.names [])) fp
  have pt := ht σ s3 (upd H2 D (.lst [])) s3.heap.objs.size (cellsFrom (s3.heap.objs.size + 1) scope.names (cloFrom X.env.cells scope.names [])) fp tkb
  have pe := he σ s3 (upd H2 D (.lst [])) s3.heap.objs.size (cellsFrom (s3.heap.objs.size + 1) scope.names (cloFrom X.env.cells scope.names [])) fp tkb
  have nfp : ∀ b ∈ fp, (upd H2 D (.lst [])) b = none := fun b hb => (f3 b hb).1.1
  clear tkb
  generalize hce : compEnvC scope (cellsFrom (s3.heap.objs.size + 1) scope.names (cloFrom X.env.cells scope.names [])) s3.heap.objs.size X.env = ce at I4 pg pt pe ⊢
  have cL : ce.locals = s3.heap.objs.size := by subst hce; rfl
  generalize hH3 : upd H2 D (.lst []) = H3 at I3 I4 pg pt pe w0 nfp f3
  generalize hs4 : ({ s3 with heap := pushCells (s3.heap.push { cls := .type "dict", data := .dict #[] }) scope.names } : Shared) = s4 at I4 ⊢
  have I4 : Inv (X.blkX s3 H3 scope ce fp) [] (wipe σ (own.map (·.2))) H3 s4 := ⟨⟨I4.ok.1, I4.ok.2, I4.ok.3, I4.ok.4, I4.ok.5, I4.ok.6, I4.ok.7, I4.ok.8, I4.ok.9, I4.ok.10, I4.ok.11, I4.ok.12, I4.ok.13, I4.ok.14, I4.ok.15, I4.ok.16, I4.ok.17, I4.ok.18⟩, I4.os, I4.bare, I4.base, I4.loc, I4.cell, I4.free, I4.freeC, I4.pin, I4.hok, I4.len⟩
  have st4 : tn 0 s4.heap := T.keep _ _ _ st3 fun b _ o e => by rw [← hs4]; exact pushCells_keeps _ _ _ _ (Heap.get?_push_of_some _ e)
  have stat : ∀ {σ' : St} {H' : Hp} {s' : Shared}, Inv (X.blkX s3 H3 scope ce fp) [] σ' H' s' → (∀ b ∈ fp, H' b = none) → ∀ b ∈ fp, FpOk (X.blkX s3 H3 scope ce fp) [] H' b := fun {σ' H' s'} I' hn b hb =>
    ⟨hn b hb, (I'.ok.exf b hb).1, I'.ok.exfs b hb, .inl hb, fun x c e => (I'.ok.exf b hb).2 x c e, fun p hp => absurd (show p ∈ ([] : List (Addr × Obj)) ++ [] from hp) (by simp)⟩
  have loop : codeAny (model X.prog X.w) X.A (.compLoop (.ListComp elt [⟨tg, iter, ifs, 0⟩] scope pos) 0 (.ref it) (.ref D) ce) (compEnds (model X.prog X.w) X.A X.xe use Qf (.ref D) ce) s4 := by
    refine compLoop_any (fun n s' => ∃ i H', Inv (X.blkX s3 H3 scope ce fp) [] (wipe σ (own.map (·.2))) H' s' ∧ tn i s'.heap ∧ (∀ b ∈ fp, H' b = none) ∧ W i n H') ?_ m0 ⟨0, H3, I4, st4, nfp, w0⟩
    rintro n s5 ⟨i, H5, I5, st5, n5, w5⟩
    rcases turn i n H5 w5 with ⟨stop, qq⟩ | ⟨go, Nx, hNx, step⟩
    · have td := T.done (X.blkX s3 H3 scope ce fp) rfl rfl rfl hc i [] s5 _ H5 (fun _ _ => False) I5 (stat I5 n5) st5 stop
      refine thnF td fun r s6 ⟨hr, I6⟩ => ?_
      subst hr
      have I7 : Inv X pins σ H5 s6 := I3.call' (ch := fp) I6.os I6.base I6.hok I6.bare fun b hb => ⟨(f3 b hb).1.2.2.2.1, (f3 b hb).1.2.1, (f3 b hb).1.2.2.2.2.1, (f3 b hb).1.2.2.2.2.2⟩
      have nC : H5 ce.locals = none := I6.free
      obtain ⟨m, hn, _⟩ := I6.loc
      exact hRR D ce s6 m H5 I7 qq hn (by rw [cL] at nC ⊢; exact I3.fpOk (Nat.le_refl _) nC)
    · have ti := T.item (X.blkX s3 H3 scope ce fp) rfl rfl rfl hc i [] s5 _ H5 (fun _ _ => False) I5 (stat I5 n5) st5 go
      refine thnF ti fun r s6 ⟨u, hr, h6⟩ => ?_
      subst hr
      refine thnF h6 fun _ s7 ⟨x, H7, I7, r7, y7, st7, n7⟩ => ?_
      have I7' := I7.pinned (stat I7 n7) (T.obj _ _ st7)
      refine thn (pg.run _ s7 _ H7 x u _ I7' r7 (step x H7 y7)) fun _ s8 ⟨σ8, H8, I8, hw8, q8⟩ => ?_
      refine thn (pt.run _ s8 σ8 H8 _ I8 q8) fun b s9 ⟨H9, I9, q9⟩ => ?_
      have fin : ∀ {s' : Shared} {H' : Hp}, Inv (X.blkX s3 H3 scope ce fp) ([] ++ pinsAt fp s7.heap) σ8 H' s' → Nx H' → ∃ m, m < n ∧ ∃ i H', Inv (X.blkX s3 H3 scope ce fp) [] (wipe σ (own.map (·.2))) H' s' ∧ tn i s'.heap ∧ (∀ b ∈ fp, H' b = none) ∧ W i m H' := fun {s' H'} I' nx => by
        obtain ⟨m', hm, w'⟩ := hNx H' nx
        have pin' : ∀ b ∈ fp, ∀ o, s7.heap.get? b = some o → s'.heap.get? b = some o ∧ H' b = none := fun b hb o e =>
          let z := I'.pin (b, o) (List.mem_append_right _ (List.mem_append_right _ (mem_pinsAt hb e)))
          ⟨z.1, z.2.1⟩
        have hl : (wipe σ (own.map (·.2))).length = σ8.length := by rw [← hw8, wipe_length]
        refine ⟨m', hm, i + 1, H', (I'.unpinned (pins := [])).weak hl (fun j v e => ?_), T.keep _ _ _ st7 fun b hb o e => (pin' b hb o e).1, fun b hb => ?_, w'⟩
        · rw [← hw8] at e
          exact (wipe_some e).1
        · obtain ⟨o, e, _⟩ := T.obj _ _ st7 b hb
          exact (pin' b hb o e).2
      cases b with
      | false =>
        simp only [Bool.false_eq_true, if_false] at q9 ⊢
        exact fin I9 q9
      | true =>
        simp only [if_true] at q9 ⊢
        refine thn (pe.run _ s9 σ8 H9 _ I9 q9) fun z s10 ⟨yv, H10, I10, r10, acc, hD10, hz10, nx⟩ => ?_
        exact app_ok (X := X.blkX s3 H3 scope ce fp) I10 hD10 hz10 r10 fun s11 I11 => fin I11 nx
  exact codeAny_compStart_list loop (T.self X.A 0 _ _ _ st4 loop)
theorem pe_lcX {Wo : WX} {elt tg iter : Expr} {ifs : List Expr} {scope : Scope} {own : List (Str × Nat)} {pos : Pos} {wi : TI} {g : TG} {tt : St → TT} {te : St → TE} (tk : Tk X Wo) (hc : X.calm = true) (hN : X.N.Nodup) (hi : PI X tg iter wi) (ok : BlkOk X.N X.env.scope scope own)
    (hg : ∀ (s : Shared) (H : Hp) (C : Addr) (cl : List (Str × Addr)) (fp : List Addr), PG (X.blkX s H scope (compEnvC scope cl C X.env) fp) tg g)
    (ht : ∀ (σ : St) (s : Shared) (H : Hp) (C : Addr) (cl : List (Str × Addr)) (fp : List Addr), Tk (X.blkX s H scope (compEnvC scope cl C X.env) fp) (fun c d _ H => Wo c d σ H) → PTs (X.blkX s H scope (compEnvC scope cl C X.env) fp) ifs (tt σ))
    (he : ∀ (σ : St) (s : Shared) (H : Hp) (C : Addr) (cl : List (Str × Addr)) (fp : List Addr), Tk (X.blkX s H scope (compEnvC scope cl C X.env) fp) (fun c d _ H => Wo c d σ H) → PE (X.blkX s H scope (compEnvC scope cl C X.env) fp) elt (te σ)) (hs : ∀ x, foldedSetIterable iter X.env x = pure x) :
    PE X (.ListComp elt [⟨tg, iter, ifs, 0⟩] scope pos) (tLcX wi g tt te (own.map (·.2))) := by
  refine ⟨fun pins s σ H Q I h => ?_⟩
  rw [eval_ListComp]
  refine lc_coreX tk hc hN I hi ok hg ht he hs h fun D ce s' m H' I' q hn f => ⟨m, hn, fun h'' sb => ?_⟩
  obtain ⟨f0, f1, f2, f3, f4, f5⟩ := f
  exact ⟨.ref D, H', I'.turned (t' := s'.toks) (fun b o hb e => (sb.2 b hb).trans e) f0 f1 f3 f4 f5, rfl, q⟩
theorem ps_setLcX {Wo : WX} {i : Nat} {y : Str} {py : Pos} {elt tg iter : Expr} {ifs : List Expr} {scope : Scope} {own : List (Str × Nat)} {pos spos : Pos} {wi : TI} {g : TG} {tt : St → TT} {te : St → TE} (tk : Tk X Wo) (hc : X.calm = true) (hN : X.N.Nodup) (hy : X.N[i]? = some y) (hyl : X.env.scope.names.lookup y = some .local)
    (hsw : swapsWith (.ListComp elt [⟨tg, iter, ifs, 0⟩] scope pos) (some (.Name y py)) spos.line X.env = pure true) (hi : PI X tg iter wi) (ok : BlkOk X.N X.env.scope scope own)
    (hg : ∀ (s : Shared) (H : Hp) (C : Addr) (cl : List (Str × Addr)) (fp : List Addr), PG (X.blkX s H scope (compEnvC scope cl C X.env) fp) tg g)
    (ht : ∀ (σ : St) (s : Shared) (H : Hp) (C : Addr) (cl : List (Str × Addr)) (fp : List Addr), Tk (X.blkX s H scope (compEnvC scope cl C X.env) fp) (fun c d _ H => Wo c d σ H) → PTs (X.blkX s H scope (compEnvC scope cl C X.env) fp) ifs (tt σ))
    (he : ∀ (σ : St) (s : Shared) (H : Hp) (C : Addr) (cl : List (Str × Addr)) (fp : List Addr), Tk (X.blkX s H scope (compEnvC scope cl C X.env) fp) (fun c d _ H => Wo c d σ H) → PE (X.blkX s H scope (compEnvC scope cl C X.env) fp) elt (te σ)) (hs : ∀ x, foldedSetIterable iter X.env x = pure x) :
    PS X (.Assign [.Name y py] (.ListComp elt [⟨tg, iter, ifs, 0⟩] scope pos) spos) (tAsg (tLcX wi g tt te (own.map (·.2))) (gName i)) := by
  refine ⟨fun pins s σ H D I h => ?_⟩
  rw [exec_Assign_Name_used _ _ _ _ hsw]
  refine wpAny_bind (wpAny_standAt (wpAny_bind ?_))
  show wpAny _ X.A (do let _ ← comprehension (.ListComp elt [⟨tg, iter, ifs, 0⟩] scope pos) scope X.env (firstIterPos [⟨tg, iter, ifs, 0⟩] pos) (newList []) false (eval iter X.env) (some (assign (.Name y py) X.env))) _ _ s
  have h : tLcX wi g tt te (own.map (·.2)) σ H (fun x H1 => gName i x σ H1 D.nx) := h
  refine wpAny_bind (thn (lc_coreX (Qf := fun _ s' => SP X pins D .next s') tk hc hN I hi ok hg ht he hs h fun L ce s' m H' I' q hn f => ?_) fun _ s' hq => wpAny_pure (wpAny_pure hq))
  show wpAny _ _ (assign (.Name y py) X.env (.ref L)) _ _ _
  refine wpAny_assign_Name (store_ok2 (v := V.ref L) I' hN hy (.inl hyl) rfl (fun s2 I2 ⟨a, sb, ha⟩ => ?_) (.inr hyl))
  obtain ⟨f0, f1, f2, f3, f4, f5⟩ := f
  have haC : ce.locals ≠ a := by
    rcases ha with z | z
    · rw [z]; exact f1
    · exact fun e => f4 y a z e.symm
  refine ⟨m, hn.sameBut sb haC, fun h3 sb3 => ?_⟩
  exact ⟨_, H', I2.turned (t' := s2.toks) (fun b o hb e => (sb3.2 b hb).trans e) f0 f1 f3 f4 f5, q⟩
end
end L2
/-! MiniPy: every expression that the checker passes does what its meaning says. -/
namespace MP
open PySem L2 PySem.Spec PyProof.Rows

def W0 : WX := fun _ _ _ _ => False
section
variable {Y : Fx} {Φ : Tab} {G : Str → Option Val} {C : Cfg} {k : Nat} {X : Cx} {ns : Names} {W : WX}
theorem Ctx.hu (c : Ctx X Y Φ G C ns k) : X.A.units + 64 < cLine := c.units
theorem Ctx.cold (c : Ctx X Y Φ G C ns k) (h : C.calm = true) : Y.hot = true → ∀ {P : Prop}, P := fun z => by rw [c.hot, (c.calm h).2] at z; cases z
theorem ctx_blk (c : Ctx X Y Φ G C ns k) {s : Shared} {H : Hp} {sc : Scope} {Cl : Addr} {cl : List (Str × Addr)} {fp : List Addr} (hk : sc.kind = .function) (hcalm : C.calm = true) :
    Ctx (X.blkX s H sc (compEnvC sc cl Cl X.env) fp) Y Φ G C (blkNames ns sc) k where
  K := c.K
  mg := c.mg
  N := c.N
  nd := c.nd
  sc := by
    have e : (compEnvC sc cl Cl X.env).scope.names = sc.names.map fun (n, k) => if (k == .free && X.env.scope.kind == .function && X.env.scope.names.lookup n == some .cell) then (n, .cell) else (n, k) := rfl
    show (compEnvC sc cl Cl X.env).scope.names = _
    rw [e, c.kind, c.sc]
    rfl
  kind := hk
  calm := c.calm
  hot := c.hot
  nN := c.nN
  hotx := c.hotx
  hfn := c.hfn
  suite := fun h => by rw [(c.calm hcalm).2] at h; cases h
  tb := c.tb
  units := c.units
  depth := c.depth
  fn := fun x hx => by
    obtain ⟨m, f, fd, ps, h1, h2, h3, h4, h5, h6, h7⟩ := c.fn x hx
    exact ⟨m, f, fd, ps, h1, h2, h3, h4, h5, h6, fun z => by rw [hcalm] at z; cases z⟩
  gl := c.gl
  bt := c.bt
  cls := c.cls
  nw := c.nw
  mt := c.mt
theorem vis_ok (c : Ctx X Y Φ G C ns k) {x : Str} (h : visB ns x = true) : Vis X.env.scope x := by
  unfold visB at h
  unfold Vis
  rw [c.sc]
  split at h
  · rename_i e; exact .inl e
  · rename_i e; exact .inr (.inl e)
  · rename_i e; exact .inr (.inr e)
  · cases h
theorem gl_ok (c : Ctx X Y Φ G C ns k) {x : Str} (h : glB ns x = true) : Gl X x := by
  unfold glB at h
  show X.env.scope.names.lookup x = some .globalImplicit
  rw [c.sc]
  split at h
  · rename_i e; exact e
  · cases h
theorem okName_1 {x : Str} (h : okName x = true) : (x == ("__debug__" : Str)) = false := by
  unfold okName at h; rw [Bool.and_eq_true] at h
  simpa using h.1
theorem okName_2 {x : Str} (h : okName x = true) : (x == ("__classdict__" : Str)) = false := by
  unfold okName at h; rw [Bool.and_eq_true, Bool.and_eq_true] at h
  simpa using h.2.1
theorem Ctx.lt (c : Ctx X Y Φ G C ns k) {F : Hp} {μ : Nat → Addr} {n i : Nat} {x : Str} {env : Env} {σ : L2.St} {v : Option Val} (hi : C.N[i]? = some x) (en : EnvOk Y F μ n env σ) (hv : env[i]? = some v) : i < σ.length := by
  cases h : Y.hot with
  | false => rw [← en.cold h]; exact (List.getElem?_eq_some_iff.mp hv).1
  | true =>
    rw [(en.warm h).1, (c.hotx (by rw [← c.hot]; exact h)).1]
    exact (List.getElem?_eq_some_iff.mp hi).1
theorem Ctx.not (c : Ctx X Y Φ G C ns k) {i : Nat} {x : Str} (hi : C.N[i]? = some x) (hn : (!C.hot || decide (C.eI ≠ some i)) = true) : Y.hot = true → i < Y.nN ∧ Y.cI ≠ some i := fun h => by
  have h' : C.hot = true := by rw [← c.hot]; exact h
  obtain ⟨h1, h2, _⟩ := c.hotx h'
  rw [h', Bool.not_true, Bool.false_or] at hn
  exact ⟨by rw [h1]; exact (List.getElem?_eq_some_iff.mp hi).1, by rw [h2]; exact of_decide_eq_true hn⟩
theorem mem_of {l : List Str} {x : Str} (h : l.contains x = true) : x ∈ l := by simpa using h

structure Snd (Y : Fx) (Φ : Tab) (G : Str → Option Val) (C : Cfg) (k : Nat) (e : E) : Prop where
  pe : ∀ {X : Cx} {ns : Names} {W : WX} {p : Expr}, Ctx X Y Φ G C ns k → Tk X W → chkE C ns e p = true → PE X p (tE Y Φ G W e)
  pt : ∀ {X : Cx} {ns : Names} {W : WX} {p : Expr}, Ctx X Y Φ G C ns k → Tk X W → chkE C ns e p = true → PT X p (tT Y Φ G W e)
  pi : ∀ {X : Cx} {ns : Names} {W : WX} {p : Expr} (tg : Expr), Ctx X Y Φ G C ns k → Tk X W → chkE C ns e p = true → PI X tg p (tI Y Φ G W e)
structure Snds (Y : Fx) (Φ : Tab) (G : Str → Option Val) (C : Cfg) (k : Nat) (es : Es) : Prop where
  pa : ∀ {X : Cx} {ns : Names} {W : WX} {ps : List Expr}, Ctx X Y Φ G C ns k → Tk X W → chkEs C ns es ps = true → PA X ps (tA Y Φ G W es)
  bo : ∀ {X : Cx} {ns : Names} {W : WX} {ps : List Expr} {pos : Pos} (b : Bool), Ctx X Y Φ G C ns k → Tk X W → chkEs C ns es ps = true → es ≠ .nil → PE X (.BoolOp (if b then .And else .Or) ps pos) (tBo Y Φ G W b es)
  bt : ∀ {X : Cx} {ns : Names} {W : WX} {ps : List Expr} {pos : Pos} (b : Bool), Ctx X Y Φ G C ns k → Tk X W → chkEs C ns es ps = true → es ≠ .nil → PW X (.BoolOp (if b then .And else .Or) ps pos) (tBoT Y Φ G W b es)

theorem truth_noexn {st : Store} {x : Val} : ∀ c fs s, truth st x ≠ .exn c fs s := by
  intro c fs s h
  unfold truth at h
  repeat' (first | (cases h; done) | split at h)
theorem cmp_noexn {op : COp} {a b : Val} {st : Store} : ∀ c fs s, cmpV op a b st ≠ .exn c fs s := by
  intro c fs s h
  cases op <;> simp only [cmpV] at h
  all_goals repeat' (first | (cases h; done) | split at h)
/-- a test by its value -/
theorem pt_of {e : E} {p : Expr} (c : Ctx X Y Φ G C ns k) (hp : plainT p = true) (ht : (ev Φ G e).t = tOf (ev Φ G e).v) (h : PE X p (tE Y Φ G W e)) : PT X p (tT Y Φ G W e) := by
  refine PTimp (pt_truth h (true_id hp)) fun σ H Q ⟨F, μ, st, env, g, en, q⟩ => ?_
  rw [ht] at q
  refine goE g en q fun F1 μ1 H1 x st1 w e1 g1 en1 r q1 => ?_
  obtain ⟨b, hb, q2⟩ := RP.bindP truth_noexn q1
  exact ⟨b, truth_rep c.K g1 r hb, q2 F1 μ1 H1 Ext.refl g1⟩
theorem pi_of {e : E} {p : Expr} (tg : Expr) (c : Ctx X Y Φ G C ns k) (hi : (ev Φ G e).i = iOf (ev Φ G e).v) (h : PE X p (tE Y Φ G W e)) : PI X tg p (tI Y Φ G W e) := by
  refine PIimp (pi_val h) fun σ H R ⟨F, μ, st, env, g, en, q⟩ => ?_
  rw [hi] at q
  refine goE g en q fun F1 μ1 H1 x st1 w e1 g1 en1 r q1 => ?_
  cases x with
  | tup xs =>
    obtain ⟨a, vs, h1, h2, h3⟩ := r
    have q2 := q1 F1 μ1 H1 Ext.refl g1 (Itt X.K a) vs h3 (by rw [c.K]; exact walk_tup h2)
    exact ⟨a, h1, .inr ⟨vs, by rw [c.K]; exact sqT_mono g1.same h2, q2⟩⟩
  | lst xs =>
    obtain ⟨a, vs, h1, h2, h3⟩ := r
    have q2 := q1 F1 μ1 H1 Ext.refl g1 (Itl X.K a) vs h3 (walk_list (SqL.of h2))
    exact ⟨a, h1, .inl ⟨vs, SqL.of (g1.same _ _ h2), q2⟩⟩
  | scr xs =>
    obtain ⟨a, vs, h1, h2, h3⟩ := r
    have q2 := q1 F1 μ1 H1 Ext.refl g1 (Itl X.K a) vs h3 (by rw [c.K]; exact walk_list h2)
    exact ⟨a, h1, .inl ⟨vs, by rw [c.K]; exact sqL_mono g1.same h2, q2⟩⟩
  | _ => exact False.elim q1
theorem mkSnd {e : E} {v : Env → Store → RV} (he : ev Φ G e = mk v) (plain : ∀ ns p, chkE C ns e p = true → plainT p = true)
    (h : ∀ {X : Cx} {ns : Names} {W : WX} {p : Expr}, Ctx X Y Φ G C ns k → Tk X W → chkE C ns e p = true → PE X p (tE Y Φ G W e)) : Snd Y Φ G C k e where
  pe := h
  pt := fun c tk q => pt_of c (plain _ _ q) (by rw [he]; rfl) (h c tk q)
  pi := fun tg c tk q => pi_of tg c (by rw [he]; rfl) (h c tk q)

/-! ### the single forms -/
theorem snd_var (i : Nat) : Snd Y Φ G C k (.var i) := by
  refine mkSnd (v := vVar i) rfl (fun ns p q => ?_) fun {X ns W p} c tk q => ?_
  · unfold chkE at q
    split at q
    · rename_i x hx; obtain ⟨pp, rfl⟩ := isName_eq hx; rfl
    · cases q
  · unfold chkE at q
    split at q
    · rename_i x hx
      obtain ⟨pp, rfl⟩ := isName_eq hx
      rw [Bool.and_eq_true, Bool.and_eq_true] at q
      obtain ⟨q1, q2, q3⟩ := q
      refine PEimp (pe_var (i := i) (by rw [c.N]; exact of_decide_eq_true q1) (vis_ok c q2) (okName_1 q3) (okName_2 q3)) fun σ H Q ⟨F, μ, st, env, g, en, h⟩ => ?_
      change RP Y F μ st H (match env[i]? with | some (some v) => .ok (v, st) | _ => .stuck) (kV Y Q) (at_ W σ) at h
      split at h
      · rename_i v hv
        obtain ⟨w, h1, h2⟩ := en.val i v (c.lt (of_decide_eq_true q1) en hv) hv
        exact ⟨w, h1, h F μ H Ext.refl g w h2⟩
      · exact False.elim h
    · cases q
theorem leaf {e : E} {x : Val} {w : V} (he : ev Φ G e = mk fun _ st => .ok (x, st)) (r : ∀ F μ n, RepV Y.kf F μ n x w) {σ : L2.St} {H : Hp} {Q : VK} (h : tE Y Φ G W e σ H Q) : Q w H := by
  obtain ⟨F, μ, st, env, g, en, h⟩ := h
  rw [he] at h
  exact h F μ H Ext.refl g w (r F μ _)
theorem snd_int (i : Int) : Snd Y Φ G C k (.int i) := by
  refine mkSnd rfl (fun ns p q => ?_) fun {X ns W p} c tk q => ?_
  all_goals
    unfold chkE at q
    split at q
    · rename_i j hx; obtain ⟨a, pp, rfl⟩ := isInt_eq hx
      first
        | rfl
        | (have e := of_decide_eq_true q
           subst e
           exact PEimp pe_int fun σ H Q h => leaf (x := .int i) (w := .int i) rfl (fun _ _ _ => rfl) h)
    · cases q
theorem snd_bl (i : Bool) : Snd Y Φ G C k (.bl i) := by
  refine mkSnd rfl (fun ns p q => ?_) fun {X ns W p} c tk q => ?_
  all_goals
    unfold chkE at q
    split at q
    · rename_i j hx; obtain ⟨a, pp, rfl⟩ := isBl_eq hx
      first
        | rfl
        | (have e := of_decide_eq_true q
           subst e
           exact PEimp pe_bl fun σ H Q h => leaf (x := .bl i) (w := .bl i) rfl (fun _ _ _ => rfl) h)
    · cases q
theorem snd_str (i : Str) : Snd Y Φ G C k (.str i) := by
  refine mkSnd rfl (fun ns p q => ?_) fun {X ns W p} c tk q => ?_
  all_goals
    unfold chkE at q
    split at q
    · rename_i j hx; obtain ⟨a, pp, rfl⟩ := isStr_eq hx
      first
        | rfl
        | (have e := of_decide_eq_true q
           subst e
           exact PEimp pe_str fun σ H Q h => leaf (x := .str i) (w := .str i) rfl (fun _ _ _ => rfl) h)
    · cases q
theorem snd_non : Snd Y Φ G C k .non := by
  refine mkSnd rfl (fun ns p q => ?_) fun {X ns W p} c tk q => ?_
  · obtain ⟨a, pp, rfl⟩ := isNon_eq q; rfl
  · obtain ⟨a, pp, rfl⟩ := isNon_eq q
    exact PEimp pe_non fun σ H Q h => leaf (x := .non) (w := .non) rfl (fun _ _ _ => rfl) h
theorem snd_glob (g : Str) : Snd Y Φ G C k (.glob g) := by
  refine mkSnd rfl (fun ns p q => ?_) fun {X ns W p} c tk q => ?_
  · unfold chkE at q
    split at q
    · rename_i x hx; obtain ⟨pp, rfl⟩ := isName_eq hx; rfl
    · cases q
  · unfold chkE at q
    split at q
    · rename_i x hx
      obtain ⟨pp, rfl⟩ := isName_eq hx
      rw [Bool.and_eq_true, Bool.and_eq_true] at q
      obtain ⟨q1, q2, q3⟩ := q
      have e := of_decide_eq_true q1
      subst e
      cases hv : G g with
      | none =>
        refine ⟨fun pins s σ H Q I h => ?_⟩
        obtain ⟨F, μ, st, env, gd, en, h⟩ := h
        change RP Y F μ st H (match G g with | some v => .ok (v, st) | none => .stuck) (kV Y Q) (at_ W σ) at h
        rw [hv] at h
        exact False.elim h
      | some v =>
        obtain ⟨w, u, h1, h2, h3⟩ := c.gl g v hv
        refine PEimp (pe_glob (gl_ok c q2) h1 h2 (okName_1 q3)) fun σ H Q ⟨F, μ, st, env, gd, en, h⟩ => ?_
        change RP Y F μ st H (match G g with | some v => .ok (v, st) | none => .stuck) (kV Y Q) (at_ W σ) at h
        rw [hv] at h
        exact h F μ H Ext.refl gd w (h3 F μ _)
    · cases q

theorem snd_nil : Snds Y Φ G C k .nil where
  pa := fun {X ns W ps} c tk q => by
    cases ps with
    | nil => exact PAimp pa_nil fun σ H Q ⟨F, μ, st, env, g, en, h⟩ => h F μ H Ext.refl g [] rfl
    | cons p ps => cases q
  bo := fun b c tk q h => absurd rfl h
  bt := fun b c tk q h => absurd rfl h
theorem chkEs_cons {e : E} {r : Es} {ps : List Expr} (q : chkEs C ns (.cons e r) ps = true) : ∃ p qs, ps = p :: qs ∧ notStar p = true ∧ chkE C ns e p = true ∧ chkEs C ns r qs = true := by
  cases ps with
  | nil => cases q
  | cons p qs =>
    have q' : (notStar p && (chkE C ns e p && chkEs C ns r qs)) = true := q
    rw [Bool.and_eq_true, Bool.and_eq_true] at q'
    exact ⟨p, qs, rfl, q'.1, q'.2.1, q'.2.2⟩
theorem snd_cons {e : E} {r : Es} (s : Snd Y Φ G C k e) (ss : Snds Y Φ G C k r) : Snds Y Φ G C k (.cons e r) where
  pa := fun {X ns W ps} c tk q => by
    obtain ⟨p, qs, rfl, h1, h2, h3⟩ := chkEs_cons q
    refine PAimp (pa_cons (s.pe c tk h2) (ss.pa c tk h3) (star_cons h1)) fun σ H Q ⟨F, μ, st, env, g, en, h⟩ => ?_
    refine goE g en h fun F1 μ1 H1 x st1 w e1 g1 en1 r1 hh => ?_
    refine goA g1 en1 hh fun F2 μ2 H2 xs st2 ws e2 g2 en2 r2 hh2 => ?_
    exact hh2 F2 μ2 H2 Ext.refl g2 (w :: ws) ⟨w, ws, rfl, e2.v r1, r2⟩
  bo := fun {X ns W ps pos} b c tk q _ => by
    obtain ⟨p, qs, rfl, h1, h2, h3⟩ := chkEs_cons q
    cases r with
    | nil =>
      cases qs with
      | nil =>
        refine PEimp (pe_one (s.pe c tk h2)) fun σ H Q ⟨F, μ, st, env, g, en, h⟩ => ⟨F, μ, st, env, g, en, ?_⟩
        simpa only [evBo] using h
      | cons _ _ => cases h3
    | cons e2 r2 =>
      have hb := ss.bo (pos := pos) b c tk h3 (fun z => by cases z)
      obtain ⟨p2, qs2, rfl, _, _, _⟩ := chkEs_cons h3
      cases b with
      | true =>
        rw [if_pos rfl] at hb ⊢
        refine PEimp (pe_and (s.pe c tk h2) hb) fun σ H Q ⟨F, μ, st, env, g, en, h⟩ => ?_
        simp only [evBo] at h
        refine goE g en h fun F1 μ1 H1 x st1 w e1 g1 en1 r1 hh => ?_
        cases x with
        | bl d =>
          have ew : w = .bl d := r1
          refine ⟨d, ew, ?_⟩
          cases d with
          | true => rw [if_pos rfl]; exact ⟨F1, μ1, st1, env, g1, en1, hh⟩
          | false => rw [if_neg Bool.false_ne_true]; exact hh F1 μ1 H1 Ext.refl g1 _ rfl
        | _ => exact False.elim hh
      | false =>
        rw [if_neg Bool.false_ne_true] at hb ⊢
        refine PEimp (pe_or (s.pe c tk h2) hb) fun σ H Q ⟨F, μ, st, env, g, en, h⟩ => ?_
        simp only [evBo] at h
        refine goE g en h fun F1 μ1 H1 x st1 w e1 g1 en1 r1 hh => ?_
        cases x with
        | bl d =>
          have ew : w = .bl d := r1
          refine ⟨d, ew, ?_⟩
          cases d with
          | true => rw [if_pos rfl]; exact hh F1 μ1 H1 Ext.refl g1 _ rfl
          | false => rw [if_neg Bool.false_ne_true]; exact ⟨F1, μ1, st1, env, g1, en1, hh⟩
        | _ => exact False.elim hh
  bt := fun {X ns W ps pos} b c tk q _ => by
    obtain ⟨p, qs, rfl, h1, h2, h3⟩ := chkEs_cons q
    cases r with
    | nil =>
      cases qs with
      | nil =>
        have hp : PW X (.BoolOp (if b then .And else .Or) [p] pos) (tT Y Φ G W e) := by
          cases b with
          | true => exact pw_and1 (s.pt c tk h2)
          | false => exact pw_or1 (s.pt c tk h2)
        refine PWimp hp fun σ H Q ⟨F, μ, st, env, g, en, h⟩ => ⟨F, μ, st, env, g, en, ?_⟩
        simpa only [evBoT] using h
      | cons _ _ => cases h3
    | cons e2 r2 =>
      have hb := ss.bt (pos := pos) b c tk h3 (fun z => by cases z)
      obtain ⟨p2, qs2, rfl, _, _, _⟩ := chkEs_cons h3
      cases b with
      | true =>
        rw [if_pos rfl] at hb ⊢
        refine PWimp (pw_and (s.pt c tk h2) hb) fun σ H Q ⟨F, μ, st, env, g, en, h⟩ => ?_
        simp only [evBoT] at h
        refine goT g en h fun F1 μ1 H1 d st1 e1 g1 en1 hh => ?_
        cases d with
        | true => rw [if_pos rfl]; exact ⟨F1, μ1, st1, env, g1, en1, hh⟩
        | false => rw [if_neg Bool.false_ne_true]; exact hh F1 μ1 H1 Ext.refl g1
      | false =>
        rw [if_neg Bool.false_ne_true] at hb ⊢
        refine PWimp (pw_or (s.pt c tk h2) hb) fun σ H Q ⟨F, μ, st, env, g, en, h⟩ => ?_
        simp only [evBoT] at h
        refine goT g en h fun F1 μ1 H1 d st1 e1 g1 en1 hh => ?_
        cases d with
        | true => rw [if_pos rfl]; exact hh F1 μ1 H1 Ext.refl g1
        | false => rw [if_neg Bool.false_ne_true]; exact ⟨F1, μ1, st1, env, g1, en1, hh⟩
end
end MP
/-! MiniPy: the composite expressions. -/
namespace MP
open PySem L2 PySem.Spec PyProof.Rows

section
variable {Y : Fx} {Φ : Tab} {G : Str → Option Val} {C : Cfg} {k : Nat} {X : Cx} {ns : Names} {W : WX}
theorem pt_stuck {e : E} {p : Expr} (ht : (ev Φ G e).t = fun _ _ => .stuck) : PT X p (tT Y Φ G W e) :=
  ⟨fun pins s σ H Q I ⟨F, μ, st, env, g, en, q⟩ => by rw [ht] at q; exact False.elim q⟩
theorem pi_stuck {e : E} {p : Expr} {tg : Expr} (ht : (ev Φ G e).i = fun _ _ => .stuck) : PI X tg p (tI Y Φ G W e) :=
  ⟨fun pins s σ H Q I ⟨F, μ, st, env, g, en, q⟩ => by rw [ht] at q; exact False.elim q⟩
theorem mkNSnd {e : E} {v : Env → Store → RV} (he : ev Φ G e = mkN v)
    (h : ∀ {X : Cx} {ns : Names} {W : WX} {p : Expr}, Ctx X Y Φ G C ns k → Tk X W → chkE C ns e p = true → PE X p (tE Y Φ G W e)) : Snd Y Φ G C k e where
  pe := h
  pt := fun c tk q => pt_stuck (by rw [he]; rfl)
  pi := fun tg c tk q => pi_of tg c (by rw [he]; rfl) (h c tk q)

theorem snd_tup {es : Es} (ss : Snds Y Φ G C k es) : Snd Y Φ G C k (.tup es) := by
  refine mkSnd rfl (fun ns p q => ?_) fun {X ns W p} c tk q => ?_
  · unfold chkE at q
    split at q
    · rename_i ps hx; obtain ⟨a, b, rfl⟩ := isTup_eq hx; rfl
    · cases q
  · unfold chkE at q
    split at q
    · rename_i ps hx
      obtain ⟨a, b, rfl⟩ := isTup_eq hx
      refine PEimp (pe_tup (ss.pa c tk q)) fun σ H Q ⟨F, μ, st, env, g, en, h⟩ => ?_
      refine goA g en h fun F1 μ1 H1 xs st1 w e1 g1 en1 r1 hh => ?_
      exact newT_ok g1 hh r1
    · cases q
theorem snd_lst {m : Bool} {es : Es} (ss : Snds Y Φ G C k es) : Snd Y Φ G C k (.lst m es) := by
  refine mkSnd rfl (fun ns p q => ?_) fun {X ns W p} c tk q => ?_
  · unfold chkE at q
    split at q
    · rename_i ps hx; obtain ⟨a, rfl⟩ := isLst_eq hx; rfl
    · cases q
  · unfold chkE at q
    split at q
    · rename_i ps hx
      obtain ⟨a, rfl⟩ := isLst_eq hx
      refine PEimp (pe_lst (ss.pa c tk q)) fun σ H Q ⟨F, μ, st, env, g, en, h⟩ => ?_
      refine goA g en h fun F1 μ1 H1 xs st1 w e1 g1 en1 r1 hh => ?_
      exact newL_ok g1 hh r1
    · cases q
theorem snd_bin {m : Bool} {op : BOp} {a b : E} (sa : Snd Y Φ G C k a) (sb : Snd Y Φ G C k b) : Snd Y Φ G C k (.bin m op a b) := by
  refine mkSnd rfl (fun ns p q => ?_) fun {X ns W p} c tk q => ?_
  · unfold chkE at q
    split at q
    · rename_i x o y hx; obtain ⟨pp, rfl⟩ := isBin_eq hx; rfl
    · cases q
  · unfold chkE at q
    split at q
    · rename_i x o y hx
      obtain ⟨pp, rfl⟩ := isBin_eq hx
      rw [Bool.and_eq_true, Bool.and_eq_true] at q
      obtain ⟨q1, q2, q3⟩ := q
      have eo := opEq_eq q1
      subst eo
      refine ⟨fun pins s σ H Q I ⟨F, μ, st, env, g, en, h⟩ => ?_⟩
      refine (pe_op (op_bin (Y := Y) (W := at_ W σ) (m := m) c.K op) (sa.pe c tk q2) (sb.pe c tk q3)).run pins s σ H Q I ?_
      refine goE g en h fun F1 μ1 H1 x st1 w e1 g1 en1 r1 hh => ?_
      refine goE g1 en1 hh fun F2 μ2 H2 y st2 u e2 g2 en2 r2 hh2 => ?_
      exact ⟨F2, μ2, st2, x, y, g2, e2.v r1, r2, hh2⟩
    · cases q
theorem snd_neg_pe {a : E} (sa : Snd Y Φ G C k a) {X : Cx} {ns : Names} {W : WX} {p : Expr} (c : Ctx X Y Φ G C ns k) (tk : Tk X W) (q : chkE C ns (.neg a) p = true) : PE X p (tE Y Φ G W (.neg a)) := by
    unfold chkE at q
    split at q
    · rename_i x hx
      obtain ⟨pp, rfl⟩ := isUn_eq hx
      refine PEimp (pe_un un_neg (sa.pe c tk q)) fun σ H Q ⟨F, μ, st, env, g, en, h⟩ => ?_
      refine goE g en h fun F1 μ1 H1 x st1 w e1 g1 en1 r1 hh => ?_
      cases x with
      | int i =>
        have ew : w = .int i := r1
        exact ⟨i, ew, hh F1 μ1 H1 Ext.refl g1 _ rfl⟩
      | _ => exact False.elim hh
    · cases q
theorem snd_neg {a : E} (sa : Snd Y Φ G C k a) : Snd Y Φ G C k (.neg a) where
  pe := fun c tk q => snd_neg_pe sa c tk q
  pt := fun {X ns W p} c tk q => by
    have hp := snd_neg_pe sa c tk q
    unfold chkE at q
    split at q
    · rename_i x hx
      obtain ⟨pp, rfl⟩ := isUn_eq hx
      refine PTimp (pt_truth hp (by intro _; rfl)) fun σ H Q ⟨F, μ, st, env, g, en, q⟩ => ?_
      refine goE g en q fun F1 μ1 H1 x st1 w e1 g1 en1 r q1 => ?_
      obtain ⟨b, hb, q2⟩ := RP.bindP truth_noexn q1
      exact ⟨b, truth_rep c.K g1 r hb, q2 F1 μ1 H1 Ext.refl g1⟩
    · cases q
  pi := fun {X ns W p} tg c tk q => pi_of tg c rfl (snd_neg_pe sa c tk q)
end
end MP
/-! MiniPy: the composite expressions, further. -/
namespace MP
open PySem L2 PySem.Spec PyProof.Rows

section
variable {Y : Fx} {Φ : Tab} {G : Str → Option Val} {C : Cfg} {k : Nat} {X : Cx} {ns : Names} {W : WX}
theorem snd_not {a : E} (sa : Snd Y Φ G C k a) : Snd Y Φ G C k (.not a) where
  pe := fun {X ns W p} c tk q => by
    unfold chkE at q
    split at q
    · rename_i x hx
      obtain ⟨pp, rfl⟩ := isUn_eq hx
      refine PEimp (pe_not (sa.pe c tk q)) fun σ H Q ⟨F, μ, st, env, g, en, h⟩ => ?_
      refine goE g en h fun F1 μ1 H1 x st1 w e1 g1 en1 r1 hh => ?_
      cases x with
      | bl i =>
        have ew : w = .bl i := r1
        exact ⟨i, ew, hh F1 μ1 H1 Ext.refl g1 _ rfl⟩
      | _ => exact False.elim hh
    · cases q
  pt := fun {X ns W p} c tk q => by
    unfold chkE at q
    split at q
    · rename_i x hx
      obtain ⟨pp, rfl⟩ := isUn_eq hx
      refine PTimp (pt_not (sa.pt c tk q)) fun σ H Q ⟨F, μ, st, env, g, en, h⟩ => ?_
      exact goT g en h fun F1 μ1 H1 d st1 e1 g1 en1 hh => hh F1 μ1 H1 Ext.refl g1
    · cases q
  pi := fun tg c tk q => pi_stuck rfl
/-- the reading of a comparison -/
theorem cmp_red {α : Type} {op : COp} {a b : E} {f : Bool × Store → R (α × Store)} {kk : Hp → (Nat → Addr) → Hp → α → Store → Prop} {F H : Hp} {μ : Nat → Addr} {st : Store} {env : Env} {σ : L2.St} {Q : VK}
    (g : Good Y.kf F μ st H) (en : EnvOk Y F μ st.length env σ)
    (h : RP Y F μ st H (((ev Φ G a).v env st).bind fun p => ((ev Φ G b).v env p.2).bind fun q => (cmpV op p.1 q.1 q.2).bind fun d => f (d, q.2)) kk (at_ W σ))
    (n : ∀ F2 μ2 H2 d st2, Ext F μ st H F2 μ2 st2 H2 → Good Y.kf F2 μ2 st2 H2 → EnvOk Y F2 μ2 st2.length env σ → RP Y F2 μ2 st2 H2 (f (d, st2)) kk (at_ W σ) → Q (.bl d) H2) :
    tOp (rC Y op) (tE Y Φ G W a) (tE Y Φ G W b) σ H Q := by
  refine goE g en h fun F1 μ1 H1 x st1 w e1 g1 en1 r1 hh => ?_
  refine goE g1 en1 hh fun F2 μ2 H2 y st2 u e2 g2 en2 r2 hh2 => ?_
  obtain ⟨d, hd, q2⟩ := RP.bindP cmp_noexn hh2
  exact ⟨F2, μ2, st2, x, y, d, g2, e2.v r1, r2, hd, n F2 μ2 H2 d st2 (e1.trans e2) g2 en2 q2⟩
theorem snd_cmp {op : COp} {a b : E} (sa : Snd Y Φ G C k a) (sb : Snd Y Φ G C k b) : Snd Y Φ G C k (.cmp op a b) where
  pe := fun {X ns W p} c tk q => by
    unfold chkE at q
    split at q
    · rename_i x o y hx
      obtain ⟨pp, rfl⟩ := isCmp_eq hx
      rw [Bool.and_eq_true, Bool.and_eq_true, Bool.and_eq_true] at q
      obtain ⟨q1, q2, q3, q4⟩ := q
      have eo := cEq_eq q1
      subst eo
      refine PEimp (pe_cmpR (op_cmp (Y := Y) c.K c.hu op) (sa.pe c tk q3) (sb.pe c tk q4) (marks_not q2)) fun σ H Q ⟨F, μ, st, env, g, en, h⟩ => ?_
      exact cmp_red (f := fun p => R.ok (Val.bl p.1, p.2)) g en h fun F2 μ2 H2 d st2 _ g2 _ hh => hh F2 μ2 H2 Ext.refl g2 _ rfl
    · cases q
  pt := fun {X ns W p} c tk q => by
    unfold chkE at q
    split at q
    · rename_i x o y hx
      obtain ⟨pp, rfl⟩ := isCmp_eq hx
      rw [Bool.and_eq_true, Bool.and_eq_true, Bool.and_eq_true] at q
      obtain ⟨q1, q2, q3, q4⟩ := q
      have eo := cEq_eq q1
      subst eo
      refine PTimp (pt_cmpR (op_cmp (Y := Y) c.K c.hu op) (sa.pe c tk q3) (sb.pe c tk q4) (marks_not q2)) fun σ H Q ⟨F, μ, st, env, g, en, h⟩ => ?_
      have h' : RP Y F μ st H (((ev Φ G a).v env st).bind fun p => ((ev Φ G b).v env p.2).bind fun q => (cmpV op p.1 q.1 q.2).bind fun d => .ok (d, q.2)) (kT Q) (at_ W σ) := by
        have e : (ev Φ G (.cmp op a b)).t env st = (((ev Φ G a).v env st).bind fun p => ((ev Φ G b).v env p.2).bind fun q => (cmpV op p.1 q.1 q.2).bind fun d => .ok (d, q.2)) := by
          show R.bind (((ev Φ G a).v env st).bind fun p => ((ev Φ G b).v env p.2).bind fun q => (cmpV op p.1 q.1 q.2).bind fun d => R.ok (Val.bl d, q.2)) _ = _
          cases (ev Φ G a).v env st with
          | ok p =>
            simp only [R.bind_ok]
            cases (ev Φ G b).v env p.2 with
            | ok q =>
              simp only [R.bind_ok]
              cases cmpV op p.1 q.1 q.2 <;> rfl
            | _ => rfl
          | _ => rfl
        rw [← e]; exact h
      exact cmp_red (f := fun p => R.ok (p.1, p.2)) g en h' fun F2 μ2 H2 d st2 _ g2 _ hh => ⟨d, rfl, hh F2 μ2 H2 Ext.refl g2⟩
    · cases q
  pi := fun {X ns W p} tg c tk q => by
    unfold chkE at q
    split at q
    · rename_i x o y hx
      obtain ⟨pp, rfl⟩ := isCmp_eq hx
      rw [Bool.and_eq_true, Bool.and_eq_true, Bool.and_eq_true] at q
      obtain ⟨q1, q2, q3, q4⟩ := q
      have eo := cEq_eq q1
      subst eo
      refine pi_of tg c rfl (PEimp (pe_cmpR (op_cmp (Y := Y) c.K c.hu op) (sa.pe c tk q3) (sb.pe c tk q4) (marks_not q2)) fun σ H Q ⟨F, μ, st, env, g, en, h⟩ => ?_)
      exact cmp_red (f := fun p => R.ok (Val.bl p.1, p.2)) g en h fun F2 μ2 H2 d st2 _ g2 _ hh => hh F2 μ2 H2 Ext.refl g2 _ rfl
    · cases q
theorem last2 {op op' : CmpOp} {b c : Expr} (h : notSet c = true) : lastMarks [op, op'] [b, c] = false := marks_not h
theorem snd_chain_red {op op' : COp} {a b e : E} {F H : Hp} {μ : Nat → Addr} {st : Store} {env : Env} {σ : L2.St} {Q : VK}
    (g : Good Y.kf F μ st H) (en : EnvOk Y F μ st.length env σ) (h : RP Y F μ st H ((ev Φ G (.chain op op' a b e)).v env st) (kV Y Q) (at_ W σ)) :
    tChain (rC Y op) (rC Y op') (tE Y Φ G W a) (tE Y Φ G W b) (tE Y Φ G W e) σ H Q := by
  have h' : RP Y F μ st H (((ev Φ G a).v env st).bind fun p => ((ev Φ G b).v env p.2).bind fun q => (cmpV op p.1 q.1 q.2).bind fun k =>
      if k then ((ev Φ G e).v env q.2).bind fun r => (cmpV op' q.1 r.1 r.2).bind fun k' => .ok (.bl k', r.2) else .ok (.bl false, q.2)) (kV Y Q) (at_ W σ) := h
  refine goE g en h' fun F1 μ1 H1 x st1 w e1 g1 en1 r1 hh => ?_
  refine goE g1 en1 hh fun F2 μ2 H2 y st2 u e2 g2 en2 r2 hh2 => ?_
  obtain ⟨d, hd, q2⟩ := RP.bindP cmp_noexn hh2
  refine ⟨F2, μ2, st2, x, y, d, g2, e2.v r1, r2, hd, d, rfl, ?_⟩
  cases d with
  | true =>
    rw [if_pos rfl] at q2 ⊢
    refine goE g2 en2 q2 fun F3 μ3 H3 z st3 t e3 g3 en3 r3 hh3 => ?_
    obtain ⟨d', hd', q3⟩ := RP.bindP cmp_noexn hh3
    exact ⟨F3, μ3, st3, y, z, d', g3, e3.v r2, r3, hd', q3 F3 μ3 H3 Ext.refl g3 _ rfl⟩
  | false =>
    rw [if_neg Bool.false_ne_true] at q2 ⊢
    exact q2 F2 μ2 H2 Ext.refl g2 _ rfl
theorem chain_bl {op op' : COp} {a b e : E} {env : Env} {st : Store} {p : Val × Store} (h : (ev Φ G (.chain op op' a b e)).v env st = .ok p) : ∃ d, p.1 = .bl d := by
  have h' : (((ev Φ G a).v env st).bind fun p => ((ev Φ G b).v env p.2).bind fun q => (cmpV op p.1 q.1 q.2).bind fun k =>
      if k then ((ev Φ G e).v env q.2).bind fun r => (cmpV op' q.1 r.1 r.2).bind fun k' => R.ok (Val.bl k', r.2) else .ok (.bl false, q.2)) = .ok p := h
  cases ha : (ev Φ G a).v env st with
  | ok x =>
    rw [ha] at h'; simp only [R.bind_ok] at h'
    cases hb : (ev Φ G b).v env x.2 with
    | ok y =>
      rw [hb] at h'; simp only [R.bind_ok] at h'
      cases hc : cmpV op x.1 y.1 y.2 with
      | ok d =>
        rw [hc] at h'; simp only [R.bind_ok] at h'
        cases d with
        | true =>
          rw [if_pos rfl] at h'
          cases he : (ev Φ G e).v env y.2 with
          | ok z =>
            rw [he] at h'; simp only [R.bind_ok] at h'
            cases hd : cmpV op' y.1 z.1 z.2 with
            | ok d' => rw [hd] at h'; cases h'; exact ⟨_, rfl⟩
            | _ => rw [hd] at h'; cases h'
          | _ => rw [he] at h'; cases h'
        | false => rw [if_neg Bool.false_ne_true] at h'; cases h'; exact ⟨_, rfl⟩
      | _ => rw [hc] at h'; cases h'
    | _ => rw [hb] at h'; cases h'
  | _ => rw [ha] at h'; cases h'
theorem snd_chain {op op' : COp} {a b e : E} (sa : Snd Y Φ G C k a) (sb : Snd Y Φ G C k b) (se : Snd Y Φ G C k e) : Snd Y Φ G C k (.chain op op' a b e) where
  pe := fun {X ns W p} c tk q => by
    unfold chkE at q
    split at q
    · rename_i x o y o' z hx
      obtain ⟨pp, rfl⟩ := isChain_eq hx
      simp only [Bool.and_eq_true] at q
      obtain ⟨q1, q2, q3, q4, q5, q6⟩ := q
      have eo := cEq_eq q1
      have eo' := cEq_eq q2
      subst eo eo'
      exact PEimp (pe_chain (op_cmp (Y := Y) c.K c.hu op) (op_cmp (Y := Y) c.K c.hu op') (sa.pe c tk q4) (sb.pe c tk q5) (se.pe c tk q6) (last2 q3)) fun σ H Q ⟨F, μ, st, env, g, en, h⟩ => snd_chain_red g en h
    · cases q
  pt := fun {X ns W p} c tk q => by
    unfold chkE at q
    split at q
    · rename_i x o y o' z hx
      obtain ⟨pp, rfl⟩ := isChain_eq hx
      simp only [Bool.and_eq_true] at q
      obtain ⟨q1, q2, q3, q4, q5, q6⟩ := q
      have eo := cEq_eq q1
      have eo' := cEq_eq q2
      subst eo eo'
      refine PTimp (pt_chain (op_cmp (Y := Y) c.K c.hu op) (op_cmp (Y := Y) c.K c.hu op') (sa.pe c tk q4) (sb.pe c tk q5) (se.pe c tk q6) (last2 q3)) fun σ H Q ⟨F, μ, st, env, g, en, h⟩ => snd_chain_red g en ?_
      refine (show RP Y F μ st H (((ev Φ G (.chain op op' a b e)).v env st).bind fun p => (truth p.2 p.1).bind fun d => .ok (d, p.2)) (kT Q) (at_ W σ) from h).bind.impE fun F1 μ1 H1 v st1 er e1 g1 h1 w r => ?_
      obtain ⟨d, hd⟩ := chain_bl er
      have hd' : v = .bl d := hd
      subst hd'
      have ew : w = .bl d := r
      exact ⟨d, ew, h1 F1 μ1 H1 Ext.refl g1⟩
    · cases q
  pi := fun {X ns W p} tg c tk q => by
    unfold chkE at q
    split at q
    · rename_i x o y o' z hx
      obtain ⟨pp, rfl⟩ := isChain_eq hx
      simp only [Bool.and_eq_true] at q
      obtain ⟨q1, q2, q3, q4, q5, q6⟩ := q
      have eo := cEq_eq q1
      have eo' := cEq_eq q2
      subst eo eo'
      exact pi_of tg c rfl (PEimp (pe_chain (op_cmp (Y := Y) c.K c.hu op) (op_cmp (Y := Y) c.K c.hu op') (sa.pe c tk q4) (sb.pe c tk q5) (se.pe c tk q6) (last2 q3)) fun σ H Q ⟨F, μ, st, env, g, en, h⟩ => snd_chain_red g en h)
    · cases q
theorem snd_bo {b : Bool} {es : Es} (ss : Snds Y Φ G C k es) : Snd Y Φ G C k (.bo b es) where
  pe := fun {X ns W p} c tk q => by
    unfold chkE at q
    split at q
    · rename_i ps hx
      obtain ⟨pp, rfl⟩ := isBo_eq hx
      rw [Bool.and_eq_true] at q
      have eb : b = true := q.1
      subst eb
      cases es with
      | nil => exact ⟨fun pins s σ H Q I ⟨F, μ, st, env, g, en, h⟩ => False.elim h⟩
      | cons e r => exact ss.bo (pos := pp) true c tk q.2 (fun z => by cases z)
    · rename_i ps hx
      obtain ⟨pp, rfl⟩ := isBo_eq hx
      rw [Bool.and_eq_true] at q
      have eb : b = false := by simpa using q.1
      subst eb
      cases es with
      | nil => exact ⟨fun pins s σ H Q I ⟨F, μ, st, env, g, en, h⟩ => False.elim h⟩
      | cons e r => exact ss.bo (pos := pp) false c tk q.2 (fun z => by cases z)
    · cases q
  pt := fun {X ns W p} c tk q => by
    unfold chkE at q
    split at q
    · rename_i ps hx
      obtain ⟨pp, rfl⟩ := isBo_eq hx
      rw [Bool.and_eq_true] at q
      have eb : b = true := q.1
      subst eb
      cases es with
      | nil => exact ⟨fun pins s σ H Q I ⟨F, μ, st, env, g, en, h⟩ => False.elim h⟩
      | cons e r => exact (ss.bt (pos := pp) true c tk q.2 (fun z => by cases z)).pt
    · rename_i ps hx
      obtain ⟨pp, rfl⟩ := isBo_eq hx
      rw [Bool.and_eq_true] at q
      have eb : b = false := by simpa using q.1
      subst eb
      cases es with
      | nil => exact ⟨fun pins s σ H Q I ⟨F, μ, st, env, g, en, h⟩ => False.elim h⟩
      | cons e r => exact (ss.bt (pos := pp) false c tk q.2 (fun z => by cases z)).pt
    · cases q
  pi := fun tg c tk q => pi_stuck rfl
theorem snd_ifx {d a b : E} (sd : Snd Y Φ G C k d) (sa : Snd Y Φ G C k a) (sb : Snd Y Φ G C k b) : Snd Y Φ G C k (.ifx d a b) := by
  refine mkNSnd rfl fun {X ns W p} c tk q => ?_
  unfold chkE at q
  split at q
  · rename_i x y z hx
    obtain ⟨pp, rfl⟩ := isIfx_eq hx
    simp only [Bool.and_eq_true] at q
    obtain ⟨q1, q2, q3⟩ := q
    refine PEimp (pe_ifExp (sd.pt c tk q1) (sa.pe c tk q2) (sb.pe c tk q3)) fun σ H Q ⟨F, μ, st, env, g, en, h⟩ => ?_
    refine goT g en h fun F1 μ1 H1 t st1 e1 g1 en1 hh => ?_
    cases t with
    | true => rw [if_pos rfl]; exact ⟨F1, μ1, st1, env, g1, en1, hh⟩
    | false => rw [if_neg Bool.false_ne_true]; exact ⟨F1, μ1, st1, env, g1, en1, hh⟩
  · cases q
theorem chkEs_len : ∀ {es : Es} {ps : List Expr}, chkEs C ns es ps = true → ∀ {vs : List Val} {env : Env} {st st' : Store}, evs Φ G es env st = .ok (vs, st') → vs.length = ps.length
  | .nil, [], _, vs, env, st, st', h => by cases h; rfl
  | .nil, _ :: _, q, _, _, _, _, _ => by cases q
  | .cons e r, ps, q, vs, env, st, st', h => by
    obtain ⟨p, qs, rfl, h1, h2, h3⟩ := chkEs_cons q
    simp only [evs] at h
    cases hx : (ev Φ G e).v env st with
    | ok x =>
      rw [hx] at h; simp only [R.bind_ok] at h
      cases hy : evs Φ G r env x.2 with
      | ok y =>
        rw [hy] at h; cases h
        simp [chkEs_len h3 hy]
      | _ => rw [hy] at h; cases h
    | _ => rw [hx] at h; cases h
theorem snd_call {f : Str} {es : Es} (ss : Snds Y Φ G C k es) : Snd Y Φ G C k (.call f es) := by
  refine mkSnd rfl (fun ns p q => ?_) fun {X ns W p} c tk q => ?_
  · unfold chkE at q
    split at q
    · rename_i x ps hx; obtain ⟨pp, pq, rfl⟩ := isCall_eq hx; rfl
    · cases q
  · unfold chkE at q
    split at q
    · rename_i x ps hx
      obtain ⟨pp, pq, rfl⟩ := isCall_eq hx
      simp only [Bool.and_eq_true] at q
      obtain ⟨q1, q2, q3, q4, q5, q6, q7⟩ := q
      have ef := of_decide_eq_true q1
      subst ef
      obtain ⟨m, fa, fd, qs, hm, har, hmg, hkp, hb, hF⟩ := c.fn f (mem_of q3)
      cases ps with
      | nil => cases q2
      | cons p ps =>
        have n1 : notStar p = true ∧ noStars ps = true := by
          have z : (notStar p && noStars ps) = true := q6
          rwa [Bool.and_eq_true] at z
        have hcall : PE X (.Call (.Name f pp) (p :: ps) [] pq) (tCallS (spOf Y qs.length m) (WE W) (tA Y Φ G W es)) := by
          cases hcalm : C.calm with
          | true => exact pe_callS (hF.1 hcalm).2 (hF.1 hcalm).1 (gl_ok c q4) hmg hkp hb (fun σ => tk.pas σ) (ss.pa c tk q7) (okName_1 q5) (star_cons n1.1) (star_any n1.2)
          | false =>
            obtain ⟨r1, r3⟩ := hF.2 hcalm
            exact pe_callW r3 r1 (gl_ok c q4) hmg hkp hb (fun σ => tk.pas σ) (ss.pa c tk q7) (okName_1 q5) (star_cons n1.1) (star_any n1.2)
        refine PEimp hcall fun σ H Q ⟨F, μ, st, env, g, en, h⟩ => ?_
        refine goA g en h fun F1 μ1 H1 vs st1 ws e1 g1 en1 r1 hh => ?_
        have hh' : RP Y F1 μ1 st1 H1 (m vs st1) (kV Y Q) (at_ W σ) := by
          change RP Y F1 μ1 st1 H1 (match Φ f with | some m => m vs st1 | none => .stuck) (kV Y Q) (at_ W σ) at hh
          rw [hm] at hh; exact hh
        refine ⟨?_, F1, μ1, st1, vs, g1, r1, hh'⟩
        rw [r1.len]
        by_cases hl : vs.length = qs.length
        · exact hl
        · rw [har vs st1 hl] at hh'; exact False.elim hh'
    · cases q
theorem bt_ty (t : Ty) : bootBuiltins (tyStr t) = some (.type (tyName t)) := by cases t <;> decide +kernel
theorem ty_ok1 (t : Ty) : (tyStr t == ("__debug__" : Str)) = false := by cases t <;> decide +kernel
theorem ty_ok2 (t : Ty) : tyStr t ≠ ("__name__" : Str) := by cases t <;> decide +kernel
theorem pe_ty {t : Ty} {p : Pos} (c : Ctx X Y Φ G C ns k) (hg : glB ns (tyStr t) = true) (hb : C.bs.contains (tyStr t) = true) : PE X (.Name (tyStr t) p) (tC (.ty (tyName t))) :=
  pe_bltn (gl_ok c hg) (c.bt _ (mem_of hb)) (bt_ty t) rfl (ty_ok2 t) (ty_ok1 t)
theorem snd_isi {a : E} {t : Ty} (sa : Snd Y Φ G C k a) : Snd Y Φ G C k (.isi a t) := by
  have key : ∀ {ns : Names} {p : Expr}, chkE C ns (.isi a t) p = true → ∃ px p1 p2 pq y, p = .Call (.Name "isinstance" px) [p1, .Name y p2] [] pq ∧ glB ns "isinstance" = true ∧ notStar p1 = true ∧ chkE C ns a p1 = true ∧ y = tyStr t ∧ glB ns y = true ∧ C.bs.contains y = true ∧ C.bs.contains "isinstance" = true := by
    intro ns p q
    unfold chkE at q
    split at q
    · rename_i x p1 p2 hx
      obtain ⟨pp, pq, rfl⟩ := isCall_eq hx
      simp only [Bool.and_eq_true] at q
      obtain ⟨⟨q1, q2, q3, q4, q5⟩, q6⟩ := q
      have ex := of_decide_eq_true q1
      subst ex
      split at q5
      · rename_i y hy
        obtain ⟨py, rfl⟩ := isName_eq hy
        simp only [Bool.and_eq_true] at q5
        exact ⟨_, _, _, _, y, rfl, q2, q3, q4, of_decide_eq_true q5.1, q5.2.1, q5.2.2, q6⟩
      · cases q5
    · cases q
  refine mkSnd rfl (fun ns p q => ?_) fun {X ns W p} c tk q => ?_
  · obtain ⟨_, _, _, _, _, rfl, _⟩ := key q; rfl
  · obtain ⟨px, p1, p2, pq, y, rfl, q2, q3, q4, ey, q5, q6, q7⟩ := key q
    subst ey
    refine PEimp (pe_callB call_isi (gl_ok c q2) (c.bt _ (mem_of q7)) (by decide +kernel) (pa_cons (sa.pe c tk q4) (pa_cons (pe_ty c q5 q6) pa_nil) (star_cons q3)) (by decide +kernel) (by decide +kernel) (star_cons q3) rfl) fun σ H Q ⟨F, μ, st, env, g, en, h⟩ => ?_
    refine goE g en h fun F1 μ1 H1 x st1 w e1 g1 en1 r1 hh => ?_
    split at hh
    · rename_i b hb
      exact ⟨w, .ty (tyName t), _, _, b, rfl, .ty _, tyX_rep c.K g1 r1 hb, kit_ty (kit_tab hb), hh F1 μ1 H1 Ext.refl g1 _ rfl⟩
    · exact False.elim hh
theorem snd_isi2 {a : E} {t u : Ty} (sa : Snd Y Φ G C k a) : Snd Y Φ G C k (.isi2 a t u) := by
  have key : ∀ {ns : Names} {p : Expr}, chkE C ns (.isi2 a t u) p = true → ∃ px p1 py pz kk pt pq, p = .Call (.Name "isinstance" px) [p1, .Tuple [.Name (tyStr t) py, .Name (tyStr u) pz] kk pt] [] pq ∧ glB ns "isinstance" = true ∧ notStar p1 = true ∧ chkE C ns a p1 = true ∧
      glB ns (tyStr t) = true ∧ C.bs.contains (tyStr t) = true ∧ glB ns (tyStr u) = true ∧ C.bs.contains (tyStr u) = true ∧ C.bs.contains "isinstance" = true := by
    intro ns p q
    unfold chkE at q
    split at q
    · rename_i x p1 p2 hx
      obtain ⟨pp, pq, rfl⟩ := isCall_eq hx
      simp only [Bool.and_eq_true] at q
      obtain ⟨⟨q1, q2, q3, q4, q5⟩, q6⟩ := q
      have ex := of_decide_eq_true q1
      subst ex
      split at q5
      · rename_i c1 c2 hc
        obtain ⟨kk, pt, rfl⟩ := isTup_eq hc
        split at q5
        · rename_i y z hy hz
          obtain ⟨py, rfl⟩ := isName_eq hy
          obtain ⟨pz, rfl⟩ := isName_eq hz
          simp only [Bool.and_eq_true] at q5
          obtain ⟨a1, a2, a3, a4, a5, a6⟩ := q5
          have e1 := of_decide_eq_true a1
          have e2 := of_decide_eq_true a4
          subst e1 e2
          exact ⟨_, _, _, _, _, _, _, rfl, q2, q3, q4, a2, a3, a5, a6, q6⟩
        · cases q5
      · cases q5
    · cases q
  refine mkSnd rfl (fun ns p q => ?_) fun {X ns W p} c tk q => ?_
  · obtain ⟨_, _, _, _, _, _, _, rfl, _⟩ := key q; rfl
  · obtain ⟨px, p1, py, pz, kk, pt, pq, rfl, q2, q3, q4, a2, a3, a5, a6, q7⟩ := key q
    refine PEimp (pe_callB call_isiT (gl_ok c q2) (c.bt _ (mem_of q7)) (by decide +kernel) (pa_cons (sa.pe c tk q4) (pa_cons (pe_tup (pa_cons (pe_ty c a2 a3) (pa_cons (pe_ty c a5 a6) pa_nil))) pa_nil) (star_cons q3)) (by decide +kernel) (by decide +kernel) (star_cons q3) rfl) fun σ H Q ⟨F, μ, st, env, g, en, h⟩ => ?_
    refine goE g en h fun F1 μ1 H1 x st1 w e1 g1 en1 r1 hh => ?_
    split at hh
    · rename_i b b' hb hb'
      refine ⟨by show 2 ≤ sizeLine; rw [sizeLine_eq]; decide, fun tp htp => ?_⟩
      obtain ⟨g2, e2⟩ := g1.frozen (o := .tup [.ty (tyName t), .ty (tyName u)]) htp
      refine ⟨w, tp, _, _, _, b || b', rfl, upd_same, .cons (.ty _) (.cons (.ty _) .nil), tyX_rep c.K g2 (e2.v r1) hb, kitAny_cons (kit_ty (kit_tab hb)) (fun eb => ?_) (fun eb => by rw [eb]; rfl), hh _ _ _ e2 g2 _ rfl⟩
      refine kitAny_cons (kit_ty (kit_tab hb')) (fun eb' => ?_) (fun eb' => by rw [eb']; cases b <;> rfl)
      rw [eb, eb']
      exact kitAny_nil
    · exact False.elim hh
end
end MP
/-! MiniPy: the rest of the expressions; all of them. -/
namespace MP
open PySem L2 PySem.Spec PyProof.Rows

section
variable {Y : Fx} {Φ : Tab} {G : Str → Option Val} {C : Cfg} {k : Nat} {X : Cx} {ns : Names} {W : WX}
theorem f1_noexn {f : F1} {x : Val} {st : Store} : ∀ c fs s, f1V f x st ≠ .exn c fs s := by
  intro c fs s h
  cases f <;> simp only [f1V] at h
  all_goals repeat' (first | (cases h; done) | split at h)
theorem mm_noexn {b : Bool} {x y : Val} : ∀ c fs s, mmV b x y ≠ .exn c fs s := by
  intro c fs s h
  unfold mmV at h
  repeat' (first | (cases h; done) | split at h)
theorem ix_noexn {st : Store} {x y : Val} : ∀ c fs s, ixV st x y ≠ .exn c fs s := by
  intro c fs s h
  unfold ixV at h
  repeat' (first | (cases h; done) | split at h)
theorem part_noexn {b : Bool} {x : Val} : ∀ c fs s, partV b x ≠ .exn c fs s := by
  intro c fs s h
  unfold partV at h
  repeat' (first | (cases h; done) | split at h)
theorem rng_noexn {xs : List Val} : ∀ c fs s, rngV xs ≠ .exn c fs s := by
  intro c fs s h
  unfold rngV at h
  repeat' (first | (cases h; done) | split at h)
theorem boot_f1 (f : F1) : bootBuiltins (f1Str f) = some (f1Val f) := by cases f <;> decide +kernel
theorem f1_key {f : F1} (hf : f ≠ .lenset) {a : E} {ns : Names} {p : Expr} (q : chkE C ns (.f1 f a) p = true) : ∃ px p1 pq, p = .Call (.Name (f1Str f) px) [p1] [] pq ∧ glB ns (f1Str f) = true ∧ notStar p1 = true ∧ f1Str f ∈ C.bs ∧ chkE C ns a p1 = true ∧ (C.calm || noIter f) = true := by
  have q' : (match isCall p with
    | some (x, [p]) => decide (x = f1Str f) && (glB ns x && (notStar p && (C.bs.contains x && (chkE C ns a p && (C.calm || noIter f)))))
    | _ => false) = true := by
    cases f <;> first | exact absurd rfl hf | (unfold chkE at q; exact q)
  split at q'
  · rename_i x p1 hx
    obtain ⟨pp, pq, rfl⟩ := isCall_eq hx
    simp only [Bool.and_eq_true] at q'
    obtain ⟨q1, q2, q3, q4, q5⟩ := q'
    have ex := of_decide_eq_true q1
    subst ex
    exact ⟨_, _, _, rfl, q2, q3, mem_of q4, q5.1, q5.2⟩
  · cases q'
theorem snd_f1' {f : F1} (hf : f ≠ .lenset) {a : E} (sa : Snd Y Φ G C k a) : Snd Y Φ G C k (.f1 f a) := by
  refine mkSnd rfl (fun ns p q => ?_) fun {X ns W p} c tk q => ?_
  · obtain ⟨_, _, _, rfl, _⟩ := f1_key hf q; rfl
  · obtain ⟨px, p1, pq, rfl, q2, q3, q4, q5, q6⟩ := f1_key hf q
    have hp : ∀ {r : List V → Hp → VK → Prop}, CallR X (f1Val f) r → PE X (.Call (.Name (f1Str f) px) [p1] [] pq) (tCB r (tCons (tE Y Φ G W a) tNil)) := fun {r} hr => by
      have hb := boot_f1 f
      have hm := c.bt _ q4
      have hg := gl_ok c q2
      have hA := pa_cons (sa.pe c tk q5) (pa_nil (X := X)) (star_cons q3)
      cases f <;> first
        | exact absurd rfl hf
        | exact pe_callB hr hg hm hb hA (by decide +kernel) (by decide +kernel) (star_cons q3) rfl
        | exact pe_callTy hr hg hm hb hA (by decide +kernel) (by decide +kernel) (star_cons q3) rfl
    refine PEimp (hp (call_f1 (Y := Y) c.K f hf fun z => by
      rw [z, Bool.or_false] at q6; exact (c.calm q6).1)) fun σ H Q ⟨F, μ, st, env, g, en, h⟩ => ?_
    refine goE g en h fun F1 μ1 H1 x st1 w e1 g1 en1 r1 hh => ?_
    obtain ⟨d, hd, q6⟩ := RP.bindP f1_noexn hh
    exact ⟨F1, μ1, st1, x, w, d, rfl, g1, r1, hd, fun z hz => q6 F1 μ1 H1 Ext.refl g1 z hz⟩
theorem snd_mm {b : Bool} {a d : E} (sa : Snd Y Φ G C k a) (sd : Snd Y Φ G C k d) : Snd Y Φ G C k (.mm b a d) := by
  have key : ∀ {ns : Names} {p : Expr}, chkE C ns (.mm b a d) p = true → ∃ px p1 p2 pq, p = .Call (.Name (Str.ofString (if b then "max" else "min")) px) [p1, p2] [] pq ∧ glB ns (Str.ofString (if b then "max" else "min")) = true ∧ notStar p1 = true ∧ notStar p2 = true ∧ (Str.ofString (if b then "max" else "min")) ∈ C.bs ∧ chkE C ns a p1 = true ∧ chkE C ns d p2 = true ∧ C.calm = true := by
    intro ns p q
    unfold chkE at q
    split at q
    · rename_i x p1 p2 hx
      obtain ⟨pp, pq, rfl⟩ := isCall_eq hx
      simp only [Bool.and_eq_true] at q
      obtain ⟨q0, q1, q2, q3, q4, q5, q6, q7⟩ := q
      have ex := of_decide_eq_true q1
      subst ex
      exact ⟨_, _, _, _, rfl, q2, q3, q4, mem_of q5, q6, q7, q0⟩
    · cases q
  refine mkSnd rfl (fun ns p q => ?_) fun {X ns W p} c tk q => ?_
  · obtain ⟨_, _, _, _, rfl, _⟩ := key q; rfl
  · obtain ⟨px, p1, p2, pq, rfl, q2, q3, q4, q5, q6, q7, q8⟩ := key q
    have hp : PE X (.Call (.Name (Str.ofString (if b then "max" else "min")) px) [p1, p2] [] pq) (tCB (rMm Y b) (tCons (tE Y Φ G W a) (tCons (tE Y Φ G W d) tNil))) := by
      have hA := pa_cons (sa.pe c tk q6) (pa_cons (sd.pe c tk q7) (pa_nil (X := X)) (star_cons q4)) (star_cons q3)
      have ha : noStars [p2] = true := by show (notStar p2 && true) = true; rw [q4]; rfl
      cases b with
      | true => exact pe_callB (call_mm (c.calm q8).1 true) (gl_ok c q2) (c.bt _ q5) (by decide +kernel) hA (by decide +kernel) (by decide +kernel) (star_cons q3) (star_any ha)
      | false => exact pe_callB (call_mm (c.calm q8).1 false) (gl_ok c q2) (c.bt _ q5) (by decide +kernel) hA (by decide +kernel) (by decide +kernel) (star_cons q3) (star_any ha)
    refine PEimp hp fun σ H Q ⟨F, μ, st, env, g, en, h⟩ => ?_
    refine goE g en h fun F1 μ1 H1 x st1 w e1 g1 en1 r1 hh => ?_
    refine goE g1 en1 hh fun F2 μ2 H2 y st2 u e2 g2 en2 r2 hh2 => ?_
    obtain ⟨t, ht, q8⟩ := RP.bindP mm_noexn hh2
    exact ⟨F2, μ2, st2, x, y, w, u, t, rfl, g2, e2.v r1, r2, ht, fun z hz => q8 F2 μ2 H2 Ext.refl g2 z hz⟩
theorem set_read {m : Bool} {a : E} (hK : X.K = Y.K) {F H : Hp} {μ : Nat → Addr} {st : Store} {x : Val} {w : V} {Q : VK} {W' : XK} (g : Good Y.kf F μ st H) (r : RepV Y.kf F μ st.length x w) (h : RP Y F μ st H (g1V m .sortset x st) (kV Y Q) W') :
    rMkSet Y X.w [w] H (fun v H1 => rSortedSet X.w [v] H1 Q) := by
  change RP Y F μ st H (match seqOf st x with | some (true, xs) => (match asInts xs with | some ns => if ns.length < 64 then newL m ((sortS ns).map .int) st else .stuck | none => .stuck) | _ => .stuck) (kV Y Q) W' at h
  split at h
  · rename_i xs hq
    split at h
    · rename_i ns hn
      by_cases h64 : ns.length < 64
      · rw [if_pos h64] at h
        refine ⟨F, μ, st, x, w, xs, ns, rfl, g, r, hq, hn, h64, fun p n hp hn' => ?_⟩
        refine ⟨p, _, n, rfl, upd_same, hn', fun ns' l up mem _ hl => ?_⟩
        have en : ns' = sortS ns := up_only up (sortS_up ns) fun j => by rw [mem j, sortS_mem, decide_eq_true_eq]
        have hlp : l ≠ p := fun e => by rw [e, upd_same] at hl; cases hl
        have hl0 : H l = none := by rw [upd_ne hlp] at hl; exact hl
        have g2 : Good Y.kf F μ st (upd H p (SetO X.w p (fun j => decide (j ∈ ns)) n)) := g.beside hp
        have e2 : Ext F μ st H F μ st (upd H p (SetO X.w p (fun j => decide (j ∈ ns)) n)) :=
          ⟨Same.refl _, fun _ _ => rfl, Nat.le_refl _, fun b u hb _ => by rw [upd_ne (ne_of_none hb hp)]; exact hb, fun i d hd ld => .inl ⟨d, hd, ld⟩, fun b u hb => ⟨u, by rw [upd_ne (ne_of_none hb hp)]; exact hb⟩, fun _ _ h => .inl h⟩
        obtain ⟨_, kk⟩ := newL_ok g2 (h.ext e2) (repL_ints (sortS ns))
        rw [en]
        exact kk l hl
      · rw [if_neg h64] at h; exact False.elim h
    · exact False.elim h
  · exact False.elim h
theorem snd_sortset {m : Bool} {a : E} (sa : Snd Y Φ G C k a) : Snd Y Φ G C k (.g1 m .sortset a) := by
  have key : ∀ {ns : Names} {p : Expr}, chkE C ns (.g1 m .sortset a) p = true → ∃ px py p1 pq pr, p = .Call (.Name "sorted" px) [.Call (.Name "set" py) [p1] [] pq] [] pr ∧ glB ns "sorted" = true ∧ ("sorted" : Str) ∈ C.bs ∧ glB ns "set" = true ∧ ("set" : Str) ∈ C.bs ∧ notStar p1 = true ∧ chkE C ns a p1 = true ∧ C.calm = true := by
    intro ns p q
    unfold chkE at q
    split at q
    · rename_i x p1 hx
      obtain ⟨pp, pq, rfl⟩ := isCall_eq hx
      simp only [Bool.and_eq_true] at q
      obtain ⟨q0, q1, q2, q3, q4⟩ := q
      have ex := of_decide_eq_true q1
      subst ex
      split at q4
      · rename_i y p2 hy
        obtain ⟨py, pr, rfl⟩ := isCall_eq hy
        simp only [Bool.and_eq_true] at q4
        obtain ⟨a1, a2, a3, a4, a5⟩ := q4
        have ey := of_decide_eq_true a1
        subst ey
        exact ⟨_, _, _, _, _, rfl, q2, mem_of q3, a2, mem_of a3, a4, a5, q0⟩
      · cases q4
    · cases q
  refine mkSnd rfl (fun ns p q => ?_) fun {X ns W p} c tk q => ?_
  · obtain ⟨_, _, _, _, _, rfl, _⟩ := key q; rfl
  · obtain ⟨px, py, p1, pq, pr, rfl, q1, q2, q3, q4, q5, q6, q7⟩ := key q
    have hs : PE X (.Call (.Name "set" py) [p1] [] pq) (tCB (rMkSet Y X.w) (tCons (tE Y Φ G W a) tNil)) :=
      pe_callTy (call_mkset c.K (c.calm q7).1) (gl_ok c q3) (c.bt _ q4) (by decide +kernel) (pa_cons (sa.pe c tk q6) pa_nil (star_cons q5)) (by decide +kernel) (by decide +kernel) (star_cons q5) rfl
    refine PEimp (pe_callB (cr_sortedSet (c.calm q7).1) (gl_ok c q1) (c.bt _ q2) (by decide +kernel) (pa_cons hs pa_nil) (by decide +kernel) (by decide +kernel) rfl rfl) fun σ H Q ⟨F, μ, st, env, g, en, h⟩ => ?_
    refine goE g en h fun F1 μ1 H1 x st1 w e1 g1 en1 r1 hh => ?_
    exact set_read (a := a) c.K g1 r1 hh
theorem set_read1 {ns0 : List Int} {xs : List Val} (hK : X.K = Y.K) {F H : Hp} {μ : Nat → Addr} {st : Store} {x : Val} {w : V} {Q : VK} (g : Good Y.kf F μ st H) (r : RepV Y.kf F μ st.length x w) (hq : seqOf st x = some (true, xs)) (hn : asInts xs = some ns0) (h64 : ns0.length < 64) (q : ∀ H', (∀ b o, H b = some o → H' b = some o) → Good Y.kf F μ st H' → Ext F μ st H F μ st H' → Q (.int (sortS ns0).length) H') :
    rMkSet Y X.w [w] H (fun v H1 => ∃ (p : Addr) (ns : List Int) (n : Nat), [v] = [V.ref p] ∧ H1 p = some (SetO X.w p (fun j => decide (j ∈ ns)) n) ∧ n < 64 ∧ Q (.int (sortS ns).length) H1) := by
  refine ⟨F, μ, st, x, w, xs, ns0, rfl, g, r, hq, hn, h64, fun p n hp hn' => ⟨p, ns0, n, rfl, upd_same, hn', q _ (fun b o e => by rw [upd_ne (ne_of_none e hp)]; exact e) (g.beside hp) ?_⟩⟩
  exact ⟨Same.refl _, fun _ _ => rfl, Nat.le_refl _, fun b u hb _ => by rw [upd_ne (ne_of_none hb hp)]; exact hb, fun i d hd ld => .inl ⟨d, hd, ld⟩, fun b u hb => ⟨u, by rw [upd_ne (ne_of_none hb hp)]; exact hb⟩, fun _ _ h => .inl h⟩
theorem snd_lenset {a : E} (sa : Snd Y Φ G C k a) : Snd Y Φ G C k (.f1 .lenset a) := by
  have key : ∀ {ns : Names} {p : Expr}, chkE C ns (.f1 .lenset a) p = true → ∃ px py p1 pq pr, p = .Call (.Name "len" px) [.Call (.Name "set" py) [p1] [] pq] [] pr ∧ glB ns "len" = true ∧ ("len" : Str) ∈ C.bs ∧ glB ns "set" = true ∧ ("set" : Str) ∈ C.bs ∧ notStar p1 = true ∧ chkE C ns a p1 = true ∧ C.calm = true := by
    intro ns p q
    unfold chkE at q
    split at q
    · rename_i x p1 hx
      obtain ⟨pp, pq, rfl⟩ := isCall_eq hx
      simp only [Bool.and_eq_true] at q
      obtain ⟨q0, q1, q2, q3, q4⟩ := q
      have ex := of_decide_eq_true q1
      subst ex
      split at q4
      · rename_i y p2 hy
        obtain ⟨py, pr, rfl⟩ := isCall_eq hy
        simp only [Bool.and_eq_true] at q4
        obtain ⟨a1, a2, a3, a4, a5⟩ := q4
        have ey := of_decide_eq_true a1
        subst ey
        exact ⟨_, _, _, _, _, rfl, q2, mem_of q3, a2, mem_of a3, a4, a5, q0⟩
      · cases q4
    · cases q
  refine mkSnd rfl (fun ns p q => ?_) fun {X ns W p} c tk q => ?_
  · obtain ⟨_, _, _, _, _, rfl, _⟩ := key q; rfl
  · obtain ⟨px, py, p1, pq, pr, rfl, q1, q2, q3, q4, q5, q6, q7⟩ := key q
    have hs : PE X (.Call (.Name "set" py) [p1] [] pq) (tCB (rMkSet Y X.w) (tCons (tE Y Φ G W a) tNil)) :=
      pe_callTy (call_mkset c.K (c.calm q7).1) (gl_ok c q3) (c.bt _ q4) (by decide +kernel) (pa_cons (sa.pe c tk q6) pa_nil (star_cons q5)) (by decide +kernel) (by decide +kernel) (star_cons q5) rfl
    refine PEimp (pe_callB call_lenset (gl_ok c q1) (c.bt _ q2) (by decide +kernel) (pa_cons hs pa_nil) (by decide +kernel) (by decide +kernel) rfl rfl) fun σ H Q ⟨F, μ, st, env, g, en, h⟩ => ?_
    refine goE g en h fun F1 μ1 H1 x st1 w e1 g1 en1 r1 hh => ?_
    change RP Y F1 μ1 st1 H1 ((match seqOf st1 x with | some (true, xs) => (match asInts xs with | some ns => if ns.length < 64 then R.ok (Val.int (sortS ns).length) else .stuck | none => .stuck) | _ => .stuck).bind fun y => .ok (y, st1)) (kV Y Q) (at_ W σ) at hh
    split at hh
    · rename_i xs hq
      split at hh
      · rename_i ns hn
        by_cases h64 : ns.length < 64
        · rw [if_pos h64] at hh
          exact set_read1 c.K g1 r1 hq hn h64 fun H' _ g' e' => hh F1 μ1 H' e' g' _ rfl
        · rw [if_neg h64] at hh; exact False.elim hh
      · exact False.elim hh
    · exact False.elim hh
theorem snd_f1 {f : F1} {a : E} (sa : Snd Y Φ G C k a) : Snd Y Φ G C k (.f1 f a) := by
  by_cases hf : f = .lenset
  · subst hf; exact snd_lenset sa
  · exact snd_f1' hf sa
theorem g1_key {f : G1} {m : Bool} {a : E} {ns : Names} {p : Expr} (hf : f ≠ .sortset) (q : chkE C ns (.g1 m f a) p = true) : ∃ px p1 pq, p = .Call (.Name (g1Str f) px) [p1] [] pq ∧ glB ns (g1Str f) = true ∧ notStar p1 = true ∧ g1Str f ∈ C.bs ∧ chkE C ns a p1 = true := by
  have q' : (match isCall p with
    | some (x, [p]) => decide (x = g1Str f) && (glB ns x && (notStar p && (C.bs.contains x && chkE C ns a p)))
    | _ => false) = true := by
    cases f <;> first | exact absurd rfl hf | (unfold chkE at q; exact q)
  split at q'
  · rename_i x p1 hx
    obtain ⟨pp, pq, rfl⟩ := isCall_eq hx
    simp only [Bool.and_eq_true] at q'
    obtain ⟨q1, q2, q3, q4, q5⟩ := q'
    have ex := of_decide_eq_true q1
    subst ex
    exact ⟨_, _, _, rfl, q2, q3, mem_of q4, q5⟩
  · cases q'
theorem snd_g1 {m : Bool} {f : G1} {a : E} (sa : Snd Y Φ G C k a) : Snd Y Φ G C k (.g1 m f a) := by
  by_cases hf : f = .sortset
  · subst hf; exact snd_sortset sa
  · refine mkSnd rfl (fun ns p q => ?_) fun {X ns W p} c tk q => ?_
    · obtain ⟨_, _, _, rfl, _⟩ := g1_key hf q; rfl
    · obtain ⟨px, p1, pq, rfl, q2, q3, q4, q5⟩ := g1_key hf q
      refine ⟨fun pins s σ H Q I ⟨F, μ, st, env, g, en, h⟩ => ?_⟩
      have hA := pa_cons (sa.pe c tk q5) (pa_nil (X := X)) (star_cons q3)
      have red : tCB (rG1 Y (at_ W σ) m f) (tCons (tE Y Φ G W a) tNil) σ H Q := by
        refine goE g en h fun F1 μ1 H1 x st1 w e1 g1 en1 r1 hh => ?_
        exact ⟨F1, μ1, st1, x, w, rfl, g1, r1, hh⟩
      cases f with
      | list => exact (pe_callTy (call_g_list c.K) (gl_ok c q2) (c.bt _ q4) (by decide +kernel) hA (by decide +kernel) (by decide +kernel) (star_cons q3) rfl).run pins s σ H Q I red
      | tuple => exact (pe_callTy (call_g_tuple c.K) (gl_ok c q2) (c.bt _ q4) (by decide +kernel) hA (by decide +kernel) (by decide +kernel) (star_cons q3) rfl).run pins s σ H Q I red
      | sorted => exact (pe_callB (call_g_sorted c.K c.units) (gl_ok c q2) (c.bt _ q4) (by decide +kernel) hA (by decide +kernel) (by decide +kernel) (star_cons q3) rfl).run pins s σ H Q I red
      | sortset => exact absurd rfl hf
theorem snd_sub {a i : E} (sa : Snd Y Φ G C k a) (si : Snd Y Φ G C k i) : Snd Y Φ G C k (.sub a i) := by
  have key : ∀ {ns : Names} {p : Expr}, chkE C ns (.sub a i) p = true → ∃ p1 p2 pq, p = .Subscript p1 p2 pq ∧ notSlice p2 = true ∧ chkE C ns a p1 = true ∧ chkE C ns i p2 = true := by
    intro ns p q
    unfold chkE at q
    split at q
    · rename_i x y hx
      obtain ⟨pp, rfl⟩ := isSub_eq hx
      simp only [Bool.and_eq_true] at q
      exact ⟨_, _, _, rfl, q.1, q.2.1, q.2.2⟩
    · cases q
  refine mkSnd rfl (fun ns p q => ?_) fun {X ns W p} c tk q => ?_
  · obtain ⟨_, _, _, rfl, _⟩ := key q; rfl
  · obtain ⟨p1, p2, pq, rfl, q1, q2, q3⟩ := key q
    refine PEimp (pe_ix (ix_all (Y := Y) c.K) (sa.pe c tk q2) (si.pe c tk q3) (plain_ix q1)) fun σ H Q ⟨F, μ, st, env, g, en, h⟩ => ?_
    refine goE g en h fun F1 μ1 H1 x st1 w e1 g1 en1 r1 hh => ?_
    refine goE g1 en1 hh fun F2 μ2 H2 y st2 u e2 g2 en2 r2 hh2 => ?_
    obtain ⟨t, ht, q8⟩ := RP.bindP ix_noexn hh2
    exact ⟨F2, μ2, st2, x, y, t, g2, e2.v r1, r2, ht, fun z hz => q8 F2 μ2 H2 Ext.refl g2 z hz⟩
/-- a slice's part -/
def tP (Y : Fx) (Φ : Tab) (G : Str → Option Val) (W : WX) (lo : E) : TO := fun σ H Q => ∃ F μ st env, Good Y.kf F μ st H ∧ EnvOk Y F μ st.length env σ ∧
  RP Y F μ st H (((ev Φ G lo).v env st).bind fun q => (partV (isNo lo) q.1).bind fun l => .ok (l, q.2)) (fun _ _ H o _ => Q o H) (at_ W σ)
theorem part_ok {lo : E} (sl : Snd Y Φ G C k lo) {l : Option Expr} (c : Ctx X Y Φ G C ns k) (tk : Tk X W) (q : (match l with | none => isNo lo | some l => !isNo lo && chkE C ns lo l) = true) : PO X l (tP Y Φ G W lo) := by
  cases l with
  | none =>
    cases lo with
    | no => exact ⟨fun pins s σ H Q I ⟨F, μ, st, env, g, en, h⟩ => po_none.run pins s σ H Q I (h F μ H Ext.refl g)⟩
    | _ => cases q
  | some l =>
    simp only [Bool.and_eq_true] at q
    have hn : isNo lo = false := by simpa using q.1
    refine ⟨fun pins s σ H Q I ⟨F, μ, st, env, g, en, h⟩ => (po_some (sl.pe c tk q.2)).run pins s σ H Q I ?_⟩
    refine goE g en h fun F1 μ1 H1 x st1 w e1 g1 en1 r1 hh => ?_
    rw [hn] at hh
    cases x with
    | int i => exact ⟨i, r1, hh F1 μ1 H1 Ext.refl g1⟩
    | _ => exact False.elim hh
theorem snd_slc {m : Bool} {a lo hi : E} (sa : Snd Y Φ G C k a) (sl : Snd Y Φ G C k lo) (sh : Snd Y Φ G C k hi) : Snd Y Φ G C k (.slc m a lo hi) := by
  have key : ∀ {ns : Names} {p : Expr}, chkE C ns (.slc m a lo hi) p = true → ∃ p1 l h ps pq, p = .Subscript p1 (.Slice l h none ps) pq ∧ chkE C ns a p1 = true ∧ (match l with | none => isNo lo | some l => !isNo lo && chkE C ns lo l) = true ∧ (match h with | none => isNo hi | some l => !isNo hi && chkE C ns hi l) = true := by
    intro ns p q
    unfold chkE at q
    split at q
    · rename_i x y hx
      obtain ⟨pp, rfl⟩ := isSub_eq hx
      rw [Bool.and_eq_true] at q
      obtain ⟨q1, q2⟩ := q
      split at q2
      · rename_i l h hs
        obtain ⟨ps, rfl⟩ := isSlice_eq hs
        rw [Bool.and_eq_true] at q2
        exact ⟨_, _, _, _, _, rfl, q1, q2.1, q2.2⟩
      · cases q2
    · cases q
  refine mkSnd rfl (fun ns p q => ?_) fun {X ns W p} c tk q => ?_
  · obtain ⟨_, _, _, _, _, rfl, _⟩ := key q; rfl
  · obtain ⟨p1, l, hh, ps, pq, rfl, q1, q2, q3⟩ := key q
    refine ⟨fun pins s σ H Q I ⟨F, μ, st, env, g, en, h⟩ => ?_⟩
    refine (pe_slice (sl_all (Y := Y) (W := at_ W σ) (m := m) c.K) (sa.pe c tk q1) (part_ok sl c tk q2) (part_ok sh c tk q3)).run pins s σ H Q I ?_
    refine goE g en h fun F1 μ1 H1 x st1 w e1 g1 en1 r1 h1 => ?_
    refine ⟨F1, μ1, st1, env, g1, en1, ?_⟩
    have h1' : RP Y F1 μ1 st1 H1 ((((ev Φ G lo).v env st1).bind fun q => (partV (isNo lo) q.1).bind fun l => R.ok (l, q.2)).bind fun lq => (((ev Φ G hi).v env lq.2).bind fun r => (partV (isNo hi) r.1).bind fun h' => R.ok (h', r.2)).bind fun hq => slcV m hq.2 x lq.1 hq.1) (kV Y Q) (at_ W σ) := by
      have ee : ((((ev Φ G lo).v env st1).bind fun q => (partV (isNo lo) q.1).bind fun l => R.ok (l, q.2)).bind fun lq => (((ev Φ G hi).v env lq.2).bind fun r => (partV (isNo hi) r.1).bind fun h' => R.ok (h', r.2)).bind fun hq => slcV m hq.2 x lq.1 hq.1) =
          (((ev Φ G lo).v env st1).bind fun q => (partV (isNo lo) q.1).bind fun l' => ((ev Φ G hi).v env q.2).bind fun r => (partV (isNo hi) r.1).bind fun h' => slcV m r.2 x l' h') := by
        cases (ev Φ G lo).v env st1 with
        | ok q0 =>
          simp only [R.bind_ok]
          cases partV (isNo lo) q0.1 with
          | ok l0 =>
            simp only [R.bind_ok]
            cases (ev Φ G hi).v env q0.2 with
            | ok r0 =>
              simp only [R.bind_ok]
              cases partV (isNo hi) r0.1 <;> rfl
            | _ => rfl
          | _ => rfl
        | _ => rfl
      rw [ee]; exact h1
    refine h1'.bind.impE fun F2 μ2 H2 l0 st2 _ e2 g2 h2 => ?_
    refine ⟨F2, μ2, st2, env, g2, e2.env en1, ?_⟩
    refine h2.bind.impE fun F3 μ3 H3 u0 st3 _ e3 g3 h3 => ?_
    exact ⟨F3, μ3, st3, x, g3, e3.v (e2.v r1), h3⟩
theorem snd_no : Snd Y Φ G C k .no where
  pe := fun c tk q => by cases q
  pt := fun c tk q => by cases q
  pi := fun tg c tk q => by cases q
theorem rng_key {es : Es} {ns : Names} {p : Expr} (q : chkE C ns (.rng es) p = true) : ∃ px ps pq, p = .Call (.Name "range" px) ps [] pq ∧ glB ns "range" = true ∧ ("range" : Str) ∈ C.bs ∧ (ps.length = 1 ∨ ps.length = 2 ∨ ps.length = 3) ∧ noStars ps = true ∧ chkEs C ns es ps = true := by
  unfold chkE at q
  split at q
  · rename_i x ps hx
    obtain ⟨pp, pq, rfl⟩ := isCall_eq hx
    simp only [Bool.and_eq_true, Bool.or_eq_true, decide_eq_true_eq] at q
    obtain ⟨q1, q2, q3, q4, q5, q6⟩ := q
    subst q1
    exact ⟨_, _, _, rfl, q2, mem_of q3, q4, q5, q6⟩
  · cases q
theorem snd_rng {es : Es} (ss : Snds Y Φ G C k es) : Snd Y Φ G C k (.rng es) where
  pe := fun c tk q => ⟨fun pins s σ H Q I ⟨F, μ, st, env, g, en, h⟩ => False.elim h⟩
  pt := fun c tk q => pt_stuck rfl
  pi := fun {X ns W p} tg c tk q => by
    obtain ⟨px, ps, pq, rfl, q2, q3, q4, q5, q6⟩ := rng_key q
    have red : ∀ {σ : L2.St} {H : Hp} {R : It → Hp → Prop}, tI Y Φ G W (.rng es) σ H R → tA Y Φ G W es σ H fun vs H1 => (∃ j : Int, vs = [.int j] ∧ -1000000 ≤ j ∧ j ≤ 1000000 ∧ R (Itr 0 j.toNat) H1) ∨ (∃ i j : Int, vs = [.int i, .int j] ∧ (-1000000 ≤ i ∧ i ≤ 1000000 ∧ -1000000 ≤ j ∧ j ≤ 1000000) ∧ R (Itr i (j - i).toNat) H1) ∨ (∃ i j : Int, vs = [.int i, .int j, .int (-1)] ∧ (-1000000 ≤ i ∧ i ≤ 1000000 ∧ -1000000 ≤ j ∧ j ≤ 1000000) ∧ R (Itc i (-1) (i - j).toNat) H1) := fun {σ H R} ⟨F, μ, st, env, g, en, h⟩ => by
      refine goA g en h fun F1 μ1 H1 xs st1 ws e1 g1 en1 r1 hh => ?_
      obtain ⟨t, ht, q8⟩ := RP.bindP rng_noexn hh
      unfold rngV at ht
      split at ht
      · rename_i j hj0
        have hx0 : xs = [.int j] := hj0
        subst hx0
        by_cases hj : rngOk j = true
        · rw [if_pos hj] at ht
          cases ht
          obtain ⟨v, r, rfl, hv, hr⟩ := r1
          cases hr
          have ev' : v = .int j := hv
          subst ev'
          have b := of_decide_eq_true hj
          exact .inl ⟨j, rfl, b.1, b.2, q8 F1 μ1 H1 Ext.refl g1 _ _ (repL_range 0 j.toNat) (walk_rng F1 0 j.toNat)⟩
        · rw [if_neg hj] at ht; cases ht
      · rename_i i j hj0
        have hx0 : xs = [.int i, .int j] := hj0
        subst hx0
        by_cases hj : (rngOk i && rngOk j) = true
        · rw [if_pos hj] at ht
          cases ht
          obtain ⟨v, r, rfl, hv, v2, r2, rfl, hv2, hr⟩ := r1
          cases hr
          have ev' : v = .int i := hv
          have ev2 : v2 = .int j := hv2
          subst ev' ev2
          rw [Bool.and_eq_true] at hj
          have b := of_decide_eq_true hj.1
          have b' := of_decide_eq_true hj.2
          exact .inr (.inl ⟨i, j, rfl, ⟨b.1, b.2, b'.1, b'.2⟩, q8 F1 μ1 H1 Ext.refl g1 _ _ (repL_range i (j - i).toNat) (walk_rng F1 i (j - i).toNat)⟩)
        · rw [if_neg hj] at ht; cases ht
      · rename_i i j kk hj0
        have hx0 : xs = [.int i, .int j, .int kk] := hj0
        subst hx0
        by_cases hj : (rngOk i && (rngOk j && decide (kk = -1))) = true
        · rw [if_pos hj] at ht
          cases ht
          obtain ⟨v, r, rfl, hv, v2, r2, rfl, hv2, v3, r3, rfl, hv3, hr⟩ := r1
          cases hr
          have ev' : v = .int i := hv
          have ev2 : v2 = .int j := hv2
          have ev3 : v3 = .int kk := hv3
          subst ev' ev2 ev3
          rw [Bool.and_eq_true, Bool.and_eq_true] at hj
          have b := of_decide_eq_true hj.1
          have b' := of_decide_eq_true hj.2.1
          have ek := of_decide_eq_true hj.2.2
          subst ek
          exact .inr (.inr ⟨i, j, rfl, ⟨b.1, b.2, b'.1, b'.2⟩, q8 F1 μ1 H1 Ext.refl g1 _ _ (repL_rev i (i - j).toNat) (walk_rev F1 i (i - j).toNat)⟩)
        · rw [if_neg hj] at ht; cases ht
      · cases ht
    have lenA : ∀ {σ : L2.St} {H : Hp} {Q : List V → Hp → Prop}, tA Y Φ G W es σ H Q → tA Y Φ G W es σ H fun vs H1 => vs.length = ps.length ∧ Q vs H1 := fun {σ H Q} ⟨F, μ, st, env, g, en, h⟩ =>
      ⟨F, μ, st, env, g, en, h.impE fun F1 μ1 H1 xs st1 ex e1 g1 hh ws r => ⟨by rw [r.len]; exact chkEs_len q6 ex, hh ws r⟩⟩
    have hA := ss.pa c tk q6
    rcases q4 with q4 | q4 | q4
    · match ps, q4 with
      | [p1], _ =>
        have n1 : notStar p1 = true := by
          have z : (notStar p1 && true) = true := q5
          rwa [Bool.and_true] at z
        refine PIimp (pi_range1 (gl_ok c q2) (c.bt _ q3) hA (star_cons n1)) fun σ H R h => ?_
        obtain ⟨F, μ, st, env, g, en, h2⟩ := lenA (red h)
        refine ⟨F, μ, st, env, g, en, h2.impE fun F1 μ1 H1 xs st1 ex e1 g1 hh ws r => ?_⟩
        obtain ⟨hl, hq⟩ := hh ws r
        rcases hq with ⟨j, rfl, b1, b2, hR⟩ | ⟨i, j, rfl, _⟩ | ⟨i, j, rfl, _⟩
        · exact ⟨j, rfl, by omega, by omega, hR⟩
        · cases hl
        · cases hl
    · match ps, q4 with
      | [p1, p2], _ =>
        have n1 : notStar p1 = true ∧ notStar p2 = true := by
          have z : (notStar p1 && (notStar p2 && true)) = true := q5
          rwa [Bool.and_true, Bool.and_eq_true] at z
        refine PIimp (pi_range2 (gl_ok c q2) (c.bt _ q3) hA (by rw [star_cons n1.1, star_cons n1.2]; rfl) (by rw [star_cons n1.2]; rfl)) fun σ H R h => ?_
        obtain ⟨F, μ, st, env, g, en, h2⟩ := lenA (red h)
        refine ⟨F, μ, st, env, g, en, h2.impE fun F1 μ1 H1 xs st1 ex e1 g1 hh ws r => ?_⟩
        obtain ⟨hl, hq⟩ := hh ws r
        rcases hq with ⟨j, rfl, _⟩ | ⟨i, j, rfl, b, hR⟩ | ⟨i, j, rfl, _⟩
        · cases hl
        · exact ⟨i, j, rfl, ⟨by omega, by omega, by omega, by omega⟩, hR⟩
        · cases hl
    · match ps, q4 with
      | [p1, p2, p3], _ =>
        have n1 : notStar p1 = true ∧ notStar p2 = true ∧ notStar p3 = true := by
          have z : (notStar p1 && (notStar p2 && (notStar p3 && true))) = true := q5
          rwa [Bool.and_true, Bool.and_eq_true, Bool.and_eq_true] at z
        have nn : noStars [p2, p3] = true := by show (notStar p2 && (notStar p3 && true)) = true; rw [n1.2.1, n1.2.2]; rfl
        refine PIimp (pi_range3 (gl_ok c q2) (c.bt _ q3) hA (star_cons n1.1) (star_any nn)) fun σ H R h => ?_
        obtain ⟨F, μ, st, env, g, en, h2⟩ := lenA (red h)
        refine ⟨F, μ, st, env, g, en, h2.impE fun F1 μ1 H1 xs st1 ex e1 g1 hh ws r => ?_⟩
        obtain ⟨hl, hq⟩ := hh ws r
        rcases hq with ⟨j, rfl, _⟩ | ⟨i, j, rfl, _⟩ | ⟨i, j, rfl, b, hR⟩
        · cases hl
        · cases hl
        · exact ⟨i, j, -1, _, rfl, RgC.neg (by omega) (by omega) (by omega) (by omega), hR⟩
theorem snd_frz {a : E} (sa : Snd Y Φ G C k a) : Snd Y Φ G C k (.frz a) := by
  refine mkNSnd rfl fun {X ns W p} c tk q => ?_
  refine PEimp (sa.pe c tk (by unfold chkE at q; exact q)) fun σ H Q ⟨F, μ, st, env, g, en, h⟩ => ?_
  refine goE g en h fun F1 μ1 H1 x st1 w e1 g1 en1 r1 hh => ?_
  have plain : ∀ {v : Val}, RepV Y.kf F1 μ1 st1.length v w → RP Y F1 μ1 st1 H1 (.ok (v, st1)) (kV Y Q) (at_ W σ) → Q w H1 := fun r h => h F1 μ1 H1 Ext.refl g1 w r
  cases x with
  | loc n =>
    change RP Y F1 μ1 st1 H1 (match st1[n]? with | some (.lst xs) => .ok (.lst xs, st1.set n (.frz xs)) | some (.frz xs) => .ok (.lst xs, st1) | some (.obj c ns xs) => .ok (.obj c ns xs, st1.set n (.fob c ns xs)) | some (.fob c ns xs) => .ok (.obj c ns xs, st1) | _ => .stuck) (kV Y Q) (at_ W σ) at hh
    obtain ⟨hw, hn⟩ := r1
    split at hh
    · rename_i xs hc
      obtain ⟨F2, g2, e2, r2⟩ := g1.freeze hc
      rw [hw]
      exact hh F2 μ1 H1 e2 g2 _ r2
    · rename_i xs hc
      obtain ⟨vs, h1, h2⟩ := g1.st.cell n _ hc
      rw [hw]
      exact hh F1 μ1 H1 Ext.refl g1 _ ⟨_, vs, rfl, h1, h2⟩
    · rename_i cc ns xs hc
      obtain ⟨F2, g2, e2, r2⟩ := g1.freezeO hc
      rw [hw]
      exact hh F2 μ1 H1 e2 g2 _ r2
    · rename_i cc ns xs hc
      have r2 := g1.st.cell n _ hc
      rw [hw]
      exact hh F1 μ1 H1 Ext.refl g1 _ r2
    · exact False.elim hh
  | non => exact plain r1 hh
  | bl _ => exact plain r1 hh
  | int _ => exact plain r1 hh
  | str _ => exact plain r1 hh
  | tup _ => exact plain r1 hh
  | lst _ => exact plain r1 hh
  | scr _ => exact plain r1 hh
  | obj _ _ _ => exact plain r1 hh
theorem snd_app {o a : E} (so : Snd Y Φ G C k o) (sa : Snd Y Φ G C k a) : Snd Y Φ G C k (.app o a) := by
  refine mkNSnd rfl fun {X ns W p} c tk q => ?_
  unfold chkE at q
  split at q
  · rename_i po m p1 kk hx
    obtain ⟨pp, pq, rfl, hkk⟩ := isMeth_eq hx
    simp only [Bool.and_eq_true] at q
    obtain ⟨q1, q2, q3, q4, q5, q6⟩ := q
    have em := of_decide_eq_true q1
    subst em
    rw [hkk] at q2
    have hst : noStars [p1] = true := by show (notStar p1 && true) = true; rw [q4]; rfl
    refine PEimp (pe_bm PySem.F.plainAttrs_list PySem.F.slot_list_append PySem.F.type_list_append mt_append (so.pe c tk q5) (pa_cons (sa.pe c tk q6) pa_nil (star_cons q4)) (base_id q3) (by rw [star_all hst]; rfl) q2 (star_cons q4) rfl) fun σ H Q ⟨F, μ, st, env, g, en, h⟩ => ?_
    refine goE g en h fun F1 μ1 H1 x st1 w e1 g1 en1 r1 hh => ?_
    by_cases hc : isCell st1 x = true
    · rw [if_pos hc] at hh
      cases x with
      | loc n =>
        obtain ⟨hw, hn⟩ := r1
        have hc' : (match st1[n]? with | some (.lst _) => true | _ => false) = true := hc
        split at hc'
        · rename_i xs hcell
          obtain ⟨_, vs, h3, _⟩ := g1.st.cell n _ hcell
          refine ⟨by rw [hw]; exact .inl ⟨rfl, vs, SqL.of h3⟩, ?_⟩
          refine goE g1 en1 hh fun F2 μ2 H2 y st2 u e2 g2 en2 r2 hh2 => ?_
          change RP Y F2 μ2 st2 H2 (match st2[n]? with | some (.lst xs) => if xs.length < szMax then .ok (.non, st2.set n (.lst (xs ++ [y]))) else .stuck | _ => .stuck) (kV Y Q) (at_ W σ) at hh2
          split at hh2
          · rename_i ys hy
            by_cases hl : ys.length < szMax
            · rw [if_pos hl] at hh2
              obtain ⟨hF, ws, h4, h5⟩ := g2.st.cell n _ hy
              have hn2 : μ2 n = μ1 n := e2.mu n hn
              refine ⟨μ2 n, ws, u, by rw [hw, hn2], rfl, h4, by rw [h5.len]; exact Nat.lt_of_lt_of_le hl (by rw [sizeLine_eq]; decide), ?_⟩
              obtain ⟨g3, e3⟩ := g2.write hy rfl (c' := .lst (ys ++ [y])) rfl (o := .lst (ws ++ [u])) ⟨hF, _, upd_same, h5.append ⟨u, [], rfl, r2, rfl⟩⟩
              exact hh2 _ _ _ e3 g3 _ rfl
            · rw [if_neg hl] at hh2; exact False.elim hh2
          · exact False.elim hh2
        · cases hc'
      | _ => cases hc
    · rw [if_neg hc] at hh; exact False.elim hh
  · cases q
end
end MP
/-! MiniPy: in an except suite: a field of the caught error, isinstance of it. -/
namespace MP
open PySem L2 PySem.Spec PyProof.Rows

section
variable {Y : Fx} {Φ : Tab} {G : Str → Option Val} {C : Cfg} {k : Nat} {X : Cx} {ns : Names} {W : WX}
theorem idxF_get : ∀ {ns : List Str} {f : Str} {j : Nat} {vs : List V} {v : V}, idxF f ns = some j → vs[j]? = some v → ns.length = vs.length → (ns.zip vs).lookup f = some v ∧ f ∈ ns
  | [], _, _, _, _, h, _, _ => by cases h
  | n :: ns, f, j, vs, v, h, hv, hl => by
    cases vs with
    | nil => cases hl
    | cons u vs =>
      rw [List.zip_cons_cons, lk_put]
      unfold idxF at h
      by_cases hf : f = n
      · rw [if_pos hf] at h ⊢
        cases h
        exact ⟨by simpa using hv, by rw [hf]; exact List.mem_cons_self ..⟩
      · rw [if_neg hf] at h ⊢
        cases hi : idxF f ns with
        | none => rw [hi] at h; cases h
        | some i =>
          rw [hi] at h; cases h
          obtain ⟨h1, h2⟩ := idxF_get hi (by simpa using hv) (by simpa using hl)
          exact ⟨h1, List.mem_cons_of_mem _ h2⟩
/-- the name of the caught error -/
theorem err_ok (c : Ctx X Y Φ G C ns k) {p : Expr} (h : errB C ns p = true) : ∃ y pos i, p = .Name y pos ∧ C.hot = true ∧ C.eI = some i ∧ PE X p (tVar i) ∧ notSet p = true := by
  unfold errB at h
  split at h
  · rename_i y hy
    obtain ⟨pos, rfl⟩ := isName_eq hy
    simp only [Bool.and_eq_true] at h
    obtain ⟨⟨h1, h2⟩, h3, h4⟩ := h
    split at h2
    · rename_i i hi
      have hN := of_decide_eq_true h2
      exact ⟨y, pos, i, rfl, h1, hi, pe_var (i := i) (by rw [c.N]; exact hN) (vis_ok c h3) (okName_1 h4) (okName_2 h4), rfl⟩
    · cases h2
  · cases h
/-- what stands in the hidden names -/
structure Caught (X : Cx) (Y : Fx) (C : Cfg) (F : Hp) (μ : Nat → Addr) (n : Nat) (env : Env) (σ : L2.St) (c : Str) (fs : List Val) : Prop where
  cls : env[C.N.length]? = some (some (.str c))
  fld : env[C.N.length + 1]? = some (some (.tup fs))
  mem : c ∈ C.eD
  made : ∃ (Ca : Addr) (nsx : List Str) (dd : Addr) (vs : List V), Y.cC = .ref Ca ∧ Y.Xn c = some nsx ∧ Y.mg c = some (.ref Ca) ∧ Y.cD = some dd ∧ nsx.length = vs.length ∧ F dd = some (.xd (nsx.zip vs)) ∧ RepL Y.kf F μ n fs vs ∧ ExIs Y.K Ca ∧ (∀ m ∈ nsx, PySem.W.findIn Y.K (.ref Ca) m = some none) ∧ (c, nsx) ∈ C.xn
  slot : ∀ i, C.eI = some i → σ[i]? = some (some (.ref Y.cA))
theorem caught (c : Ctx X Y Φ G C ns k) (hh : C.hot = true) {F : Hp} {μ : Nat → Addr} {n : Nat} {env : Env} {σ : L2.St} (en : EnvOk Y F μ n env σ) : ∃ cn fs, Caught X Y C F μ n env σ cn fs := by
  obtain ⟨h0, cn, fs, dd, nsx, vs, h1, h2, hd, h3, h4, h5, h6, h7, h8, h9⟩ := en.warm (by rw [c.hot]; exact hh)
  obtain ⟨e1, e2, e3⟩ := c.hotx hh
  have el : σ.length = C.N.length := h0.trans e1
  rw [el] at h1 h2
  obtain ⟨Ca, Da, fI, st, m1, m2, _, m4⟩ := c.tb.made cn nsx h4
  have eC : Y.cC = .ref Ca := Option.some.inj (h3.symm.trans m1)
  exact ⟨cn, fs, h1, h2, by rw [← e3]; exact hd, ⟨Ca, nsx, dd, vs, eC, h4, m1, h5, h6, h7, h8, m4, m2.no, c.tb.xn cn nsx h4⟩, fun i hi => h9 i (by rw [e2]; exact hi)⟩
theorem snd_xfld (h j : Nat) : Snd Y Φ G C k (.xfld h j) := by
  refine mkSnd rfl (fun ns p q => ?_) fun {X ns W p} c tk q => ?_
  · unfold chkE at q
    split at q
    · rename_i p f hx; obtain ⟨pp, rfl⟩ := isAttr_eq hx; rfl
    · cases q
  · unfold chkE at q
    split at q
    · rename_i p f hx
      obtain ⟨pp, rfl⟩ := isAttr_eq hx
      simp only [Bool.and_eq_true, List.all_eq_true] at q
      obtain ⟨q1, q2, q3⟩ := q
      have eh := of_decide_eq_true q1
      subst eh
      obtain ⟨y, pos, i, rfl, hhot, hI, hpe, _⟩ := err_ok c q2
      refine ⟨fun pins s σ H Q I ⟨F, μ, st, env, g, en, h⟩ => ?_⟩
      obtain ⟨cn, fs, hc⟩ := caught c hhot en
      obtain ⟨Ca, nsx, dd, vs, eC, eX, em, eD, el, hF, rl, T, hno, hxn⟩ := hc.made
      change RP Y F μ st H (match env[C.N.length + 1]? with | some (some (.tup fs)) => (match fs[j]? with | some v => .ok (v, st) | none => .stuck) | _ => .stuck) (kV Y Q) (at_ W σ) at h
      rw [hc.fld] at h
      have hj := q3 (cn, nsx) hxn
      have hmem : C.eD.contains cn = true := by simpa using hc.mem
      rw [hmem, Bool.not_true, Bool.false_or] at hj
      have hidx := of_decide_eq_true hj
      simp only at h
      split at h
      · rename_i x hx
        obtain ⟨v, hv, rv⟩ := rl.get hx
        obtain ⟨hlook, hin⟩ := idxF_get hidx hv el
        obtain ⟨X0, oe, pn, rfl, hz, hf⟩ := c.suite hhot
        have hTX : XfC X0.K Ca := by have e := c.K; rw [show X0.K = Y.K from e]; exact ⟨T.ga, T.gt, T.sub, T.hd⟩
        have hnoX : PySem.W.findIn X0.K (.ref Ca) f = some none := by have e := c.K; rw [show X0.K = Y.K from e]; exact hno f hin
        refine (pe_xf (X := X0) (a := Y.cA) (C := Ca) (cls := Y.cC) (d := Y.cD) hTX hnoX hz hf hpe rfl).run pins s σ H Q I ?_
        exact ⟨.ref Y.cA, hc.slot i hI, rfl, eC, dd, _, v, eD, g.same _ _ hF, hlook, h F μ H Ext.refl g v rv⟩
      · exact False.elim h
    · cases q
theorem cls_ok (c : Ctx X Y Φ G C ns k) {y : Str × List Str} {p : Expr} (h : clsB C ns y p = true) : ∃ v u, PE X p (tC v) ∧ ClsV v u ∧ ∀ cn nsx cls, Y.Xn cn = some nsx → Y.mg cn = some cls → PySem.W.kitOne Y.K cls u = some (y.2.contains cn) := by
  unfold clsB at h
  split at h
  · rename_i x hx
    obtain ⟨pos, rfl⟩ := isName_eq hx
    simp only [Bool.and_eq_true] at h
    obtain ⟨h1, h2, h3, h4⟩ := h
    have e := of_decide_eq_true h1
    obtain ⟨v, u, a1, a2, a3, a4⟩ := c.tb.sub x y.2 (of_decide_eq_true h4)
    refine ⟨v, u, ?_, a1, fun cn nsx cls b1 b2 => (a4 cn nsx cls b1 b2).2⟩
    rcases a3 with a3 | ⟨a3, a5, a6⟩
    · exact pe_glob (gl_ok c h2) (by rw [c.mg]; exact a3) a2 (okName_1 h3)
    · exact pe_bltn (gl_ok c h2) (by rw [c.mg]; exact a3) a5 a2 a6 (okName_1 h3)
  · cases h
theorem clss_ok (c : Ctx X Y Φ G C ns k) : ∀ {ys : List (Str × List Str)} {ps : List Expr}, clssB C ns ys ps = true → ∃ vs us, PA X ps (fun _ H Q => Q vs H) ∧ Paired ClsV vs us ∧ vs.length = ys.length ∧
    ∀ cn nsx cls, Y.Xn cn = some nsx → Y.mg cn = some cls → PySem.W.kitAny Y.K cls us = some (ys.any fun p => p.2.contains cn)
  | [], [], _ => ⟨[], [], pa_nil, .nil, rfl, fun _ _ _ _ _ => rfl⟩
  | y :: ys, p :: ps, h => by
    have h' : (notStar p && (clsB C ns y p && clssB C ns ys ps)) = true := h
    simp only [Bool.and_eq_true] at h'
    obtain ⟨h1, h2, h3⟩ := h'
    obtain ⟨v, u, a1, a2, a3⟩ := cls_ok c h2
    obtain ⟨vs, us, b1, b2, b3, b4⟩ := clss_ok c h3
    refine ⟨v :: vs, u :: us, PAimp (pa_cons a1 b1 (star_cons h1)) fun σ H Q q => q, .cons a2 b2, by simp [b3], fun cn nsx cls e1 e2 => ?_⟩
    have k1 := a3 cn nsx cls e1 e2
    have k2 := b4 cn nsx cls e1 e2
    unfold PySem.W.kitAny
    rw [k1]
    cases hb : y.2.contains cn with
    | true => simp only [List.any_cons, hb, Bool.true_or]
    | false => simp only [List.any_cons, hb, Bool.false_or]; exact k2
  | [], _ :: _, h => by cases h
  | _ :: _, [], h => by cases h
theorem snd_xis (h : Nat) (ys : List (Str × List Str)) : Snd Y Φ G C k (.xis h ys) := by
  refine mkSnd rfl (fun ns p q => ?_) fun {X ns W p} c tk q => ?_
  · unfold chkE at q
    split at q
    · rename_i x p1 p2 hx; obtain ⟨pp, pq, rfl⟩ := isCall_eq hx; rfl
    · cases q
  · unfold chkE at q
    split at q
    · rename_i x p1 p2 hx
      obtain ⟨pp, pq, rfl⟩ := isCall_eq hx
      simp only [Bool.and_eq_true] at q
      obtain ⟨q1, q2, q3, q4, q5, q6, q7, q8⟩ := q
      have ex := of_decide_eq_true q1
      have eh := of_decide_eq_true q2
      subst ex eh
      obtain ⟨y, pos, i, rfl, hhot, hI, hpe, _⟩ := err_ok c q3
      refine ⟨fun pins s σ H Q I ⟨F, μ, st, env, g, en, h⟩ => ?_⟩
      obtain ⟨cn, fs, hc⟩ := caught c hhot en
      obtain ⟨Ca, nsx, dd, vs, eC, eX, em, eD, el, hF, rl, T, hno, hxn⟩ := hc.made
      change RP Y F μ st H (match env[C.N.length]? with | some (some (.str c)) => .ok (.bl (ys.any fun p => p.2.contains c), st) | _ => .stuck) (kV Y Q) (at_ W σ) at h
      rw [hc.cls] at h
      have hslot := hc.slot i hI
      obtain ⟨X0, oe, pn, rfl, hz, hf⟩ := c.suite hhot
      have hTX : ExIs X0.K Ca := by have e := c.K; rw [show X0.K = Y.K from e]; exact T
      have eK : X0.K = Y.K := c.K
      have hz' : Zc (.ref Ca) (some dd) oe := by rw [← eC, ← eD]; exact hz
      have hgl := gl_ok c q4
      have hbt := c.bt _ (mem_of q5)
      split at q8
      · rename_i qs hqs
        obtain ⟨kk, pt, rfl⟩ := isTup_eq hqs
        rw [Bool.and_eq_true] at q8
        have hlen := of_decide_eq_true q8.1
        obtain ⟨ws, us, a1, a2, a3, a4⟩ := clss_ok c q8.2
        refine (pe_callB (call_isX hTX hz' hf) hgl hbt (by decide +kernel) (pa_cons hpe (pa_cons (pe_tup a1) pa_nil (star_cons q7)) (star_cons q6)) (by decide +kernel) (by decide +kernel) (star_cons q6) (star_any (by show (notStar _ && true) = true; rw [q7]; rfl))).run pins s σ H Q I ?_
        refine ⟨.ref Y.cA, hslot, ?_⟩
        refine ⟨by rw [a3, sizeLine_eq]; omega, fun tp htp => ?_⟩
        obtain ⟨g2, e2⟩ := g.frozen (o := .tup ws) htp
        refine ⟨⟨_, g2.same _ _ (e2.same _ _ hF)⟩, .inr ⟨tp, ws, us, _, rfl, upd_same, a2, by rw [eK]; exact a4 cn nsx _ eX em, ?_⟩⟩
        exact h _ _ _ e2 g2 _ (by simp [RepV])
      · rename_i hqs
        split at q8
        · rename_i y1
          obtain ⟨v, u, a1, a2, a3⟩ := cls_ok c q8
          refine (pe_callB (call_isX hTX hz' hf) hgl hbt (by decide +kernel) (pa_cons hpe (pa_cons a1 pa_nil (star_cons q7)) (star_cons q6)) (by decide +kernel) (by decide +kernel) (star_cons q6) (star_any (by show (notStar _ && true) = true; rw [q7]; rfl))).run pins s σ H Q I ?_
          refine ⟨.ref Y.cA, hslot, ⟨_, g.same _ _ hF⟩, .inl ⟨v, u, _, rfl, a2, by rw [eK]; exact a3 cn nsx _ eX em, ?_⟩⟩
          exact h F μ H Ext.refl g _ (by simp [RepV])
        · cases q8
    · cases q
end
end MP
/-! MiniPy: objects: fields, making, methods. -/
namespace L2
open PySem PySem.Spec PyProof.Rows
section
variable {X : Cx} {CX : CXT} {k : Nat} {f C : Addr} {fd : FuncData} {ps : List Str} {sp : Sp} {E : St → XK} {x m : Str} {p pos apos : Pos} {e o : Expr} {es : List Expr} {ta : TE} {t : TA}
theorem meth_ht {o : Expr} {m : Str} {apos pos : Pos} {args : List Expr} {env : Env} (hbase : attributeBase o m env (eval o env) = eval o env)
    (hfew : ((backTo pos (starEach args env)).all (fun x => !x.1) && (backToKw pos (keywordEach [] env)).all (fun x => x.1.isSome) && decide (args.length + ([] : List Keyword).length + (if ([] : List Keyword).isEmpty then 0 else 1) < 30)) = true) (hline : (apos.endLine == pos.line) = true) :
    eval (.Call (.Attribute o m apos) args [] pos) env = (do
      let ov ← eval o env
      standAt apos.atName
      let (f, first) ← holding [ov] (getMethod ov m (do return (← importBound o env).getD true))
      callWith pos f first (backTo pos (starEach args env)) (backToKw pos (keywordEach [] env))) := by
  have hform : methodCallForm (args.length + ([] : List Keyword).length) (backTo pos (starEach args env)) (backToKw pos (keywordEach [] env)) = true := hfew
  have hpos : methodCallPos true o env apos pos = pure pos := by unfold methodCallPos; simp [hline]
  rw [arm_eval_Call, hbase]
  unfold methodCall
  rw [hform, hpos]
  unfold calleeOf
  simp only [if_true, pure_bind]
def tMethZ (C : Addr) (m : Str) (sp : Sp) (E : St → XK) (ta : TE) (t : TA) : TE := fun σ H Q => ta σ H fun x H1 => ∃ a dx fs, x = .ref a ∧ H1 a = some (.ins C dx fs) ∧ fs.lookup m = none ∧ t σ H1 fun vs H2 => sp (x :: vs) H2 Q (E σ)
theorem pe_methZ (he : PE X o ta) (c : Cls X.K C) (hm : Meth X.K C m f) (F : FnOk X.prog X.w X.K X.mg X.base CX k f fd ps sp) (hr : Room k X.A) (hb : Binds X.K fd ps []) (hx : ∀ σ, PassesAt CX X σ (E σ)) (ha : PA X (e :: es) t)
    (hst : starEach (e :: es) X.env = (false, eval e X.env) :: starEach es X.env) (hpl : (backTo pos (starEach es X.env)).any (·.1) = false) (hbase : attributeBase o m X.env (eval o X.env) = eval o X.env)
    (hfew : ((backTo pos (starEach (e :: es) X.env)).all (fun x => !x.1) && (backToKw pos (keywordEach [] X.env)).all (fun x => x.1.isSome) && decide ((e :: es).length + ([] : List Keyword).length + (if ([] : List Keyword).isEmpty then 0 else 1) < 30)) = true) (hline : (apos.endLine == pos.line) = true) :
    PE X (.Call (.Attribute o m apos) (e :: es) [] pos) (tMethZ C m sp E ta t) := by
  refine ⟨fun pins s σ H Q I h => ?_⟩
  refine PySem.W.methodCall_KW (thn (he.run pins s σ H _ I h) fun u s1 ⟨x, H1, I1, rx, a, dx, fs, ex, ea, l, q⟩ => ?_) (meth_ht hbase hfew hline)
  subst ex
  obtain rfl : u = Value.ref a := rx
  refine getmeth_ok I1 ea c hm l ?_
  refine PySem.W.callWith_K (first := [.ref a]) (h₀ := X.base) I.ok.mod.kin hm.kp (thn (ha.run pos pins s1 σ H1 _ I1 q) fun us s2 ⟨vs, H2, I2, r, q2⟩ => ⟨I2.kIn, ?_⟩) hst hpl
  exact run_fnSD (us := .ref a :: us) (vs := .ref a :: vs) (dvs := []) F hr hb .nil (hx σ) I2 (.cons rfl r) (by rw [List.append_nil]; exact q2)
theorem pe_methZ0 (he : PE X o ta) (c : Cls X.K C) (hm : Meth X.K C m f) (F : FnOk X.prog X.w X.K X.mg X.base CX k f fd ps sp) (hr : Room k X.A) (hb : Binds X.K fd ps []) (hx : ∀ σ, PassesAt CX X σ (E σ)) (hbase : attributeBase o m X.env (eval o X.env) = eval o X.env) (hline : (apos.endLine == pos.line) = true) :
    PE X (.Call (.Attribute o m apos) [] [] pos) (tMethZ C m sp E ta tNil) := by
  refine ⟨fun pins s σ H Q I h => ?_⟩
  refine PySem.W.methodCall_KW (thn (he.run pins s σ H _ I h) fun u s1 ⟨x, H1, I1, rx, a, dx, fs, ex, ea, l, q⟩ => ?_) (meth_ht hbase rfl hline)
  subst ex
  obtain rfl : u = Value.ref a := rx
  refine getmeth_ok I1 ea c hm l ?_
  exact PySem.W.callWith_K0 (first := [.ref a]) I1.kIn hm.kp (run_fnSD (us := [.ref a]) (vs := [.ref a]) (dvs := []) F hr hb .nil (hx σ) I1 (.cons rfl .nil) q)
/-- C(..) -/
def tMakeZ (C : Addr) (sp : Sp) (E : St → XK) (t : TA) : TE := fun σ H Q => t σ H fun vs H1 => ∀ x dx, H1 x = none → H1 dx = none → dx ≠ x →
  sp (.ref x :: vs) (upd (upd H1 dx (.own x)) x (.ins C dx [])) (fun v H2 => v = .non ∧ Q (.ref x) H2) (E σ)
theorem run_makeZ {pins : List (Addr × Obj)} {σ : St} {H : Hp} {s : Shared} {Q : VK} {us : List Value} {vs : List V} (M : Mk X.K C f) (F : FnOk X.prog X.w X.K X.mg X.base CX k f fd ps sp) (hr : Room (k + 1) X.A) (hb : Binds X.K fd ps [])
    (hx : PassesAt CX X σ (E σ)) (I : Inv X pins σ H s) (r : Vals vs us)
    (h : ∀ x dx, H x = none → H dx = none → dx ≠ x → sp (.ref x :: vs) (upd (upd H dx (.own x)) x (.ins C dx [])) (fun v H2 => v = .non ∧ Q (.ref x) H2) (E σ)) :
    wpAny (model X.prog X.w) X.A (call (.ref C) us) (EP X pins σ Q) X.xe s := by
  have hq := h (s.heap.objs.size + 1) s.heap.objs.size (I.hok.fresh (Nat.le_succ _)) (I.hok.fresh (Nat.le_refl _)) (Nat.ne_of_lt (Nat.lt_succ_self _))
  have I2 := Inv.made (C := C) I
  have r2 : Vals (V.ref (s.heap.objs.size + 1) :: vs) (Value.ref (s.heap.objs.size + 1) :: us) := .cons rfl r
  have hl : (Value.ref (s.heap.objs.size + 1) :: us).length = ps.length := by
    have e := r2.length
    rw [F.len _ _ _ _ hq] at e
    exact e.symm
  refine wpAny_call (make_map (f := f) I.kIn M.makes M.init (beq_iff_eq.mp M.fn) (codeAny_mono (F.run _ X.stack _ _ ⟨Value.ref (s.heap.objs.size + 1) :: us, []⟩ (Value.ref (s.heap.objs.size + 1) :: us) _ _ (E σ) (hr.make C us [])
    (I2.env0.make C us []) (by have := hb _ (Value.ref (s.heap.objs.size + 1) :: us) I2.kIn (by rw [List.append_nil]; exact hl); rwa [List.append_nil] at this) r2 hq) fun r s' hq' => ?_))
  cases r with
  | error e => exact hx pins _ _ e s' I2 hq'
  | ok fl =>
    cases fl with
    | ret u =>
      obtain ⟨v, H', I3, rv, ev, q3⟩ := I2.after hq'
      subst ev
      exact ⟨rv, ⟨V.ref (s.heap.objs.size + 1), H', I3, rfl, q3⟩⟩
    | next => exact False.elim hq'
    | brk => exact False.elim hq'
    | cont => exact False.elim hq'
theorem pe_makeZ (M : Mk X.K C f) (F : FnOk X.prog X.w X.K X.mg X.base CX k f fd ps sp) (hr : Room (k + 1) X.A) (hg : Gl X x) (hm : X.mg x = some (.ref C)) (hb : Binds X.K fd ps []) (hx : ∀ σ, PassesAt CX X σ (E σ))
    (ha : PA X (e :: es) t) (hdb : (x == ("__debug__" : Str)) = false) (he : starEach (e :: es) X.env = (false, eval e X.env) :: starEach es X.env) (hpl : (backTo pos (starEach es X.env)).any (·.1) = false) :
    PE X (.Call (.Name x p) (e :: es) [] pos) (tMakeZ C sp E t) := by
  refine ⟨fun pins s σ H Q I h => ?_⟩
  refine wpAny_Call_Name_kw (ld_glob I hg hm ?_ hdb)
  refine PySem.W.callWith_K (h₀ := X.base) I.ok.mod.kin M.kp (thn (ha.run pos pins s σ H _ I h) fun us s1 ⟨vs, H1, I1, r, q⟩ => ⟨I1.kIn, ?_⟩) he hpl
  exact run_makeZ M F hr hb (hx σ) I1 r q
end
end L2
namespace MP
open PySem L2 PySem.Spec PyProof.Rows
theorem zip_look {K : Kf} {F : Hp} {μ : Nat → Addr} {n : Nat} {f : Str} {y : Val} : ∀ {ns : List Str} {xs : List Val} {vs : List V}, RepL K F μ n xs vs → (ns.zip xs).lookup f = some y → ∃ w, (ns.zip vs).lookup f = some w ∧ RepV K F μ n y w
  | [], xs, vs, _, h => by cases h
  | m :: ns, [], vs, _, h => by cases h
  | m :: ns, x :: xs, _, ⟨v, r, h1, h2, h3⟩, h => by
    subst h1
    rw [List.zip_cons_cons, List.lookup_cons] at h ⊢
    split at h
    · cases h; exact ⟨v, rfl, h2⟩
    · exact zip_look h3 h
theorem zip_none {f : Str} : ∀ {ns : List Str} {vs : List V}, f ∉ ns → (ns.zip vs).lookup f = none
  | [], _, _ => rfl
  | m :: ns, [], _ => rfl
  | m :: ns, v :: vs, h => by
    have h1 : f ≠ m := fun e => h (e ▸ List.mem_cons_self ..)
    rw [List.zip_cons_cons, List.lookup_cons]
    have : (f == m) = false := by simpa using h1
    rw [this]; exact zip_none fun z => h (List.mem_cons_of_mem _ z)
theorem put_some {f : Str} {v : V} : ∀ {ns : List Str} {vs : List V} {i : Nat}, ns.length = vs.length → ixF f ns = some i → putF f v (ns.zip vs) = ns.zip (vs.set i v)
  | [], _, _, _, h => by cases h
  | m :: ns, [], _, h, _ => by cases h
  | m :: ns, u :: vs, i, hl, h => by
    unfold ixF at h
    rw [List.zip_cons_cons]
    by_cases hf : f = m
    · rw [if_pos hf] at h; cases h
      subst hf
      simp only [putF, List.set_cons_zero, List.zip_cons_cons, if_true]
    · rw [if_neg hf] at h
      cases e : ixF f ns with
      | none => rw [e] at h; cases h
      | some j =>
        rw [e] at h; cases h
        have hf2 : ¬ m = f := fun z => hf z.symm
        simp only [putF, hf2, if_false, List.set_cons_succ, List.zip_cons_cons]
        rw [put_some (by simpa using hl) e]
theorem put_none {f : Str} {v : V} : ∀ {ns : List Str} {vs : List V}, ns.length = vs.length → ixF f ns = none → putF f v (ns.zip vs) = (ns ++ [f]).zip (vs ++ [v])
  | [], [], _, _ => rfl
  | [], _ :: _, h, _ => by cases h
  | m :: ns, [], h, _ => by cases h
  | m :: ns, u :: vs, hl, h => by
    unfold ixF at h
    rw [List.zip_cons_cons]
    by_cases hf : f = m
    · rw [if_pos hf] at h; cases h
    · rw [if_neg hf] at h
      cases e : ixF f ns with
      | some j => rw [e] at h; cases h
      | none =>
        have hf2 : ¬ m = f := fun z => hf z.symm
        simp only [putF, hf2, if_false, List.cons_append, List.zip_cons_cons]
        rw [put_none (by simpa using hl) e]
section
variable {Y : Fx} {Φ : Tab} {G : Str → Option Val} {C : Cfg} {k : Nat} {X : Cx} {ns : Names} {W : WX}
theorem fld_noexn {cl f : Str} {x : Val} {st : Store} : ∀ c fs s, vFld cl f x st ≠ .exn c fs s := by
  intro c fs s h
  unfold vFld at h
  repeat' (first | (cases h; done) | split at h)
theorem fld_rep {F H : Hp} {μ : Nat → Addr} {st : Store} {cl f : Str} {x y : Val} {w : V} (g : Good Y.kf F μ st H) (r : RepV Y.kf F μ st.length x w) (h : vFld cl f x st = .ok y) :
    ∃ a dx Ca fs u, w = .ref a ∧ Y.mg cl = some (.ref Ca) ∧ H a = some (.ins Ca dx fs) ∧ fs.lookup f = some u ∧ RepV Y.kf F μ st.length y u := by
  unfold vFld at h
  split at h
  · rename_i d ms xs
    by_cases hc : cl = d
    · rw [if_pos hc] at h
      subst hc
      obtain ⟨a, dx, Ca, vs, h1, h2, h3, h4, h5, h6⟩ := r
      split at h
      · rename_i v hv
        cases h
        obtain ⟨u, q1, q2⟩ := zip_look h6 hv
        exact ⟨a, dx, Ca, _, u, h1, h2, g.same _ _ h3, q1, q2⟩
      · cases h
    · rw [if_neg hc] at h; cases h
  · rename_i n
    obtain ⟨hw, hn⟩ := r
    split at h
    · rename_i d ms xs hm
      by_cases hc : cl = d
      · rw [if_pos hc] at h
        subst hc
        obtain ⟨_, dx, Ca, vs, h2, h3, h4, h5, h6⟩ := g.st.cell n _ hm
        split at h
        · rename_i v hv
          cases h
          obtain ⟨u, q1, q2⟩ := zip_look h6 hv
          exact ⟨_, dx, Ca, _, u, hw, h2, h3, q1, q2⟩
        · cases h
      · rw [if_neg hc] at h; cases h
    · rename_i d ms xs hm
      by_cases hc : cl = d
      · rw [if_pos hc] at h
        subst hc
        obtain ⟨a, dx, Ca, vs, h1, h2, h3, h4, h5, h6⟩ := g.st.cell n _ hm
        split at h
        · rename_i v hv
          cases h
          obtain ⟨u, q1, q2⟩ := zip_look h6 hv
          exact ⟨a, dx, Ca, _, u, hw.trans h1, h2, g.same _ _ h3, q1, q2⟩
        · cases h
      · rw [if_neg hc] at h; cases h
    · cases h
  · cases h
theorem snd_fld {cl f : Str} {a : E} (sa : Snd Y Φ G C k a) : Snd Y Φ G C k (.fld cl f a) := by
  have key : ∀ {ns : Names} {p : Expr}, chkE C ns (.fld cl f a) p = true → ∃ p1 pq l, p = .Attribute p1 f pq ∧ plainBase p1 = true ∧ C.cs.lookup cl = some l ∧ f ∈ l ∧ chkE C ns a p1 = true := by
    intro ns p q
    unfold chkE at q
    split at q
    · rename_i x y hx
      obtain ⟨pp, rfl⟩ := isAttr_eq hx
      simp only [Bool.and_eq_true] at q
      obtain ⟨q1, q2, q3, q4⟩ := q
      have ef := of_decide_eq_true q1
      subst ef
      split at q3
      · rename_i l hl
        exact ⟨_, _, l, rfl, q2, hl, mem_of q3, q4⟩
      · cases q3
    · cases q
  refine mkSnd rfl (fun ns p q => ?_) fun {X ns W p} c tk q => ?_
  · obtain ⟨_, _, _, rfl, _⟩ := key q; rfl
  · obtain ⟨p1, pq, l, rfl, q1, q2, q3, q4⟩ := key q
    obtain ⟨Ca, hm, hC, hN⟩ := c.cls cl l q2
    refine PEimp (pe_fld (sa.pe c tk q4) (base_id q1)) fun σ H Q ⟨F, μ, st, env, g, en, h⟩ => ?_
    refine goE g en h fun F1 μ1 H1 x st1 w e1 g1 en1 r1 hh => ?_
    obtain ⟨y, hy, q5⟩ := RP.bindP fld_noexn hh
    obtain ⟨a, dx, Ca', fs, u, h1, h2, h3, h4, h5⟩ := fld_rep g1 r1 hy
    have : Ca' = Ca := by rw [← c.mg, hm] at h2; cases h2; rfl
    subst this
    exact ⟨a, Ca', dx, fs, u, h1, h3, hC, hN f q3, h4, q5 F1 μ1 H1 Ext.refl g1 u h5⟩
/-- an object at a place -/
theorem obj_rep {F H : Hp} {μ : Nat → Addr} {st : Store} {cl m : Str} {x : Val} {w : V} (g : Good Y.kf F μ st H) (r : RepV Y.kf F μ st.length x w) (h : isObj cl m st x = true) :
    ∃ a dx Ca ms vs, w = .ref a ∧ Y.mg cl = some (.ref Ca) ∧ H a = some (.ins Ca dx (List.zip ms vs)) ∧ (List.zip ms vs).lookup m = none := by
  have key : ∀ {d : Str} {ms : List Str} {vs : List V}, (decide (cl = d) && !ms.contains m) = true → cl = d ∧ (List.zip ms vs).lookup m = none := fun {d ms vs} h => by
    rw [Bool.and_eq_true] at h
    refine ⟨of_decide_eq_true h.1, zip_none fun z => ?_⟩
    have := h.2
    rw [List.contains_iff_mem.mpr z] at this
    cases this
  unfold isObj at h
  split at h
  · rename_i d ms xs
    obtain ⟨a, dx, Ca, vs, h1, h2, h3, h4, h5, h6⟩ := r
    obtain ⟨e, l⟩ := key (vs := vs) h
    subst e
    exact ⟨a, dx, Ca, ms, vs, h1, h2, g.same _ _ h3, l⟩
  · rename_i n
    obtain ⟨hw, hn⟩ := r
    split at h
    · rename_i d ms xs hm
      obtain ⟨_, dx, Ca, vs, h2, h3, h4, h5, h6⟩ := g.st.cell n _ hm
      obtain ⟨e, l⟩ := key (vs := vs) h
      subst e
      exact ⟨_, dx, Ca, ms, vs, hw, h2, h3, l⟩
    · rename_i d ms xs hm
      obtain ⟨a, dx, Ca, vs, h1, h2, h3, h4, h5, h6⟩ := g.st.cell n _ hm
      obtain ⟨e, l⟩ := key (vs := vs) h
      subst e
      exact ⟨a, dx, Ca, ms, vs, hw.trans h1, h2, g.same _ _ h3, l⟩
    · cases h
  · cases h
theorem few_ok {p : Expr} {ps : List Expr} {pos : Pos} {env : PySem.Env} (h1 : notStar p = true) (h2 : noStars ps = true) (hl : (p :: ps).length < 29) :
    ((backTo pos (starEach (p :: ps) env)).all (fun x => !x.1) && (backToKw pos (keywordEach [] env)).all (fun x => x.1.isSome) && decide ((p :: ps).length + ([] : List Keyword).length + (if ([] : List Keyword).isEmpty then 0 else 1) < 30)) = true := by
  have e : ∀ l : List (Bool × Sem Value), l.any (·.1) = false → l.all (fun x => !x.1) = true := fun l h => by
    rw [List.all_eq_true]; intro x hx
    rw [List.any_eq_false] at h
    simpa using h x hx
  have hl2 : (p :: ps).length + 0 + 0 < 30 := by omega
  have a1 : (backTo pos (starEach (p :: ps) env)).all (fun x => !x.1) = true := by
    rw [star_cons h1]
    show (!false && (backTo pos (starEach ps env)).all (fun x => !x.1)) = true
    rw [e _ (star_any h2)]; rfl
  rw [a1]
  exact decide_eq_true hl2
theorem snd_meth {cl m : Str} {o : E} {es : Es} (so : Snd Y Φ G C k o) (ss : Snds Y Φ G C k es) : Snd Y Φ G C k (.meth cl m o es) := by
  have key : ∀ {ns : Names} {p : Expr}, chkE C ns (.meth cl m o es) p = true → ∃ po ps p1 p2, p = .Call (.Attribute po m p1) ps [] p2 ∧ C.calm = true ∧ (p1.endLine == p2.line) = true ∧ plainBase po = true ∧ (cl, m) ∈ C.ms ∧ chkE C ns o po = true ∧ noStars ps = true ∧ ps.length < 29 ∧ chkEs C ns es ps = true := by
    intro ns p q
    unfold chkE at q
    split at q
    · rename_i po m' ps kk hx
      obtain ⟨pp, pq, rfl, rfl⟩ := isMeth_eq hx
      simp only [Bool.and_eq_true] at q
      obtain ⟨q0, q1, q2, q3, q4, q5, q6, q7, q8⟩ := q
      have := of_decide_eq_true q1
      subst this
      exact ⟨_, _, _, _, rfl, q0, q2, q3, List.contains_iff_mem.mp q4, q5, q6, of_decide_eq_true q7, q8⟩
    · cases q
  refine mkSnd rfl (fun ns p q => ?_) fun {X ns W p} c tk q => ?_
  · obtain ⟨_, _, _, _, rfl, _⟩ := key q; rfl
  · obtain ⟨po, ps, p1, p2, rfl, hcalm, q2, q3, q4, q5, q6, q7, q8⟩ := key q
    obtain ⟨mi, fa, fd, qs, Ca, hmi, har, hmg, hC, hM, hb, hr, hF⟩ := c.mt hcalm cl m q4
    have fin : ∀ (σ : L2.St) (Q : VK) (F1 : Hp) (μ1 : Nat → Addr) (H1 : Hp) (x : Val) (w : V) (vs : List Val) (ws : List V) (st1 : Store), Good Y.kf F1 μ1 st1 H1 → RepV Y.kf F1 μ1 st1.length x w → RepL Y.kf F1 μ1 st1.length vs ws →
        RP Y F1 μ1 st1 H1 (match Φ (mName cl m) with | some f => f (x :: vs) st1 | none => .stuck) (kV Y Q) (at_ W σ) → spOf Y qs.length mi (w :: ws) H1 Q (WE W σ) := by
      intro σ Q F1 μ1 H1 x w vs ws st1 g1 rx rs hh
      rw [hmi] at hh
      have r1 : RepL Y.kf F1 μ1 st1.length (x :: vs) (w :: ws) := ⟨w, ws, rfl, rx, rs⟩
      refine ⟨?_, F1, μ1, st1, x :: vs, g1, r1, hh⟩
      rw [r1.len]
      by_cases hl : (x :: vs).length = qs.length
      · exact hl
      · have hh' : RP Y F1 μ1 st1 H1 (mi (x :: vs) st1) (kV Y Q) (at_ W σ) := hh
        rw [har _ st1 hl] at hh'; exact False.elim hh'
    have start : ∀ (σ : L2.St) (H : Hp) (Q : VK), tE Y Φ G W (.meth cl m o es) σ H Q → tE Y Φ G W o σ H fun w H1 => ∃ a dx fs, w = .ref a ∧ H1 a = some (.ins Ca dx fs) ∧ fs.lookup m = none ∧
        tA Y Φ G W es σ H1 fun ws H2 => spOf Y qs.length mi (w :: ws) H2 Q (WE W σ) := by
      intro σ H Q ⟨F, μ, st, env, g, en, h⟩
      refine goE g en h fun F1 μ1 H1 x st1 w e1 g1 en1 r1 hh => ?_
      cases ho : isObj cl m st1 x with
      | false =>
        have hh' : RP Y F1 μ1 st1 H1 (if isObj cl m st1 x then (evs Φ G es env st1).bind fun q => (match Φ (mName cl m) with | some f => f (x :: q.1) q.2 | none => .stuck) else .stuck) (kV Y Q) (at_ W σ) := hh
        rw [ho] at hh'; exact False.elim hh'
      | true =>
        have hh' : RP Y F1 μ1 st1 H1 (if isObj cl m st1 x then (evs Φ G es env st1).bind fun q => (match Φ (mName cl m) with | some f => f (x :: q.1) q.2 | none => .stuck) else .stuck) (kV Y Q) (at_ W σ) := hh
        rw [ho, if_pos rfl] at hh'
        obtain ⟨a, dx, Ca', ms, vs, h1, h2, h3, h4⟩ := obj_rep g1 r1 ho
        have : Ca' = Ca := by rw [← c.mg, hmg] at h2; cases h2; rfl
        subst this
        refine ⟨a, dx, _, h1, h3, h4, ?_⟩
        refine goA g1 en1 hh' fun F2 μ2 H2 vs2 st2 ws2 e2 g2 en2 r2 hh2 => ?_
        exact fin σ Q F2 μ2 H2 x w vs2 ws2 st2 g2 (e2.v r1) r2 hh2
    cases ps with
    | nil =>
      cases es with
      | cons e r => unfold chkEs at q8; cases q8
      | nil =>
        refine PEimp (pe_methZ0 (sp := spOf Y qs.length mi) (E := WE W) (so.pe c tk q5) hC hM hF hr hb (fun σ => tk.pas σ) (base_id q3) q2) fun σ H Q h => ?_
        obtain ⟨F, μ, st, env, g, en, h'⟩ := start σ H Q h
        refine ⟨F, μ, st, env, g, en, h'.impE fun F1 μ1 H1 x st1 _ e1 g1 hk w rw => ?_⟩
        obtain ⟨a, dx, fs, h1, h2, h3, F2, μ2, st2, env2, g2, en2, h4⟩ := hk w rw
        exact ⟨a, dx, fs, h1, h2, h3, h4 F2 μ2 H1 Ext.refl g2 [] rfl⟩
    | cons p ps =>
      have n1 : notStar p = true ∧ noStars ps = true := by
        have z : (notStar p && noStars ps) = true := q6
        rwa [Bool.and_eq_true] at z
      refine PEimp (pe_methZ (sp := spOf Y qs.length mi) (E := WE W) (so.pe c tk q5) hC hM hF hr hb (fun σ => tk.pas σ) (ss.pa c tk q8) (star_cons n1.1) (star_any n1.2) (base_id q3) (few_ok n1.1 n1.2 q7) q2) fun σ H Q h => ?_
      obtain ⟨F, μ, st, env, g, en, h'⟩ := start σ H Q h
      refine ⟨F, μ, st, env, g, en, h'.impE fun F1 μ1 H1 x st1 _ e1 g1 hk w rw => ?_⟩
      obtain ⟨a, dx, fs, h1, h2, h3, h4⟩ := hk w rw
      exact ⟨a, dx, fs, h1, h2, h3, h4⟩
theorem snd_new {cl : Str} {es : Es} (ss : Snds Y Φ G C k es) : Snd Y Φ G C k (.new cl es) := by
  have key : ∀ {ns : Names} {p : Expr}, chkE C ns (.new cl es) p = true → ∃ pp ps p0 p2, p = .Call (.Name cl p2) (pp :: ps) [] p0 ∧ C.calm = true ∧ cl ∈ C.nw ∧ glB ns cl = true ∧ okName cl = true ∧ notStar pp = true ∧ noStars ps = true ∧ chkEs C ns es (pp :: ps) = true := by
    intro ns p q
    unfold chkE at q
    split at q
    · rename_i x ps hx
      obtain ⟨p2, p0, rfl⟩ := isCall_eq hx
      simp only [Bool.and_eq_true] at q
      obtain ⟨q0, q1, q2, q3, q4, q5, q6, q7⟩ := q
      have := of_decide_eq_true q1
      subst this
      cases ps with
      | nil => cases q2
      | cons pp ps =>
        have z : (notStar pp && noStars ps) = true := q6
        rw [Bool.and_eq_true] at z
        exact ⟨_, _, _, _, rfl, q0, mem_of q3, q4, q5, z.1, z.2, q7⟩
    · cases q
  refine mkSnd rfl (fun ns p q => ?_) fun {X ns W p} c tk q => ?_
  · obtain ⟨_, _, _, _, rfl, _⟩ := key q; rfl
  · obtain ⟨pp, ps, p0, p2, rfl, hcalm, q3, q4, q5, n1, n2, q7⟩ := key q
    obtain ⟨mi, fa, fd, qs, Ca, k', hmi, har, hmg, hM, hb, hr, hF⟩ := c.nw hcalm cl q3
    refine PEimp (pe_makeZ (sp := spOf Y qs.length mi) (E := WE W) hM hF hr (gl_ok c q4) hmg hb (fun σ => tk.pas σ) (ss.pa c tk q7) (okName_1 q5) (star_cons n1) (star_any n2)) fun σ H Q ⟨F, μ, st, env, g, en, h⟩ => ?_
    refine goA g en h fun F1 μ1 H1 vs st1 ws e1 g1 en1 r1 hh => ?_
    intro x dx hx hdx hne
    have hh' : RP Y F1 μ1 st1 H1 ((mi (Val.loc st1.length :: vs) (st1 ++ [Cell.obj cl [] []])).bind fun q => (match q.1 with | .non => .ok (.loc st1.length, q.2) | _ => .stuck)) (kV Y Q) (at_ W σ) := by
      change RP Y F1 μ1 st1 H1 (match Φ (mName cl "__init__") with | some m => (m (Val.loc st1.length :: vs) (st1 ++ [Cell.obj cl [] []])).bind fun q => (match q.1 with | .non => .ok (.loc st1.length, q.2) | _ => .stuck) | none => .stuck) (kV Y Q) (at_ W σ) at hh
      rw [hmi] at hh; exact hh
    obtain ⟨g2, e2⟩ := g1.frozen (p := dx) (o := .own x) hdx
    have hx2 : upd H1 dx (.own x) x = none := by rw [upd_ne (Ne.symm hne)]; exact hx
    have hFx : upd F1 dx (.own x) x = none := g2.same.free hx2
    have hmgY : Y.mg cl = some (.ref Ca) := by rw [← c.mg]; exact hmg
    have hcell : CellOk Y.kf (upd F1 dx (.own x)) μ1 st1.length (upd (upd H1 dx (.own x)) x (.ins Ca dx [])) x (.obj cl [] []) :=
      ⟨hFx, dx, Ca, [], hmgY, upd_same, upd_same, rfl, rfl⟩
    obtain ⟨g3, e3, r3⟩ := g2.celled hx2 rfl hcell
    have r1' : RepL Y.kf (upd F1 dx (.own x)) (muSet μ1 st1.length x) (st1 ++ [Cell.obj cl [] []]).length vs ws := (e2.trans e3).l r1
    have h3 := (hh'.ext (e2.trans e3)).bind
    have rL : RepL Y.kf (upd F1 dx (.own x)) (muSet μ1 st1.length x) (st1 ++ [Cell.obj cl [] []]).length (.loc st1.length :: vs) (.ref x :: ws) := ⟨_, _, rfl, r3, r1'⟩
    refine ⟨?_, _, _, _, .loc st1.length :: vs, g3, rL, h3.impE fun F4 μ4 H4 y st4 _ e4 g4 h4 w rw => ?_⟩
    · rw [rL.len]
      by_cases hl : (Val.loc st1.length :: vs).length = qs.length
      · exact hl
      · rw [har _ _ hl] at h3; exact False.elim h3
    · cases y with
      | non =>
        have ew : w = .non := rw
        exact ⟨ew, h4 F4 μ4 H4 Ext.refl g4 _ (e4.v r3)⟩
      | _ => exact False.elim h4
end
end MP
/-! MiniPy: list comprehensions; all expressions. -/
namespace MP
open PySem L2 PySem.Spec PyProof.Rows

theorem R.assoc {α β γ : Type} (r : R α) (f : α → R β) (h : β → R γ) : (r.bind f).bind h = r.bind fun a => (f a).bind h := by cases r <;> rfl
section
variable {α β : Type} {Y : Fx} {F Hg : Hp} {μ : Nat → Addr} {st : Store} {W : XK}
theorem Ext.less {F F' Hg H' : Hp} {μ μ' : Nat → Addr} {st st' : Store} {D : Addr} {o : HO} (e : Ext F μ st (upd Hg D o) F' μ' st' H') (hD : Hg D = none) : Ext F μ st Hg F' μ' st' H' := by
  have k : ∀ a u, Hg a = some u → upd Hg D o a = some u := fun a u h => by rw [upd_ne (ne_of_none h hD)]; exact h
  have k2 : ∀ a, upd Hg D o a = none → Hg a = none := fun a h => by
    cases q : Hg a with
    | none => rfl
    | some u => rw [k a u q] at h; cases h
  exact ⟨e.same, e.mu, e.len, fun a u h q => e.frm a u (k a u h) q, fun i c h l => (e.new i c h l).imp_right (k2 _), fun a u h => e.dom a u (k a u h), fun a u h => (e.fz a u h).imp_right fun z => z.imp_left (k2 _)⟩
/-- a piece beside an object D -/
theorem RP.ghost {r : R (α × Store)} {f : α × Store → R (β × Store)} {k : Hp → (Nat → Addr) → Hp → α → Store → Prop} {kb : Hp → (Nat → Addr) → Hp → β → Store → Prop} {D : Addr} {o : HO}
    (g : Good Y.kf F μ st Hg) (hD : Hg D = none) (h : RP Y F μ st Hg (r.bind f) kb W)
    (n : ∀ F' μ' H' a st', Ext F μ st Hg F' μ' st' (era H' D) → Good Y.kf F' μ' st' (era H' D) → Ext F μ st (upd Hg D o) F' μ' st' H' → Good Y.kf F' μ' st' H' → H' D = some o → RP Y F' μ' st' (era H' D) (f (a, st')) kb W → k F' μ' H' a st') :
    RP Y F μ st (upd Hg D o) r k W := by
  cases r with
  | ok p =>
    intro F' μ' H' e g'
    obtain ⟨h1, h2, h3⟩ := e.ghost g hD g'
    exact n F' μ' H' p.1 p.2 h2 h3 e g' h1 (RP.ext h2 h)
  | exn c fs s => exact fun F' μ' H' cls d e g' x => h F' μ' H' cls d (e.less hD) g' x
  | stuck => exact False.elim h
end

section
variable {Y : Fx} {Φ : Tab} {G : Str → Option Val} {C : Cfg} {k : Nat} {X : Cx} {ns : Names} {W : WX}
theorem comp_key {m : Bool} {x : Nat} {it c elt : E} {ns : Names} {p : Expr} (q : chkE C ns (.comp m x it c elt) p = true) : ∃ pelt y py pit ifs sc pp, p = .ListComp pelt [⟨.Name y py, pit, ifs, 0⟩] sc pp ∧
    C.calm = true ∧ C.N[x]? = some y ∧ locB sc.names y = true ∧ blkC' C ns sc y x = true ∧ notSet pit = true ∧ chkE C ns it pit = true ∧ chkE C (blkNames ns sc) elt pelt = true ∧ (match ifs with | [] => isNo c | [pc] => !isNo c && chkE C (blkNames ns sc) c pc | _ => false) = true := by
  unfold chkE at q
  split at q
  · rename_i pelt tg pit ifs sc hx
    obtain ⟨pp, rfl⟩ := isComp_eq hx
    simp only [Bool.and_eq_true] at q
    obtain ⟨⟨q0, q1⟩, q2, q3, q4, q5⟩ := q
    split at q1
    · rename_i y hy
      obtain ⟨py, rfl⟩ := isName_eq hy
      simp only [Bool.and_eq_true] at q1
      exact ⟨_, _, _, _, _, _, _, rfl, q0, of_decide_eq_true q1.1, q1.2.1, q1.2.2, q2, q3, q4, q5⟩
    · cases q1
  · cases q
theorem blkC_key {sc : Scope} {y : Str} {x : Nat} (h : blkC' C ns sc y x = true) : blkC C.N { kind := .function, names := ns, isGenerator := false, isCoroutine := false } sc [(y, x)] = true ∧ sc.kind = .function := by
  unfold blkC' at h
  rw [Bool.and_eq_true] at h
  refine ⟨h.1, ?_⟩
  have h2 := h.2
  split at h2
  · assumption
  · cases h2
theorem blk_ok (c : Ctx X Y Φ G C ns k) {sc : Scope} {y : Str} {x : Nat} (h : blkC' C ns sc y x = true) : BlkOk X.N X.env.scope sc [(y, x)] := by
  have b := blkOk_by (blkC_key h).1
  rw [c.N]
  refine ⟨b.kind, b.uniq, b.ix, fun z hz e => ?_, b.own⟩
  rw [c.sc]; exact b.free z hz e
theorem comp_step {m : Bool} {acc : List Val} {y : Val} {r : R (List Val × Store)} :
    ((r.bind fun q => R.ok (y :: q.1, q.2)).bind fun q => newL m (acc ++ q.1) q.2) = r.bind fun q => newL m ((acc ++ [y]) ++ q.1) q.2 := by
  cases r with
  | ok p => show newL m (acc ++ (y :: p.1)) p.2 = newL m ((acc ++ [y]) ++ p.1) p.2; rw [List.append_assoc]; rfl
  | _ => rfl
/-! several names at once -/
def setNV : List Nat → List V → L2.St → L2.St
  | i :: is, v :: vs, σ => setNV is vs (σ.set i (some v))
  | _, _, σ => σ
def gSetN (is : List Nat) : TGs := fun vs σ H Q => vs.length = is.length ∧ Q (setNV is vs σ) H
def gSeqN (K : PySem.W.Frag) (is : List Nat) : TG := fun v σ H Q => ∃ a xs, v = .ref a ∧ (SqL K H a xs ∨ SqT K H a xs) ∧ xs.length = is.length ∧ Q (setNV is xs σ) H
theorem EnvOk.setN {F : Hp} {μ : Nat → Addr} {n : Nat} (hc : Y.hot = false) : ∀ {is : List Nat} {xs : List Val} {vs : List V} {env : Env} {σ : L2.St}, EnvOk Y F μ n env σ → RepL Y.kf F μ n xs vs → EnvOk Y F μ n (setN is xs env) (setNV is vs σ)
  | [], _, _, _, _, h, _ => h
  | i :: is, [], vs, _, _, h, r => by have e : vs = [] := r; subst e; exact h
  | i :: is, x :: xs, _, _, _, h, ⟨v, r, e, h1, h2⟩ => by
    subst e
    exact EnvOk.setN hc (is := is) (h.set h1 i fun z => by rw [hc] at z; cases z) h2
theorem seqN_rep {F H : Hp} {μ : Nat → Addr} {st : Store} {is : List Nat} {x : Val} {w : V} {env env' : Env} {σ : L2.St} (hK : X.K = Y.K) (hc : Y.hot = false) (g : Good Y.kf F μ st H) (en : EnvOk Y F μ st.length env σ) (r : RepV Y.kf F μ st.length x w) (e : seqN is x env st = some env') :
    ∃ a vs, w = .ref a ∧ (SqL X.K H a vs ∨ SqT X.K H a vs) ∧ vs.length = is.length ∧ EnvOk Y F μ st.length env' (setNV is vs σ) := by
  unfold seqN at e
  split at e
  · rename_i k xs hs
    by_cases hl : xs.length = is.length
    · rw [if_pos hl] at e
      cases e
      obtain ⟨a, vs, h1, h2, h3⟩ := seqOf_rep g r hs
      refine ⟨a, vs, h1, ?_, by rw [h2.len]; exact hl, en.setN hc h2⟩
      rw [hK]
      cases k with
      | true => exact .inl h3
      | false => exact .inr h3
    · rw [if_neg hl] at e; cases e
  · cases e
theorem setNV_agree : ∀ {is : List Nat} {vs : List V} {σ τ : L2.St}, vs.length = is.length → σ.length = τ.length → (∀ i, i ∉ is → σ[i]? = τ[i]?) → setNV is vs σ = setNV is vs τ
  | [], vs, σ, τ, _, _, h => by
    have e : σ = τ := List.ext_getElem? fun i => h i (by simp)
    subst e; rfl
  | i :: is, [], _, _, h, _, _ => by cases h
  | i :: is, v :: vs, σ, τ, hl, hs, h => by
    show setNV is vs (σ.set i (some v)) = setNV is vs (τ.set i (some v))
    refine setNV_agree (by simpa using hl) (by simpa using hs) fun j hj => ?_
    by_cases e : i = j
    · subst e
      by_cases hi : i < σ.length
      · rw [List.getElem?_set_self hi, List.getElem?_set_self (by omega)]
      · rw [List.getElem?_eq_none (by simp; omega), List.getElem?_eq_none (by simp; omega)]
    · rw [List.getElem?_set_ne e, List.getElem?_set_ne e]
      exact h j (by simp; exact ⟨fun z => e z.symm, hj⟩)
theorem setNV_len : ∀ {is : List Nat} {vs : List V} {σ : L2.St}, (setNV is vs σ).length = σ.length
  | [], _, _ => by unfold setNV; rfl
  | i :: is, [], _ => by unfold setNV; rfl
  | i :: is, v :: vs, σ => by
    show (setNV is vs (σ.set i (some v))).length = _
    rw [setNV_len, List.length_set]
theorem setNV_off : ∀ {is : List Nat} {vs : List V} {σ : L2.St} {j : Nat}, j ∉ is → (setNV is vs σ)[j]? = σ[j]?
  | [], _, _, _, _ => by unfold setNV; rfl
  | i :: is, [], _, _, _ => by unfold setNV; rfl
  | i :: is, v :: vs, σ, j, h => by
    show (setNV is vs (σ.set i (some v)))[j]? = _
    rw [setNV_off (fun z => h (List.mem_cons_of_mem _ z)), List.getElem?_set_ne (fun z => h (by rw [z]; exact List.mem_cons_self ..))]
theorem wipe_get : ∀ {vs : List Nat} {σ : L2.St} {j : Nat}, (wipe σ vs)[j]? = if j ∈ vs ∧ j < σ.length then some none else σ[j]?
  | [], _, _ => by simp [wipe]
  | v :: vs, σ, j => by
    show ((wipe σ vs).set v none)[j]? = _
    by_cases e : v = j
    · subst e
      by_cases hi : v < σ.length
      · rw [List.getElem?_set_self (by rw [wipe_length]; exact hi), if_pos ⟨by simp, hi⟩]
      · rw [List.getElem?_eq_none (by simp [wipe_length]; omega), if_neg (fun z => hi z.2), List.getElem?_eq_none (by omega)]
    · rw [List.getElem?_set_ne e, wipe_get]
      by_cases hj : j ∈ vs
      · by_cases hi : j < σ.length
        · rw [if_pos ⟨hj, hi⟩, if_pos ⟨by simp [hj], hi⟩]
        · rw [if_neg (fun z => hi z.2), if_neg (fun z => hi z.2)]
      · rw [if_neg (fun z => hj z.1), if_neg (fun z => by simp [hj] at z; exact e z.1.symm)]
theorem wipe_setNV {is : List Nat} {vs : List V} {σ : L2.St} : wipe (setNV is vs (wipe σ is)) is = wipe σ is := by
  refine List.ext_getElem? fun j => ?_
  rw [wipe_get, setNV_len, wipe_length]
  by_cases hj : j ∈ is
  · by_cases hi : j < σ.length
    · rw [if_pos ⟨hj, hi⟩, wipe_get, if_pos ⟨hj, hi⟩]
    · rw [if_neg (fun z => hi z.2), List.getElem?_eq_none (by rw [setNV_len, wipe_length]; omega), List.getElem?_eq_none (by rw [wipe_length]; omega)]
  · rw [if_neg (fun z => hj z.1), setNV_off hj]
theorem setNV_wipe {is : List Nat} {vs : List V} {σ : L2.St} (h : vs.length = is.length) : setNV is vs (wipe σ is) = setNV is vs σ :=
  setNV_agree h (wipe_length σ is) fun i hi => by rw [wipe_get, if_neg fun z => hi z.1]
theorem snd_comp_red {m : Bool} {x : Nat} {it cc elt : E} (hK : X.K = Y.K) (hcold : Y.hot = false) {σ : L2.St} {H : Hp} {Q : VK} (h : tE Y Φ G W (.comp m x it cc elt) σ H Q) :
    tLcX (tI Y Φ G W it) (gName x) (fun σ => tT Y Φ G (fun c d _ H => W c d σ H) cc) (fun σ => tE Y Φ G (fun c d _ H => W c d σ H) elt) [x] σ H Q := by
  obtain ⟨F, μ, st, env, g, en, h⟩ := h
  have h : RP Y F μ st H (((ev Φ G it).i env st).bind fun p => if p.1.length ≤ szMax then ((compL (ev Φ G cc).t (ev Φ G elt).v x p.1 env p.2).bind fun q => newL m q.1 q.2) else .stuck) (kV Y Q) (at_ W σ) := h
  refine ⟨F, μ, st, env, g, en, h.bind.impE fun F1 μ1 H1 xs st1 _ e1 g1 h1 J us rL wj D hD => ?_⟩
  by_cases hl : xs.length ≤ szMax
  · rw [if_pos hl] at h1
    have en1 := e1.env en
    refine lc_walk wj (fun i H => ∃ Fi μi sti Hg acc accV, Hg D = none ∧ H = upd Hg D (.lst accV) ∧ Good Y.kf Fi μi sti Hg ∧ Ext F1 μ1 st1 H1 Fi μi sti Hg ∧ RepL Y.kf Fi μi sti.length acc accV ∧ acc.length ≤ i ∧
      RP Y Fi μi sti Hg (((compL (ev Φ G cc).t (ev Φ G elt).v x (xs.drop i) env sti).bind fun q => newL m (acc ++ q.1) q.2)) (kV Y Q) (at_ W σ)) ?_ ?_ ?_ ?_
    · exact ⟨F1, μ1, st1, H1, [], [], hD, rfl, g1, Ext.refl, rfl, Nat.le_refl _, h1⟩
    · rintro i H ⟨Fi, μi, sti, Hg, acc, accV, hd, rfl, gi, ei, _⟩
      exact ei.same.trans (gi.beside hd).same
    · rintro i w H hw ⟨Fi, μi, sti, Hg, acc, accV, hd, rfl, gi, ei, ra, hai, hh⟩
      obtain ⟨v, hv, rv⟩ := rL.getV hw
      obtain ⟨hi, hvi⟩ := List.getElem?_eq_some_iff.mp hv
      rw [List.drop_eq_getElem_cons hi, hvi] at hh
      have hwipe : wipe ((wipe σ [x]).set x (some w)) [x] = wipe σ [x] := by
        show ((σ.set x none).set x (some w)).set x none = σ.set x none
        rw [List.set_set, List.set_set]
      have eni : EnvOk Y Fi μi sti.length (env.set x (some v)) ((wipe σ [x]).set x (some w)) := by
        have := (ei.env en1).set (ei.v rv) x (fun z => by rw [hcold] at z; cases z)
        rw [show (wipe σ [x]).set x (some w) = σ.set x (some w) from by show (σ.set x none).set x (some w) = _; rw [List.set_set]]
        exact this
      refine ⟨hwipe, ?_⟩
      have hh1 : RP Y Fi μi sti Hg ((((ev Φ G cc).t (env.set x (some v)) sti).bind fun p => (if p.1 = true then ((ev Φ G elt).v (env.set x (some v)) p.2).bind fun r => (compL (ev Φ G cc).t (ev Φ G elt).v x (xs.drop (i + 1)) env r.2).bind fun q => R.ok (r.1 :: q.1, q.2)
          else compL (ev Φ G cc).t (ev Φ G elt).v x (xs.drop (i + 1)) env p.2).bind fun q => newL m (acc ++ q.1) q.2)) (kV Y Q) (at_ W σ) := by
        rw [← R.assoc]; exact hh
      refine ⟨Fi, μi, sti, _, gi.beside hd, eni, ?_⟩
      refine RP.ghost gi hd hh1 fun F2 μ2 H2 b st2 e2 g2 e2' g2' hD2 h2 => ?_
      show if b = true then _ else _
      have hup : H2 = upd (era H2 D) D (.lst accV) := by
        rw [upd_era]; funext a
        by_cases ha : a = D
        · subst ha; rw [upd_same]; exact hD2
        · rw [upd_ne ha]
      cases b with
      | true =>
        rw [if_pos rfl]
        have h2' : RP Y F2 μ2 st2 (era H2 D) ((((ev Φ G elt).v (env.set x (some v)) st2).bind fun r => ((compL (ev Φ G cc).t (ev Φ G elt).v x (xs.drop (i + 1)) env r.2).bind fun q => R.ok (r.1 :: q.1, q.2)).bind fun q => newL m (acc ++ q.1) q.2)) (kV Y Q) (at_ W σ) := by
          rw [← R.assoc]; exact h2
        refine ⟨F2, μ2, st2, _, g2', e2'.env eni, ?_⟩
        rw [hup]
        refine RP.ghost g2 era_same h2' fun F3 μ3 H3 y st3 e3 g3 e3' g3' hD3 h3 u ru => ?_
        refine ⟨accV, hD3, by rw [ra.len]; exact Nat.lt_of_le_of_lt hai (Nat.lt_of_lt_of_le hi (szMax_le hl)), ?_⟩
        refine ⟨F3, μ3, st3, era H3 D, acc ++ [y], accV ++ [u], era_same, upd_era.symm, g3, (ei.trans e2).trans e3, (e3.l (e2.l ra)).append ⟨u, [], rfl, ru, rfl⟩, by simp; exact hai, ?_⟩
        rw [comp_step] at h3
        exact h3
      | false =>
        rw [if_neg Bool.false_ne_true]
        exact ⟨F2, μ2, st2, era H2 D, acc, accV, era_same, hup, g2, ei.trans e2, e2.l ra, Nat.le_succ_of_le hai, h2⟩
    · rintro H ⟨Fi, μi, sti, Hg, acc, accV, hd, rfl, gi, ei, ra, hai, hh⟩
      rw [rL.len, List.drop_length] at hh
      have hh' : RP Y Fi μi sti Hg (newL m acc sti) (kV Y Q) (at_ W σ) := by
        have hh2 : RP Y Fi μi sti Hg (newL m (acc ++ []) sti) (kV Y Q) (at_ W σ) := hh
        rw [List.append_nil] at hh2
        exact hh2
      exact (newL_ok gi hh' ra).2 D hd
  · rw [if_neg hl] at h1; exact False.elim h1
theorem lc_rules {x : Nat} {it cc elt : E} (si : Snd Y Φ G C k it) (sc : Snd Y Φ G C k cc) (se : Snd Y Φ G C k elt) (c : Ctx X Y Φ G C ns k) (hcalm : C.calm = true) (tk : Tk X W) {y : Str} {py : Pos} {pit pelt : Expr} {ifs : List Expr} {scp : Scope}
    (q1 : C.N[x]? = some y) (q2 : locB scp.names y = true) (q3 : blkC' C ns scp y x = true) (q5 : chkE C ns it pit = true) (q6 : chkE C (blkNames ns scp) elt pelt = true) (q7 : (match ifs with | [] => isNo cc | [pc] => !isNo cc && chkE C (blkNames ns scp) cc pc | _ => false) = true) :
    PI X (.Name y py) pit (tI Y Φ G W it) ∧ (∀ (s : Shared) (H : Hp) (Cl : Addr) (cl : List (Str × Addr)) (fp : List Addr), PG (X.blkX s H scp (compEnvC scp cl Cl X.env) fp) (.Name y py) (gName x)) ∧
      (∀ (σ : L2.St) (s : Shared) (H : Hp) (Cl : Addr) (cl : List (Str × Addr)) (fp : List Addr), Tk (X.blkX s H scp (compEnvC scp cl Cl X.env) fp) (fun c d _ H => W c d σ H) → PTs (X.blkX s H scp (compEnvC scp cl Cl X.env) fp) ifs (tT Y Φ G (fun c d _ H => W c d σ H) cc)) ∧
      (∀ (σ : L2.St) (s : Shared) (H : Hp) (Cl : Addr) (cl : List (Str × Addr)) (fp : List Addr), Tk (X.blkX s H scp (compEnvC scp cl Cl X.env) fp) (fun c d _ H => W c d σ H) → PE (X.blkX s H scp (compEnvC scp cl Cl X.env) fp) pelt (tE Y Φ G (fun c d _ H => W c d σ H) elt)) := by
  obtain ⟨b1, b2⟩ := blkC_key q3
  have bc := fun (s : Shared) (H : Hp) (Cl : Addr) (cl : List (Str × Addr)) (fp : List Addr) => ctx_blk c (s := s) (H := H) (Cl := Cl) (cl := cl) (fp := fp) b2 hcalm
  refine ⟨si.pi (.Name y py) c tk q5, fun s H Cl cl fp => ?_, fun σ s H Cl cl fp tb => ?_, fun σ s H Cl cl fp tb => se.pe (bc s H Cl cl fp) tb q6⟩
  · refine pg_name c.nd (show X.N[x]? = some y by rw [c.N]; exact q1) ?_ ?_
    · unfold locB at q2
      split at q2
      · rename_i e; exact .inl (lookup_relS_keep (by decide) e)
      · rename_i e; exact .inr (lookup_relS_keep (by decide) e)
      · cases q2
    · unfold locB at q2
      split at q2
      · rename_i e; exact .inr (lookup_relS_keep (by decide) e)
      · rename_i e; refine .inl ?_; show (scp.names.lookup y == some NameKind.cell) = true; rw [e]; rfl
      · cases q2
  · split at q7
    · have hc : cc = .no := by cases cc <;> first | rfl | cases q7
      subst hc
      exact ⟨fun pins s σ H Q I ⟨F, μ, st, env, g, en, h⟩ => pts_nil.run pins s σ H Q I (h F μ H Ext.refl g)⟩
    · rw [Bool.and_eq_true] at q7
      exact pts_one (sc.pt (bc s H Cl cl fp) tb q7.2)
    · cases q7
theorem snd_comp {m : Bool} {x : Nat} {it cc elt : E} (si : Snd Y Φ G C k it) (sc : Snd Y Φ G C k cc) (se : Snd Y Φ G C k elt) : Snd Y Φ G C k (.comp m x it cc elt) := by
  refine mkSnd rfl (fun ns p q => ?_) fun {X ns W p} c tk q => ?_
  · obtain ⟨_, _, _, _, _, _, _, rfl, _⟩ := comp_key q; rfl
  · obtain ⟨pelt, y, py, pit, ifs, scp, pp, rfl, q0, q1, q2, q3, q4, q5, q6, q7⟩ := comp_key q
    obtain ⟨r1, r2, r3, r4⟩ := lc_rules si sc se c q0 tk q1 q2 q3 q5 q6 q7 (py := py)
    exact PEimp (pe_lcX tk (c.calm q0).1 c.nd r1 (blk_ok c q3) r2 r3 r4 (folded_id q4)) fun σ H Q h => snd_comp_red c.K (by rw [c.hot]; exact (c.calm q0).2) h
theorem snd_compt_red {m : Bool} {is : List Nat} {it cc elt : E} (hK : X.K = Y.K) (hcold : Y.hot = false) {σ : L2.St} {H : Hp} {Q : VK} (h : tE Y Φ G W (.compt m is it cc elt) σ H Q) :
    tLcX (tI Y Φ G W it) (gSeqN X.K is) (fun σ => tT Y Φ G (fun c d _ H => W c d σ H) cc) (fun σ => tE Y Φ G (fun c d _ H => W c d σ H) elt) is σ H Q := by
  obtain ⟨F, μ, st, env, g, en, h⟩ := h
  have h : RP Y F μ st H (((ev Φ G it).i env st).bind fun p => if p.1.length ≤ szMax then ((compT (ev Φ G cc).t (ev Φ G elt).v is p.1 env p.2).bind fun q => newL m q.1 q.2) else .stuck) (kV Y Q) (at_ W σ) := h
  refine ⟨F, μ, st, env, g, en, h.bind.impE fun F1 μ1 H1 xs st1 _ e1 g1 h1 J us rL wj D hD => ?_⟩
  by_cases hl : xs.length ≤ szMax
  · rw [if_pos hl] at h1
    have en1 := e1.env en
    refine lc_walk wj (fun i H => ∃ Fi μi sti Hg acc accV, Hg D = none ∧ H = upd Hg D (.lst accV) ∧ Good Y.kf Fi μi sti Hg ∧ Ext F1 μ1 st1 H1 Fi μi sti Hg ∧ RepL Y.kf Fi μi sti.length acc accV ∧ acc.length ≤ i ∧
      RP Y Fi μi sti Hg (((compT (ev Φ G cc).t (ev Φ G elt).v is (xs.drop i) env sti).bind fun q => newL m (acc ++ q.1) q.2)) (kV Y Q) (at_ W σ)) ?_ ?_ ?_ ?_
    · exact ⟨F1, μ1, st1, H1, [], [], hD, rfl, g1, Ext.refl, rfl, Nat.le_refl _, h1⟩
    · rintro i H ⟨Fi, μi, sti, Hg, acc, accV, hd, rfl, gi, ei, _⟩
      exact ei.same.trans (gi.beside hd).same
    · rintro i w H hw ⟨Fi, μi, sti, Hg, acc, accV, hd, rfl, gi, ei, ra, hai, hh⟩
      obtain ⟨v, hv, rv⟩ := rL.getV hw
      obtain ⟨hi, hvi⟩ := List.getElem?_eq_some_iff.mp hv
      rw [List.drop_eq_getElem_cons hi, hvi] at hh
      simp only [compT] at hh
      split at hh
      · rename_i env1 he
        obtain ⟨a, ws, hw1, hw2, hw3, hw4⟩ := seqN_rep (X := X) hK hcold gi (ei.env en1) (ei.v rv) he
        refine ⟨a, ws, hw1, hw2.imp (fun z => sqL_mono (fun b u e => by rw [upd_ne (ne_of_none e hd)]; exact e) z) (fun z => sqT_mono (fun b u e => by rw [upd_ne (ne_of_none e hd)]; exact e) z), hw3, wipe_setNV, ?_⟩
        have eni : EnvOk Y Fi μi sti.length env1 (setNV is ws (wipe σ is)) := by rw [setNV_wipe hw3]; exact hw4
        have hh1 : RP Y Fi μi sti Hg ((((ev Φ G cc).t env1 sti).bind fun p => (if p.1 = true then ((ev Φ G elt).v env1 p.2).bind fun r => (compT (ev Φ G cc).t (ev Φ G elt).v is (xs.drop (i + 1)) env r.2).bind fun q => R.ok (r.1 :: q.1, q.2)
          else compT (ev Φ G cc).t (ev Φ G elt).v is (xs.drop (i + 1)) env p.2).bind fun q => newL m (acc ++ q.1) q.2)) (kV Y Q) (at_ W σ) := by
          rw [← R.assoc]; exact hh
        refine ⟨Fi, μi, sti, _, gi.beside hd, eni, ?_⟩
        refine RP.ghost gi hd hh1 fun F2 μ2 H2 b st2 e2 g2 e2' g2' hD2 h2 => ?_
        show if b = true then _ else _
        have hup : H2 = upd (era H2 D) D (.lst accV) := by
          rw [upd_era]; funext a
          by_cases ha : a = D
          · subst ha; rw [upd_same]; exact hD2
          · rw [upd_ne ha]
        cases b with
        | true =>
          rw [if_pos rfl]
          have h2' : RP Y F2 μ2 st2 (era H2 D) ((((ev Φ G elt).v env1 st2).bind fun r => ((compT (ev Φ G cc).t (ev Φ G elt).v is (xs.drop (i + 1)) env r.2).bind fun q => R.ok (r.1 :: q.1, q.2)).bind fun q => newL m (acc ++ q.1) q.2)) (kV Y Q) (at_ W σ) := by
            rw [← R.assoc]; exact h2
          refine ⟨F2, μ2, st2, _, g2', e2'.env eni, ?_⟩
          rw [hup]
          refine RP.ghost g2 era_same h2' fun F3 μ3 H3 y st3 e3 g3 e3' g3' hD3 h3 u ru => ?_
          refine ⟨accV, hD3, by rw [ra.len]; exact Nat.lt_of_le_of_lt hai (Nat.lt_of_lt_of_le hi (szMax_le hl)), ?_⟩
          refine ⟨F3, μ3, st3, era H3 D, acc ++ [y], accV ++ [u], era_same, upd_era.symm, g3, (ei.trans e2).trans e3, (e3.l (e2.l ra)).append ⟨u, [], rfl, ru, rfl⟩, by simp; exact hai, ?_⟩
          rw [comp_step] at h3
          exact h3
        | false =>
          rw [if_neg Bool.false_ne_true]
          exact ⟨F2, μ2, st2, era H2 D, acc, accV, era_same, hup, g2, ei.trans e2, e2.l ra, Nat.le_succ_of_le hai, h2⟩
      · exact False.elim hh
    · rintro H ⟨Fi, μi, sti, Hg, acc, accV, hd, rfl, gi, ei, ra, hai, hh⟩
      rw [rL.len, List.drop_length] at hh
      have hh' : RP Y Fi μi sti Hg (newL m acc sti) (kV Y Q) (at_ W σ) := by
        have hh2 : RP Y Fi μi sti Hg (newL m (acc ++ []) sti) (kV Y Q) (at_ W σ) := hh
        rw [List.append_nil] at hh2
        exact hh2
      exact (newL_ok gi hh' ra).2 D hd
  · rw [if_neg hl] at h1; exact False.elim h1
theorem pgs_blk (c : Ctx X Y Φ G C ns k) (hcalm : C.calm = true) {scp : Scope} (s : Shared) (H : Hp) (Cl : Addr) (cl : List (Str × Addr)) (fp : List Addr) : ∀ (is : List Nat) (ts : List Expr), chkT0 C scp is ts = true → PGs (X.blkX s H scp (compEnvC scp cl Cl X.env) fp) ts (gSetN is) ∧ (assignEach ts (X.blkX s H scp (compEnvC scp cl Cl X.env) fp).env).length = is.length ∧ (assignEach ts (X.blkX s H scp (compEnvC scp cl Cl X.env) fp).env).findIdx? (·.1) = none
  | [], [], _ => ⟨⟨fun pins s σ H vs us Q I r h => pgs_nil.run pins s σ H vs us Q I r ⟨List.eq_nil_of_length_eq_zero h.1, by have := List.eq_nil_of_length_eq_zero h.1; subst this; exact h.2⟩⟩, rfl, rfl⟩
  | i :: is, t :: ts, h => by
    unfold chkT0 at h
    rw [Bool.and_eq_true] at h
    obtain ⟨h1, h2⟩ := h
    obtain ⟨a1, a2, a3⟩ := pgs_blk c hcalm s H Cl cl fp is ts h2
    split at h1
    · rename_i x hn
      obtain ⟨pn, rfl⟩ := isName_eq hn
      rw [Bool.and_eq_true] at h1
      have hi : X.N[i]? = some x := by rw [c.N]; exact of_decide_eq_true h1.1
      have q2 := h1.2
      have hp : PGs (X.blkX s H scp (compEnvC scp cl Cl X.env) fp) (.Name x pn :: ts) (gCons (gName i) (gSetN is)) := by
        refine pgs_cons (pg_name c.nd hi ?_ ?_) a1
        · unfold locB at q2
          split at q2
          · rename_i e; exact .inl (lookup_relS_keep (by decide) e)
          · rename_i e; exact .inr (lookup_relS_keep (by decide) e)
          · cases q2
        · unfold locB at q2
          split at q2
          · rename_i e; exact .inr (lookup_relS_keep (by decide) e)
          · rename_i e; refine .inl ?_; show (scp.names.lookup x == some NameKind.cell) = true; rw [e]; rfl
          · cases q2
      refine ⟨⟨fun pins s σ H vs us Q I r h => hp.run pins s σ H vs us Q I r ?_⟩, ?_, ?_⟩
      · obtain ⟨hl, hq⟩ := h
        cases vs with
        | nil => cases hl
        | cons v vs => exact ⟨v, vs, rfl, by simpa using hl, hq⟩
      · show (assignEach ts (X.blkX s H scp (compEnvC scp cl Cl X.env) fp).env).length + 1 = _; rw [a2]; rfl
      · have e : assignEach (.Name x pn :: ts) (X.blkX s H scp (compEnvC scp cl Cl X.env) fp).env = (false, assign (.Name x pn) (X.blkX s H scp (compEnvC scp cl Cl X.env) fp).env) :: assignEach ts (X.blkX s H scp (compEnvC scp cl Cl X.env) fp).env := rfl
        rw [e, List.findIdx?_cons]
        show (if false = true then _ else _) = _
        rw [if_neg Bool.false_ne_true, a3]; rfl
    · cases h1
  | [], _ :: _, h => by cases h
  | _ :: _, [], h => by cases h
theorem chkT0_len {scp : Scope} : ∀ {is : List Nat} {ts : List Expr}, chkT0 C scp is ts = true → ts.length = is.length
  | [], [], _ => rfl
  | i :: is, t :: ts, h => by
    unfold chkT0 at h
    rw [Bool.and_eq_true] at h
    simp [chkT0_len h.2]
  | [], _ :: _, h => by cases h
  | _ :: _, [], h => by cases h
theorem lct_rules {is : List Nat} {it cc elt : E} (si : Snd Y Φ G C k it) (sc : Snd Y Φ G C k cc) (se : Snd Y Φ G C k elt) (c : Ctx X Y Φ G C ns k) (hcalm : C.calm = true) (tk : Tk X W) {ts : List Expr} {kk : Nat} {py : Pos} {pit pelt : Expr} {ifs : List Expr} {scp : Scope}
    (q1 : chkT0 C scp is ts = true) (b2 : scp.kind = .function) (q5 : chkE C ns it pit = true) (q6 : chkE C (blkNames ns scp) elt pelt = true) (q7 : (match ifs with | [] => isNo cc | [pc] => !isNo cc && chkE C (blkNames ns scp) cc pc | _ => false) = true) :
    PI X (.Tuple ts kk py) pit (tI Y Φ G W it) ∧ (∀ (s : Shared) (H : Hp) (Cl : Addr) (cl : List (Str × Addr)) (fp : List Addr), PG (X.blkX s H scp (compEnvC scp cl Cl X.env) fp) (.Tuple ts kk py) (gSeqN X.K is)) ∧
      (∀ (σ : L2.St) (s : Shared) (H : Hp) (Cl : Addr) (cl : List (Str × Addr)) (fp : List Addr), Tk (X.blkX s H scp (compEnvC scp cl Cl X.env) fp) (fun c d _ H => W c d σ H) → PTs (X.blkX s H scp (compEnvC scp cl Cl X.env) fp) ifs (tT Y Φ G (fun c d _ H => W c d σ H) cc)) ∧
      (∀ (σ : L2.St) (s : Shared) (H : Hp) (Cl : Addr) (cl : List (Str × Addr)) (fp : List Addr), Tk (X.blkX s H scp (compEnvC scp cl Cl X.env) fp) (fun c d _ H => W c d σ H) → PE (X.blkX s H scp (compEnvC scp cl Cl X.env) fp) pelt (tE Y Φ G (fun c d _ H => W c d σ H) elt)) := by
  have bc := fun (s : Shared) (H : Hp) (Cl : Addr) (cl : List (Str × Addr)) (fp : List Addr) => ctx_blk c (s := s) (H := H) (Cl := Cl) (cl := cl) (fp := fp) b2 hcalm
  refine ⟨si.pi (.Tuple ts kk py) c tk q5, fun s H Cl cl fp => ?_, fun σ s H Cl cl fp tb => ?_, fun σ s H Cl cl fp tb => se.pe (bc s H Cl cl fp) tb q6⟩
  · obtain ⟨h1, h2, h3⟩ := pgs_blk c hcalm s H Cl cl fp is ts q1
    have hc : (X.blkX s H scp (compEnvC scp cl Cl X.env) fp).calm = true := (c.calm hcalm).1
    have g1 := pg_tup (k := kk) (pos := py) hc h1 h2 h3
    have g2 := pg_lst (k := kk) (pos := py) hc h1 h2 h3
    refine ⟨fun pins s σ H v u Q I r ⟨a, xs, e, hq, hl, q⟩ => ?_⟩
    rcases hq with hq | hq
    · exact g2.run pins s σ H v u Q I r ⟨a, xs, e, hq, hl, hl, q⟩
    · exact g1.run pins s σ H v u Q I r ⟨a, xs, e, hq, hl, hl, q⟩
  · split at q7
    · have hc : cc = .no := by cases cc <;> first | rfl | cases q7
      subst hc
      exact ⟨fun pins s σ H Q I ⟨F, μ, st, env, g, en, h⟩ => pts_nil.run pins s σ H Q I (h F μ H Ext.refl g)⟩
    · rw [Bool.and_eq_true] at q7
      exact pts_one (sc.pt (bc s H Cl cl fp) tb q7.2)
    · cases q7
theorem compt_key {m : Bool} {is : List Nat} {it c elt : E} {ns : Names} {p : Expr} (q : chkE C ns (.compt m is it c elt) p = true) : ∃ pelt ts kk py pit ifs sc pp, p = .ListComp pelt [⟨.Tuple ts kk py, pit, ifs, 0⟩] sc pp ∧
    C.calm = true ∧ chkT0 C sc is ts = true ∧ blkCT C ns sc (tgN ts is) = true ∧ notSet pit = true ∧ chkE C ns it pit = true ∧ chkE C (blkNames ns sc) elt pelt = true ∧ (match ifs with | [] => isNo c | [pc] => !isNo c && chkE C (blkNames ns sc) c pc | _ => false) = true := by
  unfold chkE at q
  split at q
  · rename_i pelt tg pit ifs sc hx
    obtain ⟨pp, rfl⟩ := isComp_eq hx
    simp only [Bool.and_eq_true] at q
    obtain ⟨⟨q0, q1⟩, q2, q3, q4, q5⟩ := q
    split at q1
    · rename_i ts hy
      obtain ⟨kk, py, rfl⟩ := isTup_eq hy
      simp only [Bool.and_eq_true] at q1
      exact ⟨_, _, _, _, _, _, _, _, rfl, q0, q1.1, q1.2, q2, q3, q4, q5⟩
    · cases q1
  · cases q
theorem blkCT_key {sc : Scope} {own : List (Str × Nat)} (h : blkCT C ns sc own = true) : blkC C.N { kind := .function, names := ns, isGenerator := false, isCoroutine := false } sc own = true ∧ sc.kind = .function := by
  unfold blkCT at h
  rw [Bool.and_eq_true] at h
  refine ⟨h.1, ?_⟩
  have h2 := h.2
  split at h2
  · assumption
  · cases h2
theorem blkt_ok (c : Ctx X Y Φ G C ns k) {sc : Scope} {own : List (Str × Nat)} (h : blkCT C ns sc own = true) : BlkOk X.N X.env.scope sc own := by
  have b := blkOk_by (blkCT_key h).1
  rw [c.N]
  refine ⟨b.kind, b.uniq, b.ix, fun z hz e => ?_, b.own⟩
  rw [c.sc]; exact b.free z hz e
theorem snd_compt {m : Bool} {is : List Nat} {it cc elt : E} (si : Snd Y Φ G C k it) (sc : Snd Y Φ G C k cc) (se : Snd Y Φ G C k elt) : Snd Y Φ G C k (.compt m is it cc elt) := by
  refine mkSnd rfl (fun ns p q => ?_) fun {X ns W p} c tk q => ?_
  · obtain ⟨_, _, _, _, _, _, _, _, rfl, _⟩ := compt_key q; rfl
  · obtain ⟨pelt, ts, kk, py, pit, ifs, scp, pp, rfl, q0, q1, q3, q4, q5, q6, q7⟩ := compt_key q
    obtain ⟨r1, r2, r3, r4⟩ := lct_rules si sc se c q0 tk q1 (blkCT_key q3).2 q5 q6 q7 (py := py) (kk := kk)
    refine PEimp (pe_lcX tk (c.calm q0).1 c.nd r1 (blkt_ok c q3) r2 r3 r4 (folded_id q4)) fun σ H Q h => ?_
    rw [tgN_snd (chkT0_len q1)]
    exact snd_compt_red c.K (by rw [c.hot]; exact (c.calm q0).2) h
/-- the target of a loop -/
def gTg (K : PySem.W.Frag) (t : Tg) : TG := match t with | .one i => gName i | .many is => gSeqN K is
def tgL : Tg → List Nat | .one i => [i] | .many is => is
theorem setTg_rep {F H : Hp} {μ : Nat → Addr} {st : Store} {t : Tg} {x : Val} {w : V} {env env' : Env} {σ : L2.St} (hK : X.K = Y.K) (hc : Y.hot = false) (g : Good Y.kf F μ st H) (en : EnvOk Y F μ st.length env σ) (r : RepV Y.kf F μ st.length x w) (e : setTg t x env st = some env')
    {H' : Hp} (sm : ∀ b u, H b = some u → H' b = some u) {Q : L2.St → Hp → Prop} (q : ∀ σ', wipe σ' (tgL t) = wipe σ (tgL t) → EnvOk Y F μ st.length env' σ' → Q σ' H') : gTg X.K t w (wipe σ (tgL t)) H' Q := by
  cases t with
  | one i =>
    cases e
    have hw : wipe ((wipe σ [i]).set i (some w)) [i] = wipe σ [i] := by
      show ((σ.set i none).set i (some w)).set i none = σ.set i none
      rw [List.set_set, List.set_set]
    refine q ((wipe σ [i]).set i (some w)) hw ?_
    have := en.set r i (fun z => by rw [hc] at z; cases z)
    rw [show (wipe σ [i]).set i (some w) = σ.set i (some w) from by show (σ.set i none).set i (some w) = _; rw [List.set_set]]
    exact this
  | many is =>
    obtain ⟨a, ws, hw1, hw2, hw3, hw4⟩ := seqN_rep (X := X) hK hc g en r e
    exact ⟨a, ws, hw1, hw2.imp (fun z => sqL_mono sm z) (fun z => sqT_mono sm z), hw3, q _ wipe_setNV (by show EnvOk Y F μ st.length env' (setNV is ws (wipe σ is)); rw [setNV_wipe hw3]; exact hw4)⟩
theorem setTg_rep0 {F H : Hp} {μ : Nat → Addr} {st : Store} {t : Tg} {x : Val} {w : V} {env env' : Env} {σ : L2.St} (hK : X.K = Y.K) (hc : Y.hot = false) (g : Good Y.kf F μ st H) (en : EnvOk Y F μ st.length env σ) (r : RepV Y.kf F μ st.length x w) (e : setTg t x env st = some env')
    {Q : L2.St → Hp → Prop} (q : ∀ σ', EnvOk Y F μ st.length env' σ' → Q σ' H) : gTg X.K t w σ H Q := by
  cases t with
  | one i =>
    cases e
    exact q _ (en.set r i (fun z => by rw [hc] at z; cases z))
  | many is =>
    obtain ⟨a, ws, hw1, hw2, hw3, hw4⟩ := seqN_rep (X := X) hK hc g en r e
    exact ⟨a, ws, hw1, hw2, hw3, q _ hw4⟩
theorem snd_compc_red {m : Bool} {t : Tg} {ea cc elt : E} (hK : X.K = Y.K) (hcold : Y.hot = false) {σ : L2.St} {H : Hp} {Q : VK} (h : tE Y Φ G W (.compc m t ea cc elt) σ H Q) :
    tLcX (fun σ H R => tE Y Φ G W ea σ H fun x H1 => ∃ a b xs, x = .ref a ∧ SqB b X.K H1 a xs ∧ R (ItB b X.K a) H1) (gTg X.K t) (fun σ => tT Y Φ G (fun c d _ H => W c d σ H) cc) (fun σ => tE Y Φ G (fun c d _ H => W c d σ H) elt) (tgL t) σ H Q := by
  obtain ⟨F, μ, st, env, g, en, h⟩ := h
  have h : RP Y F μ st H (((ev Φ G ea).v env st).bind fun p => match seqOf p.2 p.1 with
    | some q => if q.2.length ≤ szMax then ((compC (ev Φ G cc).t (ev Φ G elt).v t p.1 q q.2 env p.2).bind fun r => newL m r.1 r.2) else .stuck
    | none => .stuck) (kV Y Q) (at_ W σ) := h
  refine goE g en h fun F1 μ1 H1 x st1 w e1 g1 en1 rw1 h1 => ?_
  split at h1
  · rename_i q hq
    obtain ⟨b, xs⟩ := q
    obtain ⟨a, us0, ew, rL0, sq0⟩ := seqOf_rep g1 rw1 hq
    refine ⟨a, b, us0, ew, by rw [hK]; exact sq0, fun D hD => ?_⟩
    by_cases hl : xs.length ≤ szMax
    · rw [if_pos hl] at h1
      refine lc_live (n := xs.length) (fun i H us => ∃ Fi μi sti Hg acc accV, Hg D = none ∧ H = upd Hg D (.lst accV) ∧ Good Y.kf Fi μi sti Hg ∧ Ext F1 μ1 st1 H1 Fi μi sti Hg ∧ RepL Y.kf Fi μi sti.length acc accV ∧ acc.length ≤ i ∧ SqB b X.K Hg a us ∧ RepL Y.kf Fi μi sti.length xs us ∧ seqOf sti x = some (b, xs) ∧
        RP Y Fi μi sti Hg (((compC (ev Φ G cc).t (ev Φ G elt).v t x (b, xs) (xs.drop i) env sti).bind fun q => newL m (acc ++ q.1) q.2)) (kV Y Q) (at_ W σ)) (us0 := us0) ?_ ?_ ?_ ?_
      · exact ⟨F1, μ1, st1, H1, [], [], hD, rfl, g1, Ext.refl, rfl, Nat.le_refl _, by rw [hK]; exact sq0, rL0, hq, h1⟩
      · rintro i H us ⟨Fi, μi, sti, Hg, acc, accV, hd, rfl, gi, ei, _, _, sq, rL, _⟩
        refine ⟨walk_b ?_, rL.len⟩
        have sm : Same Hg (upd Hg D (.lst accV)) := fun b u e => by rw [upd_ne (ne_of_none e hd)]; exact e
        cases b with
        | true => exact sqL_mono sm (show SqL X.K Hg a us from sq)
        | false => exact sqT_mono sm (show SqT X.K Hg a us from sq)
      · rintro i w' us H hw ⟨Fi, μi, sti, Hg, acc, accV, hd, rfl, gi, ei, ra, hai, sq, rL, hqi, hh⟩
        obtain ⟨v, hv, rv⟩ := rL.getV hw
        obtain ⟨hi, hvi⟩ := List.getElem?_eq_some_iff.mp hv
        rw [List.drop_eq_getElem_cons hi, hvi] at hh
        simp only [compC, hqi, if_true] at hh
        split at hh
        · rename_i env1 he
          refine setTg_rep hK hcold gi (ei.env en1) rv he (fun b u e => by rw [upd_ne (ne_of_none e hd)]; exact e) fun σ' hwipe eni => ⟨hwipe, ?_⟩
          have hh1 : RP Y Fi μi sti Hg ((((ev Φ G cc).t env1 sti).bind fun p => (if p.1 = true then ((ev Φ G elt).v env1 p.2).bind fun r => (compC (ev Φ G cc).t (ev Φ G elt).v t x (b, xs) (xs.drop (i + 1)) env r.2).bind fun q => R.ok (r.1 :: q.1, q.2)
            else compC (ev Φ G cc).t (ev Φ G elt).v t x (b, xs) (xs.drop (i + 1)) env p.2).bind fun q => newL m (acc ++ q.1) q.2)) (kV Y Q) (at_ W σ) := by
            rw [← R.assoc]; exact hh
          have fin : ∀ {F3 : Hp} {μ3 : Nat → Addr} {st3 : Store} {Hg3 : Hp} {acc3 : List Val} {accV3 : List V}, Hg3 D = none → Good Y.kf F3 μ3 st3 Hg3 → Ext F1 μ1 st1 H1 F3 μ3 st3 Hg3 → RepL Y.kf F3 μ3 st3.length acc3 accV3 → acc3.length ≤ i + 1 →
              RP Y F3 μ3 st3 Hg3 (((compC (ev Φ G cc).t (ev Φ G elt).v t x (b, xs) (xs.drop (i + 1)) env st3).bind fun q => newL m (acc3 ++ q.1) q.2)) (kV Y Q) (at_ W σ) →
              ∃ us, ∃ Fi μi sti Hg acc accV, Hg D = none ∧ upd Hg3 D (.lst accV3) = upd Hg D (.lst accV) ∧ Good Y.kf Fi μi sti Hg ∧ Ext F1 μ1 st1 H1 Fi μi sti Hg ∧ RepL Y.kf Fi μi sti.length acc accV ∧ acc.length ≤ i + 1 ∧ SqB b X.K Hg a us ∧ RepL Y.kf Fi μi sti.length xs us ∧ seqOf sti x = some (b, xs) ∧
                RP Y Fi μi sti Hg (((compC (ev Φ G cc).t (ev Φ G elt).v t x (b, xs) (xs.drop (i + 1)) env sti).bind fun q => newL m (acc ++ q.1) q.2)) (kV Y Q) (at_ W σ) := by
            intro F3 μ3 st3 Hg3 acc3 accV3 hd3 g3 e3 r3 l3 h3
            have hg : seqOf st3 x = some (b, xs) := by
              cases hx : (xs.drop (i + 1)) with
              | nil =>
                rw [hx] at h3
                simp only [compC] at h3
                by_cases z : seqOf st3 x = some (b, xs)
                · exact z
                · rw [if_neg z] at h3; exact False.elim h3
              | cons y ys =>
                rw [hx] at h3
                simp only [compC] at h3
                by_cases z : seqOf st3 x = some (b, xs)
                · exact z
                · rw [if_neg z] at h3; exact False.elim h3
            obtain ⟨a', us, ew', rL', sq'⟩ := seqOf_rep g3 (e3.v rw1) hg
            have ea : a' = a := by rw [ew] at ew'; cases ew'; rfl
            subst ea
            exact ⟨us, F3, μ3, st3, Hg3, acc3, accV3, hd3, rfl, g3, e3, r3, l3, by rw [hK]; exact sq', rL', hg, h3⟩
          refine ⟨Fi, μi, sti, _, gi.beside hd, eni, ?_⟩
          refine RP.ghost gi hd hh1 fun F2 μ2 H2 bb st2 e2 g2 e2' g2' hD2 h2 => ?_
          show if bb = true then _ else _
          have hup : H2 = upd (era H2 D) D (.lst accV) := by
            rw [upd_era]; funext a
            by_cases ha : a = D
            · subst ha; rw [upd_same]; exact hD2
            · rw [upd_ne ha]
          cases bb with
          | true =>
            rw [if_pos rfl]
            have h2' : RP Y F2 μ2 st2 (era H2 D) ((((ev Φ G elt).v env1 st2).bind fun r => ((compC (ev Φ G cc).t (ev Φ G elt).v t x (b, xs) (xs.drop (i + 1)) env r.2).bind fun q => R.ok (r.1 :: q.1, q.2)).bind fun q => newL m (acc ++ q.1) q.2)) (kV Y Q) (at_ W σ) := by
              rw [← R.assoc]; exact h2
            refine ⟨F2, μ2, st2, _, g2', e2'.env eni, ?_⟩
            rw [hup]
            refine RP.ghost g2 era_same h2' fun F3 μ3 H3 y st3 e3 g3 e3' g3' hD3 h3 u ru => ?_
            refine ⟨accV, hD3, by rw [ra.len]; exact Nat.lt_of_le_of_lt hai (Nat.lt_of_lt_of_le hi (szMax_le hl)), ?_⟩
            rw [comp_step] at h3
            have := fin (acc3 := acc ++ [y]) (accV3 := accV ++ [u]) era_same g3 ((ei.trans e2).trans e3) ((e3.l (e2.l ra)).append ⟨u, [], rfl, ru, rfl⟩) (by simp; exact hai) h3
            rw [upd_era] at this
            exact this
          | false =>
            rw [if_neg Bool.false_ne_true]
            have := fin (acc3 := acc) (accV3 := accV) era_same g2 (ei.trans e2) (e2.l ra) (Nat.le_succ_of_le hai) h2
            rw [← hup] at this
            exact this
        · exact False.elim hh
      · rintro H us ⟨Fi, μi, sti, Hg, acc, accV, hd, rfl, gi, ei, ra, hai, sq, rL, hqi, hh⟩
        rw [List.drop_length] at hh
        have hh' : RP Y Fi μi sti Hg (newL m acc sti) (kV Y Q) (at_ W σ) := by
          simp only [compC, hqi, if_true] at hh
          have hh2 : RP Y Fi μi sti Hg (newL m (acc ++ []) sti) (kV Y Q) (at_ W σ) := hh
          rw [List.append_nil] at hh2
          exact hh2
        exact (newL_ok gi hh' ra).2 D hd
    · rw [if_neg hl] at h1; exact False.elim h1
  · exact False.elim h1
theorem compc_key {m : Bool} {t : Tg} {ea c elt : E} {ns : Names} {p : Expr} (q : chkE C ns (.compc m t ea c elt) p = true) : ∃ pelt tg pit ifs sc pp, p = .ListComp pelt [⟨tg, pit, ifs, 0⟩] sc pp ∧
    C.calm = true ∧ tgC C ns sc tg t = true ∧ notSet pit = true ∧ chkE C ns ea pit = true ∧ chkE C (blkNames ns sc) elt pelt = true ∧ (match ifs with | [] => isNo c | [pc] => !isNo c && chkE C (blkNames ns sc) c pc | _ => false) = true := by
  unfold chkE at q
  split at q
  · rename_i pelt tg pit ifs sc hx
    obtain ⟨pp, rfl⟩ := isComp_eq hx
    simp only [Bool.and_eq_true] at q
    obtain ⟨⟨q0, q1⟩, q2, q3, q4, q5⟩ := q
    exact ⟨_, _, _, _, _, _, rfl, q0, q1, q2, q3, q4, q5⟩
  · cases q
theorem snd_compc {m : Bool} {t : Tg} {ea cc elt : E} (sa : Snd Y Φ G C k ea) (sc : Snd Y Φ G C k cc) (se : Snd Y Φ G C k elt) : Snd Y Φ G C k (.compc m t ea cc elt) := by
  refine mkSnd rfl (fun ns p q => ?_) fun {X ns W p} c tk q => ?_
  · obtain ⟨_, _, _, _, _, _, rfl, _⟩ := compc_key q; rfl
  · obtain ⟨pelt, tg, pit, ifs, scp, pp, rfl, q0, q1, q4, q5, q6, q7⟩ := compc_key q
    have pis : PI X tg pit (fun σ H R => tE Y Φ G W ea σ H fun x H1 => ∃ a b xs, x = .ref a ∧ SqB b X.K H1 a xs ∧ R (ItB b X.K a) H1) := pi_seq (sa.pe c tk q5)
    cases t with
    | one x =>
      simp only [tgC] at q1
      split at q1
      · rename_i y hy
        obtain ⟨py, rfl⟩ := isName_eq hy
        simp only [Bool.and_eq_true] at q1
        obtain ⟨a1, a2, a3⟩ := q1
        obtain ⟨_, r2, r3, r4⟩ := lc_rules sa sc se c q0 tk (of_decide_eq_true a1) a2 a3 q5 q6 q7 (py := py)
        exact PEimp (pe_lcX tk (c.calm q0).1 c.nd pis (blk_ok c a3) r2 r3 r4 (folded_id q4)) fun σ H Q h => snd_compc_red c.K (by rw [c.hot]; exact (c.calm q0).2) h
      · cases q1
    | many is =>
      simp only [tgC] at q1
      split at q1
      · rename_i ts hy
        obtain ⟨kk, py, rfl⟩ := isTup_eq hy
        simp only [Bool.and_eq_true] at q1
        obtain ⟨_, r2, r3, r4⟩ := lct_rules sa sc se c q0 tk q1.1 (blkCT_key q1.2).2 q5 q6 q7 (py := py) (kk := kk)
        refine PEimp (pe_lcX tk (c.calm q0).1 c.nd pis (blkt_ok c q1.2) r2 r3 r4 (folded_id q4)) fun σ H Q h => ?_
        rw [tgN_snd (chkT0_len q1.1)]
        exact snd_compc_red c.K (by rw [c.hot]; exact (c.calm q0).2) h
      · cases q1
mutual
theorem sAll : ∀ e : E, Snd Y Φ G C k e
  | .var i => snd_var i
  | .int i => snd_int i
  | .bl b => snd_bl b
  | .non => snd_non
  | .str s => snd_str s
  | .glob x => snd_glob x
  | .tup es => snd_tup (sAlls es)
  | .lst m es => snd_lst (sAlls es)
  | .bin m op a b => snd_bin (sAll a) (sAll b)
  | .neg a => snd_neg (sAll a)
  | .not a => snd_not (sAll a)
  | .cmp op a b => snd_cmp (sAll a) (sAll b)
  | .chain op op' a b c => snd_chain (sAll a) (sAll b) (sAll c)
  | .bo k es => snd_bo (sAlls es)
  | .ifx c a b => snd_ifx (sAll c) (sAll a) (sAll b)
  | .call f es => snd_call (sAlls es)
  | .isi a t => snd_isi (sAll a)
  | .isi2 a t u => snd_isi2 (sAll a)
  | .f1 f a => snd_f1 (sAll a)
  | .mm k a b => snd_mm (sAll a) (sAll b)
  | .g1 m f a => snd_g1 (sAll a)
  | .sub a i => snd_sub (sAll a) (sAll i)
  | .slc m a lo hi => snd_slc (sAll a) (sAll lo) (sAll hi)
  | .no => snd_no
  | .rng es => snd_rng (sAlls es)
  | .comp m x it c elt => snd_comp (sAll it) (sAll c) (sAll elt)
  | .compt m is it c elt => snd_compt (sAll it) (sAll c) (sAll elt)
  | .compc m t a c elt => snd_compc (sAll a) (sAll c) (sAll elt)
  | .frz a => snd_frz (sAll a)
  | .app o a => snd_app (sAll o) (sAll a)
  | .xfld h j => snd_xfld h j
  | .xis h ys => snd_xis h ys
  | .fld c f a => snd_fld (sAll a)
  | .new c es => snd_new (sAlls es)
  | .meth c m o es => snd_meth (sAll o) (sAlls es)
theorem sAlls : ∀ es : Es, Snds Y Φ G C k es
  | .nil => snd_nil
  | .cons e r => snd_cons (sAll e) (sAlls r)
end
end
end MP
set_option maxHeartbeats 4000000
/-! MiniPy: try with any number of except clauses, with a name or without. -/
namespace MP
open PySem L2 PySem.Spec PyProof.Rows
abbrev SuiteT := Addr → Value → Option Addr → TS
/-- the names behind a clause -/
def endD (sl : Option Nat) (D : Ends) : Ends := match sl with
  | none => D
  | some i => { nx := fun τ J => D.nx (τ.set i none) J, rt := D.rt, bk := fun τ J => D.bk (τ.set i none) J, ct := fun τ J => D.ct (τ.set i none) J }
def inD (sl : Option Nat) (ad : Addr) (σ : L2.St) : L2.St := match sl with
  | none => σ
  | some i => σ.set i (some (.ref ad))
/-- what the clauses wish, one after the other -/
def wX (K : PySem.W.Frag) (Wout : WX) (D : Ends) : List (Value × Option Nat × SuiteT) → WX
  | [] => Wout
  | (c, sl, ts) :: r => fun cls d τ J => ∃ y, PySem.W.exmOne K cls c = some y ∧ (y = true → ∀ ad, J ad = none → ts ad cls d (endD sl D) (inD sl ad τ) J) ∧ (y = false → wX K Wout D r cls d τ J)
def SlOk (X : Cx) : Option Str → Option Nat → Prop
  | none, none => True
  | some n, some i => X.N[i]? = some n ∧ X.env.kindOf n = some .local
  | _, _ => False
inductive HdsX (X : Cx) : List ExceptHandler → List (Value × Option Nat × SuiteT) → Prop
  | nil : HdsX X [] []
  | cons {y : Str} {c : Value} {sl : Option Nat} {ts : SuiteT} {nm : Option Str} {b : Stmt} {bs : List Stmt} {p1 p2 : Pos} {hds : List ExceptHandler} {l : List (Value × Option Nat × SuiteT)} (nmc : L2.Names X y c)
      (hsl : SlOk X nm sl)
      (run : ∀ (ad : Addr) (ob : Obj) (cls : Value) (d : Option Addr) (pn : List (Addr × Obj)), Zc cls d ob → (∃ vs, ob.data = .fields vs) → PSs (X.suite ad ((ad, ob) :: pn)) (b :: bs) (ts ad cls d)) (rest : HdsX X hds l) :
      HdsX X (.ExceptHandler (some (.Name y p1)) nm (b :: bs) p2 :: hds) ((c, sl, ts) :: l)
section
variable {X : Cx} {body : List Stmt} {h₀ : ExceptHandler} {hds : List ExceptHandler} {l : List (Value × Option Nat × SuiteT)} {pos : Pos} {tb : WX → TS} {Wout : WX}
theorem sp_of_try {pins : List (Addr × Obj)} {D : Ends} {xe : Value → Shared → Prop} {f : Flow} {s' : Shared} (okX : X.Ok) (h : SP (X.tr (X.pn ++ pins) xe) [] D f s') : SP X pins D f s' := by
  cases f with
  | next => obtain ⟨τ, J, inv, q⟩ := h; exact ⟨τ, J, inv.ofTry okX, q⟩
  | brk => obtain ⟨τ, J, inv, q⟩ := h; exact ⟨τ, J, inv.ofTry okX, q⟩
  | cont => obtain ⟨τ, J, inv, q⟩ := h; exact ⟨τ, J, inv.ofTry okX, q⟩
  | ret u => obtain ⟨v, τ, J, inv, rv, q⟩ := h; exact ⟨v, τ, J, inv.ofTry okX, rv, q⟩
theorem ps_tryX (hstk : X.stack = X.env :: X.outer) (hfm : X.env.frame = some X.env.locals) (hN : X.N.Nodup) (tk : Takes X Wout)
    (hb : ∀ (W : WX) (pn : List (Addr × Obj)) (xe : Value → Shared → Prop), Takes (X.tr pn xe) W → PassesOwn (model X.prog X.w) X.A X.env xe → PSs (X.tr pn xe) body (tb W))
    (hh : HdsX X (h₀ :: hds) l) : PS X (.Try body (h₀ :: hds) [] [] pos) (fun D σ H => tb (wX X.K Wout D l) D σ H) := by
  refine ⟨fun pins s σ H D I hw => ?_⟩
  have okX := I.ok
  have hfrs : X.A.frames = some (X.env :: X.outer) := by rw [okX.frames, hstk]
  refine wpAny_Try_except ?_
  let wish : Value → Shared → Prop := fun e s₁ => wpAny (model X.prog X.w) X.A (noteFrame e X.env) (fun _ s₂ => wpAny (model X.prog X.w) X.A (setFlight e none)
    (fun _ s₃ => wpAny (model X.prog X.w) X.A (handleBy e X.env (h₀ :: hds)) (SP X pins D) X.xe s₃) X.xe s₂) X.xe s₁
  refine wpAny_mono ((hb (wX X.K Wout D l) (X.pn ++ pins) wish (fun ex st' out => ?_) PassesOwn.looking).run [] s σ H D (I.toTry _) hw) (fun f s1 hsp => ?_) (fun e s1 he => he)
  · obtain ⟨ad, B, sI, pins', τ, J, cls, d, rfl, inv', nb, up, sky, nad, eos, agn, w⟩ := out
    have inv : Inv X pins τ J sI := inv'.ofTry okX
    have sky2 : Sky B (X.env :: X.outer) ad (Zc cls d) X.env.locals st'.heap := by rw [← hstk]; exact sky
    show wpAny (model X.prog X.w) X.A (noteFrame (.ref ad) X.env) _ _ _
    refine Sky.land Zc.steady hfrs hfm sky2 fun hL fly upL => ?_
    have invL : Inv X pins τ J { st' with heap := hL } := inv.landed nb fly.1 (up.trans upL) eos agn
    obtain ⟨ob, fv, hob, hzc, hfd⟩ := fly.there
    have away : ad ∉ frs (X.env :: X.outer) := fun hm => by
      obtain ⟨_, o2, e2, no⟩ := fly.2.2.1.mem hm
      rw [hob] at e2; cases e2
      exact no _ hfd
    have adL : ad ≠ X.env.locals := fun z => away (List.mem_filterMap.mpr ⟨X.env, List.mem_cons_self .., by rw [hfm, z]⟩)
    have adF : ad ∉ X.fs := fun hm => by
      obtain ⟨e2, m2, q2⟩ := List.mem_filterMap.mp hm
      exact away (List.mem_filterMap.mpr ⟨e2, List.mem_cons_of_mem _ m2, q2⟩)
    have invS := invL.suite hob hfd nad adL adF
    have go : ∀ {hs2 : List ExceptHandler} {l2 : List (Value × Option Nat × SuiteT)}, HdsX X hs2 l2 → wX X.K Wout D l2 cls d τ J → wpAny (model X.prog X.w) X.A (handleBy (.ref ad) X.env hs2) (SP X pins D) X.xe { st' with heap := hL } := by
      intro hs2 l2 hk
      induction hk with
      | nil =>
        intro wn
        refine wpAny_handleBy_nil ?_
        obtain ⟨z1, z2, z3, ob2, fv2, T, oT, ts2, hob2, hzc2, hfd2, h1, hr⟩ := id fly
        unfold PySem.passOn
        refine wpAny_bind (wpAny_field hob2 hfd2 h1 ?_)
        rw [if_neg (by simp : ¬ ((Value.ref T == Value.none) = true))]
        have last : wpAny (model X.prog X.w) X.A (setFlight (.ref ad) X.env.frame) (fun _ s4 => wpAny (model X.prog X.w) X.A (throw (.ref ad) : Sem Flow) (SP X pins D) X.xe s4) X.xe { st' with heap := hL } := by
          rw [hfm]
          refine HandSPX.setFlight_upZ fly fun h4 held up4 => wpAny_throw (tk _ _ ?_)
          exact ⟨ad, B, sI, pins, τ, J, cls, d, rfl, inv, nb, (up.trans upL).trans up4, .inr (.inr (by rw [hstk]; exact held)), nad, eos, agn, wn⟩
        first
          | exact wpAny_bind (wpAny_pure (wpAny_bind last))
          | exact wpAny_bind last
      | @cons y c sl ts nm b bs p1 p2 hs3 l3 nmc hsl run rest ih =>
        intro wn
        obtain ⟨yes, hyes, won, lost⟩ := wn
        refine wpAny_handleBy_cons (codeAny_handlers_test ?_) (by intro z; cases z)
        have look : PySem.W.Looks (model X.prog X.w) hL (typeOf (.ref ad)) cls := fun A Q E s k q => wpAny_typeOf_ref (k _ _ hob) (by rw [hzc.1]; exact q)
        have ask := PySem.W.exm_one (M := model X.prog X.w) (invL.kIn) look hyes
        have name : ∀ {Q : Value → Shared → Prop} {E : Value → Shared → Prop}, Q c { st' with heap := hL } → wpAny (model X.prog X.w) (X.A.mark (some (.ref ad))) (eval (.Name y p1) X.env) Q E { st' with heap := hL } := fun {Q E} q => by
          obtain ⟨hgl, hdb, hm | ⟨hm, hv, hnn⟩⟩ := nmc
          · exact ld_glob (X := X.suite ad ((ad, ob) :: (X.pn ++ pins))) invS hgl hm q hdb
          · exact ld_blt (X := X.suite ad ((ad, ob) :: (X.pn ++ pins))) invS hgl hm hv q hnn hdb
        refine name (ask.here ?_)
        cases yes with
        | false => exact ih (lost rfl)
        | true =>
          have w2 := won rfl ad nad
          cases nm with
          | none =>
            cases sl with
            | some _ => exact False.elim hsl
            | none =>
              refine codeAny_handlers_suite ?_
              refine HandSPX.lands_againZ fly fun h4 fly4 up4 => ?_
              have inv4 : Inv X pins τ J { st' with heap := h4 } := inv.landed nb fly4.1 ((up.trans upL).trans up4) eos agn
              obtain ⟨ob4, fv4, hob4, hzc4, hfd4⟩ := fly4.there
              refine wpAny_mono ((run ad ob4 cls d (X.pn ++ pins) hzc4 ⟨_, hfd4⟩).run [] _ _ J _ (inv4.suite hob4 hfd4 nad adL adF) w2) (fun f s6 out6 => ?_) (fun _ _ z => False.elim z)
              cases f with
              | next => obtain ⟨τ6, J6, inv6, q6⟩ := out6; exact ⟨_, _, inv6.unsuite okX, q6⟩
              | brk => obtain ⟨τ6, J6, inv6, q6⟩ := out6; exact ⟨_, _, inv6.unsuite okX, q6⟩
              | cont => obtain ⟨τ6, J6, inv6, q6⟩ := out6; exact ⟨_, _, inv6.unsuite okX, q6⟩
              | ret u => obtain ⟨v6, τ6, J6, inv6, rv6, q6⟩ := out6; exact ⟨_, _, _, inv6.unsuite okX, rv6, q6⟩
          | some n =>
            cases sl with
            | none => exact False.elim hsl
            | some i =>
              obtain ⟨hi, hln⟩ := hsl
              refine codeAny_handlers_suite_as ?_
              refine HandSPX.lands_againZ fly fun h4 fly4 up4 => ?_
              have inv4 : Inv X pins τ J { st' with heap := h4 } := inv.landed nb fly4.1 ((up.trans upL).trans up4) eos agn
              obtain ⟨ob4, fv4, hob4, hzc4, hfd4⟩ := fly4.there
              refine store_ok (X := X.suite ad ((ad, ob4) :: (X.pn ++ pins))) (v := .ref ad) (inv4.suite hob4 hfd4 nad adL adF) hN hi (.inl hln) rfl (fun s5 inv5 => ?_) (.inr hln)
              refine wpAny_mono ((run ad ob4 cls d (X.pn ++ pins) hzc4 ⟨_, hfd4⟩).run [] s5 _ J _ inv5 w2) (fun f s6 out6 => ?_) (fun _ _ z => False.elim z)
              have gone : ∀ {τ6 : L2.St} {J6 : Hp} {Q : Shared → Prop}, Inv (X.suite ad ((ad, ob4) :: (X.pn ++ pins))) [] τ6 J6 s6 → (∀ s7, Inv X pins (τ6.set i none) J6 s7 → Q s7) →
                  wpAny (model X.prog X.w) X.A (do bindName X.env n .none; unbindBehindTheSuite X.env n p2) (fun _ s7 => Q s7) X.xe s6 := fun {τ6 J6 Q} inv6 hq => gone_ok (inv6.unsuite okX) hN hi hln hq
              cases f with
              | next => obtain ⟨τ6, J6, inv6, q6⟩ := out6; exact gone inv6 fun s7 inv7 => ⟨_, _, inv7, q6⟩
              | brk => obtain ⟨τ6, J6, inv6, q6⟩ := out6; exact gone inv6 fun s7 inv7 => ⟨_, _, inv7, q6⟩
              | cont => obtain ⟨τ6, J6, inv6, q6⟩ := out6; exact gone inv6 fun s7 inv7 => ⟨_, _, inv7, q6⟩
              | ret u => obtain ⟨v6, τ6, J6, inv6, rv6, q6⟩ := out6; exact gone inv6 fun s7 inv7 => ⟨_, _, _, inv7, rv6, q6⟩
    exact go hh w
  · have hsp' := sp_of_try okX hsp
    cases f with
    | next => exact wpAny_execs_nil hsp'
    | brk => exact hsp'
    | cont => exact hsp'
    | ret u => exact hsp'
end
end MP
/-! MiniPy: statements. -/
namespace MP
open PySem L2 PySem.Spec PyProof.Rows

/-! ### the checker -/
def isAsg : Stmt → Option (Expr × Expr) | .Assign [t] e _ => some (t, e) | _ => none
def isExprS : Stmt → Option Expr | .Expr e _ => some e | _ => none
def isIf : Stmt → Option (Expr × List Stmt × List Stmt) | .If c a b _ => some (c, a, b) | _ => none
def isFor : Stmt → Option (Expr × Expr × List Stmt) | .For t it b [] _ => some (t, it, b) | _ => none
def isWhile : Stmt → Option (Expr × List Stmt) | .While c b [] _ => some (c, b) | _ => none
def isRet : Stmt → Option Expr | .Return (some e) _ => some e | _ => none
def isRetN : Stmt → Bool | .Return none _ => true | _ => false
def isPass : Stmt → Bool | .Pass _ => true | _ => false
def isBrk : Stmt → Bool | .Break _ => true | _ => false
def isCnt : Stmt → Bool | .Continue _ => true | _ => false
section
variable {s : Stmt}
theorem isAsg_eq {t e : Expr} (h : isAsg s = some (t, e)) : ∃ p, s = .Assign [t] e p := by unfold isAsg at h; split at h <;> first | (cases h; exact ⟨_, rfl⟩) | cases h
theorem isExprS_eq {e : Expr} (h : isExprS s = some e) : ∃ p, s = .Expr e p := by unfold isExprS at h; split at h <;> first | (cases h; exact ⟨_, rfl⟩) | cases h
theorem isIf_eq {c : Expr} {a b : List Stmt} (h : isIf s = some (c, a, b)) : ∃ p, s = .If c a b p := by unfold isIf at h; split at h <;> first | (cases h; exact ⟨_, rfl⟩) | cases h
theorem isFor_eq {t it : Expr} {b : List Stmt} (h : isFor s = some (t, it, b)) : ∃ p, s = .For t it b [] p := by unfold isFor at h; split at h <;> first | (cases h; exact ⟨_, rfl⟩) | cases h
theorem isWhile_eq {c : Expr} {b : List Stmt} (h : isWhile s = some (c, b)) : ∃ p, s = .While c b [] p := by unfold isWhile at h; split at h <;> first | (cases h; exact ⟨_, rfl⟩) | cases h
theorem isRet_eq {e : Expr} (h : isRet s = some e) : ∃ p, s = .Return (some e) p := by unfold isRet at h; split at h <;> first | (cases h; exact ⟨_, rfl⟩) | cases h
theorem isRetN_eq (h : isRetN s = true) : ∃ p, s = .Return none p := by unfold isRetN at h; split at h <;> first | exact ⟨_, rfl⟩ | cases h
theorem isPass_eq (h : isPass s = true) : ∃ p, s = .Pass p := by unfold isPass at h; split at h <;> first | exact ⟨_, rfl⟩ | cases h
theorem isBrk_eq (h : isBrk s = true) : ∃ p, s = .Break p := by unfold isBrk at h; split at h <;> first | exact ⟨_, rfl⟩ | cases h
theorem isCnt_eq (h : isCnt s = true) : ∃ p, s = .Continue p := by unfold isCnt at h; split at h <;> first | exact ⟨_, rfl⟩ | cases h
end
def isRaise : Stmt → Option (Str × List Expr) | .Raise (some (.Call (.Name x _) es [] _)) none _ => some (x, es) | _ => none
def isTry : Stmt → Option (List Stmt × List ExceptHandler) | .Try b (h :: hs) [] [] _ => some (b, h :: hs) | _ => none
def isHd : ExceptHandler → Option (Str × Option Str × List Stmt) | .ExceptHandler (some (.Name y _)) nm (b :: bs) _ => some (y, nm, b :: bs) | _ => none
theorem isRaise_eq {s : Stmt} {x : Str} {es : List Expr} (h : isRaise s = some (x, es)) : ∃ p q r, s = .Raise (some (.Call (.Name x p) es [] q)) none r := by
  unfold isRaise at h; split at h <;> first | (cases h; exact ⟨_, _, _, rfl⟩) | cases h
theorem isTry_eq {s : Stmt} {b : List Stmt} {hs : List ExceptHandler} (h : isTry s = some (b, hs)) : ∃ a r p, hs = a :: r ∧ s = .Try b (a :: r) [] [] p := by
  unfold isTry at h; split at h <;> first | (cases h; exact ⟨_, _, _, rfl, rfl⟩) | cases h
theorem isHd_eq {h : ExceptHandler} {y : Str} {nm : Option Str} {b : List Stmt} (e : isHd h = some (y, nm, b)) : ∃ p q a r, b = a :: r ∧ h = .ExceptHandler (some (.Name y p)) nm (a :: r) q := by
  unfold isHd at e; split at e <;> first | (cases e; exact ⟨_, _, _, _, rfl, rfl⟩) | cases e
/-- the checks within an except suite -/
def Cfg.suite (C : Cfg) (sl : Option Nat) (D : List Str) : Cfg := { C with calm := false, hot := true, eI := sl, eD := D, fs := C.hfs }
def slB (C : Cfg) (ns : Names) : Option Str → Option Nat → Bool
  | none, none => true
  | some n, some i => decide (C.N[i]? = some n) && decide (ns.lookup n = some .local)
  | _, _ => false
def isC : E → Bool | .comp .. => true | _ => false
def chkT (C : Cfg) (ns : Names) : List Nat → List Expr → Bool
  | [], [] => true
  | i :: is, t :: ts => (match isName t with | some x => decide (C.N[i]? = some x) && locB ns x | none => false) && chkT C ns is ts
  | _, _ => false
def tgS (C : Cfg) (ns : Names) (t : Expr) : Tg → Bool
  | .one i => (match isName t with | some x => decide (C.N[i]? = some x) && locB ns x | none => false)
  | .many is => (match isTup t with | some ts => chkT C ns is ts | none => false)
def notTup : Expr → Bool | .Tuple .. => false | _ => true
mutual
def chkS (C : Cfg) (ns : Names) : S → Stmt → Bool
  | .asg i e, st => match isAsg st with
    | some (t, pe) => (match isName t with | some x => decide (C.N[i]? = some x) && (locB ns x && (!C.hot || decide (C.eI ≠ some i))) | none => false) && ((notLc pe || isC e) && chkE C ns e pe)
    | none => false
  | .sto o i e, st => match isAsg st with
    | some (t, pe) => (match isSub t with | some (p, q) => notSlice q && (chkE C ns o p && chkE C ns i q) | none => false) && (notLc pe && chkE C ns e pe)
    | none => false
  | .stf cl f o e, st => match isAsg st with
    | some (t, pe) => (match isAttr t with | some (p, g) => decide (f = g) && ((match C.cs.lookup cl with | some l => l.contains f | none => false) && chkE C ns o p) | none => false) && (notLc pe && chkE C ns e pe)
    | none => false
  | .expr e, st => match isExprS st with | some pe => notLc pe && chkE C ns e pe | none => false
  | .ite c a b, st => match isIf st with | some (pc, pa, pb) => chkE C ns c pc && (chkSs C ns a pa && chkSs C ns b pb) | none => false
  | .forr i it b, st => match isFor st with
    | some (t, pit, pb) => C.calm && (match isName t with | some x => decide (C.N[i]? = some x) && locB ns x | none => false) && (notSet pit && (chkE C ns it pit && chkSs C ns b pb))
    | none => false
  | .forc tg a b, st => match isFor st with
    | some (t, pit, pb) => C.calm && (tgS C ns t tg && (notSet pit && (chkE C ns a pit && chkSs C ns b pb)))
    | none => false
  | .asgt is e, st => match isAsg st with
    | some (t, pe) => C.calm && ((match isTup t with | some ts => chkT C ns is ts | none => false) && (notTup pe && (notLc pe && chkE C ns e pe)))
    | none => false
  | .fort is it b, st => match isFor st with
    | some (t, pit, pb) => C.calm && ((match isTup t with | some ts => chkT C ns is ts | none => false) && (notSet pit && (chkE C ns it pit && chkSs C ns b pb)))
    | none => false
  | .whil _ c b, st => match isWhile st with | some (pc, pb) => C.calm && (chkE C ns c pc && chkSs C ns b pb) | none => false
  | .ret e, st => match isRet st with | some pe => chkE C ns e pe | none => false
  | .retn, st => isRetN st
  | .pass, st => isPass st
  | .brk, st => isBrk st
  | .cnt, st => isCnt st
  | .never, _ => true
  | .raise c es, st => match isRaise st with
    | some (x, ps) => C.calm && (decide (c = x) && (glB ns x && (okName x && (!ps.isEmpty && (noStars ps && (chkEs C ns es ps && (match C.xn.lookup x with | some m => decide (ps.length = m.length) | none => false)))))))
    | none => false
  | .tryx b hs, st => match isTry st with
    | some (pb, hds) => C.calm && (chkSs C ns b pb && chkHs C ns hs hds)
    | none => false
def chkHs (C : Cfg) (ns : Names) : Hs → List ExceptHandler → Bool
  | .nil, [] => true
  | .cons x D sl b r, h :: hs => (match isHd h with
      | some (y, nm, pb) => decide (x = y) && (glB ns y && (okName y && (decide (C.sub.lookup y = some D) && (slB C ns nm sl && chkSs (C.suite sl D) ns b pb))))
      | none => false) && chkHs C ns r hs
  | _, _ => false
def chkSs (C : Cfg) (ns : Names) : Ss → List Stmt → Bool
  | .nil, [] => true
  | .cons s r, p :: ps => chkS C ns s p && chkSs C ns r ps
  | _, _ => false
end

/-! ### what is wanted behind a statement -/
def RPS (Y : Fx) (F : Hp) (μ : Nat → Addr) (st : Store) (H : Hp) (r : RS) (D : Ends) (W : WX) : Prop := match r with
  | .next env' st' => ∀ F' μ' H' σ', Ext F μ st H F' μ' st' H' → Good Y.kf F' μ' st' H' → EnvOk Y F' μ' st'.length env' σ' → D.nx σ' H'
  | .brk env' st' => ∀ F' μ' H' σ', Ext F μ st H F' μ' st' H' → Good Y.kf F' μ' st' H' → EnvOk Y F' μ' st'.length env' σ' → D.bk σ' H'
  | .cnt env' st' => ∀ F' μ' H' σ', Ext F μ st H F' μ' st' H' → Good Y.kf F' μ' st' H' → EnvOk Y F' μ' st'.length env' σ' → D.ct σ' H'
  | .ret v st' => ∀ F' μ' H' w, Ext F μ st H F' μ' st' H' → Good Y.kf F' μ' st' H' → RepV Y.kf F' μ' st'.length v w → D.rt w H'
  | .exn c fs env' st' => ∀ F' μ' H' σ' cls d, Ext F μ st H F' μ' st' H' → Good Y.kf F' μ' st' H' → EnvOk Y F' μ' st'.length env' σ' → ExnOk Y F' μ' st'.length c fs cls d → W cls d σ' H'
  | .stuck => False
section
variable {Y : Fx} {F F1 H H1 : Hp} {μ μ1 : Nat → Addr} {st st1 : Store} {r : RS} {D D' : Ends} {W : WX} {env : Env} {σ : L2.St}
theorem RPS.ext (e : Ext F μ st H F1 μ1 st1 H1) (h : RPS Y F μ st H r D W) : RPS Y F1 μ1 st1 H1 r D W := by
  cases r with
  | next env' st' => exact fun F' μ' H' σ' e' g n => h F' μ' H' σ' (e.trans e') g n
  | brk env' st' => exact fun F' μ' H' σ' e' g n => h F' μ' H' σ' (e.trans e') g n
  | cnt env' st' => exact fun F' μ' H' σ' e' g n => h F' μ' H' σ' (e.trans e') g n
  | ret v st' => exact fun F' μ' H' w e' g n => h F' μ' H' w (e.trans e') g n
  | exn c fs env' st' => exact fun F' μ' H' σ' cls d e' g n x => h F' μ' H' σ' cls d (e.trans e') g n x
  | stuck => exact h
/-- an expression in a statement -/
theorem RPS.go {α : Type} {r : R (α × Store)} {f : α × Store → RS} (en : EnvOk Y F μ st.length env σ) (h : RPS Y F μ st H (r.st env f) D W) :
    RP Y F μ st H r (fun F' μ' H' a st' => EnvOk Y F' μ' st'.length env σ ∧ RPS Y F' μ' st' H' (f (a, st')) D W) (at_ W σ) := by
  cases r with
  | ok p => exact fun F' μ' H' e' g => ⟨e'.env en, RPS.ext e' h⟩
  | exn c fs s => exact fun F' μ' H' cls d e g x => h F' μ' H' σ cls d e g (e.env en) x
  | stuck => exact h
def tS (Y : Fx) (Φ : Tab) (G : Str → Option Val) (W : WX) (s : S) : TS := fun D σ H => ∃ F μ st env, Good Y.kf F μ st H ∧ EnvOk Y F μ st.length env σ ∧ RPS Y F μ st H (evS Φ G s env st) D W
def tSs (Y : Fx) (Φ : Tab) (G : Str → Option Val) (W : WX) (s : Ss) : TS := fun D σ H => ∃ F μ st env, Good Y.kf F μ st H ∧ EnvOk Y F μ st.length env σ ∧ RPS Y F μ st H (evSs Φ G s env st) D W
end
section
variable {X : Cx}
theorem PSimp {s : Stmt} {t t' : TS} (h : PS X s t) (i : ∀ D σ H, t' D σ H → t D σ H) : PS X s t' := ⟨fun pins s σ H D I q => h.run pins s σ H D I (i D σ H q)⟩
theorem PSsimp {s : List Stmt} {t t' : TS} (h : PSs X s t) (i : ∀ D σ H, t' D σ H → t D σ H) : PSs X s t' := ⟨fun pins s σ H D I q => h.run pins s σ H D I (i D σ H q)⟩
end
/-- the frame of a body -/
structure SCtx (X : Cx) (C : Cfg) : Prop where
  fnt : ∀ x, X.fn x = true
  pass : C.calm = true → PassesOwn (model X.prog X.w) X.A X.env X.xe
  stk : X.stack = X.env :: X.outer
  frm : X.env.frame = some X.env.locals

section
variable {Y : Fx} {Φ : Tab} {G : Str → Option Val} {C : Cfg} {k : Nat} {X : Cx} {ns : Names} {W : WX}
/-- each piece, in a statement -/
theorem goSE {a : E} {f : Val × Store → RS} {F H : Hp} {μ : Nat → Addr} {st : Store} {env : Env} {σ : L2.St} {D : Ends} {Q : VK} (g : Good Y.kf F μ st H) (en : EnvOk Y F μ st.length env σ) (h : RPS Y F μ st H (((ev Φ G a).v env st).st env f) D W)
    (n : ∀ F1 μ1 H1 x st1 w, Ext F μ st H F1 μ1 st1 H1 → Good Y.kf F1 μ1 st1 H1 → EnvOk Y F1 μ1 st1.length env σ → RepV Y.kf F1 μ1 st1.length x w → RPS Y F1 μ1 st1 H1 (f (x, st1)) D W → Q w H1) : tE Y Φ G W a σ H Q :=
  ⟨F, μ, st, env, g, en, (RPS.go en h).impE fun F1 μ1 H1 x st1 _ e1 g1 h1 w r => n F1 μ1 H1 x st1 w e1 g1 h1.1 r h1.2⟩
theorem goST {a : E} {f : Bool × Store → RS} {F H : Hp} {μ : Nat → Addr} {st : Store} {env : Env} {σ : L2.St} {D : Ends} {Q : Bool → Hp → Prop} (g : Good Y.kf F μ st H) (en : EnvOk Y F μ st.length env σ) (h : RPS Y F μ st H (((ev Φ G a).t env st).st env f) D W)
    (n : ∀ F1 μ1 H1 x st1, Ext F μ st H F1 μ1 st1 H1 → Good Y.kf F1 μ1 st1 H1 → EnvOk Y F1 μ1 st1.length env σ → RPS Y F1 μ1 st1 H1 (f (x, st1)) D W → Q x H1) : tT Y Φ G W a σ H Q :=
  ⟨F, μ, st, env, g, en, (RPS.go en h).impE fun F1 μ1 H1 x st1 _ e1 g1 h1 => n F1 μ1 H1 x st1 e1 g1 h1.1 h1.2⟩
structure SndS (Y : Fx) (Φ : Tab) (G : Str → Option Val) (C : Cfg) (k : Nat) (s : S) : Prop where
  ps : ∀ {X : Cx} {ns : Names} {W : WX} {p : Stmt}, Ctx X Y Φ G C ns k → SCtx X C → Takes X W → chkS C ns s p = true → PS X p (tS Y Φ G W s)
structure SndSs (Y : Fx) (Φ : Tab) (G : Str → Option Val) (C : Cfg) (k : Nat) (s : Ss) : Prop where
  ps : ∀ {X : Cx} {ns : Names} {W : WX} {p : List Stmt}, Ctx X Y Φ G C ns k → SCtx X C → Takes X W → chkSs C ns s p = true → PSs X p (tSs Y Φ G W s)

theorem loc_ok (c : Ctx X Y Φ G C ns k) {x : Str} (h : locB ns x = true) : L2.Loc X.env.scope x := by
  unfold locB at h
  unfold L2.Loc
  rw [c.sc]
  split at h
  · rename_i e; exact .inl e
  · rename_i e; exact .inr e
  · cases h
theorem sw_some (pe : Expr) (x : Str) (p : Pos) (l : Nat) (env : PySem.Env) : ∃ b, swapsWith pe (some (.Name x p)) l env = pure b ∧ (b = true → env.kindOf x = some .local) := by
  have key : ∀ (z w : Bool), (z && (env.kindOf x == some .local) && w) = true → env.kindOf x = some .local := fun z w h => by
    simp only [Bool.and_eq_true, beq_iff_eq] at h; exact h.1.2
  cases pe <;> first
    | exact ⟨false, rfl, fun h => by cases h⟩
    | (refine ⟨_, rfl, fun h => ?_⟩
       simp only [Bool.and_eq_true, beq_iff_eq] at h
       exact h.1.1.2)
theorem asg_red {i : Nat} {e : E} {D : Ends} {σ : L2.St} {H : Hp} (hc : Y.hot = true → i < Y.nN ∧ Y.cI ≠ some i) (h : tS Y Φ G W (.asg i e) D σ H) : tAsg (tE Y Φ G W e) (gName i) D σ H := by
  obtain ⟨F, μ, st, env, g, en, h⟩ := h
  exact goSE g en h fun F1 μ1 H1 x st1 w e1 g1 en1 r1 hh => hh F1 μ1 H1 _ Ext.refl g1 (en1.set r1 i hc)
theorem snd_asg (i : Nat) (e : E) : SndS Y Φ G C k (.asg i e) where
  ps := fun {X ns W p} c sc tk q => by
    have tkx := tk.tk sc.stk sc.frm
    unfold chkS at q
    split at q
    · rename_i t pe hx
      obtain ⟨pp, rfl⟩ := isAsg_eq hx
      rw [Bool.and_eq_true] at q
      obtain ⟨q1, q2⟩ := q
      split at q1
      · rename_i x hn
        obtain ⟨pn, rfl⟩ := isName_eq hn
        rw [Bool.and_eq_true, Bool.and_eq_true] at q1
        rw [Bool.and_eq_true] at q2
        have hi : X.N[i]? = some x := by rw [c.N]; exact of_decide_eq_true q1.1
        have hloc := loc_ok c q1.2.1
        have hnot := c.not (of_decide_eq_true q1.1) q1.2.2
        obtain ⟨b, hb, hbl⟩ := sw_some pe x pn pp.line X.env
        cases b with
        | false => exact PSimp (ps_set c.nd hi hloc ((sAll e).pe c tkx q2.2) hb (.inl (sc.fnt x))) fun D σ H h => asg_red hnot h
        | true =>
          by_cases hlc : notLc pe = true
          · rw [sw_false hlc] at hb
            exact PSimp (ps_set c.nd hi hloc ((sAll e).pe c tkx q2.2) (sw_false hlc) (.inl (sc.fnt x))) fun D σ H h => asg_red hnot h
          · have he : isC e = true := by
              have := q2.1
              rw [Bool.or_eq_true] at this
              exact this.resolve_left hlc
            cases e with
            | comp m y it cc elt =>
              obtain ⟨pelt, yn, py, pit, ifs, scp, pp2, rfl, k0, k1, k2, k3, k4, k5, k6, k7⟩ := comp_key q2.2
              have rules := lc_rules (sAll it) (sAll cc) (sAll elt) c k0 tkx k1 k2 k3 k5 k6 k7 (py := py)
              exact PSimp (ps_setLcX tkx (c.calm k0).1 c.nd hi (hbl rfl) hb rules.1 (blk_ok c k3) rules.2.1 rules.2.2.1 rules.2.2.2 (folded_id k4)) fun D σ H h => by
                have h2 := asg_red hnot h
                exact snd_comp_red c.K (by rw [c.hot]; exact (c.calm k0).2) h2
            | _ => cases he
      · cases q1
    · cases q
end
end MP
/-! MiniPy: statements, the rest; all of them. -/
namespace MP
open PySem L2 PySem.Spec PyProof.Rows

section
variable {Y : Fx} {Φ : Tab} {G : Str → Option Val} {C : Cfg} {k : Nat} {X : Cx} {ns : Names} {W : WX}
theorem sto_noexn {x k y : Val} {st : Store} : ∀ c fs s, vSto x k y st ≠ .exn c fs s := by
  intro c fs s h
  unfold vSto at h
  repeat' (first | (cases h; done) | split at h)
theorem snd_sto (o i e : E) : SndS Y Φ G C k (.sto o i e) where
  ps := fun {X ns W p} c sc tk q => by
    have tkx := tk.tk sc.stk sc.frm
    unfold chkS at q
    split at q
    · rename_i t pe hx
      obtain ⟨pp, rfl⟩ := isAsg_eq hx
      rw [Bool.and_eq_true] at q
      obtain ⟨q1, q2⟩ := q
      split at q1
      · rename_i po pi hs
        obtain ⟨pn, rfl⟩ := isSub_eq hs
        simp only [Bool.and_eq_true] at q1 q2
        obtain ⟨k1, k2, k3⟩ := q1
        refine PSimp (ps_asg ((sAll e).pe c tkx q2.2) (pg_sub ((sAll o).pe c tkx k2) ((sAll i).pe c tkx k3) set_list (sub_assign k1)) (show swapsWith pe (some (.Subscript po pi pn)) pp.line X.env = pure false from sw_false q2.1) rfl rfl) fun D σ H ⟨F, μ, st, env, g, en, h⟩ => ?_
        refine goSE g en h fun F1 μ1 H1 x st1 w e1 g1 en1 r1 hh => ?_
        refine goSE g1 en1 hh fun F2 μ2 H2 y st2 u e2 g2 en2 r2 hh2 => ?_
        refine goSE g2 en2 hh2 fun F3 μ3 H3 z st3 t e3 g3 en3 r3 hh3 => ?_
        change RPS Y F3 μ3 st3 H3 ((vSto y z x st3).st env fun st' => .next env st') D W at hh3
        have r1' := e3.v (e2.v r1)
        have r2' := e3.v r2
        cases y with
        | loc n =>
          cases z with
          | int j =>
            obtain ⟨hw, hn⟩ := r2'
            have et : t = .int j := r3
            change RPS Y F3 μ3 st3 H3 (R.st (match st3[n]? with | some (.lst xs) => (match ixN xs.length j with | some m => .ok (st3.set n (.lst (xs.set m x))) | none => .stuck) | _ => .stuck) env fun st' => .next env st') D W at hh3
            split at hh3
            · rename_i xs hy
              split at hh3
              · rename_i m hm
                obtain ⟨hF, ws, h4, h5⟩ := g3.st.cell n _ hy
                refine ⟨μ3 n, ws, j, m, hw, et, h4, by rw [h5.len]; exact hm, ?_⟩
                obtain ⟨g4, e4⟩ := g3.write hy rfl (c' := .lst (xs.set m x)) rfl (o := .lst (ws.set m w)) ⟨hF, _, upd_same, h5.set r1' m⟩
                exact hh3 _ _ _ σ e4 g4 (e4.env en3)
              · exact False.elim hh3
            · exact False.elim hh3
          | _ => exact False.elim hh3
        | _ => exact False.elim hh3
      · cases q1
    · cases q
theorem stf_noexn {c f : Str} {x y : Val} {st : Store} : ∀ c' fs s, vStf c f x y st ≠ .exn c' fs s := by
  intro c' fs s h
  unfold vStf at h
  repeat' (first | (cases h; done) | split at h)
theorem zip_len {α : Type} {β : Type} {a : List α} {b : List β} (h : a.length = b.length) : (a.zip b).length = a.length := by rw [List.length_zip]; omega
theorem snd_stf (cl f : Str) (o e : E) : SndS Y Φ G C k (.stf cl f o e) where
  ps := fun {X ns W p} c sc tk q => by
    have tkx := tk.tk sc.stk sc.frm
    unfold chkS at q
    split at q
    · rename_i t pe hx
      obtain ⟨pp, rfl⟩ := isAsg_eq hx
      rw [Bool.and_eq_true] at q
      obtain ⟨q1, q2⟩ := q
      split at q1
      · rename_i po g0 hs
        obtain ⟨pn, rfl⟩ := isAttr_eq hs
        simp only [Bool.and_eq_true] at q1 q2
        obtain ⟨k1, k2, k3⟩ := q1
        have ef := of_decide_eq_true k1
        subst ef
        obtain ⟨l, hl, hfl⟩ : ∃ l, C.cs.lookup cl = some l ∧ f ∈ l := by
          split at k2
          · rename_i l hl; exact ⟨l, hl, mem_of k2⟩
          · cases k2
        obtain ⟨Ca, hm, hC, hN⟩ := c.cls cl l hl
        refine PSimp (ps_fld ((sAll o).pe c tkx k3) ((sAll e).pe c tkx q2.2) (show swapsWith pe (some (.Attribute po f pn)) pp.line X.env = pure false from sw_false q2.1)) fun D σ H ⟨F, μ, st, env, g, en, h⟩ => ?_
        refine goSE g en h fun F1 μ1 H1 x st1 w e1 g1 en1 r1 hh => ?_
        refine goSE g1 en1 hh fun F2 μ2 H2 y st2 u e2 g2 en2 r2 hh2 => ?_
        change RPS Y F2 μ2 st2 H2 ((vStf cl f y x st2).st env fun st' => .next env st') D W at hh2
        have r1' := e2.v r1
        cases y with
        | loc n =>
          obtain ⟨hw, hn⟩ := r2
          change RPS Y F2 μ2 st2 H2 (R.st (match st2[n]? with
            | some (.obj d ns xs) => if cl = d ∧ ns.length = xs.length ∧ ns.length < 100 then (match ixF f ns with
              | some i => .ok (st2.set n (.obj cl ns (xs.set i x)))
              | none => .ok (st2.set n (.obj cl (ns ++ [f]) (xs ++ [x])))) else .stuck
            | _ => .stuck) env fun st' => .next env st') D W at hh2
          split at hh2
          · rename_i d ms xs hy
            by_cases hc : cl = d ∧ ms.length = xs.length ∧ ms.length < 100
            · rw [if_pos hc] at hh2
              obtain ⟨ed, el, ll⟩ := hc
              subst ed
              obtain ⟨hF, dx, Ca', ws, h2, h3, h4, h5, h6⟩ := g2.st.cell n _ hy
              have h2' : Y.mg cl = some (.ref Ca') := h2
              have : Ca' = Ca := by rw [← c.mg, hm] at h2'; cases h2'; rfl
              subst this
              have elw : ms.length = ws.length := by rw [h6.len]; exact h5
              refine ⟨μ2 n, _, dx, ms.zip ws, hw, h3, hC, hN f hfl, by rw [zip_len elw]; omega, ?_⟩
              cases hix : ixF f ms with
              | some i =>
                rw [hix] at hh2
                rw [put_some elw hix]
                obtain ⟨g4, e4⟩ := g2.write hy rfl (c' := .obj cl ms (xs.set i x)) rfl (o := .ins Ca' dx (ms.zip (ws.set i w))) ⟨hF, dx, Ca', _, h2, upd_same, h4, by simpa using h5, h6.set r1' i⟩
                exact hh2 _ _ _ σ e4 g4 (e4.env en2)
              | none =>
                rw [hix] at hh2
                rw [put_none elw hix]
                obtain ⟨g4, e4⟩ := g2.write hy rfl (c' := .obj cl (ms ++ [f]) (xs ++ [x])) rfl (o := .ins Ca' dx ((ms ++ [f]).zip (ws ++ [w]))) ⟨hF, dx, Ca', _, h2, upd_same, h4, by simpa using h5, h6.append ⟨w, [], rfl, r1', rfl⟩⟩
                exact hh2 _ _ _ σ e4 g4 (e4.env en2)
            · rw [if_neg hc] at hh2; exact False.elim hh2
          · exact False.elim hh2
        | _ => exact False.elim hh2
      · cases q1
    · cases q
theorem snd_expr (e : E) : SndS Y Φ G C k (.expr e) where
  ps := fun {X ns W p} c sc tk q => by
    have tkx := tk.tk sc.stk sc.frm
    unfold chkS at q
    split at q
    · rename_i pe hx
      obtain ⟨pp, rfl⟩ := isExprS_eq hx
      rw [Bool.and_eq_true] at q
      refine PSimp (ps_expr ((sAll e).pe c tkx q.2) (sw_false q.1)) fun D σ H ⟨F, μ, st, env, g, en, h⟩ => ?_
      exact goSE g en h fun F1 μ1 H1 x st1 w e1 g1 en1 r1 hh => hh _ _ _ σ Ext.refl g1 en1
    · cases q
theorem snd_ret (e : E) : SndS Y Φ G C k (.ret e) where
  ps := fun {X ns W p} c sc tk q => by
    have tkx := tk.tk sc.stk sc.frm
    unfold chkS at q
    split at q
    · rename_i pe hx
      obtain ⟨pp, rfl⟩ := isRet_eq hx
      refine PSimp (ps_ret ((sAll e).pe c tkx q)) fun D σ H ⟨F, μ, st, env, g, en, h⟩ => ?_
      exact goSE g en h fun F1 μ1 H1 x st1 w e1 g1 en1 r1 hh => hh _ _ _ w Ext.refl g1 r1
    · cases q
theorem snd_retn : SndS Y Φ G C k .retn where
  ps := fun {X ns W p} c sc tk q => by
    have tkx := tk.tk sc.stk sc.frm
    obtain ⟨pp, rfl⟩ := isRetN_eq q
    exact PSimp ps_retN fun D σ H ⟨F, μ, st, env, g, en, h⟩ => h _ _ _ .non Ext.refl g rfl
theorem snd_pass : SndS Y Φ G C k .pass where
  ps := fun {X ns W p} c sc tk q => by
    have tkx := tk.tk sc.stk sc.frm
    obtain ⟨pp, rfl⟩ := isPass_eq q
    exact PSimp ps_pass fun D σ H ⟨F, μ, st, env, g, en, h⟩ => h _ _ _ σ Ext.refl g en
theorem snd_brk : SndS Y Φ G C k .brk where
  ps := fun {X ns W p} c sc tk q => by
    have tkx := tk.tk sc.stk sc.frm
    obtain ⟨pp, rfl⟩ := isBrk_eq q
    exact PSimp ps_break fun D σ H ⟨F, μ, st, env, g, en, h⟩ => h _ _ _ σ Ext.refl g en
theorem snd_cnt : SndS Y Φ G C k .cnt where
  ps := fun {X ns W p} c sc tk q => by
    have tkx := tk.tk sc.stk sc.frm
    obtain ⟨pp, rfl⟩ := isCnt_eq q
    exact PSimp ps_continue fun D σ H ⟨F, μ, st, env, g, en, h⟩ => h _ _ _ σ Ext.refl g en
theorem snd_never : SndS Y Φ G C k .never where
  ps := fun {X ns W p} c sc tk q => ⟨fun pins s σ H D I ⟨F, μ, st, env, g, en, h⟩ => False.elim h⟩
theorem snd_ite {d : E} {a b : Ss} (sa : SndSs Y Φ G C k a) (sb : SndSs Y Φ G C k b) : SndS Y Φ G C k (.ite d a b) where
  ps := fun {X ns W p} c sc tk q => by
    have tkx := tk.tk sc.stk sc.frm
    unfold chkS at q
    split at q
    · rename_i pc pa pb hx
      obtain ⟨pp, rfl⟩ := isIf_eq hx
      simp only [Bool.and_eq_true] at q
      obtain ⟨q1, q2, q3⟩ := q
      refine PSimp (ps_if ((sAll d).pt c tkx q1) (sa.ps c sc tk q2) (sb.ps c sc tk q3)) fun D σ H ⟨F, μ, st, env, g, en, h⟩ => ?_
      have h : RPS Y F μ st H (((ev Φ G d).t env st).st env fun p => if p.1 then evSs Φ G a env p.2 else evSs Φ G b env p.2) D W := by simpa only [evS] using h
      refine goST g en h fun F1 μ1 H1 x st1 e1 g1 en1 hh => ?_
      cases x with
      | true => rw [if_pos rfl]; exact ⟨F1, μ1, st1, env, g1, en1, hh⟩
      | false => rw [if_neg Bool.false_ne_true]; exact ⟨F1, μ1, st1, env, g1, en1, hh⟩
    · cases q
theorem snd_for {i : Nat} {it : E} {b : Ss} (sb : SndSs Y Φ G C k b) : SndS Y Φ G C k (.forr i it b) where
  ps := fun {X ns W p} c sc tk q => by
    have tkx := tk.tk sc.stk sc.frm
    unfold chkS at q
    split at q
    · rename_i t pit pb hx
      obtain ⟨pp, rfl⟩ := isFor_eq hx
      simp only [Bool.and_eq_true] at q
      obtain ⟨⟨q0, q1⟩, q2, q3, q4⟩ := q
      split at q1
      · rename_i x hn
        obtain ⟨pn, rfl⟩ := isName_eq hn
        rw [Bool.and_eq_true] at q1
        have hi : X.N[i]? = some x := by rw [c.N]; exact of_decide_eq_true q1.1
        have hloc := loc_ok c q1.2
        refine PSimp (ps_for (sc.pass q0) (c.calm q0).1 ((sAll it).pi (.Name x pn) c tkx q3) (pg_name c.nd hi hloc (.inl (sc.fnt x))) (sb.ps c sc tk q4) (folded_id q2)) fun D σ H ⟨F, μ, st, env, g, en, h⟩ => ?_
        have h : RPS Y F μ st H (((ev Φ G it).i env st).st env fun p => forL i (evSs Φ G b) p.1 env p.2) D W := by simpa only [evS] using h
        refine ⟨F, μ, st, env, g, en, (RPS.go en h).impE fun F1 μ1 H1 xs st1 er e1 g1 ⟨en1, h1⟩ J us rL wj => ?_⟩
        refine for_walk wj (fun j σ' H' => ∃ Fj μj stj envj, Ext F1 μ1 st1 H1 Fj μj stj H' ∧ Good Y.kf Fj μj stj H' ∧ EnvOk Y Fj μj stj.length envj σ' ∧ RPS Y Fj μj stj H' (forL i (evSs Φ G b) (xs.drop j) envj stj) D W) ?_ ?_ ?_ ?_
        · exact ⟨F1, μ1, st1, env, Ext.refl, g1, en1, h1⟩
        · rintro j σ' H' ⟨Fj, μj, stj, envj, ej, gj, _, _⟩
          exact ej.same.trans gj.same
        · rintro j w σ' H' hw ⟨Fj, μj, stj, envj, ej, gj, enj, hj⟩
          obtain ⟨v, hv, rv⟩ := rL.getV hw
          obtain ⟨hlt, hvi⟩ := List.getElem?_eq_some_iff.mp hv
          rw [List.drop_eq_getElem_cons hlt, hvi] at hj
          refine ⟨Fj, μj, stj, envj.set i (some v), gj, enj.set (ej.v rv) i (fun z => c.cold q0 z), ?_⟩
          simp only [forL] at hj
          cases hr : evSs Φ G b (envj.set i (some v)) stj with
          | next env' st' => rw [hr] at hj; exact fun F2 μ2 H2 σ2 e2 g2 en2 => ⟨F2, μ2, st', env', ej.trans e2, g2, en2, RPS.ext e2 hj⟩
          | cnt env' st' => rw [hr] at hj; exact fun F2 μ2 H2 σ2 e2 g2 en2 => ⟨F2, μ2, st', env', ej.trans e2, g2, en2, RPS.ext e2 hj⟩
          | brk env' st' => rw [hr] at hj; exact hj
          | ret v' st' => rw [hr] at hj; exact hj
          | exn c' fs env' st' => rw [hr] at hj; exact hj
          | stuck => rw [hr] at hj; exact False.elim hj
        · rintro σ' H' ⟨Fj, μj, stj, envj, ej, gj, enj, hj⟩
          rw [rL.len, List.drop_length] at hj
          exact hj _ _ _ σ' Ext.refl gj enj
      · cases q1
    · cases q
theorem pgs_names (c : Ctx X Y Φ G C ns k) (sc : SCtx X C) : ∀ (is : List Nat) (ts : List Expr), chkT C ns is ts = true → PGs X ts (gSetN is) ∧ (assignEach ts X.env).length = is.length ∧ (assignEach ts X.env).findIdx? (·.1) = none
  | [], [], _ => ⟨⟨fun pins s σ H vs us Q I r h => pgs_nil.run pins s σ H vs us Q I r ⟨List.eq_nil_of_length_eq_zero h.1, by have := List.eq_nil_of_length_eq_zero h.1; subst this; exact h.2⟩⟩, rfl, rfl⟩
  | i :: is, t :: ts, h => by
    unfold chkT at h
    rw [Bool.and_eq_true] at h
    obtain ⟨h1, h2⟩ := h
    obtain ⟨a1, a2, a3⟩ := pgs_names c sc is ts h2
    split at h1
    · rename_i x hn
      obtain ⟨pn, rfl⟩ := isName_eq hn
      rw [Bool.and_eq_true] at h1
      have hi : X.N[i]? = some x := by rw [c.N]; exact of_decide_eq_true h1.1
      have hloc := loc_ok c h1.2
      have hp : PGs X (.Name x pn :: ts) (gCons (gName i) (gSetN is)) := pgs_cons (pg_name c.nd hi hloc (.inl (sc.fnt x))) a1
      refine ⟨⟨fun pins s σ H vs us Q I r h => hp.run pins s σ H vs us Q I r ?_⟩, ?_, ?_⟩
      · obtain ⟨hl, hq⟩ := h
        cases vs with
        | nil => cases hl
        | cons v vs => exact ⟨v, vs, rfl, by simpa using hl, hq⟩
      · show (assignEach ts X.env).length + 1 = _; rw [a2]; rfl
      · have e : assignEach (.Name x pn :: ts) X.env = (false, assign (.Name x pn) X.env) :: assignEach ts X.env := rfl
        rw [e, List.findIdx?_cons]
        show (if false = true then _ else _) = _
        rw [if_neg Bool.false_ne_true, a3]; rfl
    · cases h1
  | [], _ :: _, h => by cases h
  | _ :: _, [], h => by cases h
theorem pg_seq (c : Ctx X Y Φ G C ns k) (sc : SCtx X C) (hc : X.calm = true) {is : List Nat} {ts : List Expr} {kk : Nat} {pos : Pos} (h : chkT C ns is ts = true) : PG X (.Tuple ts kk pos) (gSeqN X.K is) := by
  obtain ⟨h1, h2, h3⟩ := pgs_names c sc is ts h
  have g1 := pg_tup (k := kk) (pos := pos) hc h1 h2 h3
  have g2 := pg_lst (k := kk) (pos := pos) hc h1 h2 h3
  refine ⟨fun pins s σ H v u Q I r ⟨a, xs, e, hq, hl, q⟩ => ?_⟩
  rcases hq with hq | hq
  · exact g2.run pins s σ H v u Q I r ⟨a, xs, e, hq, hl, hl, q⟩
  · exact g1.run pins s σ H v u Q I r ⟨a, xs, e, hq, hl, hl, q⟩
theorem snd_asgt (is : List Nat) (e : E) : SndS Y Φ G C k (.asgt is e) where
  ps := fun {X ns W p} c sc tk q => by
    have tkx := tk.tk sc.stk sc.frm
    unfold chkS at q
    split at q
    · rename_i t pe hx
      obtain ⟨pp, rfl⟩ := isAsg_eq hx
      simp only [Bool.and_eq_true] at q
      obtain ⟨q0, q1, q2, q3, q4⟩ := q
      split at q1
      · rename_i ts hn
        obtain ⟨kk, pn, rfl⟩ := isTup_eq hn
        have hot : Y.hot = false := by rw [c.hot]; exact (c.calm q0).2
        refine PSimp (ps_asg ((sAll e).pe c tkx q4) (pg_seq c sc (c.calm q0).1 q1) (show swapsWith pe (some (.Tuple ts kk pn)) pp.line X.env = pure false from sw_false q3) (by cases pe <;> first | rfl | cases q2)) fun D σ H ⟨F, μ, st, env, g, en, h⟩ => ?_
        refine goSE g en h fun F1 μ1 H1 x st1 w e1 g1 en1 r1 hh => ?_
        change RPS Y F1 μ1 st1 H1 (match seqN is x env st1 with | some env' => .next env' st1 | none => .stuck) D W at hh
        split at hh
        · rename_i env' he
          obtain ⟨a, vs, h1, h2, h3, h4⟩ := seqN_rep (X := X) c.K hot g1 en1 r1 he
          exact ⟨a, vs, h1, h2, h3, hh _ _ _ _ Ext.refl g1 h4⟩
        · exact False.elim hh
      · cases q1
    · cases q
theorem forc_red {t : Tg} {ea : E} {b : Ss} (hK : X.K = Y.K) (hc : Y.hot = false) {D : Ends} {σ : L2.St} {H : Hp} {tb : TS} (hb : ∀ D σ H, tSs Y Φ G W b D σ H → tb D σ H) (h : tS Y Φ G W (.forc t ea b) D σ H) :
    tE Y Φ G (fun c d σ H => W c d σ H) ea σ H fun x H1 => ∃ a bb xs, x = .ref a ∧ SqB bb X.K H1 a xs ∧ (fun J H1 => ∃ Wf : Nat → Nat → L2.St → Hp → Prop, (∃ m, Wf 0 m σ H1) ∧ ∀ i m σ H, Wf i m σ H →
      (J.stop i H ∧ D.nx σ H) ∨ (J.go i H ∧ ∃ N : L2.St → Hp → Prop, (∀ σ' H', N σ' H' → ∃ m', m' < m ∧ Wf (i + 1) m' σ' H') ∧ ∀ x H', J.yld i H x H' → gTg X.K t x σ H' fun σ2 H2 => tb { D with nx := N, ct := N, bk := D.nx } σ2 H2)) (ItB bb X.K a) H1 := by
  obtain ⟨F, μ, st, env, g, en, h⟩ := h
  have h : RPS Y F μ st H (((ev Φ G ea).v env st).st env fun p => (match seqOf p.2 p.1 with | some q => forC t (evSs Φ G b) p.1 q q.2 env p.2 | none => .stuck)) D W := by have h0 := h; simp only [evS] at h0; exact h0
  refine goSE g en h fun F1 μ1 H1 x st1 w e1 g1 en1 rw1 h1 => ?_
  split at h1
  · rename_i q hq
    obtain ⟨bb, xs⟩ := q
    obtain ⟨a, us0, ew, rL0, sq0⟩ := seqOf_rep g1 rw1 hq
    refine ⟨a, bb, us0, ew, by rw [hK]; exact sq0, ?_⟩
    refine for_live (n := xs.length) (vs0 := us0) (fun j σ' H' us => ∃ Fj μj stj envj, Ext F1 μ1 st1 H1 Fj μj stj H' ∧ Good Y.kf Fj μj stj H' ∧ EnvOk Y Fj μj stj.length envj σ' ∧ SqB bb X.K H' a us ∧ RepL Y.kf Fj μj stj.length xs us ∧ seqOf stj x = some (bb, xs) ∧ RPS Y Fj μj stj H' (forC t (evSs Φ G b) x (bb, xs) (xs.drop j) envj stj) D W) ?_ ?_ ?_ ?_
    · exact ⟨F1, μ1, st1, env, Ext.refl, g1, en1, by rw [hK]; exact sq0, rL0, hq, h1⟩
    · rintro j σ' H' us ⟨Fj, μj, stj, envj, ej, gj, enj, sq, rL, _⟩
      exact ⟨walk_b sq, rL.len⟩
    · rintro j w' us σ' H' hw ⟨Fj, μj, stj, envj, ej, gj, enj, sq, rL, hqj, hj⟩
      obtain ⟨v, hv, rv⟩ := rL.getV hw
      obtain ⟨hlt, hvi⟩ := List.getElem?_eq_some_iff.mp hv
      rw [List.drop_eq_getElem_cons hlt, hvi] at hj
      simp only [forC, hqj, if_true] at hj
      split at hj
      · rename_i env1 he
        refine setTg_rep0 (X := X) hK hc gj enj rv he fun σ2 en2 => hb _ _ _ ⟨Fj, μj, stj, env1, gj, en2, ?_⟩
        have fin : ∀ {F3 : Hp} {μ3 : Nat → Addr} {st3 : Store} {H3 : Hp} {env3 : Env} {σ3 : L2.St}, Good Y.kf F3 μ3 st3 H3 → Ext F1 μ1 st1 H1 F3 μ3 st3 H3 → EnvOk Y F3 μ3 st3.length env3 σ3 → RPS Y F3 μ3 st3 H3 (forC t (evSs Φ G b) x (bb, xs) (xs.drop (j + 1)) env3 st3) D W →
            ∃ us, ∃ Fj μj stj envj, Ext F1 μ1 st1 H1 Fj μj stj H3 ∧ Good Y.kf Fj μj stj H3 ∧ EnvOk Y Fj μj stj.length envj σ3 ∧ SqB bb X.K H3 a us ∧ RepL Y.kf Fj μj stj.length xs us ∧ seqOf stj x = some (bb, xs) ∧ RPS Y Fj μj stj H3 (forC t (evSs Φ G b) x (bb, xs) (xs.drop (j + 1)) envj stj) D W := by
          intro F3 μ3 st3 H3 env3 σ3 g3 e3 en3 h3
          have hg : seqOf st3 x = some (bb, xs) := by
            cases hx : (xs.drop (j + 1)) with
            | nil =>
              rw [hx] at h3
              simp only [forC] at h3
              by_cases z : seqOf st3 x = some (bb, xs)
              · exact z
              · rw [if_neg z] at h3; exact False.elim h3
            | cons y ys =>
              rw [hx] at h3
              simp only [forC] at h3
              by_cases z : seqOf st3 x = some (bb, xs)
              · exact z
              · rw [if_neg z] at h3; exact False.elim h3
          obtain ⟨a', us, ew', rL', sq'⟩ := seqOf_rep g3 (e3.v rw1) hg
          have ea : a' = a := by rw [ew] at ew'; cases ew'; rfl
          subst ea
          exact ⟨us, F3, μ3, st3, env3, e3, g3, en3, by rw [hK]; exact sq', rL', hg, h3⟩
        cases hr : evSs Φ G b env1 stj with
        | next env' st' => rw [hr] at hj; exact fun F2 μ2 H2 σ2 e2 g2 en2 => fin g2 (ej.trans e2) en2 (RPS.ext e2 hj)
        | cnt env' st' => rw [hr] at hj; exact fun F2 μ2 H2 σ2 e2 g2 en2 => fin g2 (ej.trans e2) en2 (RPS.ext e2 hj)
        | brk env' st' => rw [hr] at hj; exact hj
        | ret v' st' => rw [hr] at hj; exact hj
        | exn c' fs env' st' => rw [hr] at hj; exact hj
        | stuck => rw [hr] at hj; exact False.elim hj
      · exact False.elim hj
    · rintro σ' H' us ⟨Fj, μj, stj, envj, ej, gj, enj, sq, rL, hqj, hj⟩
      rw [List.drop_length] at hj
      simp only [forC, hqj, if_true] at hj
      exact hj _ _ _ σ' Ext.refl gj enj
  · exact False.elim h1
theorem snd_forc {t : Tg} {ea : E} {b : Ss} (sb : SndSs Y Φ G C k b) : SndS Y Φ G C k (.forc t ea b) where
  ps := fun {X ns W p} c sc tk q => by
    have tkx := tk.tk sc.stk sc.frm
    unfold chkS at q
    split at q
    · rename_i tg pit pb hx
      obtain ⟨pp, rfl⟩ := isFor_eq hx
      simp only [Bool.and_eq_true] at q
      obtain ⟨q0, q1, q2, q3, q4⟩ := q
      have hot : Y.hot = false := by rw [c.hot]; exact (c.calm q0).2
      have pg : PG X tg (gTg X.K t) := by
        cases t with
        | one i =>
          simp only [tgS] at q1
          split at q1
          · rename_i x hn
            obtain ⟨pn, rfl⟩ := isName_eq hn
            rw [Bool.and_eq_true] at q1
            exact pg_name c.nd (show X.N[i]? = some x by rw [c.N]; exact of_decide_eq_true q1.1) (loc_ok c q1.2) (.inl (sc.fnt x))
          · cases q1
        | many is =>
          simp only [tgS] at q1
          split at q1
          · rename_i ts hn
            obtain ⟨kk, pn, rfl⟩ := isTup_eq hn
            exact pg_seq c sc (c.calm q0).1 q1
          · cases q1
      exact PSimp (ps_for (sc.pass q0) (c.calm q0).1 (pi_seq ((sAll ea).pe c tkx q3)) pg (sb.ps c sc tk q4) (folded_id q2)) fun D σ H h => forc_red c.K hot (fun _ _ _ h => h) h
    · cases q
theorem snd_fort {is : List Nat} {it : E} {b : Ss} (sb : SndSs Y Φ G C k b) : SndS Y Φ G C k (.fort is it b) where
  ps := fun {X ns W p} c sc tk q => by
    have tkx := tk.tk sc.stk sc.frm
    unfold chkS at q
    split at q
    · rename_i t pit pb hx
      obtain ⟨pp, rfl⟩ := isFor_eq hx
      simp only [Bool.and_eq_true] at q
      obtain ⟨q0, q1, q2, q3, q4⟩ := q
      split at q1
      · rename_i ts hn
        obtain ⟨kk, pn, rfl⟩ := isTup_eq hn
        have hot : Y.hot = false := by rw [c.hot]; exact (c.calm q0).2
        refine PSimp (ps_for (sc.pass q0) (c.calm q0).1 ((sAll it).pi (.Tuple ts kk pn) c tkx q3) (pg_seq c sc (c.calm q0).1 q1) (sb.ps c sc tk q4) (folded_id q2)) fun D σ H ⟨F, μ, st, env, g, en, h⟩ => ?_
        have h : RPS Y F μ st H (((ev Φ G it).i env st).st env fun p => forT is (evSs Φ G b) p.1 env p.2) D W := by simpa only [evS] using h
        refine ⟨F, μ, st, env, g, en, (RPS.go en h).impE fun F1 μ1 H1 xs st1 er e1 g1 ⟨en1, h1⟩ J us rL wj => ?_⟩
        refine for_walk wj (fun j σ' H' => ∃ Fj μj stj envj, Ext F1 μ1 st1 H1 Fj μj stj H' ∧ Good Y.kf Fj μj stj H' ∧ EnvOk Y Fj μj stj.length envj σ' ∧ RPS Y Fj μj stj H' (forT is (evSs Φ G b) (xs.drop j) envj stj) D W) ?_ ?_ ?_ ?_
        · exact ⟨F1, μ1, st1, env, Ext.refl, g1, en1, h1⟩
        · rintro j σ' H' ⟨Fj, μj, stj, envj, ej, gj, _, _⟩
          exact ej.same.trans gj.same
        · rintro j w σ' H' hw ⟨Fj, μj, stj, envj, ej, gj, enj, hj⟩
          obtain ⟨v, hv, rv⟩ := rL.getV hw
          obtain ⟨hlt, hvi⟩ := List.getElem?_eq_some_iff.mp hv
          rw [List.drop_eq_getElem_cons hlt, hvi] at hj
          simp only [forT] at hj
          split at hj
          · rename_i env1 he
            obtain ⟨a, vs, h1, h2, h3, h4⟩ := seqN_rep (X := X) c.K hot gj enj (ej.v rv) he
            refine ⟨a, vs, h1, h2, h3, Fj, μj, stj, env1, gj, h4, ?_⟩
            cases hr : evSs Φ G b env1 stj with
            | next env' st' => rw [hr] at hj; exact fun F2 μ2 H2 σ2 e2 g2 en2 => ⟨F2, μ2, st', env', ej.trans e2, g2, en2, RPS.ext e2 hj⟩
            | cnt env' st' => rw [hr] at hj; exact fun F2 μ2 H2 σ2 e2 g2 en2 => ⟨F2, μ2, st', env', ej.trans e2, g2, en2, RPS.ext e2 hj⟩
            | brk env' st' => rw [hr] at hj; exact hj
            | ret v' st' => rw [hr] at hj; exact hj
            | exn c' fs env' st' => rw [hr] at hj; exact hj
            | stuck => rw [hr] at hj; exact False.elim hj
          · exact False.elim hj
        · rintro σ' H' ⟨Fj, μj, stj, envj, ej, gj, enj, hj⟩
          rw [rL.len, List.drop_length] at hj
          exact hj _ _ _ σ' Ext.refl gj enj
      · cases q1
    · cases q
theorem snd_while {n : Nat} {d : E} {b : Ss} (sb : SndSs Y Φ G C k b) : SndS Y Φ G C k (.whil n d b) where
  ps := fun {X ns W p} c sc tk q => by
    have tkx := tk.tk sc.stk sc.frm
    unfold chkS at q
    split at q
    · rename_i pc pb hx
      obtain ⟨pp, rfl⟩ := isWhile_eq hx
      simp only [Bool.and_eq_true] at q
      obtain ⟨q0, q1, q2⟩ := q
      refine PSimp (ps_while (sc.pass q0) ((sAll d).pt c tkx q1) (sb.ps c sc tk q2)) fun D σ H ⟨F, μ, st, env, g, en, h⟩ => ?_
      have h : RPS Y F μ st H (whileL (ev Φ G d).t (evSs Φ G b) n env st) D W := by simpa only [evS] using h
      refine ⟨fun m σ' H' => ∃ Fj μj stj envj, Good Y.kf Fj μj stj H' ∧ EnvOk Y Fj μj stj.length envj σ' ∧ RPS Y Fj μj stj H' (whileL (ev Φ G d).t (evSs Φ G b) m envj stj) D W, ⟨n, F, μ, st, env, g, en, h⟩, ?_⟩
      rintro m σ' H' ⟨Fj, μj, stj, envj, gj, enj, hj⟩
      cases m with
      | zero => exact False.elim hj
      | succ m =>
        simp only [whileL] at hj
        refine goST gj enj hj fun F1 μ1 H1 x st1 e1 g1 en1 hh => ?_
        cases x with
        | true =>
          rw [if_pos rfl] at hh ⊢
          refine ⟨fun σ2 H2 => ∃ Fj μj stj envj, Good Y.kf Fj μj stj H2 ∧ EnvOk Y Fj μj stj.length envj σ2 ∧ RPS Y Fj μj stj H2 (whileL (ev Φ G d).t (evSs Φ G b) m envj stj) D W, fun σ2 H2 h2 => ⟨m, Nat.lt_succ_self m, h2⟩, F1, μ1, st1, envj, g1, en1, ?_⟩
          cases hr : evSs Φ G b envj st1 with
          | next env' st' => rw [hr] at hh; exact fun F2 μ2 H2 σ2 e2 g2 en2 => ⟨F2, μ2, st', env', g2, en2, RPS.ext e2 hh⟩
          | cnt env' st' => rw [hr] at hh; exact fun F2 μ2 H2 σ2 e2 g2 en2 => ⟨F2, μ2, st', env', g2, en2, RPS.ext e2 hh⟩
          | brk env' st' => rw [hr] at hh; exact hh
          | ret v' st' => rw [hr] at hh; exact hh
          | exn c' fs env' st' => rw [hr] at hh; exact hh
          | stuck => rw [hr] at hh; exact False.elim hh
        | false =>
          rw [if_neg Bool.false_ne_true] at hh ⊢
          exact hh _ _ _ σ' Ext.refl g1 en1
    · cases q
theorem sndS_nil : SndSs Y Φ G C k .nil where
  ps := fun {X ns W p} c sc tk q => by
    have tkx := tk.tk sc.stk sc.frm
    cases p with
    | nil =>
      refine PSsimp pss_nil fun D σ H ⟨F, μ, st, env, g, en, h⟩ => ?_
      have h : RPS Y F μ st H (.next env st) D W := by simpa only [evSs] using h
      exact h _ _ _ σ Ext.refl g en
    | cons a b => cases q
theorem sndS_cons {s : S} {r : Ss} (h1 : SndS Y Φ G C k s) (h2 : SndSs Y Φ G C k r) : SndSs Y Φ G C k (.cons s r) where
  ps := fun {X ns W p} c sc tk q => by
    have tkx := tk.tk sc.stk sc.frm
    cases p with
    | nil => cases q
    | cons a b =>
      have q' : (chkS C ns s a && chkSs C ns r b) = true := q
      rw [Bool.and_eq_true] at q'
      refine PSsimp (pss_cons (h1.ps c sc tk q'.1) (h2.ps c sc tk q'.2)) fun D σ H ⟨F, μ, st, env, g, en, h⟩ => ?_
      have h : RPS Y F μ st H ((evS Φ G s env st).bind (evSs Φ G r)) D W := by simpa only [evSs] using h
      refine ⟨F, μ, st, env, g, en, ?_⟩
      cases hr : evS Φ G s env st with
      | next env' st' => rw [hr] at h; exact fun F2 μ2 H2 σ2 e2 g2 en2 => ⟨F2, μ2, st', env', g2, en2, RPS.ext e2 h⟩
      | cnt env' st' => rw [hr] at h; exact h
      | brk env' st' => rw [hr] at h; exact h
      | ret v' st' => rw [hr] at h; exact h
      | exn c' fs env' st' => rw [hr] at h; exact h
      | stuck => rw [hr] at h; exact False.elim h
theorem snd_raise (cn : Str) (es : Es) : SndS Y Φ G C k (.raise cn es) where
  ps := fun {X ns W p} c sc tk q => by
    have tkx := tk.tk sc.stk sc.frm
    unfold chkS at q
    split at q
    · rename_i x ps hx
      obtain ⟨p1, p2, p3, rfl⟩ := isRaise_eq hx
      simp only [Bool.and_eq_true] at q
      obtain ⟨q0, q1, q2, q3, q4, q5, q6, q7⟩ := q
      have ex := of_decide_eq_true q1
      subst ex
      split at q7
      · rename_i m hm
        have hlen := of_decide_eq_true q7
        have hXn := c.tb.nx _ _ hm
        obtain ⟨Ca, Da, fI, stc, a1, a2, a3, a4⟩ := c.tb.made _ _ hXn
        cases ps with
        | nil => cases q4
        | cons pa ps =>
          have n1 : notStar pa = true ∧ noStars ps = true := by
            have z : (notStar pa && noStars ps) = true := q5
            rwa [Bool.and_eq_true] at z
          have T : SupTxt X.prog X.K X.mg Ca Da fI stc m := by rw [c.K, c.mg]; exact a2
          refine PSimp (ps_raise (c.calm q0).1 tk (pmk_sup T a3 c.depth (gl_ok c q2) (by rw [c.mg]; exact a1) ((sAlls es).pa c tkx q6) (okName_1 q3) (star_cons n1.1) (star_any n1.2))) fun D σ H ⟨F, μ, st, env, g, en, h⟩ => ?_
          change RPS Y F μ st H ((evs Φ G es env st).st env fun p => .exn cn p.1 env p.2) D W at h
          refine ⟨F, μ, st, env, g, en, (RPS.go en h).impE fun F1 μ1 H1 xs st1 er e1 g1 ⟨en1, h1⟩ ws rw1 => ⟨?_, fun d hd => ?_⟩⟩
          · rw [rw1.len, ← hlen]; exact chkEs_len q6 er
          · obtain ⟨g2, e2⟩ := g1.frozen (o := .xd (m.zip ws)) hd
            exact h1 _ _ _ σ _ _ e2 g2 (e2.env en1) ⟨a1, d, m, ws, rfl, hXn, by rw [rw1.len, ← hlen]; exact (chkEs_len q6 er).symm, upd_same, e2.l rw1⟩
      · cases q7
    · cases q
/-- the suite's frame, from the one around it -/
def Fx.caught (Y : Fx) (ad : Addr) (cls : Value) (d : Option Addr) (sl : Option Nat) (D : List Str) : Fx := { Y with hot := true, cA := ad, cC := cls, cD := d, cI := sl, eD := D }
theorem ctx_suite (c : Ctx X Y Φ G C ns k) (hcalm : C.calm = true) {ad : Addr} {ob : Obj} {cls : Value} {d : Option Addr} {pn : List (Addr × Obj)} {sl : Option Nat} {D : List Str} (hz : Zc cls d ob) (hf : ∃ vs, ob.data = .fields vs) :
    Ctx (X.suite ad ((ad, ob) :: pn)) (Y.caught ad cls d sl D) Φ G (C.suite sl D) ns k where
  K := c.K
  mg := c.mg
  N := c.N
  nd := c.nd
  sc := c.sc
  kind := c.kind
  calm := fun z => by cases z
  hot := rfl
  nN := c.nN
  hotx := fun _ => ⟨c.nN, rfl, rfl⟩
  suite := fun _ => ⟨X, ob, pn, rfl, hz, hf⟩
  tb := ⟨c.tb.made, c.tb.xn, c.tb.nx, c.tb.sub⟩
  units := c.units
  depth := c.depth
  fn := fun x hx => by
    obtain ⟨m, f, fd, ps, h1, h2, h3, h4, h5, h6, h7⟩ := c.hfn hcalm x hx
    refine ⟨m, f, fd, ps, h1, h2, h3, h4, h5, (fun z => by cases z), fun _ => ⟨⟨h6.dp, h6.un⟩, h7⟩⟩
  hfn := fun z => by cases z
  gl := c.gl
  bt := c.bt
  cls := c.cls
  nw := fun z => by cases z
  mt := fun z => by cases z
theorem sctx_suite (sc : SCtx X C) {ad : Addr} {ob : Obj} {pn : List (Addr × Obj)} {sl : Option Nat} {D : List Str} : SCtx (X.suite ad ((ad, ob) :: pn)) (C.suite sl D) := ⟨sc.fnt, (fun z => by cases z), sc.stk, sc.frm⟩
theorem clrS_len (sl : Option Nat) (env : Env) : (clrS sl env).length = env.length := by
  cases sl with
  | none => rfl
  | some i => exact List.length_set ..
theorem clrS_get {sl : Option Nat} {env : Env} {i : Nat} {x : Val} (h : (clrS sl env)[i]? = some (some x)) : env[i]? = some (some x) ∧ sl ≠ some i := by
  cases sl with
  | none => exact ⟨h, fun z => by cases z⟩
  | some j =>
    have h : (env.set j none)[i]? = some (some x) := h
    by_cases hj : j = i
    · subst hj
      by_cases hl : j < env.length
      · rw [List.getElem?_set_self hl] at h; cases h
      · rw [List.getElem?_eq_none (by simpa using hl)] at h; cases h
    · rw [List.getElem?_set_ne hj] at h
      exact ⟨h, fun z => hj (Option.some.inj z)⟩
/-- into the suite -/
theorem env_in {F : Hp} {μ : Nat → Addr} {n : Nat} {env : Env} {σ : L2.St} (cold : Y.hot = false) (en : EnvOk Y F μ n env σ) {ad : Addr} {cls : Value} {d : Option Addr} {sl : Option Nat} {D : List Str} {cn : Str} {fs : List Val}
    (hx : ExnOk Y F μ n cn fs cls d) (hD : cn ∈ D) (hsl : ∀ i, sl = some i → i < Y.nN) : EnvOk (Y.caught ad cls d sl D) F μ n (clrS sl env ++ [some (.str cn), some (.tup fs)]) (inD sl ad σ) := by
  have el := en.cold cold
  have il : (inD sl ad σ).length = σ.length := by cases sl with | none => rfl | some i => exact List.length_set ..
  obtain ⟨hm, dd, ns, vs, hd, hX, hn, hF, rl⟩ := hx
  refine ⟨by rw [il, List.length_append, clrS_len]; omega, by rw [il]; exact en.sz, fun i x hi h => ?_, (fun z => by cases z), fun _ => ⟨by rw [il]; exact en.sz, cn, fs, dd, ns, vs, ?_, ?_, hD, hm, hX, hd, hn, hF, rl, fun i hi => ?_⟩⟩
  · rw [il] at hi
    rw [List.getElem?_append_left (by rw [clrS_len]; omega)] at h
    obtain ⟨h1, h2⟩ := clrS_get h
    obtain ⟨v, h3, h4⟩ := en.val i x hi h1
    refine ⟨v, ?_, h4⟩
    cases sl with
    | none => exact h3
    | some j =>
      show (σ.set j (some (.ref ad)))[i]? = _
      rw [List.getElem?_set_ne (fun z => h2 (by rw [z]))]; exact h3
  · rw [il, List.getElem?_append_right (by rw [clrS_len]; omega), clrS_len, el]; simp
  · rw [il, List.getElem?_append_right (by rw [clrS_len]; omega), clrS_len, el]; simp
  · have hi' : sl = some i := hi
    subst hi'
    show (σ.set i (some (.ref ad)))[i]? = _
    rw [List.getElem?_set_self (by rw [en.sz]; exact hsl i rfl)]
    rfl
/-- out of the suite -/
def outD (sl : Option Nat) (σ : L2.St) : L2.St := match sl with | none => σ | some i => σ.set i none
theorem env_out {F : Hp} {μ : Nat → Addr} {n m : Nat} {env : Env} {σ : L2.St} {ad : Addr} {cls : Value} {d : Option Addr} {sl : Option Nat} {D : List Str} (cold : Y.hot = false) (hm : m = Y.nN) (en : EnvOk (Y.caught ad cls d sl D) F μ n env σ) : EnvOk Y F μ n (clrS sl (env.take m)) (outD sl σ) := by
  have sz : σ.length = Y.nN := en.sz
  have tl : (env.take m).length = σ.length := by rw [List.length_take]; have := en.len; omega
  have ol : (outD sl σ).length = σ.length := by cases sl with | none => rfl | some i => exact List.length_set ..
  refine ⟨by rw [clrS_len, tl, ol]; exact Nat.le_refl _, by rw [ol]; exact sz, fun i x hi h => ?_, fun _ => by rw [clrS_len, tl, ol], fun z => by rw [cold] at z; cases z⟩
  obtain ⟨h1, h2⟩ := clrS_get h
  rw [ol] at hi
  rw [List.getElem?_take_of_lt (by omega)] at h1
  obtain ⟨v, h3, h4⟩ := en.val i x hi h1
  refine ⟨v, ?_, h4⟩
  cases sl with
  | none => exact h3
  | some j =>
    show (σ.set j none)[i]? = _
    rw [List.getElem?_set_ne (fun z => h2 (by rw [z]))]; exact h3
theorem endD_nx {sl : Option Nat} {D : Ends} {τ : L2.St} {J : Hp} (h : D.nx (outD sl τ) J) : (endD sl D).nx τ J := by cases sl <;> exact h
theorem endD_bk {sl : Option Nat} {D : Ends} {τ : L2.St} {J : Hp} (h : D.bk (outD sl τ) J) : (endD sl D).bk τ J := by cases sl <;> exact h
theorem endD_ct {sl : Option Nat} {D : Ends} {τ : L2.St} {J : Hp} (h : D.ct (outD sl τ) J) : (endD sl D).ct τ J := by cases sl <;> exact h
theorem endD_rt {sl : Option Nat} {D : Ends} {v : V} {J : Hp} (h : D.rt v J) : (endD sl D).rt v J := by cases sl <;> exact h
theorem suite_end {F H : Hp} {μ : Nat → Addr} {st : Store} {r : RS} {D0 : Ends} {m : Nat} {ad : Addr} {cls : Value} {d : Option Addr} {sl : Option Nat} {D : List Str} (cold : Y.hot = false) (hm : m = Y.nN) (h : RPS Y F μ st H (endH sl m r) D0 W) : RPS (Y.caught ad cls d sl D) F μ st H r (endD sl D0) W0 := by
  cases r with
  | next env st' => exact fun F' μ' H' σ' e g en => endD_nx (h F' μ' H' _ e g (env_out cold hm en))
  | brk env st' => exact fun F' μ' H' σ' e g en => endD_bk (h F' μ' H' _ e g (env_out cold hm en))
  | cnt env st' => exact fun F' μ' H' σ' e g en => endD_ct (h F' μ' H' _ e g (env_out cold hm en))
  | ret v st' => exact fun F' μ' H' w e g r => endD_rt (h F' μ' H' w e g r)
  | exn c fs env st' => exact False.elim h
  | stuck => exact False.elim h
structure SndHs (Φ : Tab) (G : Str → Option Val) (k : Nat) (hs : Hs) : Prop where
  ps : ∀ {Y : Fx} {C : Cfg} {X : Cx} {ns : Names} {W : WX} {hds : List ExceptHandler}, Ctx X Y Φ G C ns k → SCtx X C → C.calm = true → chkHs C ns hs hds = true → ∃ l, HdsX X hds l ∧
    ∀ (D : Ends) (cn : Str) (fs : List Val) (env : Env) (F H : Hp) (μ : Nat → Addr) (st : Store) (σ : L2.St) (cls : Value) (d : Option Addr), RPS Y F μ st H (evHs Φ G hs cn fs env st) D W → Good Y.kf F μ st H → EnvOk Y F μ st.length env σ → ExnOk Y F μ st.length cn fs cls d → wX Y.K W D l cls d σ H
theorem sndH_nil : SndHs Φ G k .nil where
  ps := fun {Y C X ns W hds} c sc hcalm q => by
    cases hds with
    | cons a b => cases q
    | nil =>
      refine ⟨[], .nil, fun D cn fs env F H μ st σ cls d h g en hx => ?_⟩
      have h : RPS Y F μ st H (.exn cn fs env st) D W := by simpa only [evHs] using h
      exact h F μ H σ cls d Ext.refl g en hx
theorem slB_ok (c : Ctx X Y Φ G C ns k) {nm : Option Str} {sl : Option Nat} (h : slB C ns nm sl = true) : SlOk X nm sl ∧ ∀ i, sl = some i → i < C.N.length := by
  unfold slB at h
  split at h
  · exact ⟨trivial, fun i z => by cases z⟩
  · rename_i n i
    rw [Bool.and_eq_true] at h
    have h1 := of_decide_eq_true h.1
    refine ⟨⟨by rw [c.N]; exact h1, ?_⟩, fun j z => by cases z; exact (List.getElem?_eq_some_iff.mp h1).1⟩
    show X.env.scope.names.lookup n = _
    rw [c.sc]; exact of_decide_eq_true h.2
  · cases h
theorem sndH_cons {x : Str} {D : List Str} {sl : Option Nat} {b : Ss} {r : Hs} (sb : ∀ {Y : Fx} {C : Cfg}, SndSs Y Φ G C k b) (sr : SndHs Φ G k r) : SndHs Φ G k (.cons x D sl b r) where
  ps := fun {Y C X ns W hds} c sc hcalm q => by
    cases hds with
    | nil => cases q
    | cons h hds =>
      unfold chkHs at q
      rw [Bool.and_eq_true] at q
      obtain ⟨q, q0⟩ := q
      split at q
      · rename_i y nm pb he
        obtain ⟨p1, p2, b0, bs, rfl, rfl⟩ := isHd_eq he
        simp only [Bool.and_eq_true] at q
        obtain ⟨q1, q2, q3, q4, q5, q6⟩ := q
        have ex := of_decide_eq_true q1
        subst ex
        obtain ⟨v, u, a1, a2, a3, a4⟩ := c.tb.sub x D (of_decide_eq_true q4)
        have nmc : L2.Names X x u := ⟨gl_ok c q2, okName_1 q3, by rw [c.mg]; exact a3⟩
        obtain ⟨s1, s2⟩ := slB_ok c q5
        obtain ⟨l, hl, hrest⟩ := sr.ps (W := W) c sc hcalm q0
        have cold : Y.hot = false := by rw [c.hot]; exact (c.calm hcalm).2
        refine ⟨(u, sl, fun ad cls d => tSs (Y.caught ad cls d sl D) Φ G W0 b) :: l, .cons nmc s1 (fun ad ob cls d pn hz hf => sb.ps (ctx_suite c hcalm hz hf) (sctx_suite sc) takes0 q6) hl, fun D0 cn fs env F H μ st σ cls d h g en hx => ?_⟩
        obtain ⟨hm, dd, nsx, vs, hd, hX, hrest2⟩ := id hx
        refine ⟨D.contains cn, (a4 cn nsx cls hX hm).1, fun hc ad had => ?_, fun hc => ?_⟩
        · simp only [evHs] at h
          rw [if_pos hc] at h
          have hmem : cn ∈ D := by simpa using hc
          exact ⟨F, μ, st, _, g, env_in cold en hx hmem (fun i hi => by rw [c.nN]; exact s2 i hi), suite_end cold (by rw [en.cold cold]; exact en.sz) h⟩
        · simp only [evHs] at h
          rw [if_neg (by rw [hc]; exact Bool.false_ne_true)] at h
          exact hrest D0 cn fs env F H μ st σ cls d h g en hx
      · cases q
theorem ctx_tr (c : Ctx X Y Φ G C ns k) (hcalm : C.calm = true) (pn : List (Addr × Obj)) (xe : Value → Shared → Prop) : Ctx (X.tr pn xe) Y Φ G C ns k where
  K := c.K
  mg := c.mg
  N := c.N
  nd := c.nd
  sc := c.sc
  kind := c.kind
  calm := c.calm
  hot := c.hot
  nN := c.nN
  hotx := c.hotx
  suite := fun h => by rw [(c.calm hcalm).2] at h; cases h
  tb := c.tb
  units := c.units
  depth := c.depth
  fn := fun x hx => by
    obtain ⟨m, f, fd, ps, h1, h2, h3, h4, h5, h6, h7⟩ := c.fn x hx
    exact ⟨m, f, fd, ps, h1, h2, h3, h4, h5, h6, fun z => by rw [hcalm] at z; cases z⟩
  hfn := c.hfn
  gl := c.gl
  bt := c.bt
  cls := c.cls
  nw := c.nw
  mt := c.mt
theorem snd_try {b : Ss} {hs : Hs} (sb : SndSs Y Φ G C k b) (sh : SndHs Φ G k hs) : SndS Y Φ G C k (.tryx b hs) where
  ps := fun {X ns W p} c sc tk q => by
    have tkx := tk.tk sc.stk sc.frm
    unfold chkS at q
    split at q
    · rename_i pb hds hx
      obtain ⟨h0, hr, pp, rfl, rfl⟩ := isTry_eq hx
      simp only [Bool.and_eq_true] at q
      obtain ⟨q0, q1, q2⟩ := q
      obtain ⟨l, hl, hw⟩ := sh.ps (W := W) c sc q0 q2
      refine PSimp (ps_tryX (tb := fun W' => tSs Y Φ G W' b) sc.stk sc.frm c.nd tk (fun W' pn xe tk' pass => sb.ps (ctx_tr c q0 pn xe) ⟨sc.fnt, fun _ => pass, sc.stk, sc.frm⟩ tk' q1) hl) fun D σ H ⟨F, μ, st, env, g, en, h⟩ => ?_
      refine ⟨F, μ, st, env, g, en, ?_⟩
      simp only [evS] at h
      cases hr : evSs Φ G b env st with
      | exn cn fs env' st' =>
        rw [hr] at h
        intro F1 μ1 H1 σ1 cls d e1 g1 en1 hx1
        rw [c.K]
        exact hw D cn fs env' F1 H1 μ1 st' σ1 cls d (RPS.ext e1 h) g1 en1 hx1
      | next env' st' => rw [hr] at h; exact h
      | cnt env' st' => rw [hr] at h; exact h
      | brk env' st' => rw [hr] at h; exact h
      | ret v' st' => rw [hr] at h; exact h
      | stuck => rw [hr] at h; exact False.elim h
    · cases q
mutual
theorem tAll : ∀ (s : S) {Y : Fx} {C : Cfg}, SndS Y Φ G C k s
  | .asg i e, _, _ => snd_asg i e
  | .sto o i e, _, _ => snd_sto o i e
  | .expr e, _, _ => snd_expr e
  | .stf c f o e, _, _ => snd_stf c f o e
  | .ite c a b, _, _ => snd_ite (tAlls a) (tAlls b)
  | .forr i it b, _, _ => snd_for (tAlls b)
  | .asgt is e, _, _ => snd_asgt is e
  | .fort is it b, _, _ => snd_fort (tAlls b)
  | .forc t a b, _, _ => snd_forc (tAlls b)
  | .whil n c b, _, _ => snd_while (tAlls b)
  | .ret e, _, _ => snd_ret e
  | .retn, _, _ => snd_retn
  | .pass, _, _ => snd_pass
  | .brk, _, _ => snd_brk
  | .cnt, _, _ => snd_cnt
  | .never, _, _ => snd_never
  | .raise c es, _, _ => snd_raise c es
  | .tryx b hs, _, _ => snd_try (tAlls b) (tHds hs)
theorem tAlls : ∀ (s : Ss) {Y : Fx} {C : Cfg}, SndSs Y Φ G C k s
  | .nil, _, _ => sndS_nil
  | .cons s r, _, _ => sndS_cons (tAll s) (tAlls r)
theorem tHds : ∀ (hs : Hs), SndHs Φ G k hs
  | .nil => sndH_nil
  | .cons x D sl b r => sndH_cons (tAlls b) (tHds r)
end
end
end MP
/-! MiniPy: defs. -/
namespace MP
open PySem L2 PySem.Spec PyProof.Rows

/-- the store behind, cut off where st ends, is fit -/
def CutOk (st s1 : Store) : Prop := st.length ≤ s1.length ∧ ∀ i c, i < st.length → s1[i]? = some c → st[i]? = some c ∨ closedC st.length c = true
open Classical in
/-- what a def leaves behind is forgotten -/
noncomputable def gcR (st : Store) (r : RV) : RV := match r with
  | .ok (v, s1) => if closed st.length v = true ∧ CutOk st s1 then .ok (v, s1.take st.length) else .ok (v, s1)
  | .exn c fs s1 => if closedL st.length fs = true ∧ CutOk st s1 then .exn c fs (s1.take st.length) else .exn c fs s1
  | .stuck => .stuck
noncomputable def mkM (Φ : Tab) (G : Str → Option Val) (np n : Nat) (body : Ss) : Mir := fun args st => if args.length = np then gcR st (runB Φ G n body args st) else .stuck
structure Def where
  x : Str
  st : Stmt
  ps : List Str
  N : List Str
  lv : Nat
  fs : List Str
  body : Ss
  Φ : Tab
  G : Str → Option Val
  hfs : List Str := []
  hot : Bool := false
  nm : Str := x
  cl : Option Str := none
  cs : List (Str × List Str) := []
  nw : List Str := []
  ms : List (Str × Str) := []
noncomputable def Def.m (d : Def) : Mir := mkM d.Φ d.G d.ps.length d.N.length d.body
theorem Def.arity (d : Def) (args : List Val) (st : Store) (h : args.length ≠ d.ps.length) : d.m args st = .stuck := by unfold Def.m mkM; rw [if_neg h]
def scopeB (N ps : List Str) (sc : Scope) : Bool :=
  (match sc.kind with | .function => true | _ => false) && (!sc.isCoroutine && (!sc.isGenerator && (decide N.Nodup && (decide (N.take ps.length = ps) && ((ps.all fun x => match sc.names.lookup x with | some .local => true | some .cell => true | _ => false) && (sc.names.all fun y => match y.2 with | .free => false | _ => true))))))
theorem scope_ok {N ps : List Str} {sc : Scope} (h : scopeB N ps sc = true) : FnScope N ps sc := by
  unfold scopeB at h
  simp only [Bool.and_eq_true, decide_eq_true_eq, List.all_eq_true] at h
  obtain ⟨h1, h2, h3, h4, h5, h6, h7⟩ := h
  refine ⟨?_, by simpa using h2, by simpa using h3, h4, h5, fun x hx => ?_, fun y hy e => ?_⟩
  · split at h1
    · assumption
    · cases h1
  · have q := h6 x hx
    split at q
    · rename_i e; exact .inl e
    · rename_i e; exact .inr e
    · cases q
  · have q := h7 y hy
    rw [e] at q; cases q
def cfgOf (bs : List Str) (xn sub : List (Str × List Str)) (cm : Bool) (d : Def) : Cfg := { N := d.N, fs := d.fs, bs := bs, hfs := d.hfs, calm := cm, xn := xn, sub := sub, cs := d.cs, nw := d.nw, ms := d.ms }
/-- the check of one def, by the kernel -/
def defB (bs : List Str) (xn sub : List (Str × List Str)) (d : Def) : Bool :=
  scopeB d.N d.ps (defScope d.st) && (chkSs (cfgOf bs xn sub true d) (defScope d.st).names d.body (defBody d.st) && (!d.hot || chkSs (cfgOf bs xn sub false d) (defScope d.st).names d.body (defBody d.st)))

/-- what the top has made of a def -/
def AtP (K : PySem.W.Frag) (mg : Str → Option Value) (d : Def) (f : Addr) : Prop := match d.cl with
  | none => mg d.x = some (.ref f)
  | some c => ∃ Ca, mg c = some (.ref Ca) ∧ Cls K Ca ∧ (d.nm = "__init__" → Mk K Ca f) ∧ (d.nm ≠ "__init__" → Meth K Ca d.nm f)
def Stands (K : PySem.W.Frag) (mg : Str → Option Value) (d : Def) : Prop := ∃ f fd, Fun K d.nm d.x d.st f fd ∧ Binds K fd d.ps [] ∧ AtP K mg d f

theorem runB_ps {Y : Fx} {Φ : Tab} {G : Str → Option Val} {n : Nat} {body : Ss} {F : Hp} {μ : Nat → Addr} {st : Store} {H : Hp} {args : List Val} {Q : VK} {E : XK} (h : RP Y F μ st H (runB Φ G n body args st) (kV Y Q) E) :
    RPS Y F μ st H (evSs Φ G body (args.map some ++ List.replicate (n - args.length) none) st) { nx := fun _ H' => Q .non H', rt := Q } (fun c d _ H => E c d H) := by
  unfold runB at h
  cases hr : evSs Φ G body (args.map some ++ List.replicate (n - args.length) none) st with
  | next env' st' => rw [hr] at h; exact fun F' μ' H' σ' e g n => h F' μ' H' e g _ rfl
  | ret v st' => rw [hr] at h; exact fun F' μ' H' w e g r => h F' μ' H' e g w r
  | exn c fs env' st' => rw [hr] at h; exact fun F' μ' H' σ' cls d e g n x => h F' μ' H' cls d e g x
  | brk _ _ => rw [hr] at h; exact False.elim h
  | cnt _ _ => rw [hr] at h; exact False.elim h
  | stuck => rw [hr] at h; exact False.elim h
theorem env_start {Y : Fx} {F : Hp} {μ : Nat → Addr} {m : Nat} {args : List Val} {vs : List V} {N : List Str} (hY : Y.nN = N.length) (hc : Y.hot = false) (hl0 : vs.length ≤ N.length) (r : RepL Y.kf F μ m args vs) :
    EnvOk Y F μ m (args.map some ++ List.replicate (N.length - args.length) none) (L2.start N vs) := by
  unfold L2.start
  have hl := r.len
  refine ⟨by simp [hl], by simp [hY]; omega, fun i x _ e => ?_, fun _ => by simp [hl], fun z => by rw [hc] at z; cases z⟩
  by_cases hi : i < args.length
  · rw [List.getElem?_append_left (by simpa using hi), List.getElem?_map] at e
    rw [List.getElem?_append_left (by simpa [hl] using hi), List.getElem?_map]
    cases q : args[i]? with
    | none => rw [q] at e; cases e
    | some y =>
      rw [q] at e
      have ey : y = x := by simpa using e
      subst ey
      obtain ⟨v, h1, h2⟩ := r.get q
      exact ⟨v, by rw [h1]; rfl, h2⟩
  · rw [List.getElem?_append_right (by simpa using hi)] at e
    have := List.getElem?_eq_some_iff.mp e
    obtain ⟨h1, h2⟩ := this
    rw [List.getElem_replicate] at h2
    cases h2
section
variable {P : Program} {w : World} {K : PySem.W.Frag} {mg : Str → Option Value} {base : Heap} {Y : Fx}
/-- the program's defs, all of them -/
structure Prg (P : Program) (Y : Fx) (T : Def → Prop) (bs : List Str) (xn sub : List (Str × List Str)) : Prop where
  chk : ∀ d, T d → defB bs xn sub d = true
  callee : ∀ d, T d → ∀ f ∈ d.fs, ∃ d', T d' ∧ d'.x = f ∧ d'.lv < d.lv ∧ d.Φ f = some d'.m ∧ (d.hot = true → d'.hot = true) ∧ d'.cl = none
  hcallee : ∀ d, T d → ∀ f ∈ d.hfs, ∃ d', T d' ∧ d'.x = f ∧ d'.lv < d.lv ∧ d.Φ f = some d'.m ∧ d'.hot = true ∧ d'.cl = none
  stands : ∀ d, T d → Stands Y.K Y.mg d
  cls : ∀ d, T d → ∀ c l, d.cs.lookup c = some l → ∃ Ca, Y.mg c = some (.ref Ca) ∧ Cls Y.K Ca ∧ ∀ f ∈ l, NoAttr Y.K Ca f
  newc : ∀ d, T d → ∀ c ∈ d.nw, ∃ d', T d' ∧ d'.cl = some c ∧ d'.nm = "__init__" ∧ d'.lv + 1 < d.lv ∧ d.Φ (mName c "__init__") = some d'.m
  meths : ∀ d, T d → ∀ p ∈ d.ms, ∃ d', T d' ∧ d'.cl = some p.1 ∧ d'.nm = p.2 ∧ p.2 ≠ "__init__" ∧ d'.lv < d.lv ∧ d.Φ (mName p.1 p.2) = some d'.m
  gl : ∀ d, T d → ∀ x v, d.G x = some v → ∃ (w : V) (u : Value), Y.mg x = some u ∧ RelV w u ∧ ∀ F μ n, RepV Y.kf F μ n v w
  bt : ∀ x, x ∈ bs → Y.mg x = none
  cold : Y.hot = false
  tb : ∀ C : Cfg, C.xn = xn → C.sub = sub → XTab P Y C
/-- the frame's own fix -/
def Fx.at_ (Y : Fx) (n : Nat) : Fx := { Y with nN := n }
theorem tb_at {P : Program} {Y : Fx} {C : Cfg} {n : Nat} (t : XTab P Y C) : XTab P (Y.at_ n) C := ⟨t.made, t.xn, t.nx, t.sub⟩
theorem good_cut {K : Kf} {F H : Hp} {μ : Nat → Addr} {s1 s2 : Store} (e : s1 = s2.take s1.length) (hc : s1.all (closedC s1.length) = true) (g : Good K F μ s2 H) : Good K F μ s1 H := by
  have hl : s1.length ≤ s2.length := by have := congrArg List.length e; rw [List.length_take] at this; omega
  have get : ∀ i c, s1[i]? = some c → s2[i]? = some c := fun i c h => by
    have hi := (List.getElem?_eq_some_iff.mp h).1
    rw [e, List.getElem?_take_of_lt hi] at h; exact h
  refine ⟨g.same, ⟨fun i c h => ?_, fun i j c d h1 h2 l1 l2 q => g.st.inj i j c d (get i c h1) (get j d h2) l1 l2 q⟩⟩
  have ck := g.st.cell i c (get i c h)
  have cc : closedC s1.length c = true := by
    rw [List.all_eq_true] at hc
    exact hc c (List.mem_of_getElem? h)
  cases c with
  | lst xs => obtain ⟨h1, vs, h2, h3⟩ := ck; exact ⟨h1, vs, h2, h3.shut cc⟩
  | frz xs => obtain ⟨vs, h2, h3⟩ := ck; exact ⟨vs, h2, h3.shut cc⟩
  | dk kvs => obtain ⟨h1, vs, h2, h3⟩ := ck; exact ⟨h1, vs, h2, h3.shut cc⟩
  | dead => trivial
  | obj c ns xs => obtain ⟨h1, dx, Ca, vs, h2, h3, h4, h5, h6⟩ := ck; exact ⟨h1, dx, Ca, vs, h2, h3, h4, h5, h6.shut cc⟩
  | fob c ns xs => obtain ⟨a, dx, Ca, vs, h1, h2, h3, h4, h5, h6⟩ := ck; exact ⟨a, dx, Ca, vs, h1, h2, h3, h4, h5, h6.shut cc⟩
theorem ext_cut {F F' H H' : Hp} {μ μ' : Nat → Addr} {st s1 s2 : Store} (e : s1 = s2.take s1.length) (hl : st.length ≤ s1.length) (x : Ext F μ st H F' μ' s2 H') : Ext F μ st H F' μ' s1 H' := by
  refine ⟨x.same, x.mu, hl, x.frm, fun i c h l => ?_, x.dom, x.fz⟩
  have hi := (List.getElem?_eq_some_iff.mp h).1
  rw [e, List.getElem?_take_of_lt hi] at h
  exact x.new i c h l
theorem gc_closed {K : Kf} {F H : Hp} {μ : Nat → Addr} {st s1 : Store} (g : Good K F μ st H) (h : CutOk st s1) : (s1.take st.length).all (closedC (s1.take st.length).length) = true := by
  have hl : (s1.take st.length).length = st.length := by rw [List.length_take]; have := h.1; omega
  rw [hl, List.all_eq_true]
  intro c hc
  obtain ⟨i, hi⟩ := List.getElem?_of_mem hc
  have hlt : i < st.length := by rw [← hl]; exact (List.getElem?_eq_some_iff.mp hi).1
  rw [List.getElem?_take_of_lt hlt] at hi
  rcases h.2 i c hlt hi with h1 | h1
  · have ck := g.st.cell i c h1
    cases c with
    | lst xs => obtain ⟨h1, vs, h2, h3⟩ := ck; exact h3.closed
    | frz xs => obtain ⟨vs, h2, h3⟩ := ck; exact h3.closed
    | dk kvs => obtain ⟨h1, vs, h2, h3⟩ := ck; exact h3.closed
    | dead => rfl
    | obj c ns xs => obtain ⟨h1, dx, Ca, vs, h2, h3, h4, h5, h6⟩ := ck; exact h6.closed
    | fob c ns xs => obtain ⟨a, dx, Ca, vs, h1, h2, h3, h4, h5, h6⟩ := ck; exact h6.closed
  · exact h1
theorem RP.gc {Y : Fx} {F H : Hp} {μ : Nat → Addr} {st : Store} {r : RV} {Q : VK} {E : XK} (g : Good Y.kf F μ st H) (h : RP Y F μ st H (gcR st r) (kV Y Q) E) : RP Y F μ st H r (kV Y Q) E := by
  cases r with
  | ok p =>
    obtain ⟨v, s1⟩ := p
    unfold gcR at h
    dsimp only at h
    split at h
    · rename_i hc
      have hl : (s1.take st.length).length = st.length := by rw [List.length_take]; have := hc.2.1; omega
      have e3 : s1.take st.length = s1.take (s1.take st.length).length := by rw [hl]
      exact fun F' μ' H' ex g' w rw' => h F' μ' H' (ext_cut e3 (Nat.le_of_eq hl.symm) ex) (good_cut e3 (gc_closed g hc.2) g') w (rw'.shut (by rw [hl]; exact hc.1))
    · exact h
  | exn c fs s1 =>
    unfold gcR at h
    dsimp only at h
    split at h
    · rename_i hc
      have hl : (s1.take st.length).length = st.length := by rw [List.length_take]; have := hc.2.1; omega
      have e3 : s1.take st.length = s1.take (s1.take st.length).length := by rw [hl]
      exact fun F' μ' H' cls d ex g' ⟨x1, dd, ns, vs, x2, x3, xl, x4, x5⟩ => h F' μ' H' cls d (ext_cut e3 (Nat.le_of_eq hl.symm) ex) (good_cut e3 (gc_closed g hc.2) g') ⟨x1, dd, ns, vs, x2, x3, xl, x4, x5.shut (by rw [hl]; exact hc.1)⟩
    · exact h
  | stuck => exact h
theorem real_of {d : Def} {F H : Hp} {μ : Nat → Addr} {st : Store} {args : List Val} {vs : List V} {Q : VK} {E : XK} (hl : vs.length = d.ps.length) (g : Good Y.kf F μ st H) (r : RepL Y.kf F μ st.length args vs)
    (h : RP Y F μ st H (d.m args st) (kV Y Q) E) : RP (Y.at_ d.N.length) F μ st H (runB d.Φ d.G d.N.length d.body args st) (kV (Y.at_ d.N.length) Q) E := by
  unfold Def.m mkM at h
  rw [if_pos (by rw [← r.len]; exact hl)] at h
  exact RP.gc g h
theorem prg_okW {T : Def → Prop} {bs : List Str} {xn sub : List (Str × List Str)} (p : Prg P Y T bs xn sub) : ∀ k : Nat, ∀ d, T d → d.lv ≤ k → d.hot = true →
    ∀ f fd, Fun Y.K d.nm d.x d.st f fd → FnW P w Y.K Y.mg base (L2.CX P w) (k + 1) f fd d.ps (spOf Y d.ps.length d.m) := by
  intro k
  induction k using Nat.strongRecOn with
  | _ k ih =>
    intro d hd hk hh f fd hF
    have hc := p.chk d hd
    unfold defB at hc
    simp only [Bool.and_eq_true] at hc
    obtain ⟨hc1, hc2, hc5⟩ := hc
    rw [hh] at hc5
    have hc6 : chkSs (cfgOf bs xn sub false d) (defScope d.st).names d.body (defBody d.st) = true := hc5
    have S := scope_ok hc1
    refine Fun.okW hF S (fun vs H Q E h => h.1) fun cdv A outer s H vs Q E hr ⟨hl, F, μ, st, args, g, r, h⟩ => ?_
    have hm := real_of hl g r h
    have c : Ctx (cxW (L2.CX P w) P w Y.K Y.mg base d.N d.x (defScope d.st) f cdv A outer s H E) (Y.at_ d.N.length) d.Φ d.G (cfgOf bs xn sub false d) (defScope d.st).names k :=
      { K := rfl, mg := rfl, N := rfl, nd := S.nd, sc := rfl, kind := S.kind, calm := fun z => by cases z
        hot := p.cold, nN := rfl, hotx := fun z => by cases z
        suite := fun z => by cases z
        tb := tb_at (p.tb _ rfl rfl)
        units := by have := hr.un; show (A.deeper _).units + 64 < cLine; omega
        depth := by have := hr.dp; show (A.deeper _).depth + 1 < recursionLimit; omega
        fn := fun x hx => by
          obtain ⟨d', h1, h2, hlt, he, hho, hcl⟩ := p.callee d hd x hx
          obtain ⟨f', fd', hF', hB', hG'⟩ := p.stands d' h1
          unfold AtP at hG'
          rw [hcl] at hG'
          refine ⟨d'.m, f', fd', d'.ps, he, d'.arity, by rw [← h2]; exact hG', hF'.kp, hB', (fun z => by cases z), fun _ => ⟨hr, ?_⟩⟩
          have hk0 : 0 < k := Nat.lt_of_lt_of_le (Nat.lt_of_le_of_lt (Nat.zero_le _) hlt) hk
          have := ih (k - 1) (by omega) d' h1 (by omega) (hho hh) f' fd' hF'
          rw [Nat.sub_add_cancel hk0] at this
          exact this
        hfn := fun z => by cases z
        gl := p.gl d hd
        bt := p.bt
        cls := p.cls d hd
        nw := fun z => by cases z
        mt := fun z => by cases z }
    have sc : SCtx (cxW (L2.CX P w) P w Y.K Y.mg base d.N d.x (defScope d.st) f cdv A outer s H E) (cfgOf bs xn sub false d) := ⟨fun _ => rfl, (fun z => by cases z), rfl, rfl⟩
    have tk := takes_of (X := cxW (L2.CX P w) P w Y.K Y.mg base d.N d.x (defScope d.st) f cdv A outer s H E) (E := E) rfl rfl rfl rfl
    have hpl : d.ps.length ≤ d.N.length := by have := congrArg List.length S.pre; rw [List.length_take] at this; omega
    exact ⟨_, (tAlls d.body).ps c sc tk hc6, F, μ, st, _, g, env_start (Y := Y.at_ d.N.length) rfl p.cold (by omega) r, runB_ps hm⟩
theorem prg_ok {T : Def → Prop} {bs : List Str} {xn sub : List (Str × List Str)} (p : Prg P Y T bs xn sub) : ∀ k : Nat, ∀ d, T d → d.lv ≤ k →
    ∀ f fd, Fun Y.K d.nm d.x d.st f fd → FnOk P w Y.K Y.mg base (L2.CX P w) (k + 1) f fd d.ps (spOf Y d.ps.length d.m) := by
  intro k
  induction k using Nat.strongRecOn with
  | _ k ih =>
    intro d hd hk f fd hF
    have hc := p.chk d hd
    unfold defB at hc
    simp only [Bool.and_eq_true] at hc
    obtain ⟨hc1, hc2, hc5⟩ := hc
    have S := scope_ok hc1
    refine hF.okX S (fun vs H Q E h => h.1) fun cdv A outer s H vs Q E hr ⟨hl, F, μ, st, args, g, r, h⟩ => ?_
    have hm := real_of hl g r h
    have c : Ctx (cxOf (L2.CX P w) P w Y.K Y.mg base d.N d.x (defScope d.st) f cdv A outer s H E) (Y.at_ d.N.length) d.Φ d.G (cfgOf bs xn sub true d) (defScope d.st).names k :=
      { K := rfl, mg := rfl, N := rfl, nd := S.nd, sc := rfl, kind := S.kind, calm := fun _ => ⟨rfl, rfl⟩
        hot := p.cold, nN := rfl, hotx := fun z => by cases z
        suite := fun z => by cases z
        tb := tb_at (p.tb _ rfl rfl)
        units := by have := hr.un; show (A.deeper _).units + 64 < cLine; omega
        depth := by have := hr.dp; show (A.deeper _).depth + 1 < recursionLimit; omega
        fn := fun x hx => by
          obtain ⟨d', h1, h2, hlt, he, hho, hcl⟩ := p.callee d hd x hx
          obtain ⟨f', fd', hF', hB', hG'⟩ := p.stands d' h1
          unfold AtP at hG'
          rw [hcl] at hG'
          refine ⟨d'.m, f', fd', d'.ps, he, d'.arity, by rw [← h2]; exact hG', hF'.kp, hB', (fun _ => ⟨hr, ?_⟩), fun z => by cases z⟩
          have hk0 : 0 < k := Nat.lt_of_lt_of_le (Nat.lt_of_le_of_lt (Nat.zero_le _) hlt) hk
          have := ih (k - 1) (by omega) d' h1 (by omega) f' fd' hF'
          rw [Nat.sub_add_cancel hk0] at this
          exact this
        hfn := fun _ x hx => by
          obtain ⟨d', h1, h2, hlt, he, hho, hcl⟩ := p.hcallee d hd x hx
          obtain ⟨f', fd', hF', hB', hG'⟩ := p.stands d' h1
          unfold AtP at hG'
          rw [hcl] at hG'
          refine ⟨d'.m, f', fd', d'.ps, he, d'.arity, by rw [← h2]; exact hG', hF'.kp, hB', ⟨hr.dp, hr.un⟩, ?_⟩
          have hk0 : 0 < k := Nat.lt_of_lt_of_le (Nat.lt_of_le_of_lt (Nat.zero_le _) hlt) hk
          have := prg_okW (P := P) (w := w) (base := base) p (k - 1) d' h1 (by omega) hho f' fd' hF'
          rw [Nat.sub_add_cancel hk0] at this
          exact this
        gl := p.gl d hd
        bt := p.bt
        cls := p.cls d hd
        nw := fun _ c hc => by
          obtain ⟨d', h1, h2, h3, hlt, he⟩ := p.newc d hd c hc
          obtain ⟨f', fd', hF', hB', hG'⟩ := p.stands d' h1
          unfold AtP at hG'
          rw [h2] at hG'
          obtain ⟨Ca, hm', hC', hMk, _⟩ := hG'
          have := ih (k - 2) (by omega) d' h1 (by omega) f' fd' hF'
          have e2 : k - 2 + 1 + 1 = k := by omega
          exact ⟨d'.m, f', fd', d'.ps, Ca, k - 2 + 1, he, d'.arity, hm', hMk h3, hB', by rw [e2]; exact hr, this⟩
        mt := fun _ c n hc => by
          obtain ⟨d', h1, h2, h3, h4, hlt, he⟩ := p.meths d hd (c, n) hc
          obtain ⟨f', fd', hF', hB', hG'⟩ := p.stands d' h1
          unfold AtP at hG'
          rw [h2] at hG'
          obtain ⟨Ca, hm', hC', _, hMt⟩ := hG'
          have hk0 : 0 < k := by omega
          have := ih (k - 1) (by omega) d' h1 (by omega) f' fd' hF'
          rw [Nat.sub_add_cancel hk0] at this
          have e3 : d'.nm = n := h3
          exact ⟨d'.m, f', fd', d'.ps, Ca, he, d'.arity, hm', hC', by have z := hMt (by rw [e3]; exact h4); rw [e3] at z; exact z, hB', hr, this⟩ }
    have sc : SCtx (cxOf (L2.CX P w) P w Y.K Y.mg base d.N d.x (defScope d.st) f cdv A outer s H E) (cfgOf bs xn sub true d) := ⟨fun _ => rfl, (fun _ => passes_of rfl), rfl, rfl⟩
    have tk := takes_of (X := cxOf (L2.CX P w) P w Y.K Y.mg base d.N d.x (defScope d.st) f cdv A outer s H E) (E := E) rfl rfl rfl rfl
    have hpl : d.ps.length ≤ d.N.length := by have := congrArg List.length S.pre; rw [List.length_take] at this; omega
    exact ⟨_, (tAlls d.body).ps c sc tk hc2, F, μ, st, _, g, env_start (Y := Y.at_ d.N.length) rfl p.cold (by omega) r, runB_ps hm⟩
end
end MP
/-! MiniPy: from the table to the law. -/
namespace MP
open PySem L2 PySem.Spec PyProof.Rows

theorem stand_mk {K : PySem.W.Frag} {h : Heap} {mg : Str → Option Value} (X : K.In h) (G : h.Ns mainGlobals mg) (d : Def) {f : Addr} {oc : Value} {od an : Option Addr} {osl : Array (Option Value)} {kV doc pm cdv ct : Value}
    (a : PySem.W.nsIn K mainGlobals d.x = some (some (.ref f)))
    (l : K.lookup f = some ⟨oc, od, .func (PySem.W.fnOf d.x d.x (defArgs d.st) (defBody d.st) (defScope d.st) .none kV doc pm an cdv ct), osl⟩)
    (c : PySem.W.codeIn K cdv d.x = true) (k : PySem.W.keepIn K (.ref f) = true)
    (hcl : d.cl = none) (hnm : d.nm = d.x) (hb : ∀ (kV doc pm : Value) (an : Option Addr) (cdv ct : Value) (us : List Value), us.length = d.ps.length → bindArgs (PySem.W.fnOf d.x d.x (defArgs d.st) (defBody d.st) (defScope d.st) .none kV doc pm an cdv ct) ⟨us, []⟩ = pure (d.ps.zip us)) : Stands K mg d :=
  ⟨f, _, by rw [hnm]; exact fun_mk l c k, (fun_mk (x := d.x) l c k).binds hb, by unfold AtP; rw [hcl]; exact PySem.W.mg_of X G a⟩
theorem stand_mt {K : PySem.W.Frag} {h : Heap} {mg : Str → Option Value} (X : K.In h) (G : h.Ns mainGlobals mg) (d : Def) {cn : Str} {Ca f : Addr} {oc : Value} {od an : Option Addr} {osl : Array (Option Value)} {kV doc pm cdv ct : Value}
    (hcl : d.cl = some cn) (hn : (d.nm == "__init__") = false) (a : PySem.W.nsIn K mainGlobals cn = some (some (.ref Ca))) (hC : Cls K Ca) (hM : Meth K Ca d.nm f)
    (l : K.lookup f = some ⟨oc, od, .func (PySem.W.fnOf d.nm d.x (defArgs d.st) (defBody d.st) (defScope d.st) .none kV doc pm an cdv ct), osl⟩)
    (c : PySem.W.codeIn K cdv d.x = true)
    (hb : ∀ (kV doc pm : Value) (an : Option Addr) (cdv ct : Value) (us : List Value), us.length = d.ps.length → bindArgs (PySem.W.fnOf d.nm d.x (defArgs d.st) (defBody d.st) (defScope d.st) .none kV doc pm an cdv ct) ⟨us, []⟩ = pure (d.ps.zip us)) : Stands K mg d :=
  ⟨f, _, fun_mk l c hM.kp, (fun_mk l c hM.kp).binds hb, by unfold AtP; rw [hcl]; exact ⟨Ca, PySem.W.mg_of X G a, hC, (fun z => by rw [z] at hn; cases hn), fun _ => hM⟩⟩
theorem stand_in {K : PySem.W.Frag} {h : Heap} {mg : Str → Option Value} (X : K.In h) (G : h.Ns mainGlobals mg) (d : Def) {cn : Str} {Ca f : Addr} {oc : Value} {od an : Option Addr} {osl : Array (Option Value)} {kV doc pm cdv ct : Value}
    (hcl : d.cl = some cn) (hn : (d.nm == "__init__") = true) (a : PySem.W.nsIn K mainGlobals cn = some (some (.ref Ca))) (hC : Cls K Ca) (hM : Mk K Ca f)
    (l : K.lookup f = some ⟨oc, od, .func (PySem.W.fnOf d.nm d.x (defArgs d.st) (defBody d.st) (defScope d.st) .none kV doc pm an cdv ct), osl⟩)
    (c : PySem.W.codeIn K cdv d.x = true) (k : PySem.W.keepIn K (.ref f) = true)
    (hb : ∀ (kV doc pm : Value) (an : Option Addr) (cdv ct : Value) (us : List Value), us.length = d.ps.length → bindArgs (PySem.W.fnOf d.nm d.x (defArgs d.st) (defBody d.st) (defScope d.st) .none kV doc pm an cdv ct) ⟨us, []⟩ = pure (d.ps.zip us)) : Stands K mg d :=
  ⟨f, _, fun_mk l c k, (fun_mk l c k).binds hb, by unfold AtP; rw [hcl]; exact ⟨Ca, PySem.W.mg_of X G a, hC, (fun _ => hM), fun z => absurd (beq_iff_eq.mp hn) z⟩⟩

/-- a table of names -/
def lk {α : Type} (l : List (Str × α)) : Str → Option α := fun x => l.lookup x
theorem lk_all {α : Type} {l : List (Str × α)} {P : Str → α → Prop} (h : ∀ x v, (x, v) ∈ l → P x v) : ∀ x v, lk l x = some v → P x v := fun x v e => h x v (PySem.mem_of_lookup e)
theorem gl_int {K : Kf} {mg : Str → Option Value} {x : Str} {i : Int} {t : Tok} (h : mg x = some (.int i t)) : ∃ (w : V) (u : Value), mg x = some u ∧ RelV w u ∧ ∀ F μ n, RepV K F μ n (.int i) w := ⟨.int i, _, h, ⟨_, rfl⟩, fun _ _ _ => rfl⟩
theorem gl_str {K : Kf} {mg : Str → Option Value} {x : Str} {i : Str} {t : Tok} (h : mg x = some (.str i t)) : ∃ (w : V) (u : Value), mg x = some u ∧ RelV w u ∧ ∀ F μ n, RepV K F μ n (.str i) w := ⟨.str i, _, h, ⟨_, rfl⟩, fun _ _ _ => rfl⟩
/-- a constant tuple of whole numbers -/
def tupInts : List Value → List Int → Bool
  | [], [] => true
  | .int j _ :: us, i :: is => decide (j = i) && tupInts us is
  | _, _ => false
theorem tupInts_vals : ∀ {us : List Value} {is : List Int}, tupInts us is = true → Vals (is.map V.int) us
  | [], [], _ => .nil
  | u :: us, [], h => by cases u <;> cases h
  | [], _ :: _, h => by cases h
  | u :: us, i :: is, h => by
    cases u with
    | int j t =>
      have h' : (decide (j = i) && tupInts us is) = true := h
      rw [Bool.and_eq_true] at h'
      have e := of_decide_eq_true h'.1
      subst e
      exact .cons ⟨t, rfl⟩ (tupInts_vals h'.2)
    | _ => cases h
theorem gl_tup {K : Kf} {mg : Str → Option Value} {x : Str} {a : Addr} {o : Obj} {its : Array Value} {n : Nat} {zs : List Int} (hm : mg x = some (.ref a)) (hl : K.k.lookup a = some o) (hs : o.cls = .type "tuple" ∧ o.data = .seq its n ∧ tupInts its.toList zs = true ∧ its.size ≤ sizeLine) :
    ∃ (w : V) (u : Value), mg x = some u ∧ RelV w u ∧ ∀ F μ m, RepV K F μ m (.tup (zs.map Val.int)) w :=
  ⟨.ref a, _, hm, rfl, fun F μ m => ⟨a, zs.map V.int, rfl, .inr ⟨o, its, n, hl, hs.1, hs.2.1, hs.2.2.2, tupInts_vals hs.2.2.1⟩, repL_ints zs⟩⟩
/-- the promise of a law -/
def spLaw (K : PySem.W.Frag) : Sp := fun vs H Q _ => ∃ (a : Addr) (ns : List Int), vs = [.ref a] ∧ SqL K H a (ns.map V.int) ∧ ns.length ≤ 63 ∧ (∀ z ∈ ns, Builtin.Int.intBits z ≤ 1048576) ∧ ∀ H', Q (.bl true) H'
theorem law_fn {P : Program} {w : World} {base : Heap} {Y : Fx} {T : Def → Prop} {bs : List Str} {xn sub : List (Str × List Str)} (p : Prg P Y T bs xn sub) {d : Def} (hd : T d) (hl : d.lv ≤ 200) (hps : d.ps = [("script" : Str)])
    (law : ∀ ns : List Int, ns.length ≤ 63 → (∀ z ∈ ns, Builtin.Int.intBits z ≤ 1048576) → ∃ st', d.m [.scr (ns.map .int)] [] = .ok (.bl true, st')) {f : Addr} {fd : FuncData} (hF : Fun Y.K d.nm d.x d.st f fd) :
    FnOk P w Y.K Y.mg base (L2.CX P w) 201 f fd [("script" : Str)] (spLaw Y.K) := by
  have h := prg_ok (P := P) (w := w) (base := base) p 200 d hd hl f fd hF
  rw [hps] at h
  refine h.imp fun vs H Q E ⟨a, ns, e, hS, h1, h2, q⟩ => ⟨by rw [e]; rfl, H, fun _ => (0 : Nat), [], [.scr (ns.map .int)], ⟨Same.refl _, ⟨fun i c hc => by simp at hc, fun i j c d' h1 => by simp at h1⟩⟩, ?_, ?_⟩
  · rw [e]
    exact ⟨_, [], rfl, ⟨a, ns.map V.int, rfl, hS, repL_ints ns⟩, rfl⟩
  · obtain ⟨st', hst⟩ := law ns h1 h2
    rw [hst]
    intro F' μ' H' _ _ v hv
    have ev : v = .bl true := hv
    rw [ev]; exact q H'
theorem walk_mp {l : PySem.W.OpenLaw} {q : Program} {loose : List Str} {XP : (Str → Option Value) → Heap → Prop} {YP : World → Heap → Prop} {d : DefRec} {K : Params → PySem.W.Frag} (hn : l.most = some 63) (hdf : d.params.defaults = [])
    (hY : ∀ (w : World) (h : Heap), YP w h → (K w.params).In h)
    (F : ∀ (w : World) (mg : Str → Option Value) (fa : Addr) (h : Heap), (K w.params).In h → h.Ns mainGlobals mg → mg d.name = some (.ref fa) →
      ∃ fd : FuncData, (∀ (s : Shared) (u : Value), BindsTo s fd ⟨[u], []⟩ [("script", u)]) ∧ ∀ base : Heap, (K w.params).In base → base.Ns mainGlobals mg → FnOk l.prog w (K w.params) mg base (L2.CX l.prog w) 201 fa fd [("script" : Str)] (spLaw (K w.params))) :
    PySem.W.WalkO q loose XP YP l.row.toRowW d [] (fun f vs => PySem.call f vs) :=
  L2.walk_ofB (n := 63) (k := 201) (x := "script") (CX := fun w => L2.CX l.prog w) (sp := fun w => spLaw (K w.params)) hn (by decide) hdf ⟨rfl, by decide, by decide⟩ hY F (fun w H a ns hl hb _ hS => ⟨a, ns, rfl, hS, hl, hb, fun _ => rfl⟩) fun _ _ _ _ _ h => by
    obtain ⟨_, _, _, _, _, _, _, _, _, _, _, _, z⟩ := h
    exact z.elim
end MP
/-! MiniPy: the error classes of a law. -/
namespace MP
open PySem PySem.W PySem.Calls PyProof.Rows PySem.HandSPX L2
theorem all1 {α : Type} {p : α → Prop} {a : α} (h : p a) : ∀ n ∈ [a], p n := fun n hn => by rw [List.mem_singleton.mp hn]; exact h
theorem all2 {α : Type} {p : α → Prop} {a b : α} (h : p a) (h2 : p b) : ∀ n ∈ [a, b], p n := fun n hn => by
  rcases List.mem_cons.mp hn with rfl | hn
  · exact h
  · exact all1 h2 n hn
theorem all3 {α : Type} {p : α → Prop} {a b c : α} (h : p a) (h2 : p b) (h3 : p c) : ∀ n ∈ [a, b, c], p n := fun n hn => by
  rcases List.mem_cons.mp hn with rfl | hn
  · exact h
  · exact all2 h2 h3 n hn
theorem sup_mk {P : Program} {K : Frag} {mg : Str → Option Value} {h : Heap} {C D fI : Addr} {st : Stmt} {ns : List Str} (X : K.In h) (G : h.Ns mainGlobals mg)
    {nm q : Str} {N : Addr} {bs bm : List Value} {sn sub} {ab col dd k0 k1 k2 k3 k5} (b1 : K.lookup C = some (excClassObj nm q C N bs bm true sn sub ab col dd k0 k1 k2 k3 k5 "ValueError.__new__")) (b2 : refsVE bm = true)
    (b3 : findIn K (.ref C) "__setattr__" = some (some (.builtin "object.__setattr__"))) (b4 : subIn K (.ref C) (.type "BaseException") = some true) (b5 : subIn K (.ref C) (.type "ValueError") = some true) (b6 : typeIn K (.ref C) = some (.type "type"))
    (b7 : keepIn K (.ref C) = true) (b8 : findIn K (.ref C) "__init__" = some (some (.ref fI))) (b9 : typeIn K (.ref fI) = some (.type "function")) (c0 : ∀ n ∈ ns, findIn K (.ref C) n = some none)
    {oc : Value} {od : Option Addr} {qual : Str} {kV doc pm : Value} {an : Option Addr} {cda : Addr} {ct : Value} {cc : Addr} {osl : Array (Option Value)}
    (f1 : K.lookup fI = some ⟨oc, od, .func (ksFn "__init__" qual (defArgs st) (defBody st) (defScope st) .none kV doc pm an (.ref cda) ct cc), osl⟩) (f2 : codeIn K (.ref cda) qual = true)
    {ccl : Value} {cdd : Option Addr} {vs : Array Value} {ccs : Array (Option Value)} {file : Str} {tf : Tok} (f3 : K.lookup cda = some ⟨ccl, cdd, .fields vs, ccs⟩) (f4 : vs[2]? = some (.str file tf)) (f5 : ((P.main.file : Str) == file) = true)
    {cl : Value} {cld : Option Addr} {csl : Array (Option Value)} (f6 : K.lookup cc = some ⟨cl, cld, .cell (some (.ref D)), csl⟩) {cdD} (f7 : clsIn K D = some cdD) (f8 : mroIn K C (.ref D) = some true)
    (f9 : ks_superIn K C D "__init__" = some (some (.builtin "ValueError.__init__"))) (g1 : nsIn K mainGlobals "super" = some none) (g2 : (P.main.scope.names.lookup ("super" : Str)).isSome = false) (g3 : nsIn K cStatics "thirdparty.any" = some none)
    (g4 : bodyB (defBody st) ns = true) (g5 : iscB (defScope st) ns = true) (g6 : ((defArgs st).posonlyargs ++ (defArgs st).args).head?.map (·.arg) = some "self") (g7 : ns.Nodup ∧ ("self" : Str) ∉ ns ∧ ns ≠ [])
    (g8 : ∀ (qual : Str) (kV doc pm : Value) (an : Option Addr) (cdv ct : Value) (cc : Addr) (us : List Value), us.length = ns.length + 1 → bindArgs (ksFn "__init__" qual (defArgs st) (defBody st) (defScope st) .none kV doc pm an cdv ct cc) ⟨us, []⟩ = pure ((("self" : Str) :: ns).zip us)) :
    SupTxt P K mg C D fI st ns where
  cls := ⟨_, _, _, _, _, _, _, _, _, _, _, _, _, _, _, b1, b2⟩
  sa := b3
  exC := b4
  veC := b5
  tyC := b6
  kC := b7
  iC := b8
  tI := b9
  no := c0
  fn := ⟨_, _, _, _, _, _, _, _, _, _, _, f1, f2, ⟨_, _, _, _, _, _, f3, f4, f5⟩, ⟨_, _, _, f6⟩⟩
  clD := ⟨_, f7⟩
  sub := f8
  sup := f9
  glb := mg_none_of X G g1
  top := g2
  opq := g3
  body := g4
  scope := g5
  ar := g6
  nd := g7
  bind := g8
theorem exis_mk {K : PySem.W.Frag} {C : Addr} {cd} (e1 : PySem.W.clsIn K C = some cd) (e2 : PySem.W.findIn K (.ref C) "__getattribute__" = some (some (.builtin "BaseException.__getattribute__"))) (e3 : PySem.W.findIn K (.ref C) "__getattr__" = some none) (e4 : PySem.W.subIn K (.ref C) (.type "BaseException") = some true)
    (e5 : PySem.W.findIn K (.ref C) "__class__" = some (some (.builtin "object.__class__"))) (e6 : PySem.W.specialIn K (.builtin "object.__class__") "__get__" = some (some (.builtin "getset_descriptor.__get__"))) (e7 : PySem.W.takesIn K (.builtin "object.__class__") = some true) (e8 : PySem.W.mroIn K C (.type "object") = some true) (e9 : PySem.W.hasDictIn K C = true) : MP.ExIs K C :=
  ⟨by rw [e1]; rfl, e2, e3, e4, e5, e6, e7, e8, e9⟩
theorem boot_ValueError : bootBuiltins "ValueError" = some (.type "ValueError") := by boot_by_name
theorem boot_Exception : bootBuiltins "Exception" = some (.type "Exception") := by boot_by_name
theorem boot_LookupError : bootBuiltins "LookupError" = some (.type "LookupError") := by boot_by_name
theorem boot_TypeError : bootBuiltins "TypeError" = some (.type "TypeError") := by boot_by_name
theorem xt_mk {P : Program} {Y : Fx} {xn sub : List (Str × List Str)} {hX : Y.Xn = fun c => xn.lookup c}
    (made : ∀ c ns, (c, ns) ∈ xn → ∃ (Ca Da fI : Addr) (st : Stmt), Y.mg c = some (.ref Ca) ∧ SupTxt P Y.K Y.mg Ca Da fI st ns ∧ ns.length ≤ 900 ∧ ExIs Y.K Ca)
    (sb : ∀ y D, (y, D) ∈ sub → ∃ (v : V) (u : Value), ClsV v u ∧ RelV v u ∧ (Y.mg y = some u ∨ (Y.mg y = none ∧ bootBuiltins y = some u ∧ y ≠ "__name__")) ∧
      ∀ c ns cls, (c, ns) ∈ xn → Y.mg c = some cls → PySem.W.exmOne Y.K cls u = some (D.contains c) ∧ PySem.W.kitOne Y.K cls u = some (D.contains c)) : ∀ C : Cfg, C.xn = xn → C.sub = sub → XTab P Y C := fun C h1 h2 => by
  have e : ∀ {c ns}, Y.Xn c = some ns → (c, ns) ∈ xn := fun h => by rw [hX] at h; exact PySem.mem_of_lookup h
  refine ⟨fun c ns h => made c ns (e h), fun c ns h => by rw [h1]; exact e h, fun c ns h => by rw [hX]; rw [h1] at h; exact h, fun y D h => ?_⟩
  rw [h2] at h
  obtain ⟨v, u, a1, a2, a3, a4⟩ := sb y D (PySem.mem_of_lookup h)
  exact ⟨v, u, a1, a2, a3, fun c ns cls hc hm => a4 c ns cls (e hc) hm⟩
end MP
/-! MiniPy: reading texts in plain Lean. -/
namespace MP
open PySem L2

/-! what a def gives -/
theorem cut_self {st : Store} (g : Store) : CutOk st (st ++ g) := ⟨by simp, fun i c hi h => .inl (by rwa [List.getElem?_append_left hi] at h)⟩
theorem gc_pure {st g : Store} {v : Val} (h : closed 0 v = true) : gcR st (.ok (v, st ++ g)) = .ok (v, st) := by
  unfold gcR; dsimp only
  rw [if_pos ⟨closed_mono (Nat.zero_le _) h, cut_self g⟩]
  simp
theorem gc_pure0 {st : Store} {v : Val} (h : closed 0 v = true) : gcR st (.ok (v, st)) = .ok (v, st) := by
  have := gc_pure (st := st) (g := []) h
  simpa using this
/-- the def only reads -/
theorem mk_pure {Φ : Tab} {G : Str → Option Val} {np n : Nat} {b : Ss} {args : List Val} {st g : Store} {v : Val} (hl : args.length = np) (h : runB Φ G n b args st = .ok (v, st ++ g)) (hc : closed 0 v = true) : mkM Φ G np n b args st = .ok (v, st) := by
  unfold mkM; rw [if_pos hl, h]; exact gc_pure hc
theorem mk_pure0 {Φ : Tab} {G : Str → Option Val} {np n : Nat} {b : Ss} {args : List Val} {st : Store} {v : Val} (hl : args.length = np) (h : runB Φ G n b args st = .ok (v, st)) (hc : closed 0 v = true) : mkM Φ G np n b args st = .ok (v, st) := by
  unfold mkM; rw [if_pos hl, h]; exact gc_pure0 hc
theorem gc_exn {st g : Store} {c : Str} {fs : List Val} (h : closedL 0 fs = true) : gcR st (.exn c fs (st ++ g)) = .exn c fs st := by
  unfold gcR; dsimp only
  rw [if_pos ⟨closedL_mono (Nat.zero_le _) h, cut_self g⟩]
  simp
theorem gc_exn0 {st : Store} {c : Str} {fs : List Val} (h : closedL 0 fs = true) : gcR st (.exn c fs st) = .exn c fs st := by
  have := gc_exn (st := st) (g := []) (c := c) h
  simpa using this
/-- the def raises -/
theorem mk_exn {Φ : Tab} {G : Str → Option Val} {np n : Nat} {b : Ss} {args : List Val} {st g : Store} {c : Str} {fs : List Val} (hl : args.length = np) (h : runB Φ G n b args st = .exn c fs (st ++ g)) (hc : closedL 0 fs = true) : mkM Φ G np n b args st = .exn c fs st := by
  unfold mkM; rw [if_pos hl, h]; exact gc_exn hc
theorem mk_exn0 {Φ : Tab} {G : Str → Option Val} {np n : Nat} {b : Ss} {args : List Val} {st : Store} {c : Str} {fs : List Val} (hl : args.length = np) (h : runB Φ G n b args st = .exn c fs st) (hc : closedL 0 fs = true) : mkM Φ G np n b args st = .exn c fs st := by
  unfold mkM; rw [if_pos hl, h]; exact gc_exn0 hc
/-- the def changes one cell that it was given -/
theorem mk_set {Φ : Tab} {G : Str → Option Val} {np n : Nat} {b : Ss} {args : List Val} {st g : Store} {v : Val} {i : Nat} {c : Cell} (hl : args.length = np) (h : runB Φ G n b args st = .ok (v, st.set i c ++ g)) (hc : closed 0 v = true) (hd : closedC 0 c = true) : mkM Φ G np n b args st = .ok (v, st.set i c) := by
  unfold mkM; rw [if_pos hl, h]
  unfold gcR; dsimp only
  have hcl : closedC st.length c = true := by
    cases c with
    | lst xs => exact closedL_mono (Nat.zero_le _) hd
    | frz xs => exact closedL_mono (Nat.zero_le _) hd
    | dk xs => exact closedK_mono (Nat.zero_le _) hd
    | dead => rfl
    | obj c ns xs => exact closedL_mono (Nat.zero_le _) hd
    | fob c ns xs => exact closedL_mono (Nat.zero_le _) hd
  have hk : CutOk st (st.set i c ++ g) := ⟨by simp, fun j d hj e => by
    rw [List.getElem?_append_left (by simpa using hj)] at e
    by_cases hij : i = j
    · subst hij; rw [List.getElem?_set_self hj] at e; cases e; exact .inr hcl
    · rw [List.getElem?_set_ne hij] at e; exact .inl e⟩
  rw [if_pos ⟨closed_mono (Nat.zero_le _) hc, hk⟩]
  congr 1
  rw [List.take_append_of_le_length (by simp), List.take_of_length_le (by simp)]

/-- the def gives a cell of its own -/
theorem mk_loc {Φ : Tab} {G : Str → Option Val} {np n : Nat} {b : Ss} {args : List Val} {st s1 : Store} {m : Nat} (hl : args.length = np) (h : runB Φ G n b args st = .ok (.loc m, s1)) (hm : st.length ≤ m) : mkM Φ G np n b args st = .ok (.loc m, s1) := by
  unfold mkM; rw [if_pos hl, h]
  unfold gcR; dsimp only
  rw [if_neg]
  intro z
  have := of_decide_eq_true (show decide (m < st.length) = true from z.1)
  omega
/-! operators -/
section
variable {m : Bool} {i j : Int} {st : Store}
theorem bV_add : binV m .add (.int i) (.int j) st = .ok (.int (i + j), st) := rfl
theorem bV_sub : binV m .sub (.int i) (.int j) st = .ok (.int (i - j), st) := rfl
theorem bV_mul (h : mulOk i j = true) : binV m .mul (.int i) (.int j) st = .ok (.int (i * j), st) := by unfold binV; dsimp only; rw [if_pos h]
theorem bV_mod (h : 0 < j) : binV m .mod (.int i) (.int j) st = .ok (.int (i % j), st) := by unfold binV; dsimp only; rw [if_pos h]
theorem bV_fdiv (h : 0 < j) (h2 : j.natAbs.log2 < 9000) : binV m .fdiv (.int i) (.int j) st = .ok (.int (i / j), st) := by unfold binV; dsimp only; rw [if_pos ⟨h, h2⟩]
theorem bV_pow (h : 0 ≤ j) (h2 : j ≤ 1000000) (h3 : i.natAbs < 2 ^ 64) : binV m .pow (.int i) (.int j) st = .ok (.int (i ^ j.toNat), st) := by unfold binV; dsimp only; rw [if_pos ⟨h, h2, h3⟩]
theorem bV_fdivL (h : 0 < j) (h2 : j ≤ 1000000000000) : binV m .fdiv (.int i) (.int j) st = .ok (.int (i / j), st) := bV_fdiv h (by
  by_cases h0 : j.natAbs = 0
  · rw [h0]; simp
  · refine (Nat.log2_lt h0).mpr (Nat.lt_of_lt_of_le (show j.natAbs < 2 ^ 40 by omega) (Nat.pow_le_pow_right (by decide) (by decide))))
theorem bV_powL (h : 0 ≤ j) (h2 : j ≤ 1000000) (h3 : -1000000 ≤ i) (h4 : i ≤ 1000000) : binV m .pow (.int i) (.int j) st = .ok (.int (i ^ j.toNat), st) := bV_pow h h2 (by omega)
theorem bV_tup {xs ys : List Val} : binV m .add (.tup xs) (.tup ys) st = newT (xs ++ ys) st := rfl
theorem bV_cat {x y : Val} {xs ys : List Val} (h : lstOf st x = some xs) (h2 : lstOf st y = some ys) : binV m .add x y st = newL m (xs ++ ys) st := by
  unfold binV
  cases x <;> first | (cases h; done) | (dsimp only; rw [h, h2])
theorem bV_catl {xs ys : List Val} : binV m .add (.lst xs) (.lst ys) st = newL m (xs ++ ys) st := bV_cat rfl rfl
theorem le_sz {n : Nat} (h : n ≤ 100000) : (n ≤ szMax) = True := eq_true h
theorem lt_sz {n : Nat} (h : n < 100000) : (n < szMax) = True := eq_true h
/-- a bound on a number's bits -/
def bd (n : Nat) (z : Int) : Prop := z.natAbs < 2 ^ n
theorem bd_mul {n k : Nat} {a b : Int} (h : bd n a) (q : bd k b) : bd (n + k) (a * b) := by
  unfold bd at *; rw [Int.natAbs_mul, Nat.pow_add]
  exact Nat.mul_lt_mul'' h q
theorem bd_mono {n k : Nat} {a : Int} (h : bd n a) (q : n ≤ k) : bd k a := Nat.lt_of_lt_of_le h (Nat.pow_le_pow_right (by decide) q)
theorem bd_add {n : Nat} {a b : Int} (h : bd n a) (q : bd n b) : bd (n + 1) (a + b) := by unfold bd at *; rw [Nat.pow_succ]; omega
theorem bd_sub {n : Nat} {a b : Int} (h : bd n a) (q : bd n b) : bd (n + 1) (a - b) := by unfold bd at *; rw [Nat.pow_succ]; omega
theorem log2_of {n : Nat} {a : Int} (h : bd n a) : a.natAbs.log2 ≤ n := by
  unfold bd at h
  by_cases h0 : a.natAbs = 0
  · rw [h0]; simp
  · exact Nat.le_of_lt ((Nat.log2_lt h0).mpr h)
theorem mul_ok {n k : Nat} {i j : Int} (h : bd n i) (q : bd k j) (l : n + k < 100000000) : mulOk i j = true := by
  unfold mulOk; rw [decide_eq_true_eq]
  have := log2_of h; have := log2_of q; omega
theorem bd_0 {n : Nat} : bd n 0 := Nat.pow_pos (by decide)
theorem bd_lt {n : Nat} {z : Int} (h : -2 ^ n < z) (h2 : z < 2 ^ n) : bd n z := by
  unfold bd
  have : ((2 ^ n : Nat) : Int) = 2 ^ n := by simp
  omega
/-- the largest number of bits of a script's number -/
def bits : Nat := 1048576
end

/-! loops -/
/-- a walk that may return in its midst -/
inductive Out (β : Type) where | go (b : β) | ret (v : Val) (st : Store)
def foldO {α β : Type} (f : β → α → Out β) : β → List α → Out β
  | b, [] => .go b
  | b, x :: xs => match f b x with | .go b' => foldO f b' xs | r => r
theorem foldO_go {α β : Type} {f : β → α → Out β} {b b' : β} {x : α} {xs : List α} (h : f b x = .go b') : foldO f b (x :: xs) = foldO f b' xs := by simp only [foldO, h]
theorem foldO_ret {α β : Type} {f : β → α → Out β} {b : β} {x : α} {v : Val} {s : Store} {xs : List α} (h : f b x = .ret v s) : foldO f b (x :: xs) = .ret v s := by simp only [foldO, h]
def outS {β : Type} (E : β → Env) (Sg : β → Store) : Out β → RS | .go b => .next (E b) (Sg b) | .ret v st => .ret v st
@[simp] theorem outS_go {β : Type} {E : β → Env} {Sg : β → Store} {b : β} : outS E Sg (.go b) = .next (E b) (Sg b) := rfl
@[simp] theorem outS_ret {β : Type} {E : β → Env} {Sg : β → Store} {v : Val} {st : Store} : outS E Sg (.ret v st) = .ret v st := rfl
/-- the walked name behind a walk -/
def lastV {α : Type} (g : α → Val) : Option Val → List α → Option Val
  | o, [] => o
  | _, x :: xs => lastV g (some (g x)) xs
/-- E: the names, the walked one apart; g: the values walked -/
theorem forL_fold {α β : Type} {i : Nat} {body : Env → Store → RS} (g : α → Val) (E : β → Option Val → Env) (Sg : β → Store) (f : β → α → Out β) (hset : ∀ b o x, (E b o).set i (some x) = E b (some x))
    : ∀ (xs : List α), (∀ b x, x ∈ xs → body (E b (some (g x))) (Sg b) = outS (fun b' => E b' (some (g x))) Sg (f b x)) → ∀ (b : β) (o : Option Val),
      forL i body (xs.map g) (E b o) (Sg b) = outS (fun b' => E b' (lastV g o xs)) Sg (foldO f b xs)
  | [], _, b, o => rfl
  | x :: xs, h, b, o => by
    have hx := h b x (List.mem_cons_self ..)
    simp only [List.map_cons, forL, hset, hx, foldO]
    cases hf : f b x with
    | go b' => exact forL_fold g E Sg f hset xs (fun b x m => h b x (List.mem_cons_of_mem _ m)) b' (some (g x))
    | ret v st => rfl
/-- the same, with what has been walked: P is kept -/
theorem forL_foldP {α β : Type} {i : Nat} {body : Env → Store → RS} (g : α → Val) (E : β → Option Val → Env) (Sg : β → Store) (f : β → α → Out β) (P : β → List α → Prop) (hset : ∀ b o x, (E b o).set i (some x) = E b (some x))
    : ∀ (xs : List α), (∀ b x ys, P b (x :: ys) → body (E b (some (g x))) (Sg b) = outS (fun b' => E b' (some (g x))) Sg (f b x) ∧ ∀ b', f b x = .go b' → P b' ys) → ∀ (b : β) (o : Option Val), P b xs →
      forL i body (xs.map g) (E b o) (Sg b) = outS (fun b' => E b' (lastV g o xs)) Sg (foldO f b xs)
  | [], _, b, o, _ => rfl
  | x :: xs, h, b, o, p => by
    obtain ⟨hx, hp⟩ := h b x xs p
    simp only [List.map_cons, forL, hset, hx, foldO]
    cases hf : f b x with
    | go b' => exact forL_foldP g E Sg f P hset xs h b' (some (g x)) (hp b' hf)
    | ret v st => rfl
/-- the commonest: a test of each -/
theorem foldO_all {α : Type} {p : α → Bool} {v : Val} {st : Store} : ∀ (xs : List α), foldO (fun (_ : Unit) x => if p x then Out.go () else .ret v st) () xs = if xs.all p then .go () else .ret v st
  | [] => rfl
  | x :: xs => by
    by_cases h : p x = true
    · simp [foldO, h, foldO_all xs]
    · simp [foldO, h]
def rangeN (n : Nat) : List Val := (List.range n).map fun (k : Nat) => Val.int k
theorem rangeL_r (n : Nat) : rangeL 0 n = (List.range' 0 n).map fun (k : Nat) => Val.int k := by rw [← List.range_eq_range']; unfold rangeL; simp
theorem rangeL_0 (n : Nat) : rangeL 0 n = (List.range n).map fun (k : Nat) => Val.int k := by unfold rangeL; simp
theorem compL_pure {c : Env → Store → R (Bool × Store)} {e : Env → Store → RV} {x : Nat} {p : Val → Bool} {f : Val → Val} {env : Env} {st : Store} : ∀ {xs : List Val}, (∀ v, v ∈ xs → c (env.set x (some v)) st = .ok (p v, st)) → (∀ v, v ∈ xs → p v = true → e (env.set x (some v)) st = .ok (f v, st)) →
    compL c e x xs env st = .ok ((xs.filter p).map f, st)
  | [], _, _ => rfl
  | v :: vs, hc, he => by
    have ih := compL_pure (c := c) (e := e) (x := x) (env := env) (st := st) (xs := vs) (fun v m => hc v (List.mem_cons_of_mem _ m)) (fun v m => he v (List.mem_cons_of_mem _ m))
    have h1 := hc v (List.mem_cons_self ..)
    simp only [compL, h1, R.bind_ok]
    cases hp : p v with
    | true =>
      have h2 := he v (List.mem_cons_self ..) hp
      simp only [if_true, h2, R.bind_ok, ih, List.filter_cons, hp, List.map_cons]
    | false => simp only [Bool.false_eq_true, if_false, ih, List.filter_cons, hp]

/-! lists of integers -/
def vInts (ns : List Int) : List Val := ns.map .int
theorem asInts_vInts : ∀ ns : List Int, asInts (vInts ns) = some ns
  | [] => rfl
  | n :: ns => by show (asInts (vInts ns)).map _ = _; rw [asInts_vInts ns]; rfl
theorem closed_vInts (m : Nat) : ∀ ns : List Int, closedL m (vInts ns) = true
  | [] => rfl
  | n :: ns => by show (true && closedL m (vInts ns)) = true; rw [closed_vInts m ns]; rfl

/-! comparing -/
/-- can be compared, nested at most k deep -/
def sz (k : Nat) (v : Val) : Bool := (toPD v).canLay0 && decide ((toPD v).depth ≤ k)
theorem sz_mono {j k : Nat} (h : j ≤ k) {v : Val} (q : sz j v = true) : sz k v = true := by
  unfold sz at q ⊢
  rw [Bool.and_eq_true, decide_eq_true_eq] at q ⊢
  exact ⟨q.1, Nat.le_trans q.2 h⟩
theorem sz_all {k : Nat} : ∀ {xs : List Val}, (∀ x ∈ xs, sz k x = true) → PyData.canLayAll0 (toPDs xs) = true ∧ PyData.depthAll (toPDs xs) ≤ k
  | [], _ => ⟨rfl, Nat.zero_le _⟩
  | x :: xs, h => by
    have h1 := h x (List.mem_cons_self ..)
    obtain ⟨h2, h3⟩ := sz_all (k := k) (xs := xs) fun y m => h y (List.mem_cons_of_mem _ m)
    unfold sz at h1
    rw [Bool.and_eq_true, decide_eq_true_eq] at h1
    refine ⟨?_, ?_⟩
    · show ((toPD x).canLay0 && PyData.canLayAll0 (toPDs xs)) = true
      rw [h1.1, h2]; rfl
    · show max (toPD x).depth (PyData.depthAll (toPDs xs)) ≤ k
      exact Nat.max_le.mpr ⟨h1.2, h3⟩
theorem sz_lst {k : Nat} {xs : List Val} (h : ∀ x ∈ xs, sz k x = true) : sz (k + 1) (.lst xs) = true := by
  obtain ⟨h2, h3⟩ := sz_all h
  unfold sz
  rw [Bool.and_eq_true, decide_eq_true_eq]
  exact ⟨h2, Nat.succ_le_succ h3⟩
theorem sz_scr {k : Nat} {xs : List Val} (h : ∀ x ∈ xs, sz k x = true) : sz (k + 1) (.scr xs) = true := sz_lst h
theorem sz_tup {k : Nat} {xs : List Val} (h : ∀ x ∈ xs, sz k x = true) : sz (k + 1) (.tup xs) = true := by
  obtain ⟨h2, h3⟩ := sz_all h
  unfold sz
  rw [Bool.and_eq_true, decide_eq_true_eq]
  exact ⟨h2, Nat.succ_le_succ h3⟩
theorem sz_int {k : Nat} (i : Int) : sz k (.int i) = true := by
  unfold sz; rw [Bool.and_eq_true, decide_eq_true_eq]; exact ⟨rfl, Nat.zero_le _⟩
theorem sz_bl {k : Nat} (i : Bool) : sz k (.bl i) = true := by
  unfold sz; rw [Bool.and_eq_true, decide_eq_true_eq]; exact ⟨rfl, Nat.zero_le _⟩
theorem sz_non {k : Nat} : sz k .non = true := by
  unfold sz; rw [Bool.and_eq_true, decide_eq_true_eq]; exact ⟨rfl, Nat.zero_le _⟩
theorem sz_ints {k : Nat} (ns : List Int) : ∀ x ∈ vInts ns, sz k x = true := fun x hx => by
  unfold vInts at hx
  rw [List.mem_map] at hx
  obtain ⟨i, _, rfl⟩ := hx
  exact sz_int i
theorem shaped_sz {v : Val} (h : sz 64 v = true) : SeqAt.shaped (toPD v) = true := h
theorem cmpV_eq (x y : Val) (st : Store) : cmpV .eq x y st = if SeqAt.shaped (toPD x) && SeqAt.shaped (toPD y) then .ok (PyData.eqv (toPD x) (toPD y)) else .stuck := rfl
theorem cmpV_ne (x y : Val) (st : Store) : cmpV .ne x y st = if SeqAt.shaped (toPD x) && SeqAt.shaped (toPD y) then .ok (!PyData.eqv (toPD x) (toPD y)) else .stuck := rfl
theorem shaped_int (i : Int) : SeqAt.shaped (toPD (.int i)) = true := rfl
theorem shaped_bl (i : Bool) : SeqAt.shaped (toPD (.bl i)) = true := rfl
theorem eq_self {v : Val} (h : sz 64 v = true) (st : Store) : cmpV .eq v v st = .ok true := by
  simp only [cmpV_eq, shaped_sz h, SeqAt.eqv_refl _ (SeqAt.canLay_of_shaped h), Bool.and_self, if_true]
theorem ne_self {v : Val} (h : sz 64 v = true) (st : Store) : cmpV .ne v v st = .ok false := by
  simp only [cmpV_ne, shaped_sz h, SeqAt.eqv_refl _ (SeqAt.canLay_of_shaped h), Bool.and_self, if_true, Bool.not_true]
theorem veq_int (i j : Int) (st : Store) : cmpV .eq (.int i) (.int j) st = .ok (decide (i = j)) := by
  simp only [cmpV_eq, shaped_int, Bool.and_self, if_true]
  rfl
theorem vne_int (i j : Int) (st : Store) : cmpV .ne (.int i) (.int j) st = .ok (!decide (i = j)) := by
  simp only [cmpV_ne, shaped_int, Bool.and_self, if_true]
  rfl
theorem veq_bl (i j : Bool) (st : Store) : cmpV .eq (.bl i) (.bl j) st = .ok (i == j) := by
  simp only [cmpV_eq, shaped_bl, Bool.and_self, if_true]
  rfl

/-! for simp -/
section
variable {st : Store} {env : Env}
theorem cmp_lt (i j : Int) : cmpV .lt (.int i) (.int j) st = .ok (decide (i < j)) := rfl
theorem cmp_le (i j : Int) : cmpV .le (.int i) (.int j) st = .ok (decide (i ≤ j)) := rfl
theorem cmp_gt (i j : Int) : cmpV .gt (.int i) (.int j) st = .ok (decide (j < i)) := rfl
theorem cmp_ge (i j : Int) : cmpV .ge (.int i) (.int j) st = .ok (decide (j ≤ i)) := rfl
theorem cmp_is (x : Val) : cmpV .is_ x .non st = .ok (match x with | .non => true | _ => false) := rfl
theorem cmp_isnot (x : Val) : cmpV .isnot x .non st = .ok (match x with | .non => false | _ => true) := rfl
theorem cmp_isb (x : Val) (b : Bool) : cmpV .is_ x (.bl b) st = .ok (match x with | .bl a => a == b | _ => false) := rfl
theorem cmp_isnotb (x : Val) (b : Bool) : cmpV .isnot x (.bl b) st = .ok (match x with | .bl a => !(a == b) | _ => true) := rfl
theorem ite_andv (b x : Bool) : (if b = true then R.ok (Val.bl x, st) else R.ok (Val.bl false, st)) = R.ok (Val.bl (b && x), st) := by cases b <;> rfl
theorem ite_orv (b x : Bool) : (if b = false then R.ok (Val.bl x, st) else R.ok (Val.bl b, st)) = R.ok (Val.bl (b || x), st) := by cases b <;> rfl
theorem ite_andt (b x : Bool) : (if b = true then R.ok (Val.bl x, st) else R.ok (Val.bl b, st)) = R.ok (Val.bl (b && x), st) := by cases b <;> rfl
theorem ite_ort (b x : Bool) : (if b = false then R.ok (x, st) else R.ok (b, st)) = R.ok (b || x, st) := by cases b <;> rfl
theorem ite_andq (b x : Bool) : (if b = true then R.ok (x, st) else R.ok (b, st)) = R.ok (b && x, st) := by cases b <;> rfl
theorem truth_bl (b : Bool) : truth st (.bl b) = .ok b := rfl
theorem newL_f (xs : List Val) (h : xs.length ≤ szMax) : newL false xs st = .ok (.lst xs, st) := by unfold newL; rw [if_pos h]; rfl
theorem newL_t (xs : List Val) (h : xs.length ≤ szMax) : newL true xs st = .ok (.loc st.length, st ++ [.lst xs]) := by unfold newL; rw [if_pos h]; rfl
theorem newT_f (xs : List Val) (h : xs.length ≤ szMax) : newT xs st = .ok (.tup xs, st) := by unfold newT; rw [if_pos h]
theorem repl_0 {α : Type} (a : α) : List.replicate 0 a = [] := rfl
theorem repl_1 {α : Type} (a : α) : List.replicate 1 a = [a] := rfl
theorem repl_2 {α : Type} (a : α) : List.replicate 2 a = [a, a] := rfl
theorem repl_3 {α : Type} (a : α) : List.replicate 3 a = [a, a, a] := rfl
theorem repl_4 {α : Type} (a : α) : List.replicate 4 a = [a, a, a, a] := rfl
theorem repl_5 {α : Type} (a : α) : List.replicate 5 a = [a, a, a, a, a] := rfl
theorem repl_6 {α : Type} (a : α) : List.replicate 6 a = [a, a, a, a, a, a] := rfl
theorem repl_7 {α : Type} (a : α) : List.replicate 7 a = [a, a, a, a, a, a, a] := rfl
theorem repl_8 {α : Type} (a : α) : List.replicate 8 a = [a, a, a, a, a, a, a, a] := rfl
theorem seqOf_tup (xs : List Val) : seqOf st (.tup xs) = some (false, xs) := rfl
theorem seqOf_lst (xs : List Val) : seqOf st (.lst xs) = some (true, xs) := rfl
theorem seqOf_scr (xs : List Val) : seqOf st (.scr xs) = some (true, xs) := rfl
theorem len_tup (xs : List Val) : f1V .len (.tup xs) st = .ok (.int xs.length) := rfl
theorem len_lst (xs : List Val) : f1V .len (.lst xs) st = .ok (.int xs.length) := rfl
theorem len_scr (xs : List Val) : f1V .len (.scr xs) st = .ok (.int xs.length) := rfl
theorem int_int (i : Int) : f1V .int (.int i) st = .ok (.int i) := rfl
theorem bl_ne1 : (true = false) = False := by simp
theorem bl_ne2 : (false = true) = False := by simp
theorem noExn_ok {α : Type} (a : α) : noExn (R.ok a) = R.ok a := rfl
theorem rs_go {α : Type} (f : Env → Store → RS) : (RS.next env st).bind f = f env st := rfl
theorem rs_ret (v : Val) : (match RS.ret v st with | .next _ st' => R.ok (Val.non, st') | .ret v st' => .ok (v, st') | .exn c fs _ st' => .exn c fs st' | _ => .stuck) = R.ok (v, st) := rfl
theorem rs_next : (match RS.next env st with | .next _ st' => R.ok (Val.non, st') | .ret v st' => .ok (v, st') | .exn c fs _ st' => .exn c fs st' | _ => .stuck) = R.ok (Val.non, st) := rfl
theorem atI_n {α : Type} {xs : List α} {i : Nat} {x : α} (h : xs[i]? = some x) : atI xs (i : Int) = some x := by
  obtain ⟨hi, _⟩ := List.getElem?_eq_some_iff.mp h
  unfold atI ixN
  rw [if_pos (by omega), if_pos (by omega)]
  simpa using h
theorem closedL_mem {m : Nat} : ∀ {xs : List Val}, closedL m xs = true → ∀ x ∈ xs, closed m x = true
  | [], _, x, hx => by cases hx
  | y :: ys, h, x, hx => by
    have h' : (closed m y && closedL m ys) = true := h
    rw [Bool.and_eq_true] at h'
    rcases List.mem_cons.mp hx with rfl | hx
    · exact h'.1
    · exact closedL_mem h'.2 x hx
theorem drop_cons {α : Type} {xs : List α} {j : Nat} {x : α} {ys : List α} (h : xs.drop j = x :: ys) : xs[j]? = some x ∧ ys = xs.drop (j + 1) := by
  have hj : j < xs.length := by
    cases Nat.lt_or_ge j xs.length with
    | inl h' => exact h'
    | inr h' => rw [List.drop_eq_nil_of_le h'] at h; cases h
  rw [List.drop_eq_getElem_cons hj] at h
  cases h
  exact ⟨List.getElem?_eq_getElem hj, rfl⟩
theorem range_drop {n j x : Nat} {ys : List Nat} (h : (List.range n).drop j = x :: ys) : x = j ∧ j < n ∧ ys = (List.range n).drop (j + 1) := by
  obtain ⟨h1, h2⟩ := drop_cons h
  obtain ⟨h3, h4⟩ := List.getElem?_eq_some_iff.mp h1
  rw [List.getElem_range] at h4
  rw [List.length_range] at h3
  exact ⟨h4.symm, h3, h2⟩
theorem fdl (j : Int) (h : decide (j.natAbs.log2 < 9000) = true := by decide) : (j.natAbs.log2 < 9000) = True := eq_true (of_decide_eq_true h)
/-! the last cell of a store -/
theorem st_get (c : Cell) : (st ++ [c])[st.length]? = some c := by simp
theorem st_set (c d : Cell) : (st ++ [c]).set st.length d = st ++ [d] := by simp
theorem cell_is (xs : List Val) : isCell (st ++ [.lst xs]) (.loc st.length) = true := by unfold isCell; simp
theorem cell_app (xs : List Val) (y : Val) (h : xs.length < szMax) : vApp (.loc st.length) y (st ++ [.lst xs]) = .ok (.non, st ++ [.lst (xs ++ [y])]) := by
  unfold vApp; simp only [st_get, if_pos h, st_set]
theorem cell_frz (xs : List Val) : vFrz (.loc st.length) (st ++ [.lst xs]) = .ok (.lst xs, st ++ [.frz xs]) := by
  unfold vFrz; simp only [st_get, st_set]
theorem cell_seq (xs : List Val) : seqOf (st ++ [.lst xs]) (.loc st.length) = some (true, xs) := by
  unfold seqOf; simp only [st_get]
theorem cell_lst (xs : List Val) : lstOf (st ++ [.lst xs]) (.loc st.length) = some xs := by
  unfold lstOf; simp only [st_get]
theorem cell_len (xs : List Val) : f1V .len (.loc st.length) (st ++ [.lst xs]) = .ok (.int xs.length) := by
  show (match seqOf (st ++ [.lst xs]) (.loc st.length) with | some (_, xs) => R.ok (Val.int xs.length) | none => .stuck) = _
  rw [cell_seq]
theorem cell_sto (xs : List Val) (k : Nat) (y : Val) (h : k < xs.length) : vSto (.loc st.length) (.int k) y (st ++ [.lst xs]) = .ok (st ++ [.lst (xs.set k y)]) := by
  unfold vSto
  have : ixN xs.length (k : Int) = some k := by
    unfold ixN; rw [if_pos (by omega), if_pos (by omega)]; simp
  simp only [st_get, this, st_set]
theorem vInts_get {ns : List Int} {k : Nat} {i : Int} (h : ns[k]? = some i) : (vInts ns)[k]? = some (.int i) := by unfold vInts; rw [List.getElem?_map, h]; rfl
theorem vInts_len (ns : List Int) : (vInts ns).length = ns.length := by unfold vInts; simp
theorem sortS_len (ns : List Int) : (sortS ns).length ≤ ns.length := by
  have ins : ∀ (k : Int) (l : List Int), (insS k l).length ≤ l.length + 1 := fun k l => by
    induction l with
    | nil => exact Nat.le_refl _
    | cons x xs ih =>
      unfold insS
      split
      · simp
      · split
        · simp
        · simp; omega
  induction ns with
  | nil => exact Nat.le_refl _
  | cons x xs ih =>
    have := ins x (sortS xs)
    show (insS x (sortS xs)).length ≤ xs.length + 1
    omega
theorem vInts_app (a b : List Int) : vInts a ++ vInts b = vInts (a ++ b) := by unfold vInts; rw [List.map_append]
theorem small {n : Nat} (h : n < 64) : n ≤ szMax := by unfold szMax; omega
theorem sset_of {v : Val} {ns : List Int} (h : seqOf st v = some (true, vInts ns)) (hn : ns.length < 64) : g1V false .sortset v st = .ok (.lst (vInts (sortS ns)), st) := by
  have hz : (vInts (sortS ns)).length ≤ szMax := by have := sortS_len ns; rw [vInts_len]; exact small (by omega)
  show (match seqOf st v with | some (true, xs) => (match asInts xs with | some ns => if ns.length < 64 then newL false ((sortS ns).map .int) st else .stuck | none => .stuck) | _ => .stuck) = _
  rw [h]
  simp only [asInts_vInts, hn, if_true]
  exact newL_f _ hz
theorem sset_l {ns : List Int} (hn : ns.length < 64) : g1V false .sortset (.lst (vInts ns)) st = .ok (.lst (vInts (sortS ns)), st) := sset_of rfl hn
theorem glist_of {v : Val} {k : Bool} {xs : List Val} (h : seqOf st v = some (k, xs)) (hn : xs.length ≤ szMax) : g1V false .list v st = .ok (.lst xs, st) := by
  show (match seqOf st v with | some (_, xs) => newL false xs st | none => .stuck) = _
  rw [h]; exact newL_f _ hn
theorem glist_m {v : Val} {k : Bool} {xs : List Val} (h : seqOf st v = some (k, xs)) (hn : xs.length ≤ szMax) : g1V true .list v st = .ok (.loc st.length, st ++ [.lst xs]) := by
  show (match seqOf st v with | some (_, xs) => newL true xs st | none => .stuck) = _
  rw [h]; exact newL_t _ hn
theorem gtup_of {m : Bool} {v : Val} {k : Bool} {xs : List Val} (h : seqOf st v = some (k, xs)) (hn : xs.length ≤ szMax) : g1V m .tuple v st = .ok (.tup xs, st) := by
  show (match seqOf st v with | some (_, xs) => newT xs st | none => .stuck) = _
  rw [h]; exact newT_f _ hn
theorem lstOf_lst (xs : List Val) : lstOf st (.lst xs) = some xs := rfl
theorem mm_int (k : Bool) (i j : Int) : mmV k (.int i) (.int j) = .ok (.int (if k then (if j > i then j else i) else (if j < i then j else i))) := rfl
theorem foldO_go' {α : Type} : ∀ l : List α, foldO (fun (_ : Unit) (_ : α) => Out.go ()) () l = .go ()
  | [] => rfl
  | x :: xs => foldO_go' xs
end
/-! objects in cells -/
def oFld (c f : Str) : Option Cell → R Val
  | some (.obj d ns xs) => if c = d then (match (ns.zip xs).lookup f with | some v => .ok v | none => .stuck) else .stuck
  | some (.fob d ns xs) => if c = d then (match (ns.zip xs).lookup f with | some v => .ok v | none => .stuck) else .stuck
  | _ => .stuck
theorem l_fld {c f : Str} {n : Nat} {s : Store} : vFld c f (.loc n) s = oFld c f s[n]? := by
  show (match s[n]? with | some (.obj d ns xs) => _ | some (.fob d ns xs) => _ | _ => _) = _
  unfold oFld; rfl
def oStf (c f : Str) (n : Nat) (y : Val) (st : Store) : Option Cell → R Store
  | some (.obj d ns xs) => if c = d ∧ ns.length = xs.length ∧ ns.length < 100 then (match ixF f ns with
      | some i => .ok (st.set n (.obj c ns (xs.set i y)))
      | none => .ok (st.set n (.obj c (ns ++ [f]) (xs ++ [y])))) else .stuck
  | _ => .stuck
theorem l_stf {c f : Str} {n : Nat} {y : Val} {s : Store} : vStf c f (.loc n) y s = oStf c f n y s s[n]? := by
  show (match s[n]? with | some (.obj d ns xs) => _ | _ => _) = _
  unfold oStf; rfl
def oObj (c m : Str) : Option Cell → Bool
  | some (.obj d ns _) => decide (c = d) && !ns.contains m
  | some (.fob d ns _) => decide (c = d) && !ns.contains m
  | _ => false
theorem l_obj {c m : Str} {n : Nat} {s : Store} : isObj c m s (.loc n) = oObj c m s[n]? := by
  show (match s[n]? with | some (.obj d ns xs) => _ | some (.fob d ns xs) => _ | _ => _) = _
  unfold oObj; rfl
theorem seqN_of {is : List Nat} {v : Val} {env : Env} {st : Store} {k : Bool} {xs : List Val} (h : seqOf st v = some (k, xs)) (hl : xs.length = is.length) : seqN is v env st = some (setN is xs env) := by
  unfold seqN; rw [h]; dsimp only; rw [if_pos hl]
theorem setN_c {i : Nat} {is : List Nat} {v : Val} {vs : List Val} {env : Env} : setN (i :: is) (v :: vs) env = setN is vs (env.set i (some v)) := rfl
theorem setN_n {vs : List Val} {env : Env} : setN [] vs env = env := by cases vs <;> rfl
end MP
/-! MiniPy: the meaning as rewriting rules, one step each. -/
namespace MP
open PySem L2
section
variable (Φ : Tab) (G : Str → Option Val)
noncomputable def kVar (st : Store) : Option (Option Val) → RV | some (some v) => .ok (v, st) | _ => .stuck
noncomputable def kTr (p : Val × Store) : R (Bool × Store) := (truth p.2 p.1).bind fun b => .ok (b, p.2)
noncomputable def kTr2 (s : Store) (b : Bool) : R (Bool × Store) := .ok (b, s)
noncomputable def kI1 (p : Val × Store) : R (List Val × Store) := match p.1 with | .tup xs => .ok (xs, p.2) | .lst xs => .ok (xs, p.2) | .scr xs => .ok (xs, p.2) | _ => .stuck
noncomputable def kGl (st : Store) : Option Val → RV | some v => .ok (v, st) | none => .stuck
noncomputable def kTup (p : List Val × Store) : RV := newT p.1 p.2
noncomputable def kLst (m : Bool) (p : List Val × Store) : RV := newL m p.1 p.2
noncomputable def kBin2 (m : Bool) (op : BOp) (x : Val) (q : Val × Store) : RV := binV m op x q.1 q.2
noncomputable def kBin (m : Bool) (op : BOp) (b : E) (env : Env) (p : Val × Store) : RV := ((ev Φ G b).v env p.2).bind (kBin2 m op p.1)
noncomputable def kNeg (p : Val × Store) : RV := match p.1 with | .int i => .ok (.int (-i), p.2) | _ => .stuck
noncomputable def kNot (p : Val × Store) : RV := match p.1 with | .bl b => .ok (.bl (!b), p.2) | _ => .stuck
noncomputable def kNotT (p : Bool × Store) : R (Bool × Store) := .ok (!p.1, p.2)
noncomputable def kB (s : Store) (k : Bool) : RV := .ok (.bl k, s)
noncomputable def kVl (s : Store) (k : Val) : RV := .ok (k, s)
noncomputable def kCmp2 (op : COp) (x : Val) (q : Val × Store) : RV := (cmpV op x q.1 q.2).bind (kB q.2)
noncomputable def kCmp (op : COp) (b : E) (env : Env) (p : Val × Store) : RV := ((ev Φ G b).v env p.2).bind (kCmp2 op p.1)
noncomputable def kCh3 (op' : COp) (y : Val) (r : Val × Store) : RV := (cmpV op' y r.1 r.2).bind (kB r.2)
noncomputable def kCh2 (op op' : COp) (c : E) (env : Env) (x : Val) (q : Val × Store) : RV := (cmpV op x q.1 q.2).bind fun k => if k then ((ev Φ G c).v env q.2).bind (kCh3 op' q.1) else .ok (.bl false, q.2)
noncomputable def kCh2b (op' : COp) (c : E) (env : Env) (y : Val) (s : Store) (k : Bool) : RV := if k then ((ev Φ G c).v env s).bind (kCh3 op' y) else .ok (.bl false, s)
noncomputable def kCh (op op' : COp) (b c : E) (env : Env) (p : Val × Store) : RV := ((ev Φ G b).v env p.2).bind (kCh2 Φ G op op' c env p.1)
noncomputable def kIfx (a b : E) (env : Env) (p : Bool × Store) : RV := if p.1 then (ev Φ G a).v env p.2 else (ev Φ G b).v env p.2
noncomputable def kCall (f : Str) (p : List Val × Store) : RV := match Φ f with | some m => m p.1 p.2 | none => .stuck
noncomputable def kCal (o : Option Mir) (p : List Val × Store) : RV := match o with | some m => m p.1 p.2 | none => .stuck
noncomputable def kIsi (t : Ty) (p : Val × Store) : RV := match isTy p.2 t p.1 with | some b => .ok (.bl b, p.2) | none => .stuck
noncomputable def kIsi2 (t u : Ty) (p : Val × Store) : RV := match isTy p.2 t p.1, isTy p.2 u p.1 with | some b, some b' => .ok (.bl (b || b'), p.2) | _, _ => .stuck
noncomputable def kF1 (f : F1) (p : Val × Store) : RV := (f1V f p.1 p.2).bind fun y => .ok (y, p.2)
noncomputable def kMm2 (k : Bool) (x : Val) (q : Val × Store) : RV := (mmV k x q.1).bind (kVl q.2)
noncomputable def kMm (k : Bool) (b : E) (env : Env) (p : Val × Store) : RV := ((ev Φ G b).v env p.2).bind (kMm2 k p.1)
noncomputable def kG1 (m : Bool) (f : G1) (p : Val × Store) : RV := g1V m f p.1 p.2
noncomputable def kSub2 (x : Val) (q : Val × Store) : RV := (ixV q.2 x q.1).bind (kVl q.2)
noncomputable def kSub (i : E) (env : Env) (p : Val × Store) : RV := ((ev Φ G i).v env p.2).bind (kSub2 p.1)
noncomputable def kSl3 (m : Bool) (x : Val) (l' : Option Int) (n : Bool) (r : Val × Store) : RV := (partV n r.1).bind fun h' => slcV m r.2 x l' h'
noncomputable def kSl3b (m : Bool) (s : Store) (x : Val) (l' h' : Option Int) : RV := slcV m s x l' h'
noncomputable def kSl2b (m : Bool) (hi : E) (env : Env) (x : Val) (s : Store) (l' : Option Int) : RV := ((ev Φ G hi).v env s).bind (kSl3 m x l' (isNo hi))
noncomputable def kSl2 (m : Bool) (n : Bool) (hi : E) (env : Env) (x : Val) (q : Val × Store) : RV := (partV n q.1).bind (kSl2b Φ G m hi env x q.2)
noncomputable def kSl (m : Bool) (lo hi : E) (env : Env) (p : Val × Store) : RV := ((ev Φ G lo).v env p.2).bind (kSl2 Φ G m (isNo lo) hi env p.1)
noncomputable def kRng (p : List Val × Store) : R (List Val × Store) := (rngV p.1).bind fun xs => .ok (xs, p.2)
noncomputable def kRng2 (s : Store) (xs : List Val) : R (List Val × Store) := .ok (xs, s)
noncomputable def kComp (m : Bool) (x : Nat) (c elt : E) (env : Env) (p : List Val × Store) : RV := if p.1.length ≤ szMax then ((compL (ev Φ G c).t (ev Φ G elt).v x p.1 env p.2).bind (kLst m)) else .stuck
noncomputable def kCompt (m : Bool) (is : List Nat) (c elt : E) (env : Env) (p : List Val × Store) : RV := if p.1.length ≤ szMax then ((compT (ev Φ G c).t (ev Φ G elt).v is p.1 env p.2).bind (kLst m)) else .stuck
noncomputable def kCompc2 (m : Bool) (t : Tg) (c elt : E) (env : Env) (p : Val × Store) : Option (Bool × List Val) → RV | some q => if q.2.length ≤ szMax then ((compC (ev Φ G c).t (ev Φ G elt).v t p.1 q q.2 env p.2).bind (kLst m)) else .stuck | none => .stuck
noncomputable def kCompc (m : Bool) (t : Tg) (c elt : E) (env : Env) (p : Val × Store) : RV := kCompc2 Φ G m t c elt env p (seqOf p.2 p.1)
noncomputable def kFrz (p : Val × Store) : RV := vFrz p.1 p.2
noncomputable def kApp2 (x : Val) (q : Val × Store) : RV := vApp x q.1 q.2
noncomputable def kApp (a : E) (env : Env) (p : Val × Store) : RV := if isCell p.2 p.1 then ((ev Φ G a).v env p.2).bind (kApp2 p.1) else .stuck
noncomputable def kEs2 (x : Val) (q : List Val × Store) : R (List Val × Store) := .ok (x :: q.1, q.2)
noncomputable def kEs (r : Es) (env : Env) (p : Val × Store) : R (List Val × Store) := (evs Φ G r env p.2).bind (kEs2 p.1)
noncomputable def kBo (k : Bool) (r : Es) (env : Env) (p : Val × Store) : RV := match p.1 with | .bl b => if b = k then evBo Φ G k r env p.2 else .ok (.bl b, p.2) | _ => .stuck
noncomputable def kBoT (k : Bool) (r : Es) (env : Env) (p : Bool × Store) : R (Bool × Store) := if p.1 = k then evBoT Φ G k r env p.2 else .ok (p.1, p.2)
noncomputable def kAsg (env : Env) (i : Nat) (p : Val × Store) : RS := .next (env.set i (some p.1)) p.2
noncomputable def kExp (env : Env) (p : Val × Store) : RS := .next env p.2
noncomputable def kIte (a b : Ss) (env : Env) (p : Bool × Store) : RS := if p.1 then evSs Φ G a env p.2 else evSs Φ G b env p.2
noncomputable def kFor (i : Nat) (body : Ss) (env : Env) (p : List Val × Store) : RS := forL i (evSs Φ G body) p.1 env p.2
noncomputable def kRet (p : Val × Store) : RS := .ret p.1 p.2
noncomputable def kSto4 (env : Env) (st' : Store) : RS := .next env st'
noncomputable def kSto3 (env : Env) (x y : Val) (r : Val × Store) : RS := (vSto y r.1 x r.2).st env (kSto4 env)
noncomputable def kSto2 (i : E) (env : Env) (x : Val) (q : Val × Store) : RS := ((ev Φ G i).v env q.2).st env (kSto3 env x q.1)
noncomputable def kSto (o i : E) (env : Env) (p : Val × Store) : RS := ((ev Φ G o).v env p.2).st env (kSto2 Φ G i env p.1)
noncomputable def kRun : RS → RV | .next _ st' => .ok (.non, st') | .ret v st' => .ok (v, st') | .exn c fs _ st' => .exn c fs st' | _ => .stuck
noncomputable def kRaise (c : Str) (env : Env) (p : List Val × Store) : RS := .exn c p.1 env p.2
noncomputable def kTry (hs : Hs) : RS → RS | .exn c fs env' st' => evHs Φ G hs c fs env' st' | r => r
noncomputable def kFldO (c f : Str) (p : Val × Store) : RV := (vFld c f p.1 p.2).bind (kVl p.2)
noncomputable def kNew2 (n : Nat) (q : Val × Store) : RV := match q.1 with | .non => .ok (.loc n, q.2) | _ => .stuck
noncomputable def kNew (c : Str) (o : Option Mir) (p : List Val × Store) : RV := match o with | some m => (m (.loc p.2.length :: p.1) (p.2 ++ [Cell.obj c [] []])).bind (kNew2 p.2.length) | none => .stuck
noncomputable def kMeth2 (o : Option Mir) (x : Val) (q : List Val × Store) : RV := match o with | some f => f (x :: q.1) q.2 | none => .stuck
noncomputable def kMeth (c m : Str) (o : Option Mir) (es : Es) (env : Env) (p : Val × Store) : RV := if isObj c m p.2 p.1 then (evs Φ G es env p.2).bind (kMeth2 o p.1) else .stuck
noncomputable def kStf2 (c f : Str) (env : Env) (x : Val) (q : Val × Store) : RS := (vStf c f q.1 x q.2).st env (kSto4 env)
noncomputable def kStf (c f : Str) (o : E) (env : Env) (p : Val × Store) : RS := ((ev Φ G o).v env p.2).st env (kStf2 c f env p.1)
noncomputable def kAsgt3 (st : Store) : Option Env → RS | some e => .next e st | none => .stuck
noncomputable def kAsgt (is : List Nat) (env : Env) (p : Val × Store) : RS := kAsgt3 p.2 (seqN is p.1 env p.2)
noncomputable def kForc2 (t : Tg) (body : Ss) (env : Env) (p : Val × Store) : Option (Bool × List Val) → RS | some q => forC t (evSs Φ G body) p.1 q q.2 env p.2 | none => .stuck
noncomputable def kForc (t : Tg) (body : Ss) (env : Env) (p : Val × Store) : RS := kForc2 Φ G t body env p (seqOf p.2 p.1)
noncomputable def kFort (is : List Nat) (body : Ss) (env : Env) (p : List Val × Store) : RS := forT is (evSs Φ G body) p.1 env p.2
noncomputable def kFl2 (st : Store) : Option Val → RV | some v => .ok (v, st) | none => .stuck
noncomputable def kFld (j : Nat) (st : Store) : Option (Option Val) → RV | some (some (.tup fs)) => kFl2 st fs[j]? | _ => .stuck
noncomputable def kIs (ys : List (Str × List Str)) (st : Store) : Option (Option Val) → RV | some (some (.str c)) => .ok (.bl (ys.any fun p => p.2.contains c), st) | _ => .stuck
variable {env : Env} {st s : Store} {a b c o elt it lo hi : E} {es r : Es} {i k x y z : Nat}
theorem v_var : (ev Φ G (.var i)).v env st = kVar st env[i]? := by show vVar i env st = _; unfold vVar kVar; rfl
theorem t_var : (ev Φ G (.var i)).t env st = ((ev Φ G (.var i)).v env st).bind kTr := rfl
theorem i_var : (ev Φ G (.var i)).i env st = ((ev Φ G (.var i)).v env st).bind kI1 := rfl
theorem v_int {j : Int} : (ev Φ G (.int j)).v env st = .ok (.int j, st) := rfl
theorem t_int {j : Int} : (ev Φ G (.int j)).t env st = ((ev Φ G (.int j)).v env st).bind kTr := rfl
theorem i_int {j : Int} : (ev Φ G (.int j)).i env st = ((ev Φ G (.int j)).v env st).bind kI1 := rfl
theorem v_bl {j : Bool} : (ev Φ G (.bl j)).v env st = .ok (.bl j, st) := rfl
theorem t_bl {j : Bool} : (ev Φ G (.bl j)).t env st = ((ev Φ G (.bl j)).v env st).bind kTr := rfl
theorem i_bl {j : Bool} : (ev Φ G (.bl j)).i env st = ((ev Φ G (.bl j)).v env st).bind kI1 := rfl
theorem v_non  : (ev Φ G (.non)).v env st = .ok (.non, st) := rfl
theorem t_non  : (ev Φ G (.non)).t env st = ((ev Φ G (.non)).v env st).bind kTr := rfl
theorem i_non  : (ev Φ G (.non)).i env st = ((ev Φ G (.non)).v env st).bind kI1 := rfl
theorem v_str {j : Str} : (ev Φ G (.str j)).v env st = .ok (.str j, st) := rfl
theorem t_str {j : Str} : (ev Φ G (.str j)).t env st = ((ev Φ G (.str j)).v env st).bind kTr := rfl
theorem i_str {j : Str} : (ev Φ G (.str j)).i env st = ((ev Φ G (.str j)).v env st).bind kI1 := rfl
theorem v_glob {j : Str} : (ev Φ G (.glob j)).v env st = kGl st (G j) := by show (match G j with | some v => R.ok (v, st) | none => .stuck) = _; unfold kGl; rfl
theorem t_glob {j : Str} : (ev Φ G (.glob j)).t env st = ((ev Φ G (.glob j)).v env st).bind kTr := rfl
theorem i_glob {j : Str} : (ev Φ G (.glob j)).i env st = ((ev Φ G (.glob j)).v env st).bind kI1 := rfl
theorem v_tup  : (ev Φ G (.tup es)).v env st = (evs Φ G es env st).bind kTup := rfl
theorem t_tup  : (ev Φ G (.tup es)).t env st = ((ev Φ G (.tup es)).v env st).bind kTr := rfl
theorem i_tup  : (ev Φ G (.tup es)).i env st = ((ev Φ G (.tup es)).v env st).bind kI1 := rfl
theorem v_lst {m : Bool} : (ev Φ G (.lst m es)).v env st = (evs Φ G es env st).bind (kLst m) := rfl
theorem t_lst {m : Bool} : (ev Φ G (.lst m es)).t env st = ((ev Φ G (.lst m es)).v env st).bind kTr := rfl
theorem i_lst {m : Bool} : (ev Φ G (.lst m es)).i env st = ((ev Φ G (.lst m es)).v env st).bind kI1 := rfl
theorem v_bin {m : Bool} {op : BOp} : (ev Φ G (.bin m op a b)).v env st = ((ev Φ G a).v env st).bind (kBin Φ G m op b env) := rfl
theorem t_bin {m : Bool} {op : BOp} : (ev Φ G (.bin m op a b)).t env st = ((ev Φ G (.bin m op a b)).v env st).bind kTr := rfl
theorem i_bin {m : Bool} {op : BOp} : (ev Φ G (.bin m op a b)).i env st = ((ev Φ G (.bin m op a b)).v env st).bind kI1 := rfl
theorem v_neg  : (ev Φ G (.neg a)).v env st = ((ev Φ G a).v env st).bind kNeg := rfl
theorem t_neg  : (ev Φ G (.neg a)).t env st = ((ev Φ G (.neg a)).v env st).bind kTr := rfl
theorem i_neg  : (ev Φ G (.neg a)).i env st = ((ev Φ G (.neg a)).v env st).bind kI1 := rfl
theorem v_not : (ev Φ G (.not a)).v env st = ((ev Φ G a).v env st).bind kNot := rfl
theorem t_not : (ev Φ G (.not a)).t env st = ((ev Φ G a).t env st).bind kNotT := rfl
theorem v_cmp {op : COp} : (ev Φ G (.cmp op a b)).v env st = ((ev Φ G a).v env st).bind (kCmp Φ G op b env) := rfl
theorem t_cmp {op : COp} : (ev Φ G (.cmp op a b)).t env st = ((ev Φ G (.cmp op a b)).v env st).bind kTr := rfl
theorem i_cmp {op : COp} : (ev Φ G (.cmp op a b)).i env st = ((ev Φ G (.cmp op a b)).v env st).bind kI1 := rfl
theorem v_chain {op op' : COp} : (ev Φ G (.chain op op' a b c)).v env st = ((ev Φ G a).v env st).bind (kCh Φ G op op' b c env) := rfl
theorem t_chain {op op' : COp} : (ev Φ G (.chain op op' a b c)).t env st = ((ev Φ G (.chain op op' a b c)).v env st).bind kTr := rfl
theorem i_chain {op op' : COp} : (ev Φ G (.chain op op' a b c)).i env st = ((ev Φ G (.chain op op' a b c)).v env st).bind kI1 := rfl
theorem v_bo {k : Bool} : (ev Φ G (.bo k es)).v env st = evBo Φ G k es env st := rfl
theorem t_bo {k : Bool} : (ev Φ G (.bo k es)).t env st = evBoT Φ G k es env st := rfl
theorem v_ifx : (ev Φ G (.ifx c a b)).v env st = ((ev Φ G c).t env st).bind (kIfx Φ G a b env) := rfl
theorem i_ifx : (ev Φ G (.ifx c a b)).i env st = ((ev Φ G (.ifx c a b)).v env st).bind kI1 := rfl
theorem v_call {f : Str} : (ev Φ G (.call f es)).v env st = (evs Φ G es env st).bind (kCall Φ f) := rfl
theorem t_call {f : Str} : (ev Φ G (.call f es)).t env st = ((ev Φ G (.call f es)).v env st).bind kTr := rfl
theorem i_call {f : Str} : (ev Φ G (.call f es)).i env st = ((ev Φ G (.call f es)).v env st).bind kI1 := rfl
theorem v_isi {t : Ty} : (ev Φ G (.isi a t)).v env st = ((ev Φ G a).v env st).bind (kIsi t) := rfl
theorem t_isi {t : Ty} : (ev Φ G (.isi a t)).t env st = ((ev Φ G (.isi a t)).v env st).bind kTr := rfl
theorem i_isi {t : Ty} : (ev Φ G (.isi a t)).i env st = ((ev Φ G (.isi a t)).v env st).bind kI1 := rfl
theorem v_isi2 {t u : Ty} : (ev Φ G (.isi2 a t u)).v env st = ((ev Φ G a).v env st).bind (kIsi2 t u) := rfl
theorem t_isi2 {t u : Ty} : (ev Φ G (.isi2 a t u)).t env st = ((ev Φ G (.isi2 a t u)).v env st).bind kTr := rfl
theorem i_isi2 {t u : Ty} : (ev Φ G (.isi2 a t u)).i env st = ((ev Φ G (.isi2 a t u)).v env st).bind kI1 := rfl
theorem v_f1 {f : F1} : (ev Φ G (.f1 f a)).v env st = ((ev Φ G a).v env st).bind (kF1 f) := rfl
theorem t_f1 {f : F1} : (ev Φ G (.f1 f a)).t env st = ((ev Φ G (.f1 f a)).v env st).bind kTr := rfl
theorem i_f1 {f : F1} : (ev Φ G (.f1 f a)).i env st = ((ev Φ G (.f1 f a)).v env st).bind kI1 := rfl
theorem v_mm {k : Bool} : (ev Φ G (.mm k a b)).v env st = ((ev Φ G a).v env st).bind (kMm Φ G k b env) := rfl
theorem t_mm {k : Bool} : (ev Φ G (.mm k a b)).t env st = ((ev Φ G (.mm k a b)).v env st).bind kTr := rfl
theorem i_mm {k : Bool} : (ev Φ G (.mm k a b)).i env st = ((ev Φ G (.mm k a b)).v env st).bind kI1 := rfl
theorem v_g1 {m : Bool} {f : G1} : (ev Φ G (.g1 m f a)).v env st = ((ev Φ G a).v env st).bind (kG1 m f) := rfl
theorem t_g1 {m : Bool} {f : G1} : (ev Φ G (.g1 m f a)).t env st = ((ev Φ G (.g1 m f a)).v env st).bind kTr := rfl
theorem i_g1 {m : Bool} {f : G1} : (ev Φ G (.g1 m f a)).i env st = ((ev Φ G (.g1 m f a)).v env st).bind kI1 := rfl
theorem v_sub  : (ev Φ G (.sub a b)).v env st = ((ev Φ G a).v env st).bind (kSub Φ G b env) := rfl
theorem t_sub  : (ev Φ G (.sub a b)).t env st = ((ev Φ G (.sub a b)).v env st).bind kTr := rfl
theorem i_sub  : (ev Φ G (.sub a b)).i env st = ((ev Φ G (.sub a b)).v env st).bind kI1 := rfl
theorem v_slc {m : Bool} : (ev Φ G (.slc m a lo hi)).v env st = ((ev Φ G a).v env st).bind (kSl Φ G m lo hi env) := rfl
theorem t_slc {m : Bool} : (ev Φ G (.slc m a lo hi)).t env st = ((ev Φ G (.slc m a lo hi)).v env st).bind kTr := rfl
theorem i_slc {m : Bool} : (ev Φ G (.slc m a lo hi)).i env st = ((ev Φ G (.slc m a lo hi)).v env st).bind kI1 := rfl
theorem v_no : (ev Φ G .no).v env st = .ok (.non, st) := rfl
theorem t_no : (ev Φ G .no).t env st = .ok (true, st) := rfl
theorem i_rng : (ev Φ G (.rng es)).i env st = (evs Φ G es env st).bind kRng := rfl
theorem v_compt {m : Bool} {is : List Nat} : (ev Φ G (.compt m is it c elt)).v env st = ((ev Φ G it).i env st).bind (kCompt Φ G m is c elt env) := rfl
theorem t_compt {m : Bool} {is : List Nat} : (ev Φ G (.compt m is it c elt)).t env st = ((ev Φ G (.compt m is it c elt)).v env st).bind kTr := rfl
theorem i_compt {m : Bool} {is : List Nat} : (ev Φ G (.compt m is it c elt)).i env st = ((ev Φ G (.compt m is it c elt)).v env st).bind kI1 := rfl
theorem v_compc {m : Bool} {t : Tg} : (ev Φ G (.compc m t a c elt)).v env st = ((ev Φ G a).v env st).bind (kCompc Φ G m t c elt env) := rfl
theorem t_compc {m : Bool} {t : Tg} : (ev Φ G (.compc m t a c elt)).t env st = ((ev Φ G (.compc m t a c elt)).v env st).bind kTr := rfl
theorem i_compc {m : Bool} {t : Tg} : (ev Φ G (.compc m t a c elt)).i env st = ((ev Φ G (.compc m t a c elt)).v env st).bind kI1 := rfl
theorem v_comp {m : Bool} : (ev Φ G (.comp m x it c elt)).v env st = ((ev Φ G it).i env st).bind (kComp Φ G m x c elt env) := rfl
theorem t_comp {m : Bool} : (ev Φ G (.comp m x it c elt)).t env st = ((ev Φ G (.comp m x it c elt)).v env st).bind kTr := rfl
theorem i_comp {m : Bool} : (ev Φ G (.comp m x it c elt)).i env st = ((ev Φ G (.comp m x it c elt)).v env st).bind kI1 := rfl
theorem v_xfld {j : Nat} : (ev Φ G (.xfld i j)).v env st = kFld j st env[i + 1]? := by show (match env[i + 1]? with | some (some (.tup fs)) => (match fs[j]? with | some v => R.ok (v, st) | none => .stuck) | _ => .stuck) = _; unfold kFld kFl2; rfl
theorem t_xfld {j : Nat} : (ev Φ G (.xfld i j)).t env st = ((ev Φ G (.xfld i j)).v env st).bind kTr := rfl
theorem v_xis {ys : List (Str × List Str)} : (ev Φ G (.xis i ys)).v env st = kIs ys st env[i]? := by show (match env[i]? with | some (some (.str c)) => R.ok (Val.bl (ys.any fun p => p.2.contains c), st) | _ => .stuck) = _; unfold kIs; rfl
theorem t_xis {ys : List (Str × List Str)} : (ev Φ G (.xis i ys)).t env st = ((ev Φ G (.xis i ys)).v env st).bind kTr := rfl
theorem kFld_ {j : Nat} {fs : List Val} : kFld j st (some (some (.tup fs))) = kFl2 st fs[j]? := rfl
theorem kFl2_ {v : Val} : kFl2 st (some v) = .ok (v, st) := rfl
theorem kIs_ {ys : List (Str × List Str)} {n : Str} : kIs ys st (some (some (.str n))) = .ok (.bl (ys.any fun p => p.2.contains n), st) := rfl
theorem v_fld {n f : Str} : (ev Φ G (.fld n f a)).v env st = ((ev Φ G a).v env st).bind (kFldO n f) := rfl
theorem t_fld {n f : Str} : (ev Φ G (.fld n f a)).t env st = ((ev Φ G (.fld n f a)).v env st).bind kTr := rfl
theorem i_fld {n f : Str} : (ev Φ G (.fld n f a)).i env st = ((ev Φ G (.fld n f a)).v env st).bind kI1 := rfl
theorem v_new {n : Str} : (ev Φ G (.new n es)).v env st = (evs Φ G es env st).bind (kNew n (Φ (mName n "__init__"))) := by show ((evs Φ G es env st).bind fun p => match Φ (mName n "__init__") with | some m => (m (.loc p.2.length :: p.1) (p.2 ++ [Cell.obj n [] []])).bind fun q => (match q.1 with | .non => R.ok (Val.loc p.2.length, q.2) | _ => .stuck) | none => .stuck) = _; congr 1
theorem v_meth {n f : Str} : (ev Φ G (.meth n f a es)).v env st = ((ev Φ G a).v env st).bind (kMeth Φ G n f (Φ (mName n f)) es env) := by show (((ev Φ G a).v env st).bind fun p => if isObj n f p.2 p.1 then (evs Φ G es env p.2).bind fun q => (match Φ (mName n f) with | some f => f (p.1 :: q.1) q.2 | none => .stuck) else .stuck) = _; congr 1
theorem t_meth {n f : Str} : (ev Φ G (.meth n f a es)).t env st = ((ev Φ G (.meth n f a es)).v env st).bind kTr := rfl
theorem i_meth {n f : Str} : (ev Φ G (.meth n f a es)).i env st = ((ev Φ G (.meth n f a es)).v env st).bind kI1 := rfl
theorem kFldO_ {n f : Str} {v : Val} : kFldO n f (v, s) = (vFld n f v s).bind (kVl s) := rfl
theorem kNew_ {n : Str} {m : Mir} {vs : List Val} : kNew n (some m) (vs, s) = (m (.loc s.length :: vs) (s ++ [Cell.obj n [] []])).bind (kNew2 s.length) := rfl
theorem kNew2_ {n : Nat} : kNew2 n (.non, s) = .ok (.loc n, s) := rfl
theorem kMeth_ {n f : Str} {m : Option Mir} {v : Val} : kMeth Φ G n f m es env (v, s) = if isObj n f s v = true then (evs Φ G es env s).bind (kMeth2 m v) else .stuck := rfl
theorem kMeth2_ {m : Mir} {v : Val} {vs : List Val} : kMeth2 (some m) v (vs, s) = m (v :: vs) s := rfl
theorem v_frz : (ev Φ G (.frz a)).v env st = ((ev Φ G a).v env st).bind kFrz := rfl
theorem i_frz : (ev Φ G (.frz a)).i env st = ((ev Φ G (.frz a)).v env st).bind kI1 := rfl
theorem v_app : (ev Φ G (.app o a)).v env st = ((ev Φ G o).v env st).bind (kApp Φ G a env) := rfl
theorem es_nil : evs Φ G .nil env st = .ok ([], st) := rfl
theorem es_cons : evs Φ G (.cons a r) env st = ((ev Φ G a).v env st).bind (kEs Φ G r env) := rfl
theorem bo_1 {k : Bool} : evBo Φ G k (.cons a .nil) env st = (ev Φ G a).v env st := rfl
theorem bo_2 {k : Bool} : evBo Φ G k (.cons a (.cons b r)) env st = ((ev Φ G a).v env st).bind (kBo Φ G k (.cons b r) env) := rfl
theorem bt_1 {k : Bool} : evBoT Φ G k (.cons a .nil) env st = (ev Φ G a).t env st := rfl
theorem bt_2 {k : Bool} : evBoT Φ G k (.cons a (.cons b r)) env st = ((ev Φ G a).t env st).bind (kBoT Φ G k (.cons b r) env) := rfl
theorem kVar_  {v : Val} : kVar st (some (some v)) = .ok (v, st) := rfl
theorem kGl_  {v : Val} : kGl st (some v) = .ok (v, st) := rfl
theorem kTr_  {v : Val} : kTr (v, s) = (truth s v).bind (kTr2 s) := rfl
theorem kTr2_  {d : Bool} : kTr2 s d = .ok (d, s) := rfl
theorem kI1_t  {xs : List Val} : kI1 (.tup xs, s) = .ok (xs, s) := rfl
theorem kI1_l  {xs : List Val} : kI1 (.lst xs, s) = .ok (xs, s) := rfl
theorem kI1_s  {xs : List Val} : kI1 (.scr xs, s) = .ok (xs, s) := rfl
theorem kTup_  {xs : List Val} : kTup (xs, s) = newT xs s := rfl
theorem kLst_  {m : Bool} {xs : List Val} : kLst m (xs, s) = newL m xs s := rfl
theorem kBin_  {m : Bool} {op : BOp} {v : Val} : kBin Φ G m op b env (v, s) = ((ev Φ G b).v env s).bind (kBin2 m op v) := rfl
theorem kBin2_  {m : Bool} {op : BOp} {v u : Val} : kBin2 m op v (u, s) = binV m op v u s := rfl
theorem kNeg_  {j : Int} : kNeg (.int j, s) = .ok (.int (-j), s) := rfl
theorem kNot_  {d : Bool} : kNot (.bl d, s) = .ok (.bl (!d), s) := rfl
theorem kNotT_  {d : Bool} : kNotT (d, s) = .ok (!d, s) := rfl
theorem kB_  {d : Bool} : kB s d = .ok (.bl d, s) := rfl
theorem kVl_  {v : Val} : kVl s v = .ok (v, s) := rfl
theorem kCmp_  {op : COp} {v : Val} : kCmp Φ G op b env (v, s) = ((ev Φ G b).v env s).bind (kCmp2 op v) := rfl
theorem kCmp2_  {op : COp} {v u : Val} : kCmp2 op v (u, s) = (cmpV op v u s).bind (kB s) := rfl
theorem kCh_  {op op' : COp} {v : Val} : kCh Φ G op op' b c env (v, s) = ((ev Φ G b).v env s).bind (kCh2 Φ G op op' c env v) := rfl
theorem kCh2_  {op op' : COp} {v u : Val} : kCh2 Φ G op op' c env v (u, s) = (cmpV op v u s).bind (kCh2b Φ G op' c env u s) := rfl
theorem kCh2b_  {op' : COp} {u : Val} {d : Bool} : kCh2b Φ G op' c env u s d = if d = true then ((ev Φ G c).v env s).bind (kCh3 op' u) else .ok (.bl false, s) := rfl
theorem kCh3_  {op' : COp} {v u : Val} : kCh3 op' v (u, s) = (cmpV op' v u s).bind (kB s) := rfl
theorem kIfx_  {d : Bool} : kIfx Φ G a b env (d, s) = if d = true then (ev Φ G a).v env s else (ev Φ G b).v env s := rfl
theorem kCall_ {f : Str} {vs : List Val} : kCall Φ f (vs, s) = kCal (Φ f) (vs, s) := by unfold kCall kCal; rfl
theorem kCal_  {m : Mir} {vs : List Val} : kCal (some m) (vs, s) = m vs s := rfl
theorem kIsi_  {t : Ty} {v : Val} : kIsi t (v, s) = (match isTy s t v with | some b => R.ok (Val.bl b, s) | none => .stuck) := rfl
theorem kIsi2_  {t u : Ty} {v : Val} : kIsi2 t u (v, s) = (match isTy s t v, isTy s u v with | some b, some b' => R.ok (Val.bl (b || b'), s) | _, _ => .stuck) := rfl
theorem kF1_  {f : F1} {v : Val} : kF1 f (v, s) = (f1V f v s).bind (kVl s) := rfl
theorem kMm_  {k : Bool} {v : Val} : kMm Φ G k b env (v, s) = ((ev Φ G b).v env s).bind (kMm2 k v) := rfl
theorem kMm2_  {k : Bool} {v u : Val} : kMm2 k v (u, s) = (mmV k v u).bind (kVl s) := rfl
theorem kG1_  {m : Bool} {f : G1} {v : Val} : kG1 m f (v, s) = g1V m f v s := rfl
theorem kSub_  {v : Val} : kSub Φ G b env (v, s) = ((ev Φ G b).v env s).bind (kSub2 v) := rfl
theorem kSub2_  {v u : Val} : kSub2 v (u, s) = (ixV s v u).bind (kVl s) := rfl
theorem kSl_  {m : Bool} {v : Val} : kSl Φ G m lo hi env (v, s) = ((ev Φ G lo).v env s).bind (kSl2 Φ G m (isNo lo) hi env v) := rfl
theorem kSl2_  {m n : Bool} {v u : Val} : kSl2 Φ G m n hi env v (u, s) = (partV n u).bind (kSl2b Φ G m hi env v s) := rfl
theorem kSl2b_  {m : Bool} {v : Val} {l' : Option Int} : kSl2b Φ G m hi env v s l' = ((ev Φ G hi).v env s).bind (kSl3 m v l' (isNo hi)) := rfl
theorem kSl3_  {m n : Bool} {v u : Val} {l' : Option Int} : kSl3 m v l' n (u, s) = (partV n u).bind (kSl3b m s v l') := rfl
theorem kSl3b_  {m : Bool} {v : Val} {l' h' : Option Int} : kSl3b m s v l' h' = slcV m s v l' h' := rfl
theorem kRng_  {xs : List Val} : kRng (xs, s) = (rngV xs).bind (kRng2 s) := rfl
theorem kRng2_  {xs : List Val} : kRng2 s xs = .ok (xs, s) := rfl
theorem kCompt_  {m : Bool} {is : List Nat} {xs : List Val} : kCompt Φ G m is c elt env (xs, s) = if xs.length ≤ szMax then ((compT (ev Φ G c).t (ev Φ G elt).v is xs env s).bind (kLst m)) else .stuck := rfl
theorem kCompc_  {m : Bool} {t : Tg} {x : Val} : kCompc Φ G m t c elt env (x, s) = kCompc2 Φ G m t c elt env (x, s) (seqOf s x) := rfl
theorem kCompc2_  {m : Bool} {t : Tg} {x : Val} {b : Bool} {xs : List Val} : kCompc2 Φ G m t c elt env (x, s) (some (b, xs)) = if xs.length ≤ szMax then ((compC (ev Φ G c).t (ev Φ G elt).v t x (b, xs) xs env s).bind (kLst m)) else .stuck := rfl
theorem kComp_  {m : Bool} {xs : List Val} : kComp Φ G m x c elt env (xs, s) = if xs.length ≤ szMax then ((compL (ev Φ G c).t (ev Φ G elt).v x xs env s).bind (kLst m)) else .stuck := rfl
theorem kFrz_  {v : Val} : kFrz (v, s) = vFrz v s := rfl
theorem kApp_  {v : Val} : kApp Φ G a env (v, s) = if isCell s v = true then ((ev Φ G a).v env s).bind (kApp2 v) else .stuck := rfl
theorem kApp2_  {v u : Val} : kApp2 v (u, s) = vApp v u s := rfl
theorem kEs_  {v : Val} : kEs Φ G r env (v, s) = (evs Φ G r env s).bind (kEs2 v) := rfl
theorem kEs2_  {v : Val} {vs : List Val} : kEs2 v (vs, s) = .ok (v :: vs, s) := rfl
theorem kBo_  {k d : Bool} : kBo Φ G k r env (.bl d, s) = if d = k then evBo Φ G k r env s else .ok (.bl d, s) := rfl
theorem kBoT_  {k d : Bool} : kBoT Φ G k r env (d, s) = if d = k then evBoT Φ G k r env s else .ok (d, s) := rfl
theorem x_asg : evS Φ G (.asg i a) env st = ((ev Φ G a).v env st).st env (kAsg env i) := rfl
theorem x_sto : evS Φ G (.sto a b c) env st = ((ev Φ G c).v env st).st env (kSto Φ G a b env) := rfl
theorem x_stf {n f : Str} : evS Φ G (.stf n f a c) env st = ((ev Φ G c).v env st).st env (kStf Φ G n f a env) := rfl
theorem x_asgt {l : List Nat} : evS Φ G (.asgt l a) env st = ((ev Φ G a).v env st).st env (kAsgt l env) := by show R.st ((ev Φ G a).v env st) env (fun p => (match seqN l p.1 env p.2 with | some e => RS.next e p.2 | none => .stuck)) = _; congr 1
theorem x_forc {t : Tg} {p : Ss} : evS Φ G (.forc t a p) env st = ((ev Φ G a).v env st).st env (kForc Φ G t p env) := rfl
theorem x_fort {l : List Nat} {p : Ss} : evS Φ G (.fort l a p) env st = ((ev Φ G a).i env st).st env (kFort Φ G l p env) := rfl
theorem kStf_ {n f : Str} {v : Val} : kStf Φ G n f a env (v, s) = ((ev Φ G a).v env s).st env (kStf2 n f env v) := rfl
theorem kStf2_ {n f : Str} {v u : Val} : kStf2 n f env v (u, s) = (vStf n f u v s).st env (kSto4 env) := rfl
theorem kAsgt_ {l : List Nat} {v : Val} : kAsgt l env (v, s) = kAsgt3 s (seqN l v env s) := rfl
theorem kAsgt3_ : kAsgt3 s (some env) = .next env s := rfl
theorem kForc_ {t : Tg} {p : Ss} {x : Val} : kForc Φ G t p env (x, s) = kForc2 Φ G t p env (x, s) (seqOf s x) := rfl
theorem kForc2_ {t : Tg} {p : Ss} {x : Val} {b : Bool} {xs : List Val} : kForc2 Φ G t p env (x, s) (some (b, xs)) = forC t (evSs Φ G p) x (b, xs) xs env s := rfl
theorem kFort_ {l : List Nat} {p : Ss} {xs : List Val} : kFort Φ G l p env (xs, s) = forT l (evSs Φ G p) xs env s := rfl
theorem x_expr : evS Φ G (.expr a) env st = ((ev Φ G a).v env st).st env (kExp env) := rfl
theorem x_ite {p q : Ss} : evS Φ G (.ite a p q) env st = ((ev Φ G a).t env st).st env (kIte Φ G p q env) := rfl
theorem x_for {p : Ss} : evS Φ G (.forr i a p) env st = ((ev Φ G a).i env st).st env (kFor Φ G i p env) := rfl
theorem x_while {n : Nat} {p : Ss} : evS Φ G (.whil n a p) env st = whileL (ev Φ G a).t (evSs Φ G p) n env st := rfl
theorem x_ret : evS Φ G (.ret a) env st = ((ev Φ G a).v env st).st env kRet := rfl
theorem x_retn : evS Φ G .retn env st = .ret .non st := rfl
theorem x_pass : evS Φ G .pass env st = .next env st := rfl
theorem x_brk : evS Φ G .brk env st = .brk env st := rfl
theorem x_cnt : evS Φ G .cnt env st = .cnt env st := rfl
theorem x_raise {n : Str} : evS Φ G (.raise n es) env st = (evs Φ G es env st).st env (kRaise n env) := rfl
theorem x_try {p : Ss} {hs : Hs} : evS Φ G (.tryx p hs) env st = kTry Φ G hs (evSs Φ G p env st) := by show (match evSs Φ G p env st with | .exn c fs env' st' => evHs Φ G hs c fs env' st' | r => r) = _; unfold kTry; rfl
theorem kRaise_ {n : Str} {fs : List Val} : kRaise n env (fs, s) = .exn n fs env s := rfl
theorem kTry_n {hs : Hs} : kTry Φ G hs (.next env st) = .next env st := rfl
theorem kTry_r {hs : Hs} {v : Val} : kTry Φ G hs (.ret v st) = .ret v st := rfl
theorem kTry_b {hs : Hs} : kTry Φ G hs (.brk env st) = .brk env st := rfl
theorem kTry_c {hs : Hs} : kTry Φ G hs (.cnt env st) = .cnt env st := rfl
theorem kTry_e {hs : Hs} {n : Str} {fs : List Val} : kTry Φ G hs (.exn n fs env st) = evHs Φ G hs n fs env st := rfl
theorem h_nil {n : Str} {fs : List Val} : evHs Φ G .nil n fs env st = .exn n fs env st := rfl
theorem h_cons {y n : Str} {D : List Str} {sl : Option Nat} {p : Ss} {hs : Hs} {fs : List Val} : evHs Φ G (.cons y D sl p hs) n fs env st = if D.contains n = true then endH sl env.length (evSs Φ G p (clrS sl env ++ [some (.str n), some (.tup fs)]) st) else evHs Φ G hs n fs env st := rfl
theorem endH_n {sl : Option Nat} {n : Nat} : endH sl n (.next env st) = .next (clrS sl (env.take n)) st := rfl
theorem endH_b {sl : Option Nat} {n : Nat} : endH sl n (.brk env st) = .brk (clrS sl (env.take n)) st := rfl
theorem endH_c {sl : Option Nat} {n : Nat} : endH sl n (.cnt env st) = .cnt (clrS sl (env.take n)) st := rfl
theorem endH_r {sl : Option Nat} {n : Nat} {v : Val} : endH sl n (.ret v st) = .ret v st := rfl
theorem clrS_n : clrS none env = env := rfl
theorem clrS_s : clrS (some i) env = env.set i none := rfl
theorem xs_nil : evSs Φ G .nil env st = .next env st := rfl
theorem xs_cons {p : S} {q : Ss} : evSs Φ G (.cons p q) env st = (evS Φ G p env st).bind (evSs Φ G q) := rfl
theorem kAsg_  {v : Val} : kAsg env i (v, s) = .next (env.set i (some v)) s := rfl
theorem kExp_  {v : Val} : kExp env (v, s) = .next env s := rfl
theorem kIte_  {p q : Ss} {d : Bool} : kIte Φ G p q env (d, s) = if d = true then evSs Φ G p env s else evSs Φ G q env s := rfl
theorem kFor_  {p : Ss} {xs : List Val} : kFor Φ G i p env (xs, s) = forL i (evSs Φ G p) xs env s := rfl
theorem kRet_  {v : Val} : kRet (v, s) = .ret v s := rfl
theorem kSto_  {v : Val} : kSto Φ G a b env (v, s) = ((ev Φ G a).v env s).st env (kSto2 Φ G b env v) := rfl
theorem kSto2_  {v u : Val} : kSto2 Φ G b env v (u, s) = ((ev Φ G b).v env s).st env (kSto3 env v u) := rfl
theorem kSto3_  {v u t : Val} : kSto3 env v u (t, s) = (vSto u t v s).st env (kSto4 env) := rfl
theorem kSto4_ : kSto4 env st = .next env st := rfl
theorem runB_ {n : Nat} {p : Ss} {vs : List Val} : runB Φ G n p vs st = kRun (evSs Φ G p (vs.map some ++ List.replicate (n - vs.length) none) st) := by unfold runB kRun; rfl
theorem kRun_n : kRun (.next env st) = .ok (.non, st) := rfl
theorem kRun_r {v : Val} : kRun (.ret v st) = .ok (v, st) := rfl
theorem kRun_e {k : Str} {fs : List Val} : kRun (.exn k fs env st) = .exn k fs st := rfl
end
end MP
/-! MiniPy: a store of lemmas for reading. -/
namespace MP
open PySem L2
/-! cells by what stands there -/
section
variable {st : Store} {n : Nat}
def oCell : Option Cell → Bool | some (.lst _) => true | _ => false
def oSeq : Option Cell → Option (Bool × List Val) | some (.lst xs) => some (true, xs) | some (.frz xs) => some (true, xs) | _ => none
def oLst : Option Cell → Option (List Val) | some (.lst xs) => some xs | some (.frz xs) => some xs | _ => none
def oApp (y : Val) (st : Store) (n : Nat) : Option Cell → RV | some (.lst xs) => if xs.length < szMax then .ok (.non, st.set n (.lst (xs ++ [y]))) else .stuck | _ => .stuck
def oFrz (st : Store) (n : Nat) : Option Cell → RV | some (.lst xs) => .ok (.lst xs, st.set n (.frz xs)) | some (.frz xs) => .ok (.lst xs, st) | some (.obj c ns xs) => .ok (.obj c ns xs, st.set n (.fob c ns xs)) | some (.fob c ns xs) => .ok (.obj c ns xs, st) | _ => .stuck
def oSto2 (y : Val) (st : Store) (n : Nat) (xs : List Val) : Option Nat → R Store | some m => .ok (st.set n (.lst (xs.set m y))) | none => .stuck
def oSto (j : Int) (y : Val) (st : Store) (n : Nat) : Option Cell → R Store | some (.lst xs) => oSto2 y st n xs (ixN xs.length j) | _ => .stuck
theorem l_cell : isCell st (.loc n) = oCell st[n]? := by unfold isCell oCell; rfl
theorem l_seq : seqOf st (.loc n) = oSeq st[n]? := by unfold seqOf oSeq; rfl
theorem l_lst : lstOf st (.loc n) = oLst st[n]? := by unfold lstOf oLst; rfl
theorem l_app {y : Val} : vApp (.loc n) y st = oApp y st n st[n]? := by unfold vApp oApp; rfl
theorem l_frz : vFrz (.loc n) st = oFrz st n st[n]? := by unfold vFrz oFrz; rfl
theorem l_sto {j : Int} {y : Val} : vSto (.loc n) (.int j) y st = oSto j y st n st[n]? := by unfold vSto oSto oSto2; rfl
variable {xs : List Val} {y : Val} {j : Int}
theorem oCell_ : oCell (some (.lst xs)) = true := rfl
theorem oSeq_ : oSeq (some (.lst xs)) = some (true, xs) := rfl
theorem oLst_ : oLst (some (.lst xs)) = some xs := rfl
theorem oApp_ (h : xs.length < 100000) : oApp y st n (some (.lst xs)) = .ok (.non, st.set n (.lst (xs ++ [y]))) := if_pos h
theorem oFrz_ : oFrz st n (some (.lst xs)) = .ok (.lst xs, st.set n (.frz xs)) := rfl
theorem oFrz_o {c : Str} {ns : List Str} : oFrz st n (some (.obj c ns xs)) = .ok (.obj c ns xs, st.set n (.fob c ns xs)) := rfl
theorem oFrz_f : oFrz st n (some (.frz xs)) = .ok (.lst xs, st) := rfl
theorem oSto_ : oSto j y st n (some (.lst xs)) = oSto2 y st n xs (ixN xs.length j) := rfl
theorem oSto2_ {m : Nat} : oSto2 y st n xs (some m) = .ok (st.set n (.lst (xs.set m y))) := rfl
theorem ixN_0 {l : Nat} (h : 0 < l) : ixN l 0 = some 0 := by unfold ixN; simp; omega
theorem ixN_n {l k : Nat} (h : k < l) : ixN l (k : Int) = some k := by unfold ixN; rw [if_pos (by omega), if_pos (by omega)]; simp
theorem ixN_i {l : Nat} {i : Int} (h0 : 0 ≤ i) (h : i < l) : ixN l i = some i.toNat := by unfold ixN; rw [if_pos h0, if_pos (by omega)]
theorem ixN_neg {l : Nat} (h : 0 < l) : ixN l (-1) = some (l - 1) := by
  unfold ixN; rw [if_neg (by omega), if_pos (by omega)]; congr 1; omega
/-- len(x), x[i] of what is walked -/
def oLen : Option (Bool × List Val) → R Val | some (_, xs) => .ok (.int xs.length) | none => .stuck
theorem l_len : f1V .len (.loc n) st = oLen (seqOf st (.loc n)) := by unfold f1V oLen; rfl
theorem oLen_ {b : Bool} : oLen (some (b, xs)) = .ok (.int xs.length) := rfl
def oIx2 : Option Val → R Val | some y => .ok y | none => .stuck
def oIx (k : Int) : Option (Bool × List Val) → R Val | some (_, xs) => oIx2 (atI xs k) | none => .stuck
theorem l_ix {k : Int} : ixV st (.loc n) (.int k) = oIx k (seqOf st (.loc n)) := by unfold ixV oIx oIx2; rfl
theorem l_ixl {k : Int} : ixV st (.lst xs) (.int k) = oIx2 (atI xs k) := by unfold ixV oIx2; rfl
theorem l_ixt {k : Int} : ixV st (.tup xs) (.int k) = oIx2 (atI xs k) := by unfold ixV oIx2; rfl
theorem oIx_ {k : Int} {b : Bool} : oIx k (some (b, xs)) = oIx2 (atI xs k) := rfl
theorem oIx2_ {v : Val} : oIx2 (some v) = .ok v := rfl
theorem at_0 {α : Type} {x : α} {r : List α} : atI (x :: r) 0 = some x := by
  have := atI_n (xs := x :: r) (i := 0) rfl; exact this
theorem at_1 {α : Type} {x y : α} {r : List α} : atI (x :: y :: r) 1 = some y := by
  have := atI_n (xs := x :: y :: r) (i := 1) rfl; exact this
theorem at_2 {α : Type} {x y z : α} {r : List α} : atI (x :: y :: z :: r) 2 = some z := by
  have := atI_n (xs := x :: y :: z :: r) (i := 2) rfl; exact this
theorem at_3 {α : Type} {x y z u : α} {r : List α} : atI (x :: y :: z :: u :: r) 3 = some u := by
  have := atI_n (xs := x :: y :: z :: u :: r) (i := 3) rfl; exact this
/-! cells made at the end -/
variable {a b c d e : Cell} {r : Store}
theorem g_0 : (st ++ a :: r)[st.length]? = some a := by simp
theorem g_1 : (st ++ a :: b :: r)[st.length + 1]? = some b := by rw [List.getElem?_append_right (by omega)]; simp
theorem g_2 : (st ++ a :: b :: c :: r)[st.length + 2]? = some c := by rw [List.getElem?_append_right (by omega)]; simp
theorem g_3 : (st ++ a :: b :: c :: d :: r)[st.length + 3]? = some d := by rw [List.getElem?_append_right (by omega)]; simp
theorem s_0 {x : Cell} : (st ++ a :: r).set st.length x = st ++ x :: r := by simp
theorem s_1 {x : Cell} : (st ++ a :: b :: r).set (st.length + 1) x = st ++ a :: x :: r := by rw [List.set_append_right _ _ (by omega)]; simp
theorem s_2 {x : Cell} : (st ++ a :: b :: c :: r).set (st.length + 2) x = st ++ a :: b :: x :: r := by rw [List.set_append_right _ _ (by omega)]; simp
theorem s_3 {x : Cell} : (st ++ a :: b :: c :: d :: r).set (st.length + 3) x = st ++ a :: b :: c :: x :: r := by rw [List.set_append_right _ _ (by omega)]; simp
theorem g_old {m : Nat} {x : Cell} (h : st[m]? = some x) : (st ++ r)[m]? = some x := by
  rw [List.getElem?_append_left (List.getElem?_eq_some_iff.mp h).1]; exact h
theorem s_old {m : Nat} {x y : Cell} (h : st[m]? = some x) : (st ++ r).set m y = st.set m y ++ r := by
  rw [List.set_append_left _ _ (List.getElem?_eq_some_iff.mp h).1]
theorem g_set {m : Nat} {x y : Cell} (h : st[m]? = some x) : (st.set m y)[m]? = some y := List.getElem?_set_self (List.getElem?_eq_some_iff.mp h).1
end
/-! ranges -/
section
variable {st : Store}
theorem rng1 {n : Nat} (h : n ≤ 1000000) : rngV [.int (n : Int)] = .ok ((List.range n).map fun (k : Nat) => Val.int k) := by
  unfold rngV rngOk; dsimp only; rw [if_pos (by simp; omega), Int.toNat_natCast, rangeL_0]
theorem rng1i {i : Int} (h0 : 0 ≤ i) (h : i ≤ 1000000) : rngV [.int i] = .ok ((List.range i.toNat).map fun (k : Nat) => Val.int k) := by
  unfold rngV rngOk; dsimp only; rw [if_pos (by simp; omega), rangeL_0]
theorem rng2 {i j : Int} (h0 : -1000000 ≤ i) (h1 : i ≤ 1000000) (h2 : -1000000 ≤ j) (h3 : j ≤ 1000000) : rngV [.int i, .int j] = .ok ((List.range (j - i).toNat).map fun (k : Nat) => Val.int (i + (k : Nat))) := by
  unfold rngV rngOk; dsimp only; rw [if_pos (by simp; omega)]; rfl
theorem rng3 {i j : Int} (h0 : -1000000 ≤ i) (h1 : i ≤ 1000000) (h2 : -1000000 ≤ j) (h3 : j ≤ 1000000) : rngV [.int i, .int j, .int (-1)] = .ok ((List.range (i - j).toNat).map fun (k : Nat) => Val.int (i - (k : Nat))) := by
  unfold rngV rngOk; dsimp only; rw [if_pos (by simp; omega)]
/-- (0,) * n -/
theorem reps_t {m : Bool} {v : Val} {z : Nat} {st : Store} (hz : z ≤ 1000) : binV m .mul (.tup [v]) (.int (z : Int)) st = newT (List.replicate z v) st := by
  have e : (List.replicate z [v]).flatten = List.replicate z v := by
    clear hz
    induction z with
    | zero => rfl
    | succ z ih => rw [List.replicate_succ, List.flatten_cons, ih]; rfl
  show (if [v].isEmpty = false ∧ -1000 ≤ (z : Int) ∧ (z : Int) ≤ 1000 ∧ [v].length ≤ 100 then newT (List.replicate (z : Int).toNat [v]).flatten st else .stuck) = _
  rw [if_pos ⟨rfl, by omega, by omega, by simp⟩, Int.toNat_natCast, e]
/-! loops -/
theorem foldO_fold {α β : Type} {f : β → α → β} : ∀ (xs : List α) (b : β), foldO (fun b x => Out.go (f b x)) b xs = .go (xs.foldl f b)
  | [], b => rfl
  | x :: xs, b => by simp only [foldO, List.foldl_cons, foldO_fold xs]
theorem foldO_find {α : Type} {p : α → Bool} {v : α → Val} {st : Store} : ∀ (xs : List α), foldO (fun (_ : Unit) x => if p x = true then Out.ret (v x) st else .go ()) () xs = match xs.find? p with | some x => .ret (v x) st | none => .go ()
  | [] => rfl
  | x :: xs => by
    cases h : p x with
    | true => simp only [foldO, h, if_true, List.find?_cons]
    | false => simp only [foldO, h, List.find?_cons, Bool.false_eq_true, if_false]; exact foldO_find xs
theorem foldO_false {α : Type} {p : α → Bool} {st : Store} : ∀ (xs : List α), foldO (fun (_ : Unit) x => if p x = true then Out.ret (.bl false) st else .go ()) () xs = if xs.any p = true then .ret (.bl false) st else .go ()
  | [] => rfl
  | x :: xs => by
    cases h : p x with
    | true => simp [foldO, h]
    | false => simp [foldO, h, foldO_false xs]
/-- a loop by what stands ahead of each turn -/
theorem forL_idx {i : Nat} {body : Env → Store → RS} (E : Nat → Option Val → Env) (Sg : Nat → Store) (hset : ∀ k o v, (E k o).set i (some v) = E k (some v)) (xs : List Val) (h : ∀ k v, xs[k]? = some v → body (E k (some v)) (Sg k) = .next (E (k + 1) (some v)) (Sg (k + 1))) (o : Option Val) :
    ∃ o', forL i body xs (E 0 o) (Sg 0) = .next (E xs.length o') (Sg xs.length) := by
  have key : ∀ (ys : List Val) (j : Nat) (o : Option Val), ys = xs.drop j → j ≤ xs.length → ∃ o', forL i body ys (E j o) (Sg j) = .next (E xs.length o') (Sg xs.length) := by
    intro ys
    induction ys with
    | nil => intro j o e hj
             have : xs.length ≤ j := by have := congrArg List.length e; simp at this; omega
             have : j = xs.length := by omega
             subst this; exact ⟨o, rfl⟩
    | cons y ys ih =>
      intro j o e hj
      obtain ⟨h1, h2⟩ := drop_cons e.symm
      obtain ⟨h3, _⟩ := List.getElem?_eq_some_iff.mp h1
      obtain ⟨o', h4⟩ := ih (j + 1) (some y) h2 h3
      exact ⟨o', by simp only [forL, hset, h j y h1]; exact h4⟩
  exact key xs 0 o rfl (Nat.zero_le _)
theorem forL_range {i : Nat} {body : Env → Store → RS} (E : Nat → Option Val → Env) (Sg : Nat → Store) (n : Nat) (hset : ∀ k o v, (E k o).set i (some v) = E k (some v)) (h : ∀ k, k < n → body (E k (some (.int k))) (Sg k) = .next (E (k + 1) (some (.int k))) (Sg (k + 1))) (o : Option Val) :
    ∃ o', forL i body ((List.range n).map fun (k : Nat) => Val.int k) (E 0 o) (Sg 0) = .next (E n o') (Sg n) := by
  obtain ⟨o', h'⟩ := forL_idx (body := body) E Sg hset ((List.range n).map fun (k : Nat) => Val.int k) (fun k v hk => by
    rw [List.getElem?_map] at hk
    have hl : k < n := by
      cases Nat.lt_or_ge k n with
      | inl q => exact q
      | inr q => rw [List.getElem?_eq_none (by simpa using q)] at hk; cases hk
    rw [List.getElem?_range hl] at hk
    cases hk
    exact h k hl) o
  exact ⟨o', by simpa using h'⟩
/-- a loop that changes nothing -/
theorem forL_same {i : Nat} {body : Env → Store → RS} (E : Option Val → Env) (st : Store) (hset : ∀ o v, (E o).set i (some v) = E (some v)) (xs : List Val) (h : ∀ v ∈ xs, body (E (some v)) st = .next (E (some v)) st) (o : Option Val) : ∃ o', forL i body xs (E o) st = .next (E o') st := by
  exact forL_idx (body := body) (fun _ => E) (fun _ => st) (fun _ => hset) xs (fun k v hk => h v (List.mem_of_getElem? hk)) o
theorem foldO_any {α : Type} {p : α → Bool} {v : Val} {st : Store} : ∀ (xs : List α), foldO (fun (_ : Unit) x => if p x = true then Out.ret v st else .go ()) () xs = if xs.any p = true then .ret v st else .go ()
  | [] => rfl
  | x :: xs => by
    cases h : p x with
    | true => simp [foldO, h]
    | false => simp [foldO, h, foldO_any xs]
/-- a while that ends after i turns -/
theorem whileL_run {c : Env → Store → R (Bool × Store)} {body : Env → Store → RS} (E : Nat → Env) (Sg : Nat → Store) (i : Nat) (hc : ∀ j, j < i → c (E j) (Sg j) = .ok (true, Sg j)) (hb : ∀ j, j < i → body (E j) (Sg j) = .next (E (j + 1)) (Sg (j + 1))) (he : c (E i) (Sg i) = .ok (false, Sg i)) (fuel : Nat) (hf : i < fuel) :
    whileL c body fuel (E 0) (Sg 0) = .next (E i) (Sg i) := by
  have key : ∀ d j fuel, i = j + d → d < fuel → whileL c body fuel (E j) (Sg j) = .next (E i) (Sg i) := by
    intro d
    induction d with
    | zero =>
      intro j fuel e hf
      cases fuel with
      | zero => omega
      | succ fuel => subst e; unfold whileL; rw [he]; rfl
    | succ d ih =>
      intro j fuel e hf
      cases fuel with
      | zero => omega
      | succ fuel =>
        unfold whileL
        rw [hc j (by omega)]
        simp only [R.st_ok, if_true, hb j (by omega)]
        exact ih (j + 1) fuel (by omega) (by omega)
  exact key i 0 fuel (by omega) hf
theorem setTg_one {i : Nat} {v : Val} {env : Env} {st : Store} : setTg (.one i) v env st = some (env.set i (some v)) := rfl
theorem setTg_many {is : List Nat} {v : Val} {env : Env} {st : Store} : setTg (.many is) v env st = seqN is v env st := rfl
/-- a loop over what stands, with an invariant -/
theorem forC_inv {t : Tg} {body : Env → Store → RS} {a : Val} {p : Bool × List Val} (I : List Val → Env → Store → Prop) (hI : ∀ xs env st, I xs env st → seqOf st a = some p)
    (h : ∀ v vs env st, I (v :: vs) env st → ∃ env1 env' st', setTg t v env st = some env1 ∧ body env1 st = .next env' st' ∧ I vs env' st') :
    ∀ (xs : List Val) (env : Env) (st : Store), I xs env st → ∃ env' st', forC t body a p xs env st = .next env' st' ∧ I [] env' st'
  | [], env, st, q => ⟨env, st, by simp only [forC, hI _ _ _ q, if_true], q⟩
  | v :: vs, env, st, q => by
    obtain ⟨env1, env', st', h1, h2, h3⟩ := h v vs env st q
    obtain ⟨env2, st2, h4, h5⟩ := forC_inv I hI h vs env' st' h3
    exact ⟨env2, st2, by simp only [forC, hI _ _ _ q, if_true, h1, h2]; exact h4, h5⟩
/-- .. by what stands ahead of each turn -/
theorem forC_idx {t : Tg} {body : Env → Store → RS} {a : Val} {p : Bool × List Val} (E : Nat → Env → Prop) (Sg : Nat → Store) (xs : List Val) (hS : ∀ k, k ≤ xs.length → seqOf (Sg k) a = some p)
    (h : ∀ k v env, xs[k]? = some v → E k env → ∃ env1 env', setTg t v env (Sg k) = some env1 ∧ body env1 (Sg k) = .next env' (Sg (k + 1)) ∧ E (k + 1) env') (env : Env) (h0 : E 0 env) :
    ∃ env', forC t body a p xs env (Sg 0) = .next env' (Sg xs.length) ∧ E xs.length env' := by
  obtain ⟨env', st', h1, k, h2, h3, h4, h5⟩ := forC_inv (t := t) (body := body) (a := a) (p := p) (fun vs env st => ∃ k, k ≤ xs.length ∧ vs = xs.drop k ∧ E k env ∧ st = Sg k) (fun vs env st ⟨k, hk, _, _, e⟩ => by rw [e]; exact hS k hk)
    (fun v vs env st ⟨k, hk, e, he, es⟩ => by
      obtain ⟨q1, q2⟩ := drop_cons e.symm
      obtain ⟨env1, env', g1, g2, g3⟩ := h k v env q1 he
      have := (List.getElem?_eq_some_iff.mp q1).1
      subst es
      exact ⟨env1, env', _, g1, g2, k + 1, this, q2, g3, rfl⟩) xs env (Sg 0) ⟨0, Nat.zero_le _, rfl, h0, rfl⟩
  have : k = xs.length := by
    have := congrArg List.length h3
    simp at this; omega
  subst this h5
  exact ⟨env', h1, h4⟩
/-- an invariant -/
theorem forL_inv {i : Nat} {body : Env → Store → RS} (I : List Val → Env → Store → Prop) (h : ∀ v vs env st, I (v :: vs) env st → ∃ env' st', body (env.set i (some v)) st = .next env' st' ∧ I vs env' st') :
    ∀ (xs : List Val) (env : Env) (st : Store), I xs env st → ∃ env' st', forL i body xs env st = .next env' st' ∧ I [] env' st'
  | [], env, st, p => ⟨env, st, rfl, p⟩
  | v :: vs, env, st, p => by
    obtain ⟨env', st', h1, h2⟩ := h v vs env st p
    obtain ⟨env2, st2, h3, h4⟩ := forL_inv I h vs env' st' h2
    exact ⟨env2, st2, by simp only [forL, h1]; exact h3, h4⟩
/-- .. that may return -/
theorem forL_invR {i : Nat} {body : Env → Store → RS} (I : List Val → Env → Store → Prop) (Rt : Val → Store → Prop) (h : ∀ v vs env st, I (v :: vs) env st → (∃ env' st', (body (env.set i (some v)) st = .next env' st' ∨ body (env.set i (some v)) st = .cnt env' st') ∧ I vs env' st') ∨ ∃ w st', body (env.set i (some v)) st = .ret w st' ∧ Rt w st') :
    ∀ (xs : List Val) (env : Env) (st : Store), I xs env st → (∃ env' st', forL i body xs env st = .next env' st' ∧ I [] env' st') ∨ ∃ w st', forL i body xs env st = .ret w st' ∧ Rt w st'
  | [], env, st, p => .inl ⟨env, st, rfl, p⟩
  | v :: vs, env, st, p => by
    rcases h v vs env st p with ⟨env', st', h1, h2⟩ | ⟨w, st', h1, h2⟩
    · rcases forL_invR I Rt h vs env' st' h2 with ⟨env2, st2, h3, h4⟩ | ⟨w, st2, h3, h4⟩
      · exact .inl ⟨env2, st2, by rcases h1 with h1 | h1 <;> (simp only [forL, h1]; exact h3), h4⟩
      · exact .inr ⟨w, st2, by rcases h1 with h1 | h1 <;> (simp only [forL, h1]; exact h3), h4⟩
    · exact .inr ⟨w, st', by simp only [forL, h1], h2⟩
/-- a comprehension whose parts move the store -/
theorem compL_inv {c : Env → Store → R (Bool × Store)} {e : Env → Store → RV} {x : Nat} {env : Env} (I : List Val → Store → Prop) (P : Val → Prop) (h : ∀ v vs st, I (v :: vs) st → ∃ y st', c (env.set x (some v)) st = .ok (true, st) ∧ e (env.set x (some v)) st = .ok (y, st') ∧ P y ∧ I vs st') :
    ∀ (xs : List Val) (st : Store), I xs st → ∃ ys st', compL c e x xs env st = .ok (ys, st') ∧ ys.length = xs.length ∧ (∀ y ∈ ys, P y) ∧ I [] st'
  | [], st, p => ⟨[], st, rfl, rfl, (by intro y h; cases h), p⟩
  | v :: vs, st, p => by
    obtain ⟨y, st', h1, h2, h3, h4⟩ := h v vs st p
    obtain ⟨ys, st2, k1, k2, k3, k4⟩ := compL_inv I P h vs st' h4
    refine ⟨y :: ys, st2, ?_, by simp [k2], fun z hz => ?_, k4⟩
    · simp only [compL, h1, R.bind_ok, if_true, h2, k1]
    · rcases List.mem_cons.mp hz with rfl | hz
      · exact h3
      · exact k3 z hz
/-- .. that only read -/
theorem compL_map {α : Type} {c : Env → Store → R (Bool × Store)} {e : Env → Store → RV} {x : Nat} {env : Env} {st : Store} (g : α → Val) (p : α → Bool) (f : α → Val) : ∀ (xs : List α), (∀ a ∈ xs, c (env.set x (some (g a))) st = .ok (p a, st)) → (∀ a ∈ xs, p a = true → e (env.set x (some (g a))) st = .ok (f a, st)) →
    compL c e x (xs.map g) env st = .ok ((xs.filter p).map f, st)
  | [], _, _ => rfl
  | a :: xs, hc, he => by
    have ih := compL_map g p f xs (fun b m => hc b (List.mem_cons_of_mem _ m)) (fun b m => he b (List.mem_cons_of_mem _ m))
    have h1 := hc a (List.mem_cons_self ..)
    simp only [List.map_cons, compL, h1, R.bind_ok]
    cases hp : p a with
    | true =>
      have h2 := he a (List.mem_cons_self ..) hp
      simp only [if_true, h2, R.bind_ok, ih, List.filter_cons, hp, List.map_cons]
    | false => simp only [Bool.false_eq_true, if_false, ih, List.filter_cons, hp]
theorem compL_map0 {α : Type} {c : Env → Store → R (Bool × Store)} {e : Env → Store → RV} {x : Nat} {env : Env} {st : Store} (g : α → Val) (f : α → Val) (xs : List α) (hc : ∀ a ∈ xs, c (env.set x (some (g a))) st = .ok (true, st)) (he : ∀ a ∈ xs, e (env.set x (some (g a))) st = .ok (f a, st)) :
    compL c e x (xs.map g) env st = .ok (xs.map f, st) := by
  have := compL_map g (fun _ => true) f xs hc fun a m _ => he a m
  rw [List.filter_eq_self.mpr (fun _ _ => rfl)] at this
  exact this
/-! numbers' rows -/
def cell (ns : List Int) (k : Nat) : Int := ns.getD k 0
theorem getD_get {ns : List Int} {k : Nat} (h : k < ns.length) : (vInts ns)[k]? = some (.int (ns.getD k 0)) := by
  unfold vInts
  rw [List.getElem?_map, List.getElem?_eq_getElem h, List.getD_eq_getElem?_getD, List.getElem?_eq_getElem h]; rfl
theorem ix_scr {ns : List Int} {k : Nat} (h : k < ns.length) : ixV st (.scr (vInts ns)) (.int k) = .ok (.int (cell ns k)) := by
  unfold ixV; simp only [seqOf_scr, atI_n (getD_get h)]; rfl
theorem ix_lst {ns : List Int} {k : Nat} (h : k < ns.length) : ixV st (.lst (vInts ns)) (.int k) = .ok (.int (cell ns k)) := by
  unfold ixV; simp only [seqOf_lst, atI_n (getD_get h)]; rfl
theorem ix_tup {ns : List Int} {k : Nat} (h : k < ns.length) : ixV st (.tup (vInts ns)) (.int k) = .ok (.int (cell ns k)) := by
  unfold ixV; simp only [seqOf_tup, atI_n (getD_get h)]; rfl
theorem ixL {xs : List Val} {k : Nat} {v : Val} (h : xs[k]? = some v) : ixV st (.lst xs) (.int k) = .ok v := by
  unfold ixV; simp only [seqOf_lst, atI_n h]
theorem ixT {xs : List Val} {k : Nat} {v : Val} (h : xs[k]? = some v) : ixV st (.tup xs) (.int k) = .ok v := by
  unfold ixV; simp only [seqOf_tup, atI_n h]
theorem at_ints {ns : List Int} {k : Nat} (h : k < ns.length) : atI (vInts ns) (k : Int) = some (.int (cell ns k)) := atI_n (getD_get h)
theorem cell_0 {ns : List Int} {k : Nat} (h : ¬ k < ns.length) : cell ns k = 0 := by
  unfold cell; rw [List.getD_eq_getElem?_getD, List.getElem?_eq_none (by omega)]; rfl
theorem cell_mem {ns : List Int} {k : Nat} (h : k < ns.length) : cell ns k ∈ ns := by
  unfold cell; rw [List.getD_eq_getElem?_getD, List.getElem?_eq_getElem h]; exact List.getElem_mem h
theorem bd_cell {ns : List Int} (h : ∀ z ∈ ns, bd bits z) (k : Nat) : bd bits (cell ns k) := by
  by_cases hk : k < ns.length
  · exact h _ (cell_mem hk)
  · rw [cell_0 hk]; exact bd_0
theorem bd_bits {z : Int} (h : Builtin.Int.intBits z ≤ 1048576) : bd bits z := by
  unfold Builtin.Int.intBits at h
  by_cases h0 : z = 0
  · subst h0; exact bd_0
  · rw [if_neg (by simpa using h0)] at h
    unfold bd bits
    exact (Nat.log2_lt (by omega)).mp (by omega)
theorem flat_ints : ∀ ns : List Int, (vInts ns).all flat = true
  | [] => rfl
  | n :: ns => by show (true && (vInts ns).all flat) = true; rw [flat_ints ns]; rfl
theorem any_ints (z : Int) : ∀ ns : List Int, ((vInts ns).any fun y => eqF y (.int z)) = decide (z ∈ ns)
  | [] => rfl
  | n :: ns => by
    show (eqF (.int n) (.int z) || (vInts ns).any fun y => eqF y (.int z)) = _
    rw [any_ints z ns]
    have : eqF (.int n) (.int z) = decide (n = z) := rfl
    rw [this]
    by_cases h : n = z
    · subst h; simp
    · have : ¬ z = n := fun e => h e.symm
      simp [h, this]
theorem in_of {v : Val} {k : Bool} {ns : List Int} (z : Int) {st : Store} (h : seqOf st v = some (k, vInts ns)) : cmpV .in_ (.int z) v st = .ok (decide (z ∈ ns)) := by
  unfold cmpV; dsimp only; rw [h]; dsimp only
  rw [flat_ints, any_ints]; rfl
theorem notin_of {v : Val} {k : Bool} {ns : List Int} (z : Int) {st : Store} (h : seqOf st v = some (k, vInts ns)) : cmpV .notin (.int z) v st = .ok (!decide (z ∈ ns)) := by
  unfold cmpV; dsimp only; rw [h]; dsimp only
  rw [flat_ints, any_ints]; rfl
theorem in_ints (z : Int) (ns : List Int) (st : Store) : cmpV .in_ (.int z) (.lst (vInts ns)) st = .ok (decide (z ∈ ns)) := in_of z rfl
theorem notin_ints (z : Int) (ns : List Int) (st : Store) : cmpV .notin (.int z) (.lst (vInts ns)) st = .ok (!decide (z ∈ ns)) := notin_of z rfl
/-- a row of numbers, a list or a tuple -/
def IsSeq (v : Val) (ns : List Int) : Prop := v = .lst (vInts ns) ∨ v = .tup (vInts ns)
variable {v w : Val} {a b : List Int}
theorem IsSeq.lst : IsSeq (.lst (vInts a)) a := .inl rfl
theorem IsSeq.tup : IsSeq (.tup (vInts a)) a := .inr rfl
theorem IsSeq.len (h : IsSeq v a) : f1V .len v st = .ok (.int a.length) := by rcases h with rfl | rfl <;> simp only [len_lst, len_tup, vInts_len]
theorem IsSeq.ix (h : IsSeq v a) {k : Nat} (hk : k < a.length) : ixV st v (.int k) = .ok (.int (cell a k)) := by rcases h with rfl | rfl <;> simp only [ix_lst hk, ix_tup hk]
theorem IsSeq.cl (h : IsSeq v a) (n : Nat) : closed n v = true := by rcases h with rfl | rfl <;> exact closed_vInts n a
theorem IsSeq.seq (h : IsSeq v a) : ∃ k, seqOf st v = some (k, vInts a) := by rcases h with rfl | rfl; exact ⟨_, rfl⟩; exact ⟨_, rfl⟩
theorem IsSeq.it (h : IsSeq v a) : kI1 (v, st) = .ok (vInts a, st) := by rcases h with rfl | rfl <;> rfl
end
end MP
namespace LawMP
open PySem L2 MP
def G0 : Str → Option Val := fun _ => none
theorem hc : True := by trivial
theorem f_Basis_prime {x0 x1 x2 x3 : Val} {st : Store} : vFld "Basis" "prime" (.obj "Basis" ["prime", "size", "reduced", "taken"] [x0, x1, x2, x3]) st = .ok x0 := rfl
theorem fc_Basis_prime {x0 x1 x2 x3 : Val} : oFld "Basis" "prime" (some (.obj "Basis" ["prime", "size", "reduced", "taken"] [x0, x1, x2, x3])) = .ok x0 := rfl
theorem fs_Basis_prime {n : Nat} { y : Val} {st : Store} : oStf "Basis" "prime" n y st (some (.obj "Basis" [] [])) = .ok (st.set n (.obj "Basis" ["prime"] [y])) := rfl
theorem fu_Basis_prime {n : Nat} {x0 x1 x2 x3 y : Val} {st : Store} : oStf "Basis" "prime" n y st (some (.obj "Basis" ["prime", "size", "reduced", "taken"] [x0, x1, x2, x3])) = .ok (st.set n (.obj "Basis" ["prime", "size", "reduced", "taken"] [y, x1, x2, x3])) := rfl
theorem f_Basis_size {x0 x1 x2 x3 : Val} {st : Store} : vFld "Basis" "size" (.obj "Basis" ["prime", "size", "reduced", "taken"] [x0, x1, x2, x3]) st = .ok x1 := rfl
theorem fc_Basis_size {x0 x1 x2 x3 : Val} : oFld "Basis" "size" (some (.obj "Basis" ["prime", "size", "reduced", "taken"] [x0, x1, x2, x3])) = .ok x1 := rfl
theorem fs_Basis_size {n : Nat} {x0 y : Val} {st : Store} : oStf "Basis" "size" n y st (some (.obj "Basis" ["prime"] [x0])) = .ok (st.set n (.obj "Basis" ["prime", "size"] [x0, y])) := rfl
theorem fu_Basis_size {n : Nat} {x0 x1 x2 x3 y : Val} {st : Store} : oStf "Basis" "size" n y st (some (.obj "Basis" ["prime", "size", "reduced", "taken"] [x0, x1, x2, x3])) = .ok (st.set n (.obj "Basis" ["prime", "size", "reduced", "taken"] [x0, y, x2, x3])) := rfl
theorem f_Basis_reduced {x0 x1 x2 x3 : Val} {st : Store} : vFld "Basis" "reduced" (.obj "Basis" ["prime", "size", "reduced", "taken"] [x0, x1, x2, x3]) st = .ok x2 := rfl
theorem fc_Basis_reduced {x0 x1 x2 x3 : Val} : oFld "Basis" "reduced" (some (.obj "Basis" ["prime", "size", "reduced", "taken"] [x0, x1, x2, x3])) = .ok x2 := rfl
theorem fs_Basis_reduced {n : Nat} {x0 x1 y : Val} {st : Store} : oStf "Basis" "reduced" n y st (some (.obj "Basis" ["prime", "size"] [x0, x1])) = .ok (st.set n (.obj "Basis" ["prime", "size", "reduced"] [x0, x1, y])) := rfl
theorem fu_Basis_reduced {n : Nat} {x0 x1 x2 x3 y : Val} {st : Store} : oStf "Basis" "reduced" n y st (some (.obj "Basis" ["prime", "size", "reduced", "taken"] [x0, x1, x2, x3])) = .ok (st.set n (.obj "Basis" ["prime", "size", "reduced", "taken"] [x0, x1, y, x3])) := rfl
theorem f_Basis_taken {x0 x1 x2 x3 : Val} {st : Store} : vFld "Basis" "taken" (.obj "Basis" ["prime", "size", "reduced", "taken"] [x0, x1, x2, x3]) st = .ok x3 := rfl
theorem fc_Basis_taken {x0 x1 x2 x3 : Val} : oFld "Basis" "taken" (some (.obj "Basis" ["prime", "size", "reduced", "taken"] [x0, x1, x2, x3])) = .ok x3 := rfl
theorem fs_Basis_taken {n : Nat} {x0 x1 x2 y : Val} {st : Store} : oStf "Basis" "taken" n y st (some (.obj "Basis" ["prime", "size", "reduced"] [x0, x1, x2])) = .ok (st.set n (.obj "Basis" ["prime", "size", "reduced", "taken"] [x0, x1, x2, y])) := rfl
theorem fu_Basis_taken {n : Nat} {x0 x1 x2 x3 y : Val} {st : Store} : oStf "Basis" "taken" n y st (some (.obj "Basis" ["prime", "size", "reduced", "taken"] [x0, x1, x2, x3])) = .ok (st.set n (.obj "Basis" ["prime", "size", "reduced", "taken"] [x0, x1, x2, y])) := rfl
theorem o_Basis_check_row {x0 x1 x2 x3 : Val} {st : Store} : isObj "Basis" "check_row" st (.obj "Basis" ["prime", "size", "reduced", "taken"] [x0, x1, x2, x3]) = true := by rfl
theorem oc_Basis_check_row {x0 x1 x2 x3 : Val} : oObj "Basis" "check_row" (some (.obj "Basis" ["prime", "size", "reduced", "taken"] [x0, x1, x2, x3])) = true := by rfl
theorem o_Basis_rest_of {x0 x1 x2 x3 : Val} {st : Store} : isObj "Basis" "rest_of" st (.obj "Basis" ["prime", "size", "reduced", "taken"] [x0, x1, x2, x3]) = true := by rfl
theorem oc_Basis_rest_of {x0 x1 x2 x3 : Val} : oObj "Basis" "rest_of" (some (.obj "Basis" ["prime", "size", "reduced", "taken"] [x0, x1, x2, x3])) = true := by rfl
theorem o_Basis_parted {x0 x1 x2 x3 : Val} {st : Store} : isObj "Basis" "parted" st (.obj "Basis" ["prime", "size", "reduced", "taken"] [x0, x1, x2, x3]) = true := by rfl
theorem oc_Basis_parted {x0 x1 x2 x3 : Val} : oObj "Basis" "parted" (some (.obj "Basis" ["prime", "size", "reduced", "taken"] [x0, x1, x2, x3])) = true := by rfl
theorem o_Basis_take {x0 x1 x2 x3 : Val} {st : Store} : isObj "Basis" "take" st (.obj "Basis" ["prime", "size", "reduced", "taken"] [x0, x1, x2, x3]) = true := by rfl
theorem oc_Basis_take {x0 x1 x2 x3 : Val} : oObj "Basis" "take" (some (.obj "Basis" ["prime", "size", "reduced", "taken"] [x0, x1, x2, x3])) = true := by rfl
theorem o_Basis_rank {x0 x1 x2 x3 : Val} {st : Store} : isObj "Basis" "rank" st (.obj "Basis" ["prime", "size", "reduced", "taken"] [x0, x1, x2, x3]) = true := by rfl
theorem oc_Basis_rank {x0 x1 x2 x3 : Val} : oObj "Basis" "rank" (some (.obj "Basis" ["prime", "size", "reduced", "taken"] [x0, x1, x2, x3])) = true := by rfl
theorem o_Basis_combination {x0 x1 x2 x3 : Val} {st : Store} : isObj "Basis" "combination" st (.obj "Basis" ["prime", "size", "reduced", "taken"] [x0, x1, x2, x3]) = true := by rfl
theorem oc_Basis_combination {x0 x1 x2 x3 : Val} : oObj "Basis" "combination" (some (.obj "Basis" ["prime", "size", "reduced", "taken"] [x0, x1, x2, x3])) = true := by rfl
theorem o_Basis_solved {x0 x1 x2 x3 : Val} {st : Store} : isObj "Basis" "solved" st (.obj "Basis" ["prime", "size", "reduced", "taken"] [x0, x1, x2, x3]) = true := by rfl
theorem oc_Basis_solved {x0 x1 x2 x3 : Val} : oObj "Basis" "solved" (some (.obj "Basis" ["prime", "size", "reduced", "taken"] [x0, x1, x2, x3])) = true := by rfl
theorem o_Basis_twin {x0 x1 x2 x3 : Val} {st : Store} : isObj "Basis" "twin" st (.obj "Basis" ["prime", "size", "reduced", "taken"] [x0, x1, x2, x3]) = true := by rfl
theorem oc_Basis_twin {x0 x1 x2 x3 : Val} : oObj "Basis" "twin" (some (.obj "Basis" ["prime", "size", "reduced", "taken"] [x0, x1, x2, x3])) = true := by rfl
def b_law_source : Ss := (.cons (.asg 2 (.int 0)) (.cons (.ite (.cmp .lt (.var 1) (.f1 .len (.var 0))) (.cons (.asg 2 (.f1 .abs (.sub (.var 0) (.var 1)))) .nil) .nil) (.cons (.ret (.lst true (.cons (.var 2) (.cons (.bin false .mod (.f1 .int (.bin false .add (.bin false .add (.bin false .mul (.var 2) (.int 48271)) (.int 1013904223)) (.bin false .mul (.var 1) (.int 69621)))) (.int 2147483647)) .nil)))) .nil)))
noncomputable def T_law_source : Tab := lk []
noncomputable def m_law_source : Mir := mkM T_law_source G0 2 3 b_law_source
def b_law_draw : Ss := (.cons (.ite (.cmp .ge (.sub (.var 0) (.int 0)) (.bin false .pow (.int 10) (.int 6))) (.cons (.asg 2 (.bin false .mod (.f1 .int (.sub (.var 0) (.int 0))) (.var 1))) (.cons (.sto (.var 0) (.int 0) (.bin false .fdiv (.sub (.var 0) (.int 0)) (.var 1))) (.cons (.ret (.var 2)) .nil))) .nil) (.cons (.sto (.var 0) (.int 1) (.bin false .mod (.f1 .int (.bin false .add (.bin false .add (.bin false .mul (.sub (.var 0) (.int 1)) (.int 48271)) (.sub (.var 0) (.int 0))) (.int 1))) (.int 2147483647))) (.cons (.ret (.bin false .mod (.f1 .int (.bin false .fdiv (.sub (.var 0) (.int 1)) (.int 11))) (.var 1))) .nil)))
noncomputable def T_law_draw : Tab := lk []
noncomputable def m_law_draw : Mir := mkM T_law_draw G0 2 3 b_law_draw
def b_law_row_1 : Ss := (.cons (.asg 6 (.call "_law_draw" (.cons (.var 0) (.cons (.var 2) .nil)))) (.cons (.sto (.var 5) (.var 6) (.bin false .add (.int 1) (.call "_law_draw" (.cons (.var 0) (.cons (.bin false .sub (.var 1) (.int 1)) .nil))))) .nil))
def b_law_row_2 : E := (.bin false .mod (.f1 .int (.bin false .add (.sub (.var 5) (.var 10)) (.bin false .mul (.var 9) (.sub (.var 8) (.var 10))))) (.var 1))
def b_law_row_3 : Ss := (.cons (.asg 8 (.sub (.var 3) (.call "_law_draw" (.cons (.var 0) (.cons (.f1 .len (.var 3)) .nil))))) (.cons (.asg 9 (.call "_law_draw" (.cons (.var 0) (.cons (.var 1) .nil)))) (.cons (.asg 5 (.comp true 10 (.rng (.cons (.var 2) .nil)) .no b_law_row_2)) .nil)))
def b_law_row_4 : E := (.call "_law_draw" (.cons (.var 0) (.cons (.var 1) .nil)))
def b_law_row : Ss := (.cons (.asg 4 (.call "_law_draw" (.cons (.var 0) (.cons (.int 6) .nil)))) (.cons (.asg 5 (.bin true .mul (.lst false (.cons (.int 0) .nil)) (.var 2))) (.cons (.ite (.bo true (.cons (.cmp .eq (.var 4) (.int 1)) (.cons (.cmp .gt (.var 2) (.int 0)) .nil))) b_law_row_1 .nil) (.cons (.ite (.bo true (.cons (.cmp .eq (.var 4) (.int 2)) (.cons (.cmp .gt (.f1 .len (.var 3)) (.int 0)) .nil))) (.cons (.forr 7 (.rng (.cons (.int 2) .nil)) b_law_row_3) .nil) .nil) (.cons (.ite (.cmp .gt (.var 4) (.int 2)) (.cons (.asg 5 (.comp true 10 (.rng (.cons (.var 2) .nil)) .no b_law_row_4)) .nil) .nil) (.cons (.ret (.frz (.var 5))) .nil))))))
noncomputable def T_law_row : Tab := lk [("_law_draw", m_law_draw)]
noncomputable def m_law_row : Mir := mkM T_law_row G0 4 11 b_law_row
theorem t_law_row_law_draw : T_law_row "_law_draw" = some m_law_draw := rfl
def b_law_rows_1 : Ss := (.cons (.ite (.cmp .eq (.bin false .mod (.f1 .int (.var 7)) (.int 2)) (.int 0)) (.cons (.asg 6 (.call "_law_source" (.cons (.var 0) (.cons (.bin false .add (.var 1) (.bin false .fdiv (.var 7) (.int 2))) .nil)))) .nil) .nil) (.cons (.expr (.app (.var 5) (.call "_law_row" (.cons (.var 6) (.cons (.var 2) (.cons (.var 3) (.cons (.var 5) .nil))))))) .nil))
def b_law_rows : Ss := (.cons (.asg 5 (.lst true .nil)) (.cons (.asg 6 (.lst false (.cons (.int 0) (.cons (.int 0) .nil)))) (.cons (.forr 7 (.rng (.cons (.var 4) .nil)) b_law_rows_1) (.cons (.ret (.frz (.var 5))) .nil))))
noncomputable def T_law_rows : Tab := lk [("_law_source", m_law_source), ("_law_row", m_law_row)]
noncomputable def m_law_rows : Mir := mkM T_law_rows G0 5 8 b_law_rows
theorem t_law_rows_law_source : T_law_rows "_law_source" = some m_law_source := rfl
theorem t_law_rows_law_row : T_law_rows "_law_row" = some m_law_row := rfl
def b_law_count : Ss := (.cons (.ite (.cmp .eq (.call "_law_draw" (.cons (.var 0) (.cons (.int 32) .nil))) (.int 0)) (.cons (.ret (.call "_law_draw" (.cons (.var 0) (.cons (.int 61) .nil)))) .nil) .nil) (.cons (.ret (.sub (.lst false (.cons (.call "_law_draw" (.cons (.var 0) (.cons (.int 4) .nil))) (.cons (.call "_law_draw" (.cons (.var 0) (.cons (.int 9) .nil))) (.cons (.call "_law_draw" (.cons (.var 0) (.cons (.int 21) .nil))) .nil)))) (.call "_law_draw" (.cons (.var 0) (.cons (.int 3) .nil))))) .nil))
noncomputable def T_law_count : Tab := lk [("_law_draw", m_law_draw)]
noncomputable def m_law_count : Mir := mkM T_law_count G0 1 1 b_law_count
theorem t_law_count_law_draw : T_law_count "_law_draw" = some m_law_draw := rfl
def b_law_shaped_1 : E := (.g1 false .list (.var 2))
def b_law_shaped_2 : E := (.g1 false .tuple (.var 2))
def b_law_shaped_3 : E := (.g1 false .tuple (.var 2))
def b_law_shaped : Ss := (.cons (.ite (.cmp .eq (.var 1) (.int 0)) (.cons (.ret (.comp false 2 (.var 0) .no b_law_shaped_1)) .nil) .nil) (.cons (.ite (.cmp .eq (.var 1) (.int 1)) (.cons (.ret (.g1 false .tuple (.comp false 2 (.var 0) .no b_law_shaped_2))) .nil) .nil) (.cons (.ret (.comp false 2 (.var 0) .no b_law_shaped_3)) .nil)))
noncomputable def T_law_shaped : Tab := lk []
noncomputable def m_law_shaped : Mir := mkM T_law_shaped G0 2 3 b_law_shaped
def b_law_sum_1 : E := (.bin false .mod (.f1 .int (.bin false .add (.sub (.var 4) (.var 6)) (.bin false .mul (.sub (.var 3) (.var 5)) (.sub (.sub (.var 2) (.var 5)) (.var 6))))) (.var 0))
def b_law_sum_2 : Ss := (.cons (.asg 4 (.comp false 6 (.rng (.cons (.var 1) .nil)) .no b_law_sum_1)) .nil)
def b_law_sum : Ss := (.cons (.asg 4 (.bin false .mul (.lst false (.cons (.int 0) .nil)) (.var 1))) (.cons (.forr 5 (.rng (.cons (.f1 .len (.var 2)) .nil)) b_law_sum_2) (.cons (.ret (.var 4)) .nil)))
noncomputable def T_law_sum : Tab := lk []
noncomputable def m_law_sum : Mir := mkM T_law_sum G0 4 7 b_law_sum
def b_law_left_1 : E := (.bin false .mod (.f1 .int (.bin false .sub (.sub (.var 3) (.var 6)) (.bin false .mul (.var 5) (.sub (.sub (.var 4) (.int 1)) (.var 6))))) (.var 0))
def b_law_left_2 : Ss := (.cons (.asg 5 (.sub (.var 3) (.sub (.var 4) (.int 0)))) (.cons (.ite (.cmp .ne (.var 5) (.int 0)) (.cons (.asg 3 (.comp false 6 (.rng (.cons (.f1 .len (.var 3)) .nil)) .no b_law_left_1)) .nil) .nil) .nil))
def b_law_left : Ss := (.cons (.asg 3 (.g1 false .list (.var 2))) (.cons (.forc (.one 4) (.var 1) b_law_left_2) (.cons (.ret (.var 3)) .nil)))
noncomputable def T_law_left : Tab := lk []
noncomputable def m_law_left : Mir := mkM T_law_left G0 3 7 b_law_left
def b_law_basis_1 : E := (.cmp .ne (.sub (.var 4) (.var 8)) (.int 0))
def b_law_basis_2 : E := (.cmp .eq (.bin false .mod (.f1 .int (.bin false .mul (.var 6) (.var 9))) (.var 0)) (.int 1))
def b_law_basis_3 : E := (.bin false .mod (.f1 .int (.bin false .mul (.var 10) (.var 7))) (.var 0))
def b_law_basis_4 : Ss := (.cons (.asg 6 (.sub (.var 4) (.sub (.var 5) (.int 0)))) (.cons (.asg 7 (.sub (.comp false 9 (.rng (.cons (.int 1) (.cons (.var 0) .nil))) b_law_basis_2 (.var 9)) (.int 0))) (.cons (.expr (.app (.var 2) (.lst false (.cons (.sub (.var 5) (.int 0)) (.cons (.comp false 10 (.var 4) .no b_law_basis_3) .nil))))) .nil)))
def b_law_basis_5 : Ss := (.cons (.asg 4 (.call "_law_left" (.cons (.var 0) (.cons (.var 2) (.cons (.var 3) .nil))))) (.cons (.asg 5 (.comp false 8 (.rng (.cons (.f1 .len (.var 4)) .nil)) b_law_basis_1 (.var 8))) (.cons (.ite (.cmp .gt (.f1 .len (.var 5)) (.int 0)) b_law_basis_4 .nil) .nil)))
def b_law_basis : Ss := (.cons (.asg 2 (.lst true .nil)) (.cons (.forr 3 (.var 1) b_law_basis_5) (.cons (.ret (.frz (.var 2))) .nil)))
noncomputable def T_law_basis : Tab := lk [("_law_left", m_law_left)]
noncomputable def m_law_basis : Mir := mkM T_law_basis G0 2 11 b_law_basis
theorem t_law_basis_law_left : T_law_basis "_law_left" = some m_law_left := rfl
def b_law_says : Ss := (.cons (.ret (.bo true (.cons (.isi (.var 0) .bool) (.cons (.cmp .eq (.var 0) (.var 1)) .nil)))) .nil)
noncomputable def T_law_says : Tab := lk []
noncomputable def m_law_says : Mir := mkM T_law_says G0 2 2 b_law_says
def b_is_whole : Ss := (.cons (.ret (.bo true (.cons (.isi (.var 0) .int) (.cons (.not (.isi (.var 0) .bool)) .nil)))) .nil)
noncomputable def T_is_whole : Tab := lk []
noncomputable def m_is_whole : Mir := mkM T_is_whole G0 1 1 b_is_whole
def b_is_between : Ss := (.cons (.ret (.bo true (.cons (.call "is_whole" (.cons (.var 0) .nil)) (.cons (.chain .le .le (.var 1) (.var 0) (.var 2)) .nil)))) .nil)
noncomputable def T_is_between : Tab := lk [("is_whole", m_is_whole)]
noncomputable def m_is_between : Mir := mkM T_is_between G0 3 3 b_is_between
theorem t_is_between_is_whole : T_is_between "is_whole" = some m_is_whole := rfl
def b_Basis_init : Ss := (.cons (.ite (.cmp .notin (.var 1) (.glob "PRIMES")) (.cons (.raise "BadHouse" (.cons (.str "prime") (.cons (.var 1) .nil))) .nil) .nil) (.cons (.ite (.not (.call "is_between" (.cons (.var 2) (.cons (.int 0) (.cons (.int 6) .nil))))) (.cons (.raise "BadHouse" (.cons (.str "size") (.cons (.var 2) .nil))) .nil) .nil) (.cons (.stf "Basis" "prime" (.var 0) (.var 1)) (.cons (.stf "Basis" "size" (.var 0) (.var 2)) (.cons (.stf "Basis" "reduced" (.var 0) (.lst true .nil)) (.cons (.stf "Basis" "taken" (.var 0) (.int 0)) .nil))))))
noncomputable def T_Basis_init : Tab := lk [("is_between", m_is_between)]
def G_Basis_init : Str → Option Val := lk [("PRIMES", Val.tup [Val.int 2, Val.int 3, Val.int 5, Val.int 7, Val.int 11, Val.int 13, Val.int 17, Val.int 19, Val.int 23, Val.int 29, Val.int 31])]
noncomputable def m_Basis_init : Mir := mkM T_Basis_init G_Basis_init 3 3 b_Basis_init
theorem t_Basis_init_is_between : T_Basis_init "is_between" = some m_is_between := rfl
theorem g_Basis_init_PRIMES : G_Basis_init "PRIMES" = some (Val.tup [Val.int 2, Val.int 3, Val.int 5, Val.int 7, Val.int 11, Val.int 13, Val.int 17, Val.int 19, Val.int 23, Val.int 29, Val.int 31]) := rfl
def b_first_place_1 : Ss := (.cons (.ite (.cmp .ne (.sub (.var 0) (.var 1)) (.int 0)) (.cons (.ret (.var 1)) .nil) .nil) .nil)
def b_first_place : Ss := (.cons (.forr 1 (.rng (.cons (.f1 .len (.var 0)) .nil)) b_first_place_1) (.cons (.ret .non) .nil))
noncomputable def T_first_place : Tab := lk []
noncomputable def m_first_place : Mir := mkM T_first_place G0 1 2 b_first_place
def b_inverse_1 : Ss := (.cons (.ite (.cmp .eq (.bin false .mod (.bin false .mul (.var 3) (.var 2)) (.var 1)) (.int 1)) (.cons (.ret (.var 3)) .nil) .nil) .nil)
def b_inverse : Ss := (.cons (.asg 2 (.bin false .mod (.var 0) (.var 1))) (.cons (.forr 3 (.rng (.cons (.int 1) (.cons (.var 1) .nil))) b_inverse_1) (.cons (.raise "BadRow" (.cons (.int 0) .nil)) .nil)))
noncomputable def T_inverse : Tab := lk []
noncomputable def m_inverse : Mir := mkM T_inverse G0 2 4 b_inverse
def b_scaled_1 : E := (.bin false .mod (.bin false .mul (.var 3) (.var 1)) (.var 2))
def b_scaled : Ss := (.cons (.ret (.g1 false .tuple (.comp false 3 (.var 0) .no b_scaled_1))) .nil)
noncomputable def T_scaled : Tab := lk []
noncomputable def m_scaled : Mir := mkM T_scaled G0 3 4 b_scaled
def b_plus_1 : E := (.bin false .mod (.bin false .add (.sub (.var 0) (.var 3)) (.sub (.var 1) (.var 3))) (.var 2))
def b_plus : Ss := (.cons (.ite (.cmp .ne (.f1 .len (.var 0)) (.f1 .len (.var 1))) (.cons (.raise "BadRow" (.cons (.int 1) .nil)) .nil) .nil) (.cons (.ret (.g1 false .tuple (.comp false 3 (.rng (.cons (.f1 .len (.var 0)) .nil)) .no b_plus_1))) .nil))
noncomputable def T_plus : Tab := lk []
noncomputable def m_plus : Mir := mkM T_plus G0 3 4 b_plus
def b_is_row : Ss := (.cons (.ret (.isi2 (.var 0) .tuple .list)) .nil)
noncomputable def T_is_row : Tab := lk []
noncomputable def m_is_row : Mir := mkM T_is_row G0 1 1 b_is_row
def b_are_numbers_1 : Ss := (.cons (.ite (.not (.call "is_between" (.cons (.var 4) (.cons (.var 2) (.cons (.var 3) .nil))))) (.cons (.ret (.bl false)) .nil) .nil) .nil)
def b_are_numbers : Ss := (.cons (.ite (.bo false (.cons (.not (.call "is_row" (.cons (.var 0) .nil))) (.cons (.cmp .ne (.f1 .len (.var 0)) (.var 1)) .nil))) (.cons (.ret (.bl false)) .nil) .nil) (.cons (.forr 4 (.var 0) b_are_numbers_1) (.cons (.ret (.bl true)) .nil)))
noncomputable def T_are_numbers : Tab := lk [("is_row", m_is_row), ("is_between", m_is_between)]
noncomputable def m_are_numbers : Mir := mkM T_are_numbers G0 4 5 b_are_numbers
theorem t_are_numbers_is_row : T_are_numbers "is_row" = some m_is_row := rfl
theorem t_are_numbers_is_between : T_are_numbers "is_between" = some m_is_between := rfl
def b_Basis_check_row : Ss := (.cons (.ite (.not (.call "are_numbers" (.cons (.var 1) (.cons (.fld "Basis" "size" (.var 0)) (.cons (.int 0) (.cons (.bin false .sub (.fld "Basis" "prime" (.var 0)) (.int 1)) .nil)))))) (.cons (.raise "BadRow" (.cons (.fld "Basis" "taken" (.var 0)) .nil)) .nil) .nil) .nil)
noncomputable def T_Basis_check_row : Tab := lk [("are_numbers", m_are_numbers)]
noncomputable def m_Basis_check_row : Mir := mkM T_Basis_check_row G0 2 2 b_Basis_check_row
theorem t_Basis_check_row_are_numbers : T_Basis_check_row "are_numbers" = some m_are_numbers := rfl
def b_Basis_parted_1 : Ss := (.cons (.asg 2 (.call "plus" (.cons (.var 2) (.cons (.call "scaled" (.cons (.var 5) (.cons (.neg (.var 7)) (.cons (.fld "Basis" "prime" (.var 0)) .nil)))) (.cons (.fld "Basis" "prime" (.var 0)) .nil))))) (.cons (.asg 8 (.bin false .add (.var 6) (.bin false .mul (.tup (.cons (.int 0) .nil)) (.bin false .sub (.fld "Basis" "taken" (.var 0)) (.f1 .len (.var 6)))))) (.cons (.asg 3 (.call "plus" (.cons (.var 3) (.cons (.call "scaled" (.cons (.var 8) (.cons (.var 7) (.cons (.fld "Basis" "prime" (.var 0)) .nil)))) (.cons (.fld "Basis" "prime" (.var 0)) .nil))))) .nil)))
def b_Basis_parted_2 : Ss := (.cons (.asg 7 (.sub (.var 2) (.var 4))) (.cons (.ite (.cmp .ne (.var 7) (.int 0)) b_Basis_parted_1 .nil) .nil))
def b_Basis_parted : Ss := (.cons (.expr (.meth "Basis" "check_row" (.var 0) (.cons (.var 1) .nil))) (.cons (.asg 2 (.g1 false .tuple (.var 1))) (.cons (.asg 3 (.bin false .mul (.tup (.cons (.int 0) .nil)) (.fld "Basis" "taken" (.var 0)))) (.cons (.forc (.many [4, 5, 6]) (.fld "Basis" "reduced" (.var 0)) b_Basis_parted_2) (.cons (.ret (.tup (.cons (.var 2) (.cons (.var 3) .nil)))) .nil)))))
noncomputable def T_Basis_parted : Tab := lk [("plus", m_plus), ("scaled", m_scaled), ((mName "Basis" "check_row"), m_Basis_check_row)]
noncomputable def m_Basis_parted : Mir := mkM T_Basis_parted G0 2 9 b_Basis_parted
theorem t_Basis_parted_plus : T_Basis_parted "plus" = some m_plus := rfl
theorem t_Basis_parted_scaled : T_Basis_parted "scaled" = some m_scaled := rfl
theorem t_Basis_parted_Basis_check_row : T_Basis_parted (mName "Basis" "check_row") = some m_Basis_check_row := rfl
def b_Basis_take : Ss := (.cons (.ite (.cmp .eq (.fld "Basis" "taken" (.var 0)) (.glob "MOST_ROWS")) (.cons (.raise "TooMany" (.cons (.glob "MOST_ROWS") .nil)) .nil) .nil) (.cons (.asgt [2, 3] (.meth "Basis" "parted" (.var 0) (.cons (.var 1) .nil))) (.cons (.stf "Basis" "taken" (.var 0) (.bin false .add (.fld "Basis" "taken" (.var 0)) (.int 1))) (.cons (.asg 4 (.call "first_place" (.cons (.var 2) .nil))) (.cons (.ite (.cmp .is_ (.var 4) .non) (.cons (.ret (.bl false)) .nil) .nil) (.cons (.asg 5 (.call "inverse" (.cons (.sub (.var 2) (.var 4)) (.cons (.fld "Basis" "prime" (.var 0)) .nil)))) (.cons (.asg 6 (.bin false .add (.call "scaled" (.cons (.var 3) (.cons (.neg (.var 5)) (.cons (.fld "Basis" "prime" (.var 0)) .nil)))) (.tup (.cons (.var 5) .nil)))) (.cons (.expr (.app (.fld "Basis" "reduced" (.var 0)) (.tup (.cons (.var 4) (.cons (.call "scaled" (.cons (.var 2) (.cons (.var 5) (.cons (.fld "Basis" "prime" (.var 0)) .nil)))) (.cons (.var 6) .nil)))))) (.cons (.ret (.bl true)) .nil)))))))))
noncomputable def T_Basis_take : Tab := lk [("first_place", m_first_place), ("inverse", m_inverse), ("scaled", m_scaled), ((mName "Basis" "parted"), m_Basis_parted)]
def G_Basis_take : Str → Option Val := lk [("MOST_ROWS", Val.int 60)]
noncomputable def m_Basis_take : Mir := mkM T_Basis_take G_Basis_take 2 7 b_Basis_take
theorem t_Basis_take_first_place : T_Basis_take "first_place" = some m_first_place := rfl
theorem t_Basis_take_inverse : T_Basis_take "inverse" = some m_inverse := rfl
theorem t_Basis_take_scaled : T_Basis_take "scaled" = some m_scaled := rfl
theorem t_Basis_take_Basis_parted : T_Basis_take (mName "Basis" "parted") = some m_Basis_parted := rfl
theorem g_Basis_take_MOST_ROWS : G_Basis_take "MOST_ROWS" = some (Val.int 60) := rfl
def b_basis_of_1 : Ss := (.cons (.expr (.meth "Basis" "take" (.var 3) (.cons (.var 4) .nil))) .nil)
def b_basis_of : Ss := (.cons (.asg 3 (.new "Basis" (.cons (.var 0) (.cons (.var 1) .nil)))) (.cons (.ite (.cmp .gt (.f1 .len (.var 2)) (.glob "MOST_ROWS")) (.cons (.raise "TooMany" (.cons (.glob "MOST_ROWS") .nil)) .nil) .nil) (.cons (.forr 4 (.var 2) b_basis_of_1) (.cons (.ret (.var 3)) .nil))))
noncomputable def T_basis_of : Tab := lk [((mName "Basis" "__init__"), m_Basis_init), ((mName "Basis" "take"), m_Basis_take)]
def G_basis_of : Str → Option Val := lk [("MOST_ROWS", Val.int 60)]
noncomputable def m_basis_of : Mir := mkM T_basis_of G_basis_of 3 5 b_basis_of
theorem t_basis_of_Basis_init : T_basis_of (mName "Basis" "__init__") = some m_Basis_init := rfl
theorem t_basis_of_Basis_take : T_basis_of (mName "Basis" "take") = some m_Basis_take := rfl
theorem g_basis_of_MOST_ROWS : G_basis_of "MOST_ROWS" = some (Val.int 60) := rfl
def b_mixed_1 : Ss := (.cons (.asg 4 (.call "plus" (.cons (.var 4) (.cons (.call "scaled" (.cons (.sub (.var 2) (.var 5)) (.cons (.sub (.var 3) (.var 5)) (.cons (.var 0) .nil)))) (.cons (.var 0) .nil))))) .nil)
def b_mixed : Ss := (.cons (.asg 4 (.bin false .mul (.tup (.cons (.int 0) .nil)) (.var 1))) (.cons (.forr 5 (.rng (.cons (.f1 .len (.var 2)) .nil)) b_mixed_1) (.cons (.ret (.var 4)) .nil)))
noncomputable def T_mixed : Tab := lk [("plus", m_plus), ("scaled", m_scaled)]
noncomputable def m_mixed : Mir := mkM T_mixed G0 4 6 b_mixed
theorem t_mixed_plus : T_mixed "plus" = some m_plus := rfl
theorem t_mixed_scaled : T_mixed "scaled" = some m_scaled := rfl
def b_is_combination : Ss := (.cons (.expr (.meth "Basis" "check_row" (.call "basis_of" (.cons (.var 0) (.cons (.var 1) (.cons (.var 2) .nil)))) (.cons (.var 3) .nil))) (.cons (.ite (.not (.call "are_numbers" (.cons (.var 4) (.cons (.f1 .len (.var 2)) (.cons (.int 0) (.cons (.bin false .sub (.var 0) (.int 1)) .nil)))))) (.cons (.ret (.bl false)) .nil) .nil) (.cons (.ret (.cmp .eq (.call "mixed" (.cons (.var 0) (.cons (.var 1) (.cons (.var 2) (.cons (.var 4) .nil))))) (.g1 false .tuple (.var 3)))) .nil)))
noncomputable def T_is_combination : Tab := lk [("basis_of", m_basis_of), ("are_numbers", m_are_numbers), ("mixed", m_mixed), ((mName "Basis" "check_row"), m_Basis_check_row)]
noncomputable def m_is_combination : Mir := mkM T_is_combination G0 5 5 b_is_combination
theorem t_is_combination_basis_of : T_is_combination "basis_of" = some m_basis_of := rfl
theorem t_is_combination_are_numbers : T_is_combination "are_numbers" = some m_are_numbers := rfl
theorem t_is_combination_mixed : T_is_combination "mixed" = some m_mixed := rfl
theorem t_is_combination_Basis_check_row : T_is_combination (mName "Basis" "check_row") = some m_Basis_check_row := rfl
def b_law_is_integer : Ss := (.cons (.ret (.bo true (.cons (.isi (.var 0) .int) (.cons (.not (.isi (.var 0) .bool)) .nil)))) .nil)
noncomputable def T_law_is_integer : Tab := lk []
noncomputable def m_law_is_integer : Mir := mkM T_law_is_integer G0 1 1 b_law_is_integer
def b_law_good_1 : Ss := (.cons (.ite (.bo false (.cons (.not (.call "_law_is_integer" (.cons (.var 3) .nil))) (.cons (.cmp .lt (.var 3) (.int 0)) (.cons (.cmp .ge (.var 3) (.var 2)) .nil)))) (.cons (.ret (.bl false)) .nil) .nil) .nil)
def b_law_good : Ss := (.cons (.ite (.bo true (.cons (.not (.isi (.var 0) .tuple)) (.cons (.not (.isi (.var 0) .list)) .nil))) (.cons (.ret (.bl false)) .nil) .nil) (.cons (.ite (.cmp .ne (.f1 .len (.var 0)) (.var 1)) (.cons (.ret (.bl false)) .nil) .nil) (.cons (.forr 3 (.var 0) b_law_good_1) (.cons (.ret (.bl true)) .nil))))
noncomputable def T_law_good : Tab := lk [("_law_is_integer", m_law_is_integer)]
noncomputable def m_law_good : Mir := mkM T_law_good G0 3 4 b_law_good
theorem t_law_good_law_is_integer : T_law_good "_law_is_integer" = some m_law_is_integer := rfl
def b_law_combines : Ss := (.cons (.ret (.bo true (.cons (.call "_law_good" (.cons (.var 4) (.cons (.f1 .len (.var 2)) (.cons (.var 0) .nil)))) (.cons (.cmp .eq (.call "_law_sum" (.cons (.var 0) (.cons (.var 1) (.cons (.var 2) (.cons (.var 4) .nil))))) (.var 3)) .nil)))) .nil)
noncomputable def T_law_combines : Tab := lk [("_law_good", m_law_good), ("_law_sum", m_law_sum)]
noncomputable def m_law_combines : Mir := mkM T_law_combines G0 5 5 b_law_combines
theorem t_law_combines_law_good : T_law_combines "_law_good" = some m_law_good := rfl
theorem t_law_combines_law_sum : T_law_combines "_law_sum" = some m_law_sum := rfl
def b_dot_1 : Ss := (.cons (.asg 3 (.bin false .add (.var 3) (.bin false .mul (.sub (.var 0) (.var 4)) (.sub (.var 1) (.var 4))))) .nil)
def b_dot : Ss := (.cons (.ite (.cmp .ne (.f1 .len (.var 0)) (.f1 .len (.var 1))) (.cons (.raise "BadRow" (.cons (.int 1) .nil)) .nil) .nil) (.cons (.asg 3 (.int 0)) (.cons (.forr 4 (.rng (.cons (.f1 .len (.var 0)) .nil)) b_dot_1) (.cons (.ret (.bin false .mod (.var 3) (.var 2))) .nil))))
noncomputable def T_dot : Tab := lk []
noncomputable def m_dot : Mir := mkM T_dot G0 3 5 b_dot
def b_all_zero_1 : Ss := (.cons (.ite (.cmp .ne (.call "dot" (.cons (.var 3) (.cons (.var 2) (.cons (.var 0) .nil)))) (.int 0)) (.cons (.ret (.bl false)) .nil) .nil) .nil)
def b_all_zero : Ss := (.cons (.forr 3 (.var 1) b_all_zero_1) (.cons (.ret (.bl true)) .nil))
noncomputable def T_all_zero : Tab := lk [("dot", m_dot)]
noncomputable def m_all_zero : Mir := mkM T_all_zero G0 3 4 b_all_zero
theorem t_all_zero_dot : T_all_zero "dot" = some m_dot := rfl
def b_is_twin : Ss := (.cons (.expr (.meth "Basis" "check_row" (.call "basis_of" (.cons (.var 0) (.cons (.var 1) (.cons (.var 2) .nil)))) (.cons (.var 3) .nil))) (.cons (.ite (.not (.call "are_numbers" (.cons (.var 4) (.cons (.var 1) (.cons (.int 0) (.cons (.bin false .sub (.var 0) (.int 1)) .nil)))))) (.cons (.ret (.bl false)) .nil) .nil) (.cons (.ret (.bo true (.cons (.call "all_zero" (.cons (.var 0) (.cons (.var 2) (.cons (.var 4) .nil)))) (.cons (.cmp .ne (.call "dot" (.cons (.var 3) (.cons (.var 4) (.cons (.var 0) .nil)))) (.int 0)) .nil)))) .nil)))
noncomputable def T_is_twin : Tab := lk [("basis_of", m_basis_of), ("are_numbers", m_are_numbers), ("all_zero", m_all_zero), ("dot", m_dot), ((mName "Basis" "check_row"), m_Basis_check_row)]
noncomputable def m_is_twin : Mir := mkM T_is_twin G0 5 5 b_is_twin
theorem t_is_twin_basis_of : T_is_twin "basis_of" = some m_basis_of := rfl
theorem t_is_twin_are_numbers : T_is_twin "are_numbers" = some m_are_numbers := rfl
theorem t_is_twin_all_zero : T_is_twin "all_zero" = some m_all_zero := rfl
theorem t_is_twin_dot : T_is_twin "dot" = some m_dot := rfl
theorem t_is_twin_Basis_check_row : T_is_twin (mName "Basis" "check_row") = some m_Basis_check_row := rfl
def b_law_dot_1 : Ss := (.cons (.asg 3 (.bin false .add (.var 3) (.bin false .mul (.sub (.var 0) (.var 4)) (.sub (.var 1) (.var 4))))) .nil)
def b_law_dot : Ss := (.cons (.asg 3 (.int 0)) (.cons (.forr 4 (.rng (.cons (.f1 .len (.var 0)) .nil)) b_law_dot_1) (.cons (.ret (.bin false .mod (.f1 .int (.var 3)) (.var 2))) .nil)))
noncomputable def T_law_dot : Tab := lk []
noncomputable def m_law_dot : Mir := mkM T_law_dot G0 3 5 b_law_dot
def b_law_twins_1 : Ss := (.cons (.ite (.cmp .ne (.call "_law_dot" (.cons (.var 5) (.cons (.var 4) (.cons (.var 0) .nil)))) (.int 0)) (.cons (.ret (.bl false)) .nil) .nil) .nil)
def b_law_twins : Ss := (.cons (.ite (.not (.call "_law_good" (.cons (.var 4) (.cons (.var 1) (.cons (.var 0) .nil))))) (.cons (.ret (.bl false)) .nil) .nil) (.cons (.forr 5 (.var 2) b_law_twins_1) (.cons (.ret (.cmp .ne (.call "_law_dot" (.cons (.var 3) (.cons (.var 4) (.cons (.var 0) .nil)))) (.int 0))) .nil)))
noncomputable def T_law_twins : Tab := lk [("_law_good", m_law_good), ("_law_dot", m_law_dot)]
noncomputable def m_law_twins : Mir := mkM T_law_twins G0 5 6 b_law_twins
theorem t_law_twins_law_good : T_law_twins "_law_good" = some m_law_good := rfl
theorem t_law_twins_law_dot : T_law_twins "_law_dot" = some m_law_dot := rfl
def b_law_judged : Ss := (.cons (.ite (.not (.call "_law_says" (.cons (.call "is_combination" (.cons (.var 0) (.cons (.var 1) (.cons (.var 4) (.cons (.var 3) (.cons (.var 5) .nil)))))) (.cons (.call "_law_combines" (.cons (.var 0) (.cons (.var 1) (.cons (.var 2) (.cons (.var 3) (.cons (.var 5) .nil)))))) .nil)))) (.cons (.ret (.bl false)) .nil) .nil) (.cons (.ret (.call "_law_says" (.cons (.call "is_twin" (.cons (.var 0) (.cons (.var 1) (.cons (.var 4) (.cons (.var 3) (.cons (.var 5) .nil)))))) (.cons (.call "_law_twins" (.cons (.var 0) (.cons (.var 1) (.cons (.var 2) (.cons (.var 3) (.cons (.var 5) .nil)))))) .nil)))) .nil))
noncomputable def T_law_judged : Tab := lk [("_law_says", m_law_says), ("is_combination", m_is_combination), ("_law_combines", m_law_combines), ("is_twin", m_is_twin), ("_law_twins", m_law_twins)]
noncomputable def m_law_judged : Mir := mkM T_law_judged G0 6 6 b_law_judged
theorem t_law_judged_law_says : T_law_judged "_law_says" = some m_law_says := rfl
theorem t_law_judged_is_combination : T_law_judged "is_combination" = some m_is_combination := rfl
theorem t_law_judged_law_combines : T_law_judged "_law_combines" = some m_law_combines := rfl
theorem t_law_judged_is_twin : T_law_judged "is_twin" = some m_is_twin := rfl
theorem t_law_judged_law_twins : T_law_judged "_law_twins" = some m_law_twins := rfl
def b_Basis_rank : Ss := (.cons (.ret (.f1 .len (.fld "Basis" "reduced" (.var 0)))) .nil)
noncomputable def T_Basis_rank : Tab := lk []
noncomputable def m_Basis_rank : Mir := mkM T_Basis_rank G0 1 1 b_Basis_rank
def b_rank_of : Ss := (.cons (.ret (.meth "Basis" "rank" (.call "basis_of" (.cons (.var 0) (.cons (.var 1) (.cons (.var 2) .nil)))) .nil)) .nil)
noncomputable def T_rank_of : Tab := lk [("basis_of", m_basis_of), ((mName "Basis" "rank"), m_Basis_rank)]
noncomputable def m_rank_of : Mir := mkM T_rank_of G0 3 3 b_rank_of
theorem t_rank_of_basis_of : T_rank_of "basis_of" = some m_basis_of := rfl
theorem t_rank_of_Basis_rank : T_rank_of (mName "Basis" "rank") = some m_Basis_rank := rfl
def b_Basis_combination : Ss := (.cons (.asgt [2, 3] (.meth "Basis" "parted" (.var 0) (.cons (.var 1) .nil))) (.cons (.ite (.cmp .isnot (.call "first_place" (.cons (.var 2) .nil)) .non) (.cons (.ret .non) .nil) .nil) (.cons (.ret (.var 3)) .nil)))
noncomputable def T_Basis_combination : Tab := lk [("first_place", m_first_place), ((mName "Basis" "parted"), m_Basis_parted)]
noncomputable def m_Basis_combination : Mir := mkM T_Basis_combination G0 2 4 b_Basis_combination
theorem t_Basis_combination_first_place : T_Basis_combination "first_place" = some m_first_place := rfl
theorem t_Basis_combination_Basis_parted : T_Basis_combination (mName "Basis" "parted") = some m_Basis_parted := rfl
def b_combination_of : Ss := (.cons (.ret (.meth "Basis" "combination" (.call "basis_of" (.cons (.var 0) (.cons (.var 1) (.cons (.var 2) .nil)))) (.cons (.var 3) .nil))) .nil)
noncomputable def T_combination_of : Tab := lk [("basis_of", m_basis_of), ((mName "Basis" "combination"), m_Basis_combination)]
noncomputable def m_combination_of : Mir := mkM T_combination_of G0 4 4 b_combination_of
theorem t_combination_of_basis_of : T_combination_of "basis_of" = some m_basis_of := rfl
theorem t_combination_of_Basis_combination : T_combination_of (mName "Basis" "combination") = some m_Basis_combination := rfl
def b_Basis_rest_of_1 : Ss := (.cons (.asg 2 (.call "plus" (.cons (.var 2) (.cons (.call "scaled" (.cons (.var 4) (.cons (.neg (.sub (.var 2) (.var 3))) (.cons (.fld "Basis" "prime" (.var 0)) .nil)))) (.cons (.fld "Basis" "prime" (.var 0)) .nil))))) .nil)
def b_Basis_rest_of_2 : Ss := (.cons (.ite (.cmp .ne (.sub (.var 2) (.var 3)) (.int 0)) b_Basis_rest_of_1 .nil) .nil)
def b_Basis_rest_of : Ss := (.cons (.expr (.meth "Basis" "check_row" (.var 0) (.cons (.var 1) .nil))) (.cons (.asg 2 (.g1 false .tuple (.var 1))) (.cons (.forc (.many [3, 4, 5]) (.fld "Basis" "reduced" (.var 0)) b_Basis_rest_of_2) (.cons (.ret (.var 2)) .nil))))
noncomputable def T_Basis_rest_of : Tab := lk [("plus", m_plus), ("scaled", m_scaled), ((mName "Basis" "check_row"), m_Basis_check_row)]
noncomputable def m_Basis_rest_of : Mir := mkM T_Basis_rest_of G0 2 6 b_Basis_rest_of
theorem t_Basis_rest_of_plus : T_Basis_rest_of "plus" = some m_plus := rfl
theorem t_Basis_rest_of_scaled : T_Basis_rest_of "scaled" = some m_scaled := rfl
theorem t_Basis_rest_of_Basis_check_row : T_Basis_rest_of (mName "Basis" "check_row") = some m_Basis_check_row := rfl
def b_Basis_solved_1 : Ss := (.cons (.asgt [5, 6, 7] (.sub (.fld "Basis" "reduced" (.var 0)) (.var 4))) (.cons (.sto (.var 3) (.var 5) (.bin false .mod (.neg (.call "dot" (.cons (.var 6) (.cons (.var 3) (.cons (.fld "Basis" "prime" (.var 0)) .nil))))) (.fld "Basis" "prime" (.var 0)))) .nil))
def b_Basis_solved : Ss := (.cons (.asg 3 (.bin true .mul (.lst false (.cons (.int 0) .nil)) (.fld "Basis" "size" (.var 0)))) (.cons (.sto (.var 3) (.var 1) (.var 2)) (.cons (.forr 4 (.rng (.cons (.bin false .sub (.f1 .len (.fld "Basis" "reduced" (.var 0))) (.int 1)) (.cons (.neg (.int 1)) (.cons (.neg (.int 1)) .nil)))) b_Basis_solved_1) (.cons (.ret (.g1 false .tuple (.var 3))) .nil))))
noncomputable def T_Basis_solved : Tab := lk [("dot", m_dot)]
noncomputable def m_Basis_solved : Mir := mkM T_Basis_solved G0 3 8 b_Basis_solved
theorem t_Basis_solved_dot : T_Basis_solved "dot" = some m_dot := rfl
def b_Basis_twin : Ss := (.cons (.asg 2 (.meth "Basis" "rest_of" (.var 0) (.cons (.var 1) .nil))) (.cons (.asg 3 (.call "first_place" (.cons (.var 2) .nil))) (.cons (.ite (.cmp .is_ (.var 3) .non) (.cons (.ret .non) .nil) .nil) (.cons (.ret (.meth "Basis" "solved" (.var 0) (.cons (.var 3) (.cons (.call "inverse" (.cons (.sub (.var 2) (.var 3)) (.cons (.fld "Basis" "prime" (.var 0)) .nil))) .nil)))) .nil))))
noncomputable def T_Basis_twin : Tab := lk [("first_place", m_first_place), ("inverse", m_inverse), ((mName "Basis" "rest_of"), m_Basis_rest_of), ((mName "Basis" "solved"), m_Basis_solved)]
noncomputable def m_Basis_twin : Mir := mkM T_Basis_twin G0 2 4 b_Basis_twin
theorem t_Basis_twin_first_place : T_Basis_twin "first_place" = some m_first_place := rfl
theorem t_Basis_twin_inverse : T_Basis_twin "inverse" = some m_inverse := rfl
theorem t_Basis_twin_Basis_rest_of : T_Basis_twin (mName "Basis" "rest_of") = some m_Basis_rest_of := rfl
theorem t_Basis_twin_Basis_solved : T_Basis_twin (mName "Basis" "solved") = some m_Basis_solved := rfl
def b_twin_for : Ss := (.cons (.ret (.meth "Basis" "twin" (.call "basis_of" (.cons (.var 0) (.cons (.var 1) (.cons (.var 2) .nil)))) (.cons (.var 3) .nil))) .nil)
noncomputable def T_twin_for : Tab := lk [("basis_of", m_basis_of), ((mName "Basis" "twin"), m_Basis_twin)]
noncomputable def m_twin_for : Mir := mkM T_twin_for G0 4 4 b_twin_for
theorem t_twin_for_basis_of : T_twin_for "basis_of" = some m_basis_of := rfl
theorem t_twin_for_Basis_twin : T_twin_for (mName "Basis" "twin") = some m_Basis_twin := rfl
def b_law_paper_1 : E := (.call "_law_draw" (.cons (.var 0) (.cons (.var 1) .nil)))
def b_law_paper_2 : E := (.bin false .mod (.f1 .int (.bin false .mul (.var 8) (.var 6))) (.var 1))
def b_law_paper : Ss := (.cons (.asg 5 (.call "_law_draw" (.cons (.var 0) (.cons (.int 4) .nil)))) (.cons (.asg 6 (.bin false .add (.int 1) (.call "_law_draw" (.cons (.var 0) (.cons (.bin false .sub (.var 1) (.int 1)) .nil))))) (.cons (.ite (.cmp .eq (.var 5) (.int 0)) (.cons (.ret (.g1 false .list (.var 3))) .nil) .nil) (.cons (.ite (.cmp .eq (.var 5) (.int 1)) (.cons (.ret (.comp false 7 (.rng (.cons (.var 2) .nil)) .no b_law_paper_1)) .nil) .nil) (.cons (.ite (.cmp .eq (.var 5) (.int 2)) (.cons (.ret (.comp false 8 (.var 4) .no b_law_paper_2)) .nil) .nil) (.cons (.ret (.g1 false .list (.var 4))) .nil))))))
noncomputable def T_law_paper : Tab := lk [("_law_draw", m_law_draw)]
noncomputable def m_law_paper : Mir := mkM T_law_paper G0 5 9 b_law_paper
theorem t_law_paper_law_draw : T_law_paper "_law_draw" = some m_law_draw := rfl
def b_law_spoiled_1 : Ss := (.cons (.ret (.bin false .add (.bin false .add (.slc false (.var 1) .no (.var 4)) (.lst false (.cons (.call "_law_draw" (.cons (.var 0) (.cons (.int 2) .nil))) .nil))) (.slc false (.var 1) (.var 4) .no))) .nil)
def b_law_spoiled_2 : Ss := (.cons (.ret (.sub (.lst false (.cons .non (.cons (.bl true) (.cons (.int 0) (.cons (.int 7) (.cons (.str "") (.cons (.str "0") (.cons (.tup .nil) (.cons (.lst false (.cons (.var 1) .nil)) (.cons (.tup (.cons .non .nil)) (.cons (.lst false (.cons (.lst false (.cons (.int 0) .nil)) .nil)) .nil))))))))))) (.call "_law_draw" (.cons (.var 0) (.cons (.int 10) .nil))))) .nil)
def b_law_spoiled_3 : Ss := (.cons (.ret (.bin false .add (.bin false .add (.slc false (.var 1) .no (.var 4)) (.lst false (.cons (.bin false .mod (.f1 .int (.bin false .add (.bin false .add (.sub (.var 1) (.var 4)) (.int 1)) (.call "_law_draw" (.cons (.var 0) (.cons (.bin false .sub (.var 2) (.int 1)) .nil))))) (.var 2)) .nil))) (.slc false (.var 1) (.bin false .add (.var 4) (.int 1)) .no))) .nil)
def b_law_spoiled : Ss := (.cons (.asg 3 (.call "_law_draw" (.cons (.var 0) (.cons (.int 9) .nil)))) (.cons (.asg 4 (.call "_law_draw" (.cons (.var 0) (.cons (.bin false .add (.f1 .len (.var 1)) (.int 1)) .nil)))) (.cons (.asg 5 (.sub (.lst false (.cons (.var 2) (.cons (.neg (.int 1)) (.cons (.bl true) (.cons (.bl false) (.cons .non (.cons (.str "") (.cons (.str "1") (.cons (.tup .nil) (.cons (.lst false (.cons (.int 0) .nil)) (.cons (.bin false .pow (.int 10) (.int 20)) .nil))))))))))) (.call "_law_draw" (.cons (.var 0) (.cons (.int 10) .nil))))) (.cons (.ite (.cmp .eq (.var 3) (.int 0)) (.cons (.ret (.bin false .add (.slc false (.var 1) .no (.var 4)) (.slc false (.var 1) (.bin false .add (.var 4) (.int 1)) .no))) .nil) .nil) (.cons (.ite (.cmp .eq (.var 3) (.int 1)) b_law_spoiled_1 .nil) (.cons (.ite (.cmp .eq (.var 3) (.int 2)) (.cons (.ret (.bin false .add (.bin false .add (.slc false (.var 1) .no (.var 4)) (.lst false (.cons (.var 5) .nil))) (.slc false (.var 1) (.bin false .add (.var 4) (.int 1)) .no))) .nil) .nil) (.cons (.ite (.cmp .eq (.var 3) (.int 3)) (.cons (.ret (.bin false .add (.slc false (.var 1) (.var 4) .no) (.slc false (.var 1) .no (.var 4)))) .nil) .nil) (.cons (.ite (.cmp .eq (.var 3) (.int 4)) b_law_spoiled_2 .nil) (.cons (.ite (.bo true (.cons (.cmp .lt (.var 3) (.int 7)) (.cons (.cmp .lt (.var 4) (.f1 .len (.var 1))) .nil))) b_law_spoiled_3 .nil) (.cons (.ret (.var 1)) .nil))))))))))
noncomputable def T_law_spoiled : Tab := lk [("_law_draw", m_law_draw)]
noncomputable def m_law_spoiled : Mir := mkM T_law_spoiled G0 3 6 b_law_spoiled
theorem t_law_spoiled_law_draw : T_law_spoiled "_law_draw" = some m_law_draw := rfl
def b_law_1 : E := (.call "_law_draw" (.cons (.var 6) (.cons (.var 2) .nil)))
def b_law_2 : E := (.cmp .ne (.var 20) (.int 0))
def b_law_3 : Ss := (.cons (.asg 17 (.call "_law_paper" (.cons (.var 1) (.cons (.var 2) (.cons (.var 3) (.cons (.var 7) (.cons (.var 15) .nil))))))) (.cons (.asg 17 (.call "_law_spoiled" (.cons (.var 1) (.cons (.var 17) (.cons (.var 2) .nil))))) (.cons (.ite (.bo true (.cons (.isi (.var 17) .list) (.cons (.cmp .eq (.call "_law_draw" (.cons (.var 1) (.cons (.int 2) .nil))) (.int 0)) .nil))) (.cons (.asg 17 (.g1 false .tuple (.var 17))) .nil) .nil) (.cons (.ite (.bo true (.cons (.cmp .lt (.f1 .len (.var 4)) (.int 21)) (.cons (.not (.call "_law_judged" (.cons (.var 2) (.cons (.var 3) (.cons (.var 4) (.cons (.var 9) (.cons (.var 5) (.cons (.var 17) .nil)))))))) .nil))) (.cons (.ret (.bl false)) .nil) .nil) .nil))))
def b_law_4 : E := (.g1 false .list (.var 19))
def b_law_c22 : Ss := (.cons (.forr 16 (.rng (.cons (.int 3) .nil)) b_law_3) (.cons (.ite (.not (.call "_law_judged" (.cons (.var 2) (.cons (.var 3) (.cons (.var 4) (.cons (.var 9) (.cons (.var 5) (.cons (.g1 false .list (.var 15)) .nil)))))))) (.cons (.ret (.bl false)) .nil) .nil) (.cons (.ret (.cmp .eq (.comp false 19 (.var 5) .no b_law_4) (.var 4))) .nil)))
def b_law_c19 : Ss := (.cons (.asg 15 (.var 13)) (.cons (.ite (.not (.var 11)) (.cons (.asg 15 (.var 14)) .nil) .nil) (.cons (.ite (.bo false (.cons (.cmp .ne (.var 11) (.call "_law_combines" (.cons (.var 2) (.cons (.var 3) (.cons (.var 4) (.cons (.var 9) (.cons (.var 15) .nil))))))) (.cons (.cmp .eq (.var 11) (.call "_law_twins" (.cons (.var 2) (.cons (.var 3) (.cons (.var 4) (.cons (.var 9) (.cons (.var 15) .nil))))))) .nil))) (.cons (.ret (.bl false)) .nil) .nil) b_law_c22)))
def b_law_c10 : Ss := (.cons (.asg 10 (.call "_law_basis" (.cons (.var 2) (.cons (.var 4) .nil)))) (.cons (.asg 11 (.cmp .eq (.f1 .len (.comp false 20 (.call "_law_left" (.cons (.var 2) (.cons (.var 10) (.cons (.var 9) .nil)))) b_law_2 (.var 20))) (.int 0))) (.cons (.ite (.not (.call "_law_judged" (.cons (.var 2) (.cons (.var 3) (.cons (.var 4) (.cons (.var 9) (.cons (.var 5) (.cons (.var 7) .nil)))))))) (.cons (.ret (.bl false)) .nil) .nil) (.cons (.asg 12 (.call "rank_of" (.cons (.var 2) (.cons (.var 3) (.cons (.var 5) .nil))))) (.cons (.asg 13 (.call "combination_of" (.cons (.var 2) (.cons (.var 3) (.cons (.var 5) (.cons (.g1 false .tuple (.var 9)) .nil)))))) (.cons (.asg 14 (.call "twin_for" (.cons (.var 2) (.cons (.var 3) (.cons (.var 5) (.cons (.g1 false .list (.var 9)) .nil)))))) (.cons (.ite (.bo false (.cons (.not (.call "_law_is_integer" (.cons (.var 12) .nil))) (.cons (.cmp .ne (.var 12) (.f1 .len (.var 10))) .nil))) (.cons (.ret (.bl false)) .nil) .nil) (.cons (.ite (.bo true (.cons (.var 11) (.cons (.bo false (.cons (.cmp .isnot (.var 14) .non) (.cons (.not (.isi (.var 13) .tuple)) .nil))) .nil))) (.cons (.ret (.bl false)) .nil) .nil) (.cons (.ite (.bo true (.cons (.not (.var 11)) (.cons (.bo false (.cons (.cmp .isnot (.var 13) .non) (.cons (.not (.isi (.var 14) .tuple)) .nil))) .nil))) (.cons (.ret (.bl false)) .nil) .nil) b_law_c19)))))))))
def b_law : Ss := (.cons (.asg 1 (.call "_law_source" (.cons (.var 0) (.cons (.int 0) .nil)))) (.cons (.asg 2 (.sub (.lst false (.cons (.int 2) (.cons (.int 3) (.cons (.int 5) (.cons (.int 7) (.cons (.int 11) (.cons (.int 13) (.cons (.int 17) (.cons (.int 19) (.cons (.int 23) (.cons (.int 29) (.cons (.int 31) .nil)))))))))))) (.call "_law_draw" (.cons (.var 1) (.cons (.int 11) .nil))))) (.cons (.asg 3 (.call "_law_draw" (.cons (.var 1) (.cons (.int 7) .nil)))) (.cons (.asg 4 (.call "_law_rows" (.cons (.var 0) (.cons (.int 1) (.cons (.var 2) (.cons (.var 3) (.cons (.call "_law_count" (.cons (.var 1) .nil)) .nil))))))) (.cons (.asg 5 (.call "_law_shaped" (.cons (.var 4) (.cons (.call "_law_draw" (.cons (.var 1) (.cons (.int 3) .nil))) .nil)))) (.cons (.asg 6 (.call "_law_source" (.cons (.var 0) (.cons (.int 31) .nil)))) (.cons (.asg 7 (.comp false 18 (.rng (.cons (.f1 .len (.var 4)) .nil)) .no b_law_1)) (.cons (.asg 8 (.call "_law_source" (.cons (.var 0) (.cons (.int 32) .nil)))) (.cons (.asg 9 (.call "_law_row" (.cons (.var 8) (.cons (.var 2) (.cons (.var 3) (.cons (.var 4) .nil)))))) (.cons (.ite (.cmp .eq (.call "_law_draw" (.cons (.var 8) (.cons (.int 3) .nil))) (.int 0)) (.cons (.asg 9 (.call "_law_sum" (.cons (.var 2) (.cons (.var 3) (.cons (.var 4) (.cons (.var 7) .nil)))))) .nil) .nil) b_law_c10))))))))))
noncomputable def T_law : Tab := lk [("_law_source", m_law_source), ("_law_draw", m_law_draw), ("_law_rows", m_law_rows), ("_law_count", m_law_count), ("_law_shaped", m_law_shaped), ("_law_row", m_law_row), ("_law_sum", m_law_sum), ("_law_basis", m_law_basis), ("_law_left", m_law_left), ("_law_judged", m_law_judged), ("rank_of", m_rank_of), ("combination_of", m_combination_of), ("twin_for", m_twin_for), ("_law_is_integer", m_law_is_integer), ("_law_combines", m_law_combines), ("_law_twins", m_law_twins), ("_law_paper", m_law_paper), ("_law_spoiled", m_law_spoiled)]
noncomputable def m_law : Mir := mkM T_law G0 1 21 b_law
theorem t_law_law_source : T_law "_law_source" = some m_law_source := rfl
theorem t_law_law_draw : T_law "_law_draw" = some m_law_draw := rfl
theorem t_law_law_rows : T_law "_law_rows" = some m_law_rows := rfl
theorem t_law_law_count : T_law "_law_count" = some m_law_count := rfl
theorem t_law_law_shaped : T_law "_law_shaped" = some m_law_shaped := rfl
theorem t_law_law_row : T_law "_law_row" = some m_law_row := rfl
theorem t_law_law_sum : T_law "_law_sum" = some m_law_sum := rfl
theorem t_law_law_basis : T_law "_law_basis" = some m_law_basis := rfl
theorem t_law_law_left : T_law "_law_left" = some m_law_left := rfl
theorem t_law_law_judged : T_law "_law_judged" = some m_law_judged := rfl
theorem t_law_rank_of : T_law "rank_of" = some m_rank_of := rfl
theorem t_law_combination_of : T_law "combination_of" = some m_combination_of := rfl
theorem t_law_twin_for : T_law "twin_for" = some m_twin_for := rfl
theorem t_law_law_is_integer : T_law "_law_is_integer" = some m_law_is_integer := rfl
theorem t_law_law_combines : T_law "_law_combines" = some m_law_combines := rfl
theorem t_law_law_twins : T_law "_law_twins" = some m_law_twins := rfl
theorem t_law_law_paper : T_law "_law_paper" = some m_law_paper := rfl
theorem t_law_law_spoiled : T_law "_law_spoiled" = some m_law_spoiled := rfl
local macro_rules | `(tactic| simp_arith [$args,*]) => `(tactic| simp -implicitDefEqProofs only [List.map_cons, List.map_nil, List.length_cons, List.length_nil, List.cons_append, List.nil_append, List.getElem?_cons_zero, List.getElem?_cons_succ, List.set_cons_zero, List.set_cons_succ, MP.R.bind_ok, MP.R.bind_exn, MP.R.st_ok, MP.R.st_exn, RS.bind_next, RS.bind_ret, RS.bind_brk, RS.bind_cnt, RS.bind_exn, isTy, isL, if_true, if_false, Bool.false_eq_true, Bool.true_eq_false, Bool.not_false, Bool.not_true, reduceIte, cmp_lt, cmp_le, cmp_gt, cmp_ge, cmp_is, cmp_isnot, cmp_isb, cmp_isnotb, ite_andv, ite_orv, ite_andt, ite_ort, ite_andq, bV_add, bV_sub, bV_mod, bV_fdivL, bV_tup, bV_catl, bV_powL, newL_f, newL_t, newT_f, le_sz, lt_sz, Nat.reduceLeDiff, Int.reducePow, Int.reduceMul, Int.reduceAdd, Int.reduceSub, Int.reduceMod, Int.reduceDiv, Nat.reducePow, Nat.reduceMul, Int.reduceEq, Int.reduceNe, MP.l_cell, MP.l_seq, MP.l_lst, MP.l_app, MP.l_frz, MP.l_sto, MP.oCell_, MP.oSeq_, MP.oLst_, MP.oApp_, MP.oFrz_, MP.oFrz_f, MP.oFrz_o, MP.oSto_, MP.oSto2_, MP.l_len, MP.oLen_, MP.l_fld, MP.l_stf, MP.l_obj, MP.setN_c, MP.setN_n, MP.l_ix, MP.l_ixl, MP.l_ixt, MP.oIx_, MP.oIx2_, MP.at_0, MP.at_1, MP.at_2, MP.at_3, MP.g_0, MP.g_1, MP.g_2, MP.g_3, MP.s_0, MP.s_1, MP.s_2, MP.s_3, List.length_append, List.append_assoc, veq_int, vne_int, veq_bl, truth_bl, List.replicate_succ, List.replicate_zero, seqOf_tup, seqOf_lst, seqOf_scr, len_tup, len_lst, len_scr, lstOf_lst, mm_int, Nat.zero_add, Nat.reduceAdd, Nat.reduceSub, Int.reduceNeg, int_int, Int.reduceLT, Int.reduceLE, Nat.reduceLT, Int.reduceToNat, true_and, and_true, decide_true, decide_false, id_eq, outS_go, outS_ret, bl_ne1, bl_ne2, noExn_ok, Bool.true_and, Bool.and_true, Bool.false_and, Bool.and_false, Bool.true_or, Bool.or_true, Bool.false_or, Bool.or_false, MP.v_var, MP.t_var, MP.i_var, MP.v_int, MP.t_int, MP.i_int, MP.v_bl, MP.t_bl, MP.i_bl, MP.v_non, MP.t_non, MP.i_non, MP.v_str, MP.t_str, MP.i_str, MP.v_glob, MP.t_glob, MP.i_glob, MP.v_tup, MP.t_tup, MP.i_tup, MP.v_lst, MP.t_lst, MP.i_lst, MP.v_bin, MP.t_bin, MP.i_bin, MP.v_neg, MP.t_neg, MP.i_neg, MP.v_not, MP.t_not, MP.v_cmp, MP.t_cmp, MP.i_cmp, MP.v_chain, MP.t_chain, MP.i_chain, MP.v_bo, MP.t_bo, MP.v_ifx, MP.i_ifx, MP.v_call, MP.t_call, MP.i_call, MP.v_isi, MP.t_isi, MP.i_isi, MP.v_isi2, MP.t_isi2, MP.i_isi2, MP.v_f1, MP.t_f1, MP.i_f1, MP.v_mm, MP.t_mm, MP.i_mm, MP.v_g1, MP.t_g1, MP.i_g1, MP.v_sub, MP.t_sub, MP.i_sub, MP.v_slc, MP.t_slc, MP.i_slc, MP.v_no, MP.t_no, MP.i_rng, MP.v_compt, MP.t_compt, MP.i_compt, MP.v_compc, MP.t_compc, MP.i_compc, MP.v_comp, MP.t_comp, MP.i_comp, MP.v_xfld, MP.t_xfld, MP.v_xis, MP.t_xis, MP.kFld_, MP.kFl2_, MP.kIs_, MP.v_fld, MP.t_fld, MP.i_fld, MP.v_new, MP.v_meth, MP.t_meth, MP.i_meth, MP.kFldO_, MP.kNew_, MP.kNew2_, MP.kMeth_, MP.kMeth2_, MP.v_frz, MP.i_frz, MP.v_app, MP.es_nil, MP.es_cons, MP.bo_1, MP.bo_2, MP.bt_1, MP.bt_2, MP.kVar_, MP.kGl_, MP.kTr_, MP.kTr2_, MP.kI1_t, MP.kI1_l, MP.kI1_s, MP.kTup_, MP.kLst_, MP.kBin_, MP.kBin2_, MP.kNeg_, MP.kNot_, MP.kNotT_, MP.kB_, MP.kVl_, MP.kCmp_, MP.kCmp2_, MP.kCh_, MP.kCh2_, MP.kCh2b_, MP.kCh3_, MP.kIfx_, MP.kCall_, MP.kCal_, MP.kIsi_, MP.kIsi2_, MP.kF1_, MP.kMm_, MP.kMm2_, MP.kG1_, MP.kSub_, MP.kSub2_, MP.kSl_, MP.kSl2_, MP.kSl2b_, MP.kSl3_, MP.kSl3b_, MP.kRng_, MP.kRng2_, MP.kCompt_, MP.kCompc_, MP.kCompc2_, MP.kComp_, MP.kFrz_, MP.kApp_, MP.kApp2_, MP.kEs_, MP.kEs2_, MP.kBo_, MP.kBoT_, MP.x_asg, MP.x_sto, MP.x_stf, MP.x_asgt, MP.x_forc, MP.x_fort, MP.kStf_, MP.kStf2_, MP.kAsgt_, MP.kAsgt3_, MP.kForc_, MP.kForc2_, MP.kFort_, MP.x_expr, MP.x_ite, MP.x_for, MP.x_while, MP.x_ret, MP.x_retn, MP.x_pass, MP.x_brk, MP.x_cnt, MP.x_raise, MP.x_try, MP.kRaise_, MP.kTry_n, MP.kTry_r, MP.kTry_b, MP.kTry_c, MP.kTry_e, MP.h_nil, MP.h_cons, MP.endH_n, MP.endH_b, MP.endH_c, MP.endH_r, MP.clrS_n, MP.clrS_s, MP.xs_nil, MP.xs_cons, MP.kAsg_, MP.kExp_, MP.kIte_, MP.kFor_, MP.kRet_, MP.kSto_, MP.kSto2_, MP.kSto3_, MP.kSto4_, MP.runB_, MP.kRun_n, MP.kRun_r, MP.kRun_e, hc, List.any_cons, List.any_nil, $args,*])
local macro_rules | `(tactic| simp_arith [$args,*] at $h:ident) => `(tactic| simp -implicitDefEqProofs only [List.map_cons, List.map_nil, List.length_cons, List.length_nil, List.cons_append, List.nil_append, List.getElem?_cons_zero, List.getElem?_cons_succ, List.set_cons_zero, List.set_cons_succ, MP.R.bind_ok, MP.R.bind_exn, MP.R.st_ok, MP.R.st_exn, RS.bind_next, RS.bind_ret, RS.bind_brk, RS.bind_cnt, RS.bind_exn, isTy, isL, if_true, if_false, Bool.false_eq_true, Bool.true_eq_false, Bool.not_false, Bool.not_true, reduceIte, cmp_lt, cmp_le, cmp_gt, cmp_ge, cmp_is, cmp_isnot, cmp_isb, cmp_isnotb, ite_andv, ite_orv, ite_andt, ite_ort, ite_andq, bV_add, bV_sub, bV_mod, bV_fdivL, bV_tup, bV_catl, bV_powL, newL_f, newL_t, newT_f, le_sz, lt_sz, Nat.reduceLeDiff, Int.reducePow, Int.reduceMul, Int.reduceAdd, Int.reduceSub, Int.reduceMod, Int.reduceDiv, Nat.reducePow, Nat.reduceMul, Int.reduceEq, Int.reduceNe, MP.l_cell, MP.l_seq, MP.l_lst, MP.l_app, MP.l_frz, MP.l_sto, MP.oCell_, MP.oSeq_, MP.oLst_, MP.oApp_, MP.oFrz_, MP.oFrz_f, MP.oFrz_o, MP.oSto_, MP.oSto2_, MP.l_len, MP.oLen_, MP.l_fld, MP.l_stf, MP.l_obj, MP.setN_c, MP.setN_n, MP.l_ix, MP.l_ixl, MP.l_ixt, MP.oIx_, MP.oIx2_, MP.at_0, MP.at_1, MP.at_2, MP.at_3, MP.g_0, MP.g_1, MP.g_2, MP.g_3, MP.s_0, MP.s_1, MP.s_2, MP.s_3, List.length_append, List.append_assoc, veq_int, vne_int, veq_bl, truth_bl, List.replicate_succ, List.replicate_zero, seqOf_tup, seqOf_lst, seqOf_scr, len_tup, len_lst, len_scr, lstOf_lst, mm_int, Nat.zero_add, Nat.reduceAdd, Nat.reduceSub, Int.reduceNeg, int_int, Int.reduceLT, Int.reduceLE, Nat.reduceLT, Int.reduceToNat, true_and, and_true, decide_true, decide_false, id_eq, outS_go, outS_ret, bl_ne1, bl_ne2, noExn_ok, Bool.true_and, Bool.and_true, Bool.false_and, Bool.and_false, Bool.true_or, Bool.or_true, Bool.false_or, Bool.or_false, MP.v_var, MP.t_var, MP.i_var, MP.v_int, MP.t_int, MP.i_int, MP.v_bl, MP.t_bl, MP.i_bl, MP.v_non, MP.t_non, MP.i_non, MP.v_str, MP.t_str, MP.i_str, MP.v_glob, MP.t_glob, MP.i_glob, MP.v_tup, MP.t_tup, MP.i_tup, MP.v_lst, MP.t_lst, MP.i_lst, MP.v_bin, MP.t_bin, MP.i_bin, MP.v_neg, MP.t_neg, MP.i_neg, MP.v_not, MP.t_not, MP.v_cmp, MP.t_cmp, MP.i_cmp, MP.v_chain, MP.t_chain, MP.i_chain, MP.v_bo, MP.t_bo, MP.v_ifx, MP.i_ifx, MP.v_call, MP.t_call, MP.i_call, MP.v_isi, MP.t_isi, MP.i_isi, MP.v_isi2, MP.t_isi2, MP.i_isi2, MP.v_f1, MP.t_f1, MP.i_f1, MP.v_mm, MP.t_mm, MP.i_mm, MP.v_g1, MP.t_g1, MP.i_g1, MP.v_sub, MP.t_sub, MP.i_sub, MP.v_slc, MP.t_slc, MP.i_slc, MP.v_no, MP.t_no, MP.i_rng, MP.v_compt, MP.t_compt, MP.i_compt, MP.v_compc, MP.t_compc, MP.i_compc, MP.v_comp, MP.t_comp, MP.i_comp, MP.v_xfld, MP.t_xfld, MP.v_xis, MP.t_xis, MP.kFld_, MP.kFl2_, MP.kIs_, MP.v_fld, MP.t_fld, MP.i_fld, MP.v_new, MP.v_meth, MP.t_meth, MP.i_meth, MP.kFldO_, MP.kNew_, MP.kNew2_, MP.kMeth_, MP.kMeth2_, MP.v_frz, MP.i_frz, MP.v_app, MP.es_nil, MP.es_cons, MP.bo_1, MP.bo_2, MP.bt_1, MP.bt_2, MP.kVar_, MP.kGl_, MP.kTr_, MP.kTr2_, MP.kI1_t, MP.kI1_l, MP.kI1_s, MP.kTup_, MP.kLst_, MP.kBin_, MP.kBin2_, MP.kNeg_, MP.kNot_, MP.kNotT_, MP.kB_, MP.kVl_, MP.kCmp_, MP.kCmp2_, MP.kCh_, MP.kCh2_, MP.kCh2b_, MP.kCh3_, MP.kIfx_, MP.kCall_, MP.kCal_, MP.kIsi_, MP.kIsi2_, MP.kF1_, MP.kMm_, MP.kMm2_, MP.kG1_, MP.kSub_, MP.kSub2_, MP.kSl_, MP.kSl2_, MP.kSl2b_, MP.kSl3_, MP.kSl3b_, MP.kRng_, MP.kRng2_, MP.kCompt_, MP.kCompc_, MP.kCompc2_, MP.kComp_, MP.kFrz_, MP.kApp_, MP.kApp2_, MP.kEs_, MP.kEs2_, MP.kBo_, MP.kBoT_, MP.x_asg, MP.x_sto, MP.x_stf, MP.x_asgt, MP.x_forc, MP.x_fort, MP.kStf_, MP.kStf2_, MP.kAsgt_, MP.kAsgt3_, MP.kForc_, MP.kForc2_, MP.kFort_, MP.x_expr, MP.x_ite, MP.x_for, MP.x_while, MP.x_ret, MP.x_retn, MP.x_pass, MP.x_brk, MP.x_cnt, MP.x_raise, MP.x_try, MP.kRaise_, MP.kTry_n, MP.kTry_r, MP.kTry_b, MP.kTry_c, MP.kTry_e, MP.h_nil, MP.h_cons, MP.endH_n, MP.endH_b, MP.endH_c, MP.endH_r, MP.clrS_n, MP.clrS_s, MP.xs_nil, MP.xs_cons, MP.kAsg_, MP.kExp_, MP.kIte_, MP.kFor_, MP.kRet_, MP.kSto_, MP.kSto2_, MP.kSto3_, MP.kSto4_, MP.runB_, MP.kRun_n, MP.kRun_r, MP.kRun_e, hc, List.any_cons, List.any_nil, $args,*] at $h:ident)
/-! drawn numbers: a source is a cell of two numbers -/
def srcC (a b : Int) : Cell := .lst [.int a, .int b]
def SrcOk (a b : Int) : Prop := 0 ≤ a ∧ bd bits a ∧ 0 ≤ b ∧ b < 2147483647
theorem c_source (ns : List Int) (hns : ∀ z ∈ ns, bd bits z) {k : Int} (hk0 : 0 ≤ k) (hk : k ≤ 1000) : ∃ a b, SrcOk a b ∧ ∀ st : Store, m_law_source [.scr (vInts ns), .int k] st = .ok (.loc st.length, st ++ [srcC a b]) := by
  obtain ⟨n, rfl⟩ : ∃ n : Nat, k = n := ⟨k.toNat, by omega⟩
  have hm : ∀ x : Int, mulOk x 48271 = true ↔ mulOk x 48271 = true := fun _ => Iff.rfl
  have h2 : mulOk (n : Int) 69621 = true := mul_ok (n := 20) (k := 20) (bd_lt (by omega) (by omega)) (bd_lt (by decide) (by decide)) (by decide)
  by_cases h : n < ns.length
  · generalize hx : (if cell ns n < 0 then -cell ns n else cell ns n) = x
    have hb := bd_cell hns n
    have hx0 : 0 ≤ x := by rw [← hx]; split <;> omega
    have hxb : bd bits x := by
      unfold bd at *; rw [← hx]; split <;> omega
    have h1 : mulOk x 48271 = true := mul_ok (k := 20) hxb (bd_lt (by decide) (by decide)) (by decide)
    refine ⟨x, (x * 48271 + 1013904223 + n * 69621) % 2147483647, ⟨hx0, hxb, Int.emod_nonneg _ (by decide), Int.emod_lt_of_pos _ (by decide)⟩, fun st => mk_loc rfl ?_ (Nat.le_refl _)⟩
    have ha : f1V .abs (.int (cell ns n)) st = .ok (.int x) := by rw [← hx]; rfl
    simp_arith [b_law_source, vInts_len, Int.ofNat_lt, h, ix_scr h, ha, bV_mul h1, bV_mul h2, srcC]
  · refine ⟨0, (0 * 48271 + 1013904223 + n * 69621) % 2147483647, ⟨Int.le_refl _, bd_0, Int.emod_nonneg _ (by decide), Int.emod_lt_of_pos _ (by decide)⟩, fun st => mk_loc rfl ?_ (Nat.le_refl _)⟩
    have h1 : mulOk 0 48271 = true := by decide
    simp_arith [b_law_source, vInts_len, Int.ofNat_lt, h, bV_mul h1, bV_mul h2, srcC]
theorem c_draw {a b lim : Int} (ok : SrcOk a b) (h0 : 0 < lim) (h1 : lim ≤ 1000000000000) : ∃ v a' b', SrcOk a' b' ∧ 0 ≤ v ∧ v < lim ∧ ∀ (st : Store) (n : Nat), st[n]? = some (srcC a b) → m_law_draw [.loc n, .int lim] st = .ok (.int v, st.set n (srcC a' b')) := by
  obtain ⟨a0, ab, b0, b1⟩ := ok
  by_cases h : (1000000 : Int) ≤ a
  · refine ⟨a % lim, a / lim, b, ⟨Int.ediv_nonneg a0 (by omega), ?_, b0, b1⟩, Int.emod_nonneg _ (by omega), Int.emod_lt_of_pos _ h0, fun st n hn => ?_⟩
    · have : a / lim ≤ a := Int.ediv_le_self _ a0
      have : 0 ≤ a / lim := Int.ediv_nonneg a0 (by omega)
      unfold bd at *; omega
    · refine mk_set (g := []) rfl ?_ rfl rfl
      have hn' : st[n]? = some (.lst [.int a, .int b]) := hn
      simp_arith [b_law_draw, hn', h, bV_mod h0, bV_fdivL h0 h1, ixN_0, List.length_cons, List.append_nil, srcC, Nat.lt_add_one, Nat.zero_lt_succ]
  · have hm : mulOk b 48271 = true := mul_ok (n := 32) (k := 20) (bd_lt (by omega) (by omega)) (bd_lt (by decide) (by decide)) (by decide)
    generalize hy : (b * 48271 + a + 1) % 2147483647 = y
    have y0 : 0 ≤ y := by rw [← hy]; exact Int.emod_nonneg _ (by decide)
    have y1 : y < 2147483647 := by rw [← hy]; exact Int.emod_lt_of_pos _ (by decide)
    refine ⟨y / 11 % lim, a, y, ⟨a0, ab, y0, y1⟩, Int.emod_nonneg _ (by omega), Int.emod_lt_of_pos _ h0, fun st n hn => ?_⟩
    refine mk_set (g := []) rfl ?_ rfl rfl
    have hn' : st[n]? = some (.lst [.int a, .int b]) := hn
    have h1' : ixN 2 1 = some 1 := rfl
    have hg : ∀ x : Cell, (st.set n x)[n]? = some x := fun x => g_set hn'
    simp_arith [b_law_draw, hn', h, bV_mod h0, bV_mul hm, hy, h1', hg, List.append_nil, srcC]
theorem ints_of {P : Int → Prop} : ∀ {ys : List Val}, (∀ y ∈ ys, ∃ i, y = .int i ∧ P i) → ∃ rs : List Int, ys = vInts rs ∧ ∀ r ∈ rs, P r
  | [], _ => ⟨[], rfl, by intro r h; cases h⟩
  | y :: ys, h => by
    obtain ⟨i, rfl, hi⟩ := h y (List.mem_cons_self ..)
    obtain ⟨rs, h1, h2⟩ := ints_of (ys := ys) fun z hz => h z (List.mem_cons_of_mem _ hz)
    refine ⟨i :: rs, by rw [h1]; rfl, fun r hr => ?_⟩
    rcases List.mem_cons.mp hr with rfl | hr
    · exact hi
    · exact h2 r hr
/-- a draw, in a store whose last cell is the source -/
theorem draw_end {a b lim : Int} (ok : SrcOk a b) (h0 : 0 < lim) (h1 : lim ≤ 1000000000000) (st : Store) : ∃ v a' b', SrcOk a' b' ∧ 0 ≤ v ∧ v < lim ∧ ∀ r : Store, m_law_draw [.loc st.length, .int lim] (st ++ srcC a b :: r) = .ok (.int v, st ++ srcC a' b' :: r) := by
  obtain ⟨v, a', b', h2, h3, h4, h5⟩ := c_draw ok h0 h1
  exact ⟨v, a', b', h2, h3, h4, fun r => by rw [h5 _ _ g_0, s_0]⟩
/-! rows.py: of whole numbers -/
section
variable {st : Store}
theorem c_whole (i : Int) : m_is_whole [.int i] st = .ok (.bl true, st) := mk_pure0 rfl (by simp_arith [b_is_whole]) rfl
theorem c_between (i l u : Int) : m_is_between [.int i, .int l, .int u] st = .ok (.bl (decide (l ≤ i) && decide (i ≤ u)), st) := mk_pure0 rfl (by
  by_cases h : l ≤ i
  · simp_arith [b_is_between, t_is_between_is_whole, c_whole, h]
  · simp_arith [b_is_between, t_is_between_is_whole, c_whole, h]) rfl
end
/-! functions that draw from a source: uniform in the store -/
section
def SrcE (m : Mir) (args : List Val) (a b : Int) (v : Val) (a' b' : Int) : Prop := ∀ (st : Store) (n : Nat), st[n]? = some (srcC a b) → m (.loc n :: args) st = .ok (v, st.set n (srcC a' b'))
variable {st : Store} {n : Nat} {m : Mir} {args : List Val} {a b a' b' : Int} {v : Val}
theorem gs_0 {c x : Cell} {r : Store} : (st.set n c ++ x :: r)[st.length]? = some x := by
  have := g_0 (st := st.set n c) (a := x) (r := r); rwa [List.length_set] at this
theorem gs_1 {c x y : Cell} {r : Store} : (st.set n c ++ x :: y :: r)[st.length + 1]? = some y := by
  have := g_1 (st := st.set n c) (a := x) (b := y) (r := r); rwa [List.length_set] at this
theorem ss_0 {c x y : Cell} {r : Store} : (st.set n c ++ x :: r).set st.length y = st.set n c ++ y :: r := by
  have := s_0 (st := st.set n c) (a := x) (r := r) (x := y); rwa [List.length_set] at this
theorem ss_1 {c x y z : Cell} {r : Store} : (st.set n c ++ x :: y :: r).set (st.length + 1) z = st.set n c ++ x :: z :: r := by
  have := s_1 (st := st.set n c) (a := x) (b := y) (r := r) (x := z); rwa [List.length_set] at this
theorem SrcE.first (h : SrcE m args a b v a' b') (hn : st[n]? = some (srcC a b)) : m (.loc n :: args) st = .ok (v, st.set n (srcC a' b')) ∧ ∀ g : Store, m (.loc n :: args) (st ++ g) = .ok (v, st.set n (srcC a' b') ++ g) :=
  ⟨h st n hn, fun g => by rw [h _ n (g_old hn), s_old hn]⟩
theorem SrcE.next (h : SrcE m args a b v a' b') {c : Cell} (hn : st[n]? = some c) : m (.loc n :: args) (st.set n (srcC a b)) = .ok (v, st.set n (srcC a' b')) ∧ ∀ g : Store, m (.loc n :: args) (st.set n (srcC a b) ++ g) = .ok (v, st.set n (srcC a' b') ++ g) := by
  obtain ⟨h1, h2⟩ := h.first (st := st.set n (srcC a b)) (n := n) (g_set hn)
  rw [List.set_set] at h1 h2
  exact ⟨h1, h2⟩
/-- a draw -/
theorem d_draw {a b lim : Int} (ok : SrcOk a b) (h0 : 0 < lim) (h1 : lim ≤ 1000000000000) : ∃ v a' b', SrcOk a' b' ∧ 0 ≤ v ∧ v < lim ∧ SrcE m_law_draw [.int lim] a b (.int v) a' b' := by
  obtain ⟨v, a', b', h2, h3, h4, h5⟩ := c_draw ok h0 h1
  exact ⟨v, a', b', h2, h3, h4, h5⟩
/-- a comprehension that draws -/
theorem compL_src {c : MP.Env → Store → R (Bool × Store)} {e : MP.Env → Store → RV} {x : Nat} {env : Nat → Store → MP.Env} {Q P : Val → Prop} (hc : ∀ v st n s, Q v → c ((env n st).set x (some v)) s = .ok (true, s))
    (h : ∀ v a b, Q v → SrcOk a b → ∃ y a' b', SrcOk a' b' ∧ P y ∧ ∀ (st : Store) (n : Nat) (d : Cell), st[n]? = some d → (e ((env n st).set x (some v)) (st.set n (srcC a b)) = .ok (y, st.set n (srcC a' b')) ∧ ∀ g : Store, e ((env n st).set x (some v)) (st.set n (srcC a b) ++ g) = .ok (y, st.set n (srcC a' b') ++ g))) :
    ∀ (xs : List Val) (a b : Int), (∀ v ∈ xs, Q v) → SrcOk a b → ∃ ys a' b', SrcOk a' b' ∧ ys.length = xs.length ∧ (∀ y ∈ ys, P y) ∧ ∀ (st : Store) (n : Nat) (d : Cell), st[n]? = some d → (compL c e x xs (env n st) (st.set n (srcC a b)) = .ok (ys, st.set n (srcC a' b')) ∧ ∀ g : Store, compL c e x xs (env n st) (st.set n (srcC a b) ++ g) = .ok (ys, st.set n (srcC a' b') ++ g))
  | [], a, b, _, ok => ⟨[], a, b, ok, rfl, (by intro y h; cases h), fun st n d _ => ⟨rfl, fun g => rfl⟩⟩
  | v :: vs, a, b, hq, ok => by
    obtain ⟨y, a1, b1, ok1, p1, e1⟩ := h v a b (hq v (List.mem_cons_self ..)) ok
    obtain ⟨ys, a2, b2, ok2, l2, p2, e2⟩ := compL_src hc h vs a1 b1 (fun u hu => hq u (List.mem_cons_of_mem _ hu)) ok1
    refine ⟨y :: ys, a2, b2, ok2, by simp [l2], fun z hz => ?_, fun st n d hn => ?_⟩
    · rcases List.mem_cons.mp hz with rfl | hz
      · exact p1
      · exact p2 z hz
    · have hv := hq v (List.mem_cons_self ..)
      obtain ⟨q1, q2⟩ := e1 st n d hn
      obtain ⟨q3, q4⟩ := e2 st n d hn
      exact ⟨by simp only [compL, hc v st n _ hv, R.bind_ok, if_true, q1, q3], fun g => by simp only [compL, hc v st n _ hv, R.bind_ok, if_true, q2, q4]⟩
theorem pos_of {v : Int} (h : 0 ≤ v) : ∃ k : Nat, v = k := ⟨v.toNat, by omega⟩
end
/-! a drawn house: rows, tools, rooms -/
section
variable {a b p : Int} {z : Nat}
theorem zeros_l {m : Bool} {st : Store} (hz : z ≤ 1000) : binV m .mul (.lst [.int 0]) (.int (z : Int)) st = newL m (vInts (List.replicate z 0)) st := by
  have e : (List.replicate z [Val.int 0]).flatten = vInts (List.replicate z 0) := by
    clear hz; unfold vInts
    induction z with
    | zero => rfl
    | succ z ih => rw [List.replicate_succ, List.flatten_cons, ih]; rfl
  show (match lstOf st (.lst [.int 0]) with | some xs => if xs.length * (z : Int).toNat ≤ szMax ∧ (z : Int) ≤ 1000000 ∧ -1000000 ≤ (z : Int) then newL m (List.replicate (z : Int).toNat xs).flatten st else .stuck | none => .stuck) = _
  rw [lstOf_lst]
  dsimp only
  rw [if_pos ⟨by simp [szMax]; omega, by omega, by omega⟩, Int.toNat_natCast, e]
theorem vInts_set {r : List Int} {k : Nat} {i : Int} : (vInts r).set k (.int i) = vInts (r.set k i) := by unfold vInts; rw [List.map_set]
def InP (p : Int) (row : List Int) : Prop := ∀ x ∈ row, 0 ≤ x ∧ x < p
theorem InP.zeros (h : 2 ≤ p) : InP p (List.replicate z 0) := fun x hx => by rw [(List.mem_replicate.mp hx).2]; omega
/-- so many draws -/
theorem comp_draws {lim : Int} (h0 : 0 < lim) (h1 : lim ≤ 1000000000000) {e : MP.Env → Store → RV} {x : Nat} {env : Nat → Store → MP.Env} {Φ : Tab} {G : Str → Option Val} (ok : SrcOk a b)
    (he : ∀ (v : Val) (w : Val) (st : Store) (n : Nat) (s s' : Store), m_law_draw [.loc n, .int lim] s = .ok (w, s') → e ((env n st).set x (some v)) s = .ok (w, s')) (k : Nat) :
    ∃ ys a' b', SrcOk a' b' ∧ ys.length = k ∧ InP lim ys ∧ ∀ (st : Store) (n : Nat) (d : Cell), st[n]? = some d → (compL (ev Φ G .no).t e x ((List.range k).map fun (k : Nat) => Val.int k) (env n st) (st.set n (srcC a b)) = .ok (vInts ys, st.set n (srcC a' b')) ∧ ∀ g : Store, compL (ev Φ G .no).t e x ((List.range k).map fun (k : Nat) => Val.int k) (env n st) (st.set n (srcC a b) ++ g) = .ok (vInts ys, st.set n (srcC a' b') ++ g)) := by
  obtain ⟨ys, a', b', ok', l, q, e1⟩ := compL_src (c := (ev Φ G .no).t) (e := e) (x := x) (env := env) (Q := fun _ => True) (P := fun y => ∃ i : Int, y = .int i ∧ 0 ≤ i ∧ i < lim) (fun _ _ _ _ _ => rfl) (fun v a b _ ok => by
    obtain ⟨d, a', b', ok', d0, d1, ed⟩ := d_draw ok h0 h1
    refine ⟨.int d, a', b', ok', ⟨d, rfl, d0, d1⟩, fun st n c hn => ?_⟩
    obtain ⟨q1, q2⟩ := ed.next hn
    exact ⟨he _ _ _ _ _ _ q1, fun g => he _ _ _ _ _ _ (q2 g)⟩) ((List.range k).map fun (k : Nat) => Val.int k) a b (fun _ _ => trivial) ok
  obtain ⟨rs, rfl, hr⟩ := ints_of q
  exact ⟨rs, a', b', ok', by simpa [vInts_len] using l, hr, e1⟩
end
def primesL : List Int := [2, 3, 5, 7, 11, 13, 17, 19, 23, 29, 31]
/-! rows modulo p: plain arithmetic -/
section
def Cg (p x y : Int) : Prop := ∃ q, x = y + p * q
theorem Cg.refl (p x : Int) : Cg p x x := ⟨0, by grind⟩
theorem Cg.symm {p x y : Int} (h : Cg p x y) : Cg p y x := by obtain ⟨q, h⟩ := h; exact ⟨-q, by grind⟩
theorem Cg.trans {p x y z : Int} (h : Cg p x y) (h' : Cg p y z) : Cg p x z := by obtain ⟨q, h⟩ := h; obtain ⟨r, h'⟩ := h'; exact ⟨q + r, by grind⟩
theorem Cg.add {p x y u v : Int} (h : Cg p x y) (h' : Cg p u v) : Cg p (x + u) (y + v) := by obtain ⟨q, h⟩ := h; obtain ⟨r, h'⟩ := h'; exact ⟨q + r, by grind⟩
theorem Cg.sub {p x y u v : Int} (h : Cg p x y) (h' : Cg p u v) : Cg p (x - u) (y - v) := by obtain ⟨q, h⟩ := h; obtain ⟨r, h'⟩ := h'; exact ⟨q - r, by grind⟩
theorem Cg.neg {p x y : Int} (h : Cg p x y) : Cg p (-x) (-y) := by obtain ⟨q, h⟩ := h; exact ⟨-q, by grind⟩
theorem Cg.mul {p x y u v : Int} (h : Cg p x y) (h' : Cg p u v) : Cg p (x * u) (y * v) := by obtain ⟨q, h⟩ := h; obtain ⟨r, h'⟩ := h'; exact ⟨q * v + y * r + p * q * r, by grind⟩
theorem Cg.mod (p x : Int) : Cg p (x % p) x := ⟨-(x / p), by have := Int.emod_add_mul_ediv x p; grind⟩
theorem Cg.iff {p x y : Int} : Cg p x y ↔ x % p = y % p := by
  constructor
  · rintro ⟨q, h⟩; rw [h, Int.add_mul_emod_self_left]
  · intro h; exact (Cg.mod p x).symm.trans (h ▸ Cg.mod p y)
theorem Cg.zero {p x : Int} : Cg p x 0 ↔ x % p = 0 := by rw [Cg.iff, Int.zero_emod]
theorem Cg.eq {p x y : Int} (h : Cg p x y) (x0 : 0 ≤ x) (x1 : x < p) (y0 : 0 ≤ y) (y1 : y < p) : x = y := by
  have := Cg.iff.mp h; rwa [Int.emod_eq_of_lt x0 x1, Int.emod_eq_of_lt y0 y1] at this
/-- the sum of the products of the first n places -/
def dt (a b : List Int) : Nat → Int
  | 0 => 0
  | n + 1 => dt a b n + cell a n * cell b n
theorem dt_comm (a b : List Int) : ∀ n, dt a b n = dt b a n
  | 0 => rfl
  | n + 1 => by simp only [dt, dt_comm a b n]; grind
theorem dt_lin {p f : Int} {a b c v : List Int} : ∀ n, (∀ k, k < n → Cg p (cell a k) (cell b k - f * cell c k)) → Cg p (dt a v n) (dt b v n - f * dt c v n)
  | 0, _ => by simp only [dt]; exact ⟨0, by grind⟩
  | n + 1, h => by
    obtain ⟨q, hq⟩ := dt_lin (v := v) n fun k hk => h k (Nat.lt_succ_of_lt hk)
    obtain ⟨r, hr⟩ := h n (Nat.lt_succ_self n)
    simp only [dt]
    exact ⟨q + r * cell v n, by grind⟩
theorem dt_scal {p f : Int} {a c v : List Int} : ∀ n, (∀ k, k < n → Cg p (cell a k) (cell c k * f)) → Cg p (dt a v n) (f * dt c v n)
  | 0, _ => by simp only [dt]; exact ⟨0, by grind⟩
  | n + 1, h => by
    obtain ⟨q, hq⟩ := dt_scal (v := v) n fun k hk => h k (Nat.lt_succ_of_lt hk)
    obtain ⟨r, hr⟩ := h n (Nat.lt_succ_self n)
    simp only [dt]
    exact ⟨q + r * cell v n, by grind⟩
theorem dt_cg {p : Int} {a c v : List Int} : ∀ n, (∀ k, k < n → Cg p (cell a k) (cell c k)) → Cg p (dt a v n) (dt c v n)
  | 0, _ => Cg.refl _ _
  | n + 1, h => (dt_cg n fun k hk => h k (Nat.lt_succ_of_lt hk)).add ((h n (Nat.lt_succ_self n)).mul (Cg.refl _ _))
theorem dt_zero {p : Int} {a v : List Int} : ∀ n, (∀ k, k < n → Cg p (cell a k * cell v k) 0) → Cg p (dt a v n) 0
  | 0, _ => Cg.refl _ _
  | n + 1, h => by
    have := (dt_zero n fun k hk => h k (Nat.lt_succ_of_lt hk)).add (h n (Nat.lt_succ_self n))
    simpa only [dt, Int.add_zero] using this
/-- one place alone -/
theorem dt_one {p : Int} {a v : List Int} {i : Nat} : ∀ n, i < n → (∀ k, k < n → k ≠ i → Cg p (cell a k * cell v k) 0) → Cg p (dt a v n) (cell a i * cell v i)
  | 0, h, _ => by omega
  | n + 1, hi, h => by
    by_cases e : i = n
    · subst e
      have := (dt_zero i fun k hk => h k (Nat.lt_succ_of_lt hk) (by omega)).add (Cg.refl p (cell a i * cell v i))
      simpa only [dt, Int.zero_add] using this
    · have := (dt_one n (by omega) fun k hk => h k (Nat.lt_succ_of_lt hk)).add (h n (Nat.lt_succ_self n) (Ne.symm e))
      simpa only [dt, Int.add_zero] using this
/-- a vector changed at one place -/
theorem cell_set {a : List Int} {i k : Nat} {x : Int} (h : i < a.length) : cell (a.set i x) k = if k = i then x else cell a k := by
  unfold cell
  rw [List.getD_eq_getElem?_getD, List.getD_eq_getElem?_getD]
  by_cases e : k = i
  · subst e; rw [List.getElem?_set_self h]; simp
  · rw [List.getElem?_set_ne (Ne.symm e), if_neg e]
theorem dt_set {a v : List Int} {i : Nat} {x : Int} (hi : i < v.length) : ∀ n, dt a (v.set i x) n = dt a v n + if i < n then cell a i * (x - cell v i) else 0
  | 0 => by simp [dt]
  | n + 1 => by
    simp only [dt, dt_set (a := a) hi n, cell_set hi]
    by_cases e : n = i
    · subst e; simp; grind
    · rw [if_neg e]
      by_cases h : i < n
      · have h2 : i < n + 1 := by omega
        rw [if_pos h, if_pos h2]; grind
      · have h2 : ¬ i < n + 1 := by omega
        rw [if_neg h, if_neg h2]; grind
/-- a sum of rows with factors, at a place -/
def cmb : List Int → List (List Int) → Nat → Int
  | f :: fs, r :: rs, j => f * cell r j + cmb fs rs j
  | _, _, _ => 0
theorem cmb_nil {rs : List (List Int)} {j : Nat} : cmb [] rs j = 0 := rfl
theorem cmb_add {p : Int} {j : Nat} : ∀ {fs gs hs : List Int} {rs : List (List Int)} {f : Int}, fs.length = rs.length → gs.length = rs.length → hs.length = rs.length → (∀ k, k < rs.length → Cg p (cell hs k) (cell fs k + cell gs k * f)) → Cg p (cmb hs rs j) (cmb fs rs j + f * cmb gs rs j)
  | [], [], [], [], f, _, _, _, _ => ⟨0, by simp only [cmb]; grind⟩
  | x :: fs, y :: gs, z :: hs, r :: rs, f, h1, h2, h3, h => by
    obtain ⟨q, hq⟩ := cmb_add (p := p) (j := j) (fs := fs) (gs := gs) (hs := hs) (rs := rs) (f := f) (by simpa using h1) (by simpa using h2) (by simpa using h3) fun k hk => by
      have := h (k + 1) (by simpa using hk); simpa [cell] using this
    obtain ⟨u, hu⟩ := h 0 (by simp)
    have hu : z = x + y * f + p * u := by simpa [cell] using hu
    simp only [cmb]
    exact ⟨q + u * cell r j, by grind⟩
  | [], _, _, _ :: _, _, h, _, _, _ => by simp at h
  | _ :: _, _, _, [], _, h, _, _, _ => by simp at h
  | _, [], _, _ :: _, _, _, h, _, _ => by simp at h
  | _, _ :: _, _, [], _, _, h, _, _ => by simp at h
  | _, _, [], _ :: _, _, _, _, h, _ => by simp at h
  | _, _, _ :: _, [], _, _, _, h, _ => by simp at h
theorem cmb_pad {j : Nat} : ∀ {fs : List Int} {rs : List (List Int)} {z : Nat}, cmb (fs ++ List.replicate z 0) rs j = cmb fs rs j
  | [], rs, 0 => rfl
  | [], [], z + 1 => rfl
  | [], r :: rs, z + 1 => by
    have := cmb_pad (j := j) (fs := []) (rs := rs) (z := z)
    rw [List.nil_append] at this
    rw [List.nil_append, List.replicate_succ]; simp only [cmb, this]; grind
  | f :: fs, [], z => rfl
  | f :: fs, r :: rs, z => by rw [List.cons_append]; simp only [cmb, cmb_pad]
theorem cmb_app {j : Nat} {r : List Int} {f : Int} : ∀ {fs : List Int} {rs : List (List Int)}, fs.length = rs.length → cmb (fs ++ [f]) (rs ++ [r]) j = cmb fs rs j + f * cell r j
  | [], [], _ => by simp [cmb]
  | x :: fs, y :: rs, h => by
    rw [List.cons_append, List.cons_append]; simp only [cmb]; rw [cmb_app (by simpa using h)]; grind
  | [], _ :: _, h => by simp at h
  | _ :: _, [], h => by simp at h
theorem cmb_more {j : Nat} {qs : List (List Int)} : ∀ {fs : List Int} {rs : List (List Int)}, fs.length ≤ rs.length → cmb fs (rs ++ qs) j = cmb fs rs j
  | [], _, _ => by simp [cmb]
  | f :: fs, r :: rs, h => by rw [List.cons_append]; simp only [cmb]; rw [cmb_more (by simpa using h)]
  | _ :: _, [], h => by simp at h
/-- what turns all rows into 0 turns their sums into 0 -/
def ds (c : Nat → Int) (v : List Int) : Nat → Int
  | 0 => 0
  | n + 1 => ds c v n + c n * cell v n
theorem ds_lin {f : Int} {r v : List Int} {c d : Nat → Int} (h : ∀ k, c k = f * cell r k + d k) : ∀ n, ds c v n = f * dt r v n + ds d v n
  | 0 => by simp [ds, dt]
  | n + 1 => by simp only [ds, dt, ds_lin h n, h n]; grind
theorem dt_ds {p : Int} {row v : List Int} {c : Nat → Int} : ∀ n, (∀ j, j < n → Cg p (cell row j) (c j)) → Cg p (dt row v n) (ds c v n)
  | 0, _ => Cg.refl _ _
  | n + 1, h => (dt_ds n fun k hk => h k (Nat.lt_succ_of_lt hk)).add ((h n (Nat.lt_succ_self n)).mul (Cg.refl _ _))
theorem ds_zero {v : List Int} : ∀ n, ds (fun _ => 0) v n = 0
  | 0 => rfl
  | n + 1 => by simp only [ds, ds_zero n]; grind
theorem ds_cmb {p : Int} {v : List Int} {n : Nat} : ∀ (fs : List Int) (rs : List (List Int)), (∀ r ∈ rs, Cg p (dt r v n) 0) → Cg p (ds (cmb fs rs) v n) 0
  | [], rs, _ => by rw [show cmb [] rs = fun _ => 0 from rfl, ds_zero]; exact Cg.refl _ _
  | f :: fs, [], _ => by rw [show cmb (f :: fs) [] = fun _ => 0 from rfl, ds_zero]; exact Cg.refl _ _
  | f :: fs, r :: rs, h => by
    have e := ds_lin (f := f) (r := r) (v := v) (c := cmb (f :: fs) (r :: rs)) (d := cmb fs rs) (fun k => rfl) n
    rw [e]
    have h1 := (Cg.refl p f).mul (h r (List.mem_cons_self ..))
    have h2 := ds_cmb fs rs fun x hx => h x (List.mem_cons_of_mem _ hx)
    have := h1.add h2
    rwa [Int.mul_zero, Int.add_zero] at this
theorem cmb_dt {p : Int} {row v fs : List Int} {rs : List (List Int)} {n : Nat} (h : ∀ j, j < n → Cg p (cell row j) (cmb fs rs j)) (hr : ∀ r ∈ rs, Cg p (dt r v n) 0) : Cg p (dt row v n) 0 :=
  (dt_ds n h).trans (ds_cmb fs rs hr)
end
/-! elimination: what is left of a row, mixes, twins -/
section
def plusN (a b : List Int) (p : Int) : List Int := (List.range a.length).map fun k => (cell a k + cell b k) % p
def scaledN (a : List Int) (f p : Int) : List Int := a.map fun z => z * f % p
def subL (p f : Int) (r row : List Int) : List Int := (List.range r.length).map fun k => (cell r k - f * cell row k) % p
theorem cell_map {f : Nat → Int} {n k : Nat} (h : k < n) : cell ((List.range n).map f) k = f k := by
  unfold cell; rw [List.getD_eq_getElem?_getD]; simp [h]
theorem cell_scaled {a : List Int} {f p : Int} {k : Nat} : cell (scaledN a f p) k = cell a k * f % p := by
  unfold cell scaledN
  rw [List.getD_eq_getElem?_getD, List.getD_eq_getElem?_getD, List.getElem?_map]
  cases a[k]? <;> simp
theorem cell_plus {a b : List Int} {p : Int} {k : Nat} (h : k < a.length) : cell (plusN a b p) k = (cell a k + cell b k) % p := cell_map h
theorem cell_sub {r row : List Int} {p f : Int} {k : Nat} (h : k < r.length) : cell (subL p f r row) k = (cell r k - f * cell row k) % p := cell_map h
theorem len_plus {a b : List Int} {p : Int} : (plusN a b p).length = a.length := by simp [plusN]
theorem len_scaled {a : List Int} {f p : Int} : (scaledN a f p).length = a.length := by simp [scaledN]
theorem len_sub {r row : List Int} {p f : Int} : (subL p f r row).length = r.length := by simp [subL]
theorem plus_scaled {r row : List Int} {p f : Int} : plusN r (scaledN row (-f) p) p = subL p f r row := by
  unfold plusN subL
  refine List.map_congr_left fun k hk => ?_
  rw [cell_scaled]
  refine Cg.iff.mp ?_
  have h := Cg.mod p (cell row k * -f)
  obtain ⟨q, hq⟩ := h
  exact ⟨q, by grind⟩
theorem inP_sub {r row : List Int} {p f : Int} (hp : 0 < p) : InP p (subL p f r row) := fun x hx => by
  unfold subL at hx
  obtain ⟨k, _, rfl⟩ := List.mem_map.mp hx
  exact ⟨Int.emod_nonneg _ (by omega), Int.emod_lt_of_pos _ hp⟩
theorem inP_plus {a b : List Int} {p : Int} (hp : 0 < p) : InP p (plusN a b p) := fun x hx => by
  unfold plusN at hx
  obtain ⟨k, _, rfl⟩ := List.mem_map.mp hx
  exact ⟨Int.emod_nonneg _ (by omega), Int.emod_lt_of_pos _ hp⟩
theorem inP_scaled {a : List Int} {f p : Int} (hp : 0 < p) : InP p (scaledN a f p) := fun x hx => by
  unfold scaledN at hx
  obtain ⟨k, _, rfl⟩ := List.mem_map.mp hx
  exact ⟨Int.emod_nonneg _ (by omega), Int.emod_lt_of_pos _ hp⟩
theorem InP.cell {p : Int} {a : List Int} (h : InP p a) (hp : 0 < p) (k : Nat) : 0 ≤ MP.cell a k ∧ MP.cell a k < p := by
  by_cases hk : k < a.length
  · exact h _ (cell_mem hk)
  · rw [cell_0 hk]; omega
structure Red where
  place : Nat
  row : List Int
  mix : List Int
def stepR (p : Int) (r : List Int) (q : Red) : List Int := if cell r q.place ≠ 0 then subL p (cell r q.place) r q.row else r
def leftN (p : Int) (red : List Red) (r : List Int) : List Int := red.foldl (stepR p) r
structure RowOk (p : Int) (z : Nat) (q : Red) : Prop where
  place : q.place < z
  len : q.row.length = z
  inp : InP p q.row
  one : cell q.row q.place = 1
structure RedOk (p : Int) (z : Nat) (red : List Red) : Prop where
  row : ∀ q ∈ red, RowOk p z q
  pw : red.Pairwise fun a b => cell b.row a.place = 0
theorem RedOk.tail {p : Int} {z : Nat} {q : Red} {red : List Red} (h : RedOk p z (q :: red)) : RedOk p z red := ⟨fun x hx => h.row x (List.mem_cons_of_mem _ hx), (List.pairwise_cons.mp h.pw).2⟩
theorem len_step {p : Int} {r : List Int} {q : Red} : (stepR p r q).length = r.length := by unfold stepR; split; exact len_sub; rfl
theorem len_left {p : Int} : ∀ {red : List Red} {r : List Int}, (leftN p red r).length = r.length
  | [], _ => rfl
  | q :: red, r => by show (leftN p red (stepR p r q)).length = _; rw [len_left, len_step]
theorem inP_step {p : Int} {r : List Int} {q : Red} (hp : 0 < p) (h : InP p r) : InP p (stepR p r q) := by unfold stepR; split; exact inP_sub hp; exact h
theorem inP_left {p : Int} (hp : 0 < p) : ∀ {red : List Red} {r : List Int}, InP p r → InP p (leftN p red r)
  | [], _, h => h
  | q :: red, r, h => inP_left hp (red := red) (inP_step hp h)
theorem step_keep {p : Int} {r : List Int} {q : Red} {k : Nat} (hp : 0 < p) (h : InP p r) (hk : cell q.row k = 0) : cell (stepR p r q) k = cell r k := by
  unfold stepR
  split
  · by_cases hl : k < r.length
    · rw [cell_sub hl, hk]
      have := h.cell hp k
      rw [Int.mul_zero, Int.sub_zero, Int.emod_eq_of_lt this.1 this.2]
    · rw [cell_0 hl, cell_0 (by rw [len_sub]; exact hl)]
  · rfl
theorem left_keep {p : Int} {k : Nat} (hp : 0 < p) : ∀ {red : List Red} {r : List Int}, InP p r → (∀ q ∈ red, cell q.row k = 0) → cell (leftN p red r) k = cell r k
  | [], _, _, _ => rfl
  | q :: red, r, h, hk => by
    show cell (leftN p red (stepR p r q)) k = _
    rw [left_keep hp (inP_step hp h) fun x hx => hk x (List.mem_cons_of_mem _ hx), step_keep hp h (hk q (List.mem_cons_self ..))]
theorem left_zero {p : Int} {z : Nat} (hp : 0 < p) : ∀ {red : List Red} {r : List Int}, RedOk p z red → InP p r → r.length = z → ∀ q ∈ red, cell (leftN p red r) q.place = 0
  | [], _, _, _, _, q, hq => by cases hq
  | a :: red, r, ok, h, hl, q, hq => by
    have hl' : (stepR p r a).length = z := by rw [len_step]; exact hl
    show cell (leftN p red (stepR p r a)) q.place = 0
    rcases List.mem_cons.mp hq with rfl | hq
    · have ra := ok.row q (List.mem_cons_self ..)
      rw [left_keep hp (inP_step hp h) fun x hx => (List.pairwise_cons.mp ok.pw).1 x hx]
      unfold stepR
      split
      · rw [cell_sub (by rw [hl]; exact ra.place), ra.one]; simp
      · rename_i e; simpa using e
    · exact left_zero hp ok.tail (inP_step hp h) hl' q hq
theorem step_dt {p : Int} {z : Nat} {r v : List Int} {q : Red} (hl : r.length = z) (hq : Cg p (dt q.row v z) 0) : Cg p (dt (stepR p r q) v z) (dt r v z) := by
  unfold stepR
  split
  · have := dt_lin (p := p) (f := cell r q.place) (a := subL p (cell r q.place) r q.row) (b := r) (c := q.row) (v := v) z fun k hk => by
      rw [cell_sub (by omega)]; exact Cg.mod _ _
    have h2 := (Cg.refl p (dt r v z)).sub ((Cg.refl p (cell r q.place)).mul hq)
    rw [Int.mul_zero, Int.sub_zero] at h2
    exact this.trans h2
  · exact Cg.refl _ _
theorem left_dt {p : Int} {z : Nat} {v : List Int} : ∀ {red : List Red} {r : List Int}, r.length = z → (∀ q ∈ red, Cg p (dt q.row v z) 0) → Cg p (dt (leftN p red r) v z) (dt r v z)
  | [], _, _, _ => Cg.refl _ _
  | q :: red, r, hl, h => (left_dt (red := red) (by rw [len_step]; exact hl) fun x hx => h x (List.mem_cons_of_mem _ hx)).trans (step_dt hl (h q (List.mem_cons_self ..)))
/-! factors -/
def padN (t : Nat) (m : List Int) : List Int := m ++ List.replicate (t - m.length) 0
def stepP (p : Int) (t : Nat) (s : List Int × List Int) (q : Red) : List Int × List Int :=
  if cell s.1 q.place ≠ 0 then (subL p (cell s.1 q.place) s.1 q.row, plusN s.2 (scaledN (padN t q.mix) (cell s.1 q.place) p) p) else s
def partN (p : Int) (t : Nat) (red : List Red) (s : List Int × List Int) : List Int × List Int := red.foldl (stepP p t) s
theorem stepP_1 {p : Int} {t : Nat} {s : List Int × List Int} {q : Red} : (stepP p t s q).1 = stepR p s.1 q := by unfold stepP stepR; split <;> rfl
theorem part_left {p : Int} {t : Nat} : ∀ {red : List Red} {s : List Int × List Int}, (partN p t red s).1 = leftN p red s.1
  | [], _ => rfl
  | q :: red, s => by show (partN p t red (stepP p t s q)).1 = leftN p red (stepR p s.1 q); rw [part_left, stepP_1]
theorem stepP_len {p : Int} {t : Nat} {s : List Int × List Int} {q : Red} : (stepP p t s q).2.length = s.2.length := by unfold stepP; split; exact len_plus; rfl
theorem part_len {p : Int} {t : Nat} : ∀ {red : List Red} {s : List Int × List Int}, (partN p t red s).2.length = s.2.length
  | [], _ => rfl
  | q :: red, s => by show (partN p t red (stepP p t s q)).2.length = _; rw [part_len, stepP_len]
theorem part_inP {p : Int} {t : Nat} (hp : 0 < p) : ∀ {red : List Red} {s : List Int × List Int}, InP p s.2 → InP p (partN p t red s).2
  | [], _, h => h
  | q :: red, s, h => by
    refine part_inP hp (red := red) (s := stepP p t s q) ?_
    unfold stepP; split
    · exact inP_plus hp
    · exact h
/-- the mixes give the reduced rows -/
def MixOk (p : Int) (z : Nat) (R : List (List Int)) (q : Red) : Prop := q.mix.length ≤ R.length ∧ ∀ j, j < z → Cg p (cell q.row j) (cmb q.mix R j)
theorem pad_len {t : Nat} {m : List Int} (h : m.length ≤ t) : (padN t m).length = t := by simp [padN]; omega
theorem step_mix {p : Int} {z : Nat} {R : List (List Int)} {s : List Int × List Int} {q : Red} (hl : s.1.length = z) (hf : s.2.length = R.length) (hm : MixOk p z R q) {j : Nat} (hj : j < z) :
    Cg p (cell (stepP p R.length s q).1 j + cmb (stepP p R.length s q).2 R j) (cell s.1 j + cmb s.2 R j) := by
  unfold stepP
  split
  · generalize hfe : cell s.1 q.place = f
    obtain ⟨m1, m2⟩ := hm
    have h1 : Cg p (cell (subL p f s.1 q.row) j) (cell s.1 j - f * cell q.row j) := by rw [cell_sub (by omega)]; exact Cg.mod _ _
    have h2 := cmb_add (p := p) (j := j) (fs := s.2) (gs := padN R.length q.mix) (hs := plusN s.2 (scaledN (padN R.length q.mix) f p) p) (rs := R) (f := f) hf (pad_len m1) (by rw [len_plus]; exact hf) fun k hk => by
      rw [cell_plus (by omega), cell_scaled]
      exact (Cg.mod _ _).trans ((Cg.refl _ _).add (Cg.mod _ _))
    have h3 : cmb (padN R.length q.mix) R j = cmb q.mix R j := cmb_pad
    rw [h3] at h2
    have h4 := (h1.trans ((Cg.refl p (cell s.1 j)).sub ((Cg.refl p f).mul (m2 j hj)))).add h2
    refine h4.trans ⟨0, by grind⟩
  · exact Cg.refl _ _
theorem part_mix {p : Int} {z : Nat} {R : List (List Int)} : ∀ {red : List Red} {s : List Int × List Int}, s.1.length = z → s.2.length = R.length → (∀ q ∈ red, MixOk p z R q) → ∀ j, j < z →
    Cg p (cell (partN p R.length red s).1 j + cmb (partN p R.length red s).2 R j) (cell s.1 j + cmb s.2 R j)
  | [], _, _, _, _, _, _ => Cg.refl _ _
  | q :: red, s, hl, hf, hm, j, hj => by
    have h1 := part_mix (p := p) (red := red) (s := stepP p R.length s q) (by rw [stepP_1, len_step]; exact hl) (by rw [stepP_len]; exact hf) (fun x hx => hm x (List.mem_cons_of_mem _ hx)) j hj
    exact h1.trans (step_mix hl hf (hm q (List.mem_cons_self ..)) hj)
/-! the first place -/
def firstN (r : List Int) : Option Nat := (List.range r.length).find? fun k => decide (cell r k ≠ 0)
theorem first_none {r : List Int} (h : firstN r = none) (k : Nat) : cell r k = 0 := by
  by_cases hk : k < r.length
  · have := List.find?_eq_none.mp h k (List.mem_range.mpr hk)
    simpa using this
  · exact cell_0 hk
theorem first_some {r : List Int} {k : Nat} (h : firstN r = some k) : k < r.length ∧ cell r k ≠ 0 := by
  have h1 := List.mem_of_find?_eq_some h
  have h2 := List.find?_some h
  exact ⟨List.mem_range.mp h1, by simpa using h2⟩
/-! inverses -/
def invN (r p : Int) : Option Int := ((List.range (p - 1).toNat).map fun (k : Nat) => 1 + (k : Int)).find? fun c => decide (c * r % p = 1)
def invB (r p : Int) : Bool := match invN r p with | some c => decide (1 ≤ c ∧ c < p ∧ c * r % p = 1) | none => decide (r = 0)
theorem inv_all : (primesL.all fun p => (List.range p.toNat).all fun r => invB r p) = true := by decide +kernel
theorem prime_b {p : Int} (hp : p ∈ primesL) : 1 < p ∧ p ≤ 31 := by
  revert hp; unfold primesL; simp; rintro (rfl|rfl|rfl|rfl|rfl|rfl|rfl|rfl|rfl|rfl|rfl) <;> decide
theorem inv_at {p x : Int} (hp : p ∈ primesL) : invB (x % p) p = true := by
  have h := inv_all
  rw [List.all_eq_true] at h
  have h1 := h p hp
  rw [List.all_eq_true] at h1
  have hpos := prime_b hp
  have hr0 := Int.emod_nonneg x (show p ≠ 0 by omega)
  have hr1 := Int.emod_lt_of_pos x (show 0 < p by omega)
  have := h1 (x % p).toNat (List.mem_range.mpr (by omega))
  rwa [Int.toNat_of_nonneg hr0] at this
def invI (x p : Int) : Int := (invN (x % p) p).getD 0
theorem inv_spec {p x : Int} (hp : p ∈ primesL) (h0 : 0 < x) (h1 : x < p) : invN (x % p) p = some (invI x p) ∧ 1 ≤ invI x p ∧ invI x p < p ∧ Cg p (x * invI x p) 1 := by
  have h := inv_at (x := x) hp
  have hb := prime_b hp
  unfold invB at h
  unfold invI
  have hx : x % p = x := Int.emod_eq_of_lt (by omega) h1
  cases e : invN (x % p) p with
  | none => rw [e] at h; have := of_decide_eq_true h; omega
  | some c =>
    rw [e] at h
    have := of_decide_eq_true h
    refine ⟨rfl, this.1, this.2.1, ?_⟩
    show Cg p (x * c) 1
    rw [Cg.iff, Int.mul_comm, Int.emod_eq_of_lt (show (0 : Int) ≤ 1 by decide) hb.1, ← hx]; exact this.2.2
/-! taking a row -/
structure Bas where
  red : List Red
  taken : Nat
def takeB (p : Int) (b : Bas) (row : List Int) : Bas :=
  let s := partN p b.taken b.red (row, List.replicate b.taken 0)
  match firstN s.1 with
  | none => ⟨b.red, b.taken + 1⟩
  | some k => ⟨b.red ++ [⟨k, scaledN s.1 (invI (cell s.1 k) p) p, scaledN s.2 (-(invI (cell s.1 k) p)) p ++ [invI (cell s.1 k) p]⟩], b.taken + 1⟩
structure BasOk (p : Int) (z : Nat) (R : List (List Int)) (b : Bas) : Prop where
  taken : b.taken = R.length
  red : RedOk p z b.red
  mix : ∀ q ∈ b.red, MixOk p z R q
  span : ∀ v : List Int, (∀ q ∈ b.red, Cg p (dt q.row v z) 0) → ∀ r ∈ R, Cg p (dt r v z) 0
  len : b.red.length ≤ R.length
  mixp : ∀ q ∈ b.red, InP p q.mix
theorem BasOk.nil (p : Int) (z : Nat) : BasOk p z [] ⟨[], 0⟩ :=
  ⟨rfl, ⟨(by intro q h; cases h), .nil⟩, (by intro q h; cases h), (by intro v _ r h; cases h), Nat.le_refl _, (by intro q h; cases h)⟩
theorem cmb_zeros {R : List (List Int)} {j : Nat} : ∀ {n : Nat}, cmb (List.replicate n 0) R j = 0 := fun {n} => by
  have := cmb_pad (j := j) (fs := []) (rs := R) (z := n)
  rw [List.nil_append] at this
  rw [this]; rfl
section
variable {p : Int} {z : Nat} {R : List (List Int)} {b : Bas} {row : List Int}
/-- the row is its rest and the mix of the rows by the factors -/
theorem BasOk.part (h : BasOk p z R b) (hl : row.length = z) {j : Nat} (hj : j < z) : Cg p (cell (partN p b.taken b.red (row, List.replicate b.taken 0)).1 j + cmb (partN p b.taken b.red (row, List.replicate b.taken 0)).2 R j) (cell row j) := by
  have := part_mix (p := p) (z := z) (R := R) (red := b.red) (s := (row, List.replicate b.taken 0)) hl (by simp [h.taken]) h.mix j hj
  rw [← h.taken] at this
  refine this.trans ?_
  show Cg p (cell row j + cmb (List.replicate b.taken 0) R j) _
  rw [cmb_zeros, Int.add_zero]; exact Cg.refl _ _
theorem BasOk.take (hp : p ∈ primesL) (h : BasOk p z R b) (hl : row.length = z) (hi : InP p row) : BasOk p z (R ++ [row]) (takeB p b row) := by
  have hb := prime_b hp
  have hp0 : 0 < p := by omega
  generalize hs : partN p b.taken b.red (row, List.replicate b.taken 0) = s
  have s1 : s.1 = leftN p b.red row := by rw [← hs, part_left]
  have sl : s.1.length = z := by rw [s1, len_left]; exact hl
  have sf : s.2.length = R.length := by rw [← hs, part_len]; simp [h.taken]
  have si : InP p s.1 := by rw [s1]; exact inP_left hp0 hi
  have hpart : ∀ j, j < z → Cg p (cell s.1 j + cmb s.2 R j) (cell row j) := fun j hj => by rw [← hs]; exact h.part hl hj
  have old : ∀ q ∈ b.red, MixOk p z (R ++ [row]) q := fun q hq => by
    obtain ⟨m1, m2⟩ := h.mix q hq
    exact ⟨by simp; omega, fun j hj => by rw [cmb_more m1]; exact m2 j hj⟩
  cases hf : firstN s.1 with
  | none =>
    have e : takeB p b row = ⟨b.red, b.taken + 1⟩ := by unfold takeB; dsimp only; rw [hs, hf]
    rw [e]
    refine ⟨by simp [h.taken], h.red, old, fun v hv r hr => ?_, by have := h.len; simp; omega, h.mixp⟩
    rcases List.mem_append.mp hr with hr | hr
    · exact h.span v hv r hr
    · have e : r = row := by simpa using hr
      subst e
      have h1 := left_dt (p := p) (v := v) (red := b.red) hl hv
      rw [← s1] at h1
      refine h1.symm.trans (dt_zero z fun k hk => ?_)
      rw [first_none hf]; exact ⟨0, by grind⟩
  | some k =>
    obtain ⟨hk, hn⟩ := first_some hf
    have hc := si.cell hp0 k
    obtain ⟨_, i1, i2, i3⟩ := inv_spec (x := cell s.1 k) hp (by omega) hc.2
    have e : takeB p b row = ⟨b.red ++ [⟨k, scaledN s.1 (invI (cell s.1 k) p) p, scaledN s.2 (-(invI (cell s.1 k) p)) p ++ [invI (cell s.1 k) p]⟩], b.taken + 1⟩ := by unfold takeB; dsimp only; rw [hs, hf]
    rw [e]
    generalize hce : invI (cell s.1 k) p = c at i1 i2 i3 ⊢
    have hz : ∀ q ∈ b.red, cell s.1 q.place = 0 := fun q hq => by rw [s1]; exact left_zero hp0 h.red hi hl q hq
    have newOk : RowOk p z ⟨k, scaledN s.1 c p, scaledN s.2 (-c) p ++ [c]⟩ := ⟨by show k < z; omega, by show (scaledN _ _ _).length = z; rw [len_scaled]; exact sl, inP_scaled hp0, by
      show cell (scaledN s.1 c p) k = 1
      rw [cell_scaled]
      have := Cg.iff.mp i3
      rwa [Int.emod_eq_of_lt (show (0 : Int) ≤ 1 by decide) hb.1] at this⟩
    refine ⟨by simp [h.taken], ⟨fun q hq => ?_, ?_⟩, fun q hq => ?_, fun v hv r hr => ?_, by have := h.len; simp; omega, fun q hq => ?_⟩
    · rcases List.mem_append.mp hq with hq | hq
      · exact h.red.row q hq
      · have e := List.mem_singleton.mp hq; subst e; exact newOk
    · refine List.pairwise_append.mpr ⟨h.red.pw, List.pairwise_singleton _ _, fun a ha b' hb' => ?_⟩
      have e := List.mem_singleton.mp hb'; subst e
      show cell (scaledN s.1 c p) a.place = 0
      rw [cell_scaled, hz a ha]; simp
    · rcases List.mem_append.mp hq with hq | hq
      · exact old q hq
      · have e := List.mem_singleton.mp hq; subst e
        refine ⟨by show (scaledN s.2 (-c) p ++ [c]).length ≤ _; rw [List.length_append, len_scaled, List.length_append]; simp; omega, fun j hj => ?_⟩
        show Cg p (cell (scaledN s.1 c p) j) (cmb (scaledN s.2 (-c) p ++ [c]) (R ++ [row]) j)
        rw [cmb_app (by rw [len_scaled]; exact sf), cell_scaled]
        have h2 := cmb_add (p := p) (j := j) (fs := List.replicate R.length 0) (gs := s.2) (hs := scaledN s.2 (-c) p) (rs := R) (f := -c) (by simp) sf (by rw [len_scaled]; exact sf) fun k hk => by
          rw [cell_scaled, show cell (List.replicate R.length (0 : Int)) k = 0 by unfold cell; rw [List.getD_eq_getElem?_getD, List.getElem?_replicate]; split <;> rfl, Int.zero_add]
          exact Cg.mod _ _
        rw [cmb_zeros] at h2
        obtain ⟨u, hu⟩ := hpart j hj
        obtain ⟨w, hw⟩ := h2
        refine (Cg.mod _ _).trans ⟨u * c - w, by grind⟩
    · have hv1 : ∀ q ∈ b.red, Cg p (dt q.row v z) 0 := fun q hq => hv q (List.mem_append_left _ hq)
      rcases List.mem_append.mp hr with hr | hr
      · exact h.span v hv1 r hr
      · have e : r = row := by simpa using hr
        subst e
        have h1 := left_dt (p := p) (v := v) (red := b.red) hl hv1
        rw [← s1] at h1
        refine h1.symm.trans ?_
        have h3 : Cg p (dt (scaledN s.1 c p) v z) 0 := hv ⟨k, scaledN s.1 c p, scaledN s.2 (-c) p ++ [c]⟩ (List.mem_append_right _ (by simp))
        have h4 := dt_scal (p := p) (f := c) (a := scaledN s.1 c p) (c := s.1) (v := v) z fun k hk => by rw [cell_scaled]; exact Cg.mod _ _
        have h5 := h4.symm.trans h3
        obtain ⟨u, hu⟩ := h5
        obtain ⟨w, hw⟩ := i3
        generalize cell s.1 k = x at hw
        exact ⟨x * u - w * dt s.1 v z, by grind⟩
    · rcases List.mem_append.mp hq with hq | hq
      · exact h.mixp q hq
      · have e := List.mem_singleton.mp hq; subst e
        intro x hx
        rcases List.mem_append.mp hx with hx | hx
        · exact inP_scaled hp0 x hx
        · have := List.mem_singleton.mp hx; omega
end
/-! the twin -/
def solveN (p : Int) (z : Nat) (red : List Red) (v : List Int) : List Int := red.foldr (fun q v => v.set q.place (-(dt q.row v z) % p)) v
theorem solve_len {p : Int} {z : Nat} {v : List Int} : ∀ {red : List Red}, (solveN p z red v).length = v.length
  | [] => rfl
  | q :: red => by show (List.set (solveN p z red v) _ _).length = _; rw [List.length_set, solve_len]
theorem solve_inP {p : Int} {z : Nat} {v : List Int} (hp : 0 < p) (h : InP p v) : ∀ {red : List Red}, InP p (solveN p z red v)
  | [] => h
  | q :: red => fun x hx => by
    rcases List.mem_or_eq_of_mem_set hx with hx | rfl
    · exact solve_inP hp h (red := red) x hx
    · exact ⟨Int.emod_nonneg _ (by omega), Int.emod_lt_of_pos _ hp⟩
theorem solve_keep {p : Int} {z : Nat} {v : List Int} {k : Nat} (hl : v.length = z) : ∀ {red : List Red}, (∀ q ∈ red, q.place < z ∧ q.place ≠ k) → cell (solveN p z red v) k = cell v k
  | [], _ => rfl
  | q :: red, h => by
    have hq := h q (List.mem_cons_self ..)
    show cell (List.set (solveN p z red v) _ _) k = _
    rw [cell_set (by rw [solve_len]; omega), if_neg (Ne.symm hq.2), solve_keep hl fun x hx => h x (List.mem_cons_of_mem _ hx)]
theorem solve_dt {p : Int} {z : Nat} {v : List Int} (hl : v.length = z) : ∀ {red : List Red}, RedOk p z red → (∀ q ∈ red, cell v q.place = 0) → ∀ q ∈ red, Cg p (dt q.row (solveN p z red v) z) 0
  | [], _, _, q, hq => by cases hq
  | a :: red, ok, hv, q, hq => by
    have ra := ok.row a (List.mem_cons_self ..)
    have pw := (List.pairwise_cons.mp ok.pw).1
    have hlen : a.place < (solveN p z red v).length := by rw [solve_len]; have := ra.place; omega
    have hne : ∀ x ∈ red, x.place < z ∧ x.place ≠ a.place := fun x hx => by
      have rx := ok.row x (List.mem_cons_of_mem _ hx)
      refine ⟨rx.place, fun e => ?_⟩
      have h1 := rx.one
      rw [e, pw x hx] at h1; omega
    show Cg p (dt q.row (List.set (solveN p z red v) a.place (-(dt a.row (solveN p z red v) z) % p)) z) 0
    rw [dt_set hlen, if_pos ra.place]
    rcases List.mem_cons.mp hq with rfl | hq
    · rw [ra.one, solve_keep hl hne, hv _ (List.mem_cons_self ..)]
      obtain ⟨u, hu⟩ := Cg.mod p (-(dt q.row (solveN p z red v) z))
      exact ⟨u, by grind⟩
    · rw [pw q hq, Int.zero_mul, Int.add_zero]
      exact solve_dt hl ok.tail (fun x hx => hv x (List.mem_cons_of_mem _ hx)) q hq
def twinN (p : Int) (z : Nat) (red : List Red) (r : List Int) (k : Nat) : List Int := solveN p z red ((List.replicate z 0).set k (invI (cell r k) p))
section
variable {p : Int} {z : Nat} {R : List (List Int)} {b : Bas} {row : List Int}
theorem cell_repl {n k : Nat} : cell (List.replicate n (0 : Int)) k = 0 := by unfold cell; rw [List.getD_eq_getElem?_getD, List.getElem?_replicate]; split <;> rfl
/-- a row that leaves a rest has a twin -/
theorem BasOk.twin (hp : p ∈ primesL) (h : BasOk p z R b) (hl : row.length = z) (hi : InP p row) {k : Nat} (hf : firstN (leftN p b.red row) = some k) :
    (twinN p z b.red (leftN p b.red row) k).length = z ∧ InP p (twinN p z b.red (leftN p b.red row) k) ∧ (∀ r ∈ R, Cg p (dt r (twinN p z b.red (leftN p b.red row) k) z) 0) ∧ Cg p (dt row (twinN p z b.red (leftN p b.red row) k) z) 1 := by
  have hb := prime_b hp
  have hp0 : 0 < p := by omega
  generalize hs : leftN p b.red row = s at hf ⊢
  have sl : s.length = z := by rw [← hs, len_left]; exact hl
  have si : InP p s := by rw [← hs]; exact inP_left hp0 hi
  obtain ⟨hk, hn⟩ := first_some hf
  have hc := si.cell hp0 k
  obtain ⟨_, i1, i2, i3⟩ := inv_spec (x := cell s k) hp (by omega) hc.2
  have hz : ∀ q ∈ b.red, cell s q.place = 0 := fun q hq => by rw [← hs]; exact left_zero hp0 h.red hi hl q hq
  have hne : ∀ q ∈ b.red, q.place < z ∧ q.place ≠ k := fun q hq => ⟨(h.red.row q hq).place, fun e => hn (e ▸ hz q hq)⟩
  unfold twinN
  generalize hv0 : (List.replicate z (0 : Int)).set k (invI (cell s k) p) = v0
  have l0 : v0.length = z := by rw [← hv0]; simp
  have c0 : ∀ j, cell v0 j = if j = k then invI (cell s k) p else 0 := fun j => by rw [← hv0, cell_set (by simp; omega), cell_repl]
  have p0 : InP p v0 := fun x hx => by
    rw [← hv0] at hx
    rcases List.mem_or_eq_of_mem_set hx with hx | rfl
    · rw [(List.mem_replicate.mp hx).2]; omega
    · omega
  have hd := solve_dt (p := p) (v := v0) l0 h.red fun q hq => by rw [c0, if_neg (hne q hq).2]
  refine ⟨by rw [solve_len, l0], solve_inP hp0 p0, h.span _ hd, ?_⟩
  have h1 := left_dt (p := p) (v := solveN p z b.red v0) (red := b.red) hl hd
  rw [hs] at h1
  refine h1.symm.trans ?_
  have h2 := dt_one (p := p) (a := s) (v := solveN p z b.red v0) (i := k) z (by omega) fun j hj hjk => by
    by_cases hm : ∃ q ∈ b.red, q.place = j
    · obtain ⟨q, hq, e⟩ := hm
      rw [← e, hz q hq]; exact ⟨0, by grind⟩
    · rw [solve_keep l0 (fun q hq => ⟨(hne q hq).1, fun e => hm ⟨q, hq, e⟩⟩), c0, if_neg hjk]; exact ⟨0, by grind⟩
  rw [solve_keep l0 hne, c0, if_pos rfl] at h2
  exact h2.trans i3
/-- a row that leaves nothing is a combination -/
theorem BasOk.comb (hp : p ∈ primesL) (h : BasOk p z R b) (hl : row.length = z) (hi : InP p row) (hf : firstN (leftN p b.red row) = none) :
    (partN p b.taken b.red (row, List.replicate b.taken 0)).2.length = R.length ∧ InP p (partN p b.taken b.red (row, List.replicate b.taken 0)).2 ∧ ∀ j, j < z → Cg p (cell row j) (cmb (partN p b.taken b.red (row, List.replicate b.taken 0)).2 R j) := by
  have hb := prime_b hp
  refine ⟨by rw [part_len]; simp [h.taken], part_inP (by omega) (InP.zeros (by omega)), fun j hj => ?_⟩
  have h1 := h.part hl hj
  rw [part_left] at h1
  have h2 := first_none hf j
  rw [show (row, List.replicate b.taken (0 : Int)).1 = row from rfl, h2, Int.zero_add] at h1
  exact h1.symm
/-- never both -/
theorem not_both {fs v : List Int} (h1 : ∀ j, j < z → Cg p (cell row j) (cmb fs R j)) (h2 : ∀ r ∈ R, Cg p (dt r v z) 0) : dt row v z % p = 0 := Cg.zero.mp (cmb_dt h1 h2)
end
end
/-! modular.py -/
theorem lt_g {s : Store} {i : Nat} {c : Cell} (h : s[i]? = some c) : i < s.length := (List.getElem?_eq_some_iff.mp h).1
section
variable {v w : Val} {a b : List Int} {st : Store}
/-- a row of numbers, in this store -/
def SeqI (st : Store) (v : Val) (a : List Int) : Prop := ∃ k, seqOf st v = some (k, vInts a)
theorem len_seq {k : Bool} {xs : List Val} (h : seqOf st v = some (k, xs)) : f1V .len v st = .ok (.int xs.length) := by
  have key : f1V .len v st = oLen (seqOf st v) := by cases v <;> first | (cases h; done) | (unfold f1V oLen; rfl)
  rw [key, h]; rfl
theorem ix_seq {k : Bool} {xs : List Val} {i : Int} {x : Val} (h : seqOf st v = some (k, xs)) (hx : atI xs i = some x) : ixV st v (.int i) = .ok x := by
  have key : ixV st v (.int i) = oIx i (seqOf st v) := by cases v <;> first | (cases h; done) | (unfold ixV oIx oIx2; rfl)
  rw [key, h]; unfold oIx oIx2; simp only [hx]
theorem SeqI.len (h : SeqI st v a) : f1V .len v st = .ok (.int a.length) := by
  obtain ⟨k, h⟩ := h
  rw [len_seq h, vInts_len]
theorem SeqI.ix (h : SeqI st v a) {k : Nat} (hk : k < a.length) : ixV st v (.int k) = .ok (.int (cell a k)) := by
  obtain ⟨j, h⟩ := h
  exact ix_seq h (at_ints hk)
theorem seqI_of (h : IsSeq v a) : SeqI st v a := h.seq
def dotN (a b : List Int) (n : Nat) : Int := (List.range n).foldl (fun t k => t + cell a k * cell b k) 0
theorem dotN_dt (a b : List Int) : ∀ n, dotN a b n = dt a b n
  | 0 => rfl
  | n + 1 => by unfold dotN; rw [List.range_succ, List.foldl_append]; show dotN a b n + _ = _; rw [dotN_dt]; rfl
theorem c_dot (hv : SeqI st v a) (hw : SeqI st w b) (hl : a.length = b.length) {p : Int} (hp : 0 < p) (ha : ∀ z ∈ a, bd bits z) (hb : ∀ z ∈ b, bd bits z) (hs : a.length ≤ 1000000) : m_dot [v, w, .int p] st = .ok (.int (dt a b a.length % p), st) := by
  refine mk_pure0 rfl ?_ rfl
  have L := forL_fold (i := 4) (body := evSs T_dot G0 b_dot_1) (fun (k : Nat) => Val.int k) (fun (t : Int) o => [some v, some w, some (.int p), some (.int t), o]) (fun _ => st) (fun t k => Out.go (t + cell a k * cell b k)) (fun _ _ _ => rfl) (List.range a.length) (fun t k hk => by
    have hk := List.mem_range.mp hk
    simp_arith [b_dot_1, hv.ix hk, hw.ix (hl ▸ hk), bV_mul (mul_ok (bd_cell ha k) (bd_cell hb k) (by decide))]) 0 none
  rw [foldO_fold] at L
  rw [← dotN_dt]
  simp_arith [b_dot, hv.len, hw.len, ← hl, vne_int, rng1 hs, L, bV_mod hp]; rfl
theorem c_plus (hv : SeqI st v a) (hw : SeqI st w b) (hl : a.length = b.length) {p : Int} (hp : 0 < p) (hs : a.length ≤ 100000) : m_plus [v, w, .int p] st = .ok (.tup (vInts (plusN a b p)), st) := by
  refine mk_pure0 rfl ?_ (closed_vInts 0 _)
  have L := compL_map0 (c := (ev T_plus G0 .no).t) (e := (ev T_plus G0 b_plus_1).v) (x := 3) (env := [some v, some w, some (.int p), none]) (st := st) (fun (k : Nat) => Val.int k) (fun k => Val.int ((cell a k + cell b k) % p)) (List.range a.length) (fun _ _ => rfl) (fun k hk => by
    have hk := List.mem_range.mp hk
    simp_arith [b_plus_1, hv.ix hk, hw.ix (hl ▸ hk), bV_mod hp])
  have hz : (List.range a.length).length ≤ 100000 := by simp; exact hs
  simp_arith [b_plus, hv.len, hw.len, ← hl, vne_int, rng1 (Nat.le_trans hs (by decide)), L, List.length_map, hz, newL_f, gtup_of (seqOf_lst _)]
  simp [plusN, vInts]
theorem c_scaled (hv : IsSeq v a) {p f : Int} (hp : 0 < p) (ha : ∀ z ∈ a, bd bits z) (hf : bd bits f) (hs : a.length ≤ 100000) : m_scaled [v, .int f, .int p] st = .ok (.tup (vInts (scaledN a f p)), st) := by
  refine mk_pure0 rfl ?_ (closed_vInts 0 _)
  have L := compL_map0 (c := (ev T_scaled G0 .no).t) (e := (ev T_scaled G0 b_scaled_1).v) (x := 3) (env := [some v, some (.int f), some (.int p), none]) (st := st) Val.int (fun z => Val.int (z * f % p)) a (fun _ _ => rfl) (fun k hk => by
    simp_arith [b_scaled_1, bV_mul (mul_ok (ha k hk) hf (by decide)), bV_mod hp])
  have hz : a.length ≤ 100000 := hs
  simp_arith [b_scaled, hv.it, vInts, L, List.length_map, hz, newL_f, gtup_of (seqOf_lst _)]
  simp [scaledN, vInts, Function.comp_def]
theorem run_inverse {x p : Int} (hp : 1 < p) (hq : p ≤ 1000) : runB T_inverse G0 4 b_inverse [.int x, .int p] st = match invN (x % p) p with | some c => .ok (.int c, st) | none => .exn "BadRow" [.int 0] st := by
  have hr0 := Int.emod_nonneg x (show p ≠ 0 by omega)
  have hr1 := Int.emod_lt_of_pos x (show 0 < p by omega)
  have L := forL_fold (i := 3) (body := evSs T_inverse G0 b_inverse_1) Val.int (fun (_ : Unit) o => [some (.int x), some (.int p), some (.int (x % p)), o]) (fun _ => st) (fun _ c => if decide (c * (x % p) % p = 1) = true then Out.ret (.int c) st else .go ()) (fun _ _ _ => rfl) ((List.range (p - 1).toNat).map fun (k : Nat) => 1 + (k : Int)) (fun t c hk => by
    rw [List.mem_map] at hk
    obtain ⟨k, hk, rfl⟩ := hk
    have hk := List.mem_range.mp hk
    have hm : mulOk (1 + (k : Int)) (x % p) = true := mul_ok (n := 10) (k := 10) (bd_lt (by omega) (by omega)) (bd_lt (by omega) (by omega)) (by decide)
    simp_arith [b_inverse_1, bV_mul hm, bV_mod (show 0 < p by omega), veq_int]
    by_cases h : (1 + (k : Int)) * (x % p) % p = 1
    · simp_arith [h]
    · simp_arith [h]) () none
  rw [foldO_find] at L
  have hr : rngV [.int 1, .int p] = .ok (((List.range (p - 1).toNat).map fun (k : Nat) => 1 + (k : Int)).map Val.int) := by
    rw [rng2 (by omega) (by omega) (by omega) (by omega), List.map_map]; rfl
  simp_arith [b_inverse, bV_mod (show 0 < p by omega), hr, L]
  unfold invN
  cases List.find? (fun c => decide (c * (x % p) % p = 1)) (List.map (fun (k : Nat) => 1 + (k : Int)) (List.range (p - 1).toNat)) with
  | some c => simp_arith []
  | none => simp_arith []
theorem c_inverse {x p : Int} (hp : p ∈ primesL) (h0 : 0 < x) (h1 : x < p) : m_inverse [.int x, .int p] st = .ok (.int (invI x p), st) := by
  have hb := prime_b hp
  have h := (inv_spec hp h0 h1).1
  exact mk_pure0 rfl (by rw [run_inverse hb.1 (by omega), h]) rfl
theorem InP.bd {p : Int} {a : List Int} (h : InP p a) (hp : p ≤ 1000) : ∀ z ∈ a, bd bits z := fun z hz => by
  have := h z hz
  exact bd_mono (n := 10) (bd_lt (by omega) (by omega)) (by decide)
theorem bd_of {x : Int} (h : -1000 ≤ x) (h1 : x ≤ 1000) : bd bits x := bd_mono (n := 10) (bd_lt (by omega) (by omega)) (by decide)
end
/-! rows of any values -/
section
variable {st : Store}
def flatish : Val → Bool | .loc _ => false | .obj _ _ _ => false | _ => true
def btw (l u : Int) : Val → Bool | .int i => decide (l ≤ i) && decide (i ≤ u) | _ => false
def isI : Val → Bool | .int _ => true | _ => false
theorem c_wholeV {x : Val} (h : flatish x = true) : m_is_whole [x] st = .ok (.bl (isI x), st) := by
  cases x with
  | loc _ => cases h
  | obj _ _ _ => cases h
  | _ => exact mk_pure0 rfl (by simp_arith [b_is_whole, isI]) rfl
theorem c_betweenV {x : Val} (h : flatish x = true) (l u : Int) : m_is_between [x, .int l, .int u] st = .ok (.bl (btw l u x), st) := by
  have hw := c_wholeV (st := st) h
  cases x with
  | int i => exact c_between i l u
  | loc _ => cases h
  | obj _ _ _ => cases h
  | _ => exact mk_pure0 rfl (by simp_arith [b_is_between, t_is_between_is_whole, hw, btw, isI]) rfl
/-- a value that is no row, or a row of values -/
structure PlV (v : Val) : Prop where
  top : flatish v = true
  scr : ∀ xs, v ≠ .scr xs
  its : ∀ xs, v = .lst xs ∨ v = .tup xs → xs.length ≤ 100000 ∧ ∀ x ∈ xs, flatish x = true
  cl : closed 0 v = true
def goodV (v : Val) (n : Nat) (l u : Int) : Bool := match v with
  | .lst xs => decide (xs.length = n) && xs.all (btw l u)
  | .tup xs => decide (xs.length = n) && xs.all (btw l u)
  | _ => false
theorem c_are_numbers {v : Val} (h : PlV v) (n : Nat) (l u : Int) : m_are_numbers [v, .int n, .int l, .int u] st = .ok (.bl (goodV v n l u), st) := by
  have seq : ∀ (xs : List Val), (v = .lst xs ∨ v = .tup xs) → m_are_numbers [v, .int n, .int l, .int u] st = .ok (.bl (decide (xs.length = n) && xs.all (btw l u)), st) := fun xs hv => by
    obtain ⟨h1, h2⟩ := h.its xs hv
    have hrow : m_is_row [v] st = .ok (.bl true, st) := by rcases hv with rfl | rfl <;> exact mk_pure0 rfl (by simp_arith [b_is_row]) rfl
    have hlen : f1V .len v st = .ok (.int xs.length) := by rcases hv with rfl | rfl <;> simp only [len_lst, len_tup]
    have hit : kI1 (v, st) = .ok (xs, st) := by rcases hv with rfl | rfl <;> rfl
    refine mk_pure0 rfl ?_ rfl
    by_cases hn : xs.length = n
    · subst hn
      have L := forL_fold (i := 4) (body := evSs T_are_numbers G0 b_are_numbers_1) (fun (x : Val) => x) (fun (_ : Unit) o => [some v, some (.int xs.length), some (.int l), some (.int u), o]) (fun _ => st) (fun _ x => if (!btw l u x) = true then Out.ret (.bl false) st else .go ()) (fun _ _ _ => rfl) xs (fun t x hx => by
        simp_arith [b_are_numbers_1, t_are_numbers_is_between, c_betweenV (h2 x hx)]
        cases btw l u x <;> simp_arith []) () none
      rw [foldO_false, List.map_id'] at L
      simp_arith [b_are_numbers, t_are_numbers_is_row, hrow, hlen, hit, L]
      cases hh : xs.all (btw l u) with
      | true =>
        have : (xs.any fun x => !btw l u x) = false := by
          rw [List.any_eq_false]; intro x hx; rw [List.all_eq_true] at hh; simp [hh x hx]
        rw [this]; simp_arith []
      | false =>
        have : (xs.any fun x => !btw l u x) = true := by
          rw [List.all_eq_false] at hh
          obtain ⟨x, hx, hxx⟩ := hh
          exact List.any_eq_true.mpr ⟨x, hx, by simpa using hxx⟩
        rw [this]; simp_arith []
    · have hn' : ¬ (xs.length : Int) = n := by omega
      simp_arith [b_are_numbers, t_are_numbers_is_row, hrow, hlen, hn', hn]
  have nseq : m_is_row [v] st = .ok (.bl false, st) → m_are_numbers [v, .int n, .int l, .int u] st = .ok (.bl false, st) := fun hrow =>
    mk_pure0 rfl (by simp_arith [b_are_numbers, t_are_numbers_is_row, hrow]) rfl
  cases v with
  | lst xs => exact seq xs (.inl rfl)
  | tup xs => exact seq xs (.inr rfl)
  | scr xs => exact absurd rfl (h.scr xs)
  | loc _ => cases h.top
  | obj _ _ _ => cases h.top
  | _ => exact nseq (mk_pure0 rfl (by simp_arith [b_is_row]) rfl)
theorem ints_all {l u : Int} : ∀ {xs : List Val}, xs.all (btw l u) = true → ∃ a, xs = vInts a ∧ ∀ x ∈ a, l ≤ x ∧ x ≤ u
  | [], _ => ⟨[], rfl, by intro x h; cases h⟩
  | x :: xs, h => by
    rw [List.all_cons, Bool.and_eq_true] at h
    obtain ⟨a, e, ha⟩ := ints_all (xs := xs) h.2
    cases x with
    | int i =>
      have hi : (decide (l ≤ i) && decide (i ≤ u)) = true := h.1
      rw [Bool.and_eq_true, decide_eq_true_eq, decide_eq_true_eq] at hi
      exact ⟨i :: a, by rw [e]; rfl, fun y hy => by rcases List.mem_cons.mp hy with rfl | hy; exact hi; exact ha y hy⟩
    | _ => cases h.1
theorem goodV_is {v : Val} {n : Nat} {p : Int} (h : goodV v n 0 (p - 1) = true) : ∃ a, IsSeq v a ∧ a.length = n ∧ InP p a := by
  have key : ∀ xs : List Val, (decide (xs.length = n) && xs.all (btw 0 (p - 1))) = true → ∃ a, xs = vInts a ∧ a.length = n ∧ InP p a := fun xs h => by
    rw [Bool.and_eq_true, decide_eq_true_eq] at h
    obtain ⟨a, e, ha⟩ := ints_all h.2
    exact ⟨a, e, by rw [← h.1, e, vInts_len], fun x hx => by have := ha x hx; omega⟩
  cases v with
  | lst xs => obtain ⟨a, e, h⟩ := key xs h; exact ⟨a, .inl (by rw [e]), h⟩
  | tup xs => obtain ⟨a, e, h⟩ := key xs h; exact ⟨a, .inr (by rw [e]), h⟩
  | _ => cases h
theorem is_goodV {v : Val} {p : Int} {a : List Int} (h : IsSeq v a) (hi : InP p a) : goodV v a.length 0 (p - 1) = true := by
  have : (vInts a).all (btw 0 (p - 1)) = true := by
    rw [List.all_eq_true]; intro x hx
    unfold vInts at hx
    obtain ⟨i, h1, rfl⟩ := List.mem_map.mp hx
    have := hi i h1
    show (decide (0 ≤ i) && decide (i ≤ p - 1)) = true
    simp; omega
  rcases h with rfl | rfl
  · show (decide ((vInts a).length = a.length) && (vInts a).all (btw 0 (p - 1))) = true; rw [this, vInts_len]; simp
  · show (decide ((vInts a).length = a.length) && (vInts a).all (btw 0 (p - 1))) = true; rw [this, vInts_len]; simp
theorem plv_of {v : Val} {a : List Int} (h : IsSeq v a) (hl : a.length ≤ 100000) : PlV v := by
  refine ⟨(by rcases h with rfl | rfl <;> rfl), (fun xs e => by rcases h with rfl | rfl <;> cases e), (fun xs e => ?_), h.cl 0⟩
  have e : xs = vInts a := by
    rcases h with rfl | rfl
    · rcases e with e | e <;> cases e; rfl
    · rcases e with e | e <;> cases e; rfl
  subst e
  refine ⟨by rw [vInts_len]; exact hl, fun x hx => ?_⟩
  unfold vInts at hx
  obtain ⟨i, _, rfl⟩ := List.mem_map.mp hx
  rfl
end
/-! basis.py -/
section
variable {st : Store} {n m : Nat} {p : Int} {z : Nat} {b : Bas} {v : Val} {row : List Int} {R : List (List Int)}
def vRed (q : Red) : Val := .tup [.int q.place, .tup (vInts q.row), .tup (vInts q.mix)]
def basC (p : Int) (z : Nat) (m t : Nat) : Cell := .obj "Basis" ["prime", "size", "reduced", "taken"] [.int p, .int z, .loc m, .int t]
structure BasAt (st : Store) (n m : Nat) (p : Int) (z : Nat) (b : Bas) : Prop where
  obj : st[n]? = some (.obj "Basis" ["prime", "size", "reduced", "taken"] [.int p, .int z, .loc m, .int b.taken])
  red : st[m]? = some (.lst (b.red.map vRed))
theorem BasAt.ne (h : BasAt st n m p z b) : n ≠ m := fun e => by
  have h1 := h.obj
  rw [e, h.red] at h1; cases h1
theorem closed_red (k : Nat) : ∀ l : List Red, closedL k (l.map vRed) = true
  | [] => rfl
  | q :: l => by show ((true && (closedL k (vInts q.row) && (closedL k (vInts q.mix) && true))) && closedL k (l.map vRed)) = true; rw [closed_vInts, closed_vInts, closed_red k l]; rfl
/-- the def changes cells that it was given -/
theorem mk_upd {Φ : Tab} {G : Str → Option Val} {np k : Nat} {b : Ss} {args : List Val} {st st' g : Store} {v : Val} (hl : args.length = np) (h : runB Φ G k b args st = .ok (v, st' ++ g)) (hs : st'.length = st.length) (hc : closed st.length v = true)
    (hd : ∀ (j : Nat) (c : Cell), st'[j]? = some c → st[j]? = some c ∨ closedC st.length c = true) : mkM Φ G np k b args st = .ok (v, st') := by
  unfold mkM; rw [if_pos hl, h]
  unfold gcR; dsimp only
  have hk : CutOk st (st' ++ g) := ⟨by simp; omega, fun j d hj e => by
    rw [List.getElem?_append_left (by omega)] at e
    exact hd j d e⟩
  rw [if_pos ⟨hc, hk⟩]
  congr 1
  rw [List.take_append_of_le_length (by omega), List.take_of_length_le (by omega)]
theorem c_check_row (h : BasAt st n m p z b) (hv : PlV v) : m_Basis_check_row [.loc n, v] st = if goodV v z 0 (p - 1) = true then .ok (.non, st) else .exn "BadRow" [.int b.taken] st := by
  have h1 := h.obj
  cases hg : goodV v z 0 (p - 1) with
  | true => exact mk_pure0 rfl (by simp_arith [b_Basis_check_row, h1, fc_Basis_size, fc_Basis_prime, t_Basis_check_row_are_numbers, c_are_numbers hv, hg]) rfl
  | false => exact mk_exn0 rfl (by simp_arith [b_Basis_check_row, h1, fc_Basis_size, fc_Basis_prime, fc_Basis_taken, t_Basis_check_row_are_numbers, c_are_numbers hv, hg]) rfl
theorem small_v {ns : List Int} (h : ns.length ≤ 100000) : (vInts ns).length ≤ szMax := by rw [vInts_len]; exact h
/-- a good row -/
structure GoodR (p : Int) (z : Nat) (v : Val) (row : List Int) : Prop where
  is : IsSeq v row
  len : row.length = z
  inp : InP p row
theorem GoodR.good (h : GoodR p z v row) : goodV v z 0 (p - 1) = true := by rw [← h.len]; exact is_goodV h.is h.inp
theorem c_check_ok (h : BasAt st n m p z b) (hv : GoodR p z v row) (hz : z ≤ 6) : m_Basis_check_row [.loc n, v] st = .ok (.non, st) := by
  rw [c_check_row h (plv_of hv.is (by have := hv.len; omega)), if_pos hv.good]
theorem seqN_t {is : List Nat} {xs : List Val} {env : MP.Env} : seqN is (.tup xs) env st = if xs.length = is.length then some (setN is xs env) else none := rfl
theorem c_first (r : List Int) (hl : r.length ≤ 100000) : m_first_place [.tup (vInts r)] st = .ok ((match firstN r with | some k => .int k | none => .non), st) := by
  have L := forL_fold (i := 1) (body := evSs T_first_place G0 b_first_place_1) (fun (k : Nat) => Val.int k) (fun (_ : Unit) o => [some (.tup (vInts r)), o]) (fun _ => st) (fun _ k => if decide (cell r k ≠ 0) = true then Out.ret (.int k) st else .go ()) (fun _ _ _ => rfl) (List.range r.length) (fun t k hk => by
    have hk := List.mem_range.mp hk
    have hix : ixV st (.tup (vInts r)) (.int k) = .ok (.int (cell r k)) := IsSeq.ix .tup hk
    by_cases hc : cell r k = 0
    · simp_arith [b_first_place_1, hix, vne_int, hc, ne_eq, not_true, not_false_eq_true]
    · simp_arith [b_first_place_1, hix, vne_int, hc, ne_eq, not_true, not_false_eq_true]) () none
  rw [foldO_find] at L
  unfold firstN
  cases hf : (List.range r.length).find? fun k => decide (cell r k ≠ 0) with
  | none => rw [hf] at L; exact mk_pure0 rfl (by simp_arith [b_first_place, vInts_len, rng1 (show r.length ≤ 1000000 by omega), L]) rfl
  | some k => rw [hf] at L; exact mk_pure0 rfl (by simp_arith [b_first_place, vInts_len, rng1 (show r.length ≤ 1000000 by omega), L]) rfl
variable (hp : p ∈ primesL) (hz : z ≤ 6)
theorem scaled_ok {a : List Int} (hp : p ∈ primesL) (ha : InP p a) {f : Int} (h0 : -1000 ≤ f) (h1 : f ≤ 1000) (hs : a.length ≤ 100000) : m_scaled [.tup (vInts a), .int f, .int p] st = .ok (.tup (vInts (scaledN a f p)), st) := by
  have hb := prime_b hp
  exact c_scaled .tup (by omega) (ha.bd (by omega)) (bd_of h0 h1) hs
/-- one reduced row is taken off -/
theorem sub_ok {r a : List Int} (hp : p ∈ primesL) (ha : InP p a) (hl : r.length = a.length) {f : Int} (h0 : 0 ≤ f) (h1 : f ≤ 1000) (hs : a.length ≤ 100000) : m_plus [.tup (vInts r), .tup (vInts (scaledN a (-f) p)), .int p] st = .ok (.tup (vInts (subL p f r a)), st) := by
  have hb := prime_b hp
  rw [c_plus (seqI_of .tup) (seqI_of .tup) (by rw [len_scaled]; exact hl) (by omega) (by omega), plus_scaled]
include hp hz
theorem c_rest_of (h : BasAt st n m p z b) (hr : RedOk p z b.red) (hv : GoodR p z v row) : m_Basis_rest_of [.loc n, v] st = .ok (.tup (vInts (leftN p b.red row)), st) := by
  have hb := prime_b hp
  have hp0 : 0 < p := by omega
  have h1 := h.obj
  have h2 := h.red
  have hseq : seqOf st (.loc m) = some (true, b.red.map vRed) := by rw [l_seq, h2]; rfl
  refine mk_pure0 rfl ?_ (closed_vInts 0 _)
  have hz' : row.length ≤ 100000 := by have := hv.len; omega
  obtain ⟨env', L, o3, o4, o5, he⟩ := forC_idx (t := .many [3, 4, 5]) (body := evSs T_Basis_rest_of G0 b_Basis_rest_of_2) (a := .loc m) (p := (true, b.red.map vRed)) (fun k env => ∃ o3 o4 o5, env = [some (.loc n), some v, some (.tup (vInts ((b.red.take k).foldl (stepR p) row))), o3, o4, o5]) (fun _ => st) (b.red.map vRed) (fun _ _ => hseq) (fun k x env hk ⟨o3, o4, o5, he⟩ => by
    rw [List.getElem?_map] at hk
    cases hq : b.red[k]? with
    | none => rw [hq] at hk; cases hk
    | some q =>
      rw [hq] at hk; cases hk
      have hlt := (List.getElem?_eq_some_iff.mp hq).1
      have hqm := List.mem_of_getElem? hq
      have rq := hr.row q hqm
      subst he
      have etk : (b.red.take (k + 1)).foldl (stepR p) row = stepR p ((b.red.take k).foldl (stepR p) row) q := by
        rw [List.take_succ, hq, List.foldl_append]; rfl
      have el : ((b.red.take k).foldl (stepR p) row).length = z := by
        have := len_left (p := p) (red := b.red.take k) (r := row); unfold leftN at this; rw [this]; exact hv.len
      have ei : InP p ((b.red.take k).foldl (stepR p) row) := inP_left hp0 (red := b.red.take k) hv.inp
      generalize hR : (b.red.take k).foldl (stepR p) row = r at el ei etk
      refine ⟨[some (.loc n), some v, some (.tup (vInts r)), some (.int q.place), some (.tup (vInts q.row)), some (.tup (vInts q.mix))], [some (.loc n), some v, some (.tup (vInts (stepR p r q))), some (.int q.place), some (.tup (vInts q.row)), some (.tup (vInts q.mix))], ?_, ?_, ⟨_, _, _, by rw [etk]⟩⟩
      · simp_arith [setTg_many, seqN_t, vRed]
      · have hix : ixV st (.tup (vInts r)) (.int q.place) = .ok (.int (cell r q.place)) := IsSeq.ix .tup (by rw [el]; exact rq.place)
        have hc := ei.cell hp0 q.place
        unfold stepR
        by_cases h0 : cell r q.place = 0
        · rw [if_neg (by simpa using h0)]
          simp_arith [b_Basis_rest_of_2, hix, vne_int, h0]
        · rw [if_pos h0]
          have hs1 := scaled_ok (st := st) hp rq.inp (f := -(cell r q.place)) (by omega) (by omega) (by rw [rq.len]; omega)
          have hs2 := sub_ok (st := st) (r := r) hp rq.inp (by rw [el, rq.len]) hc.1 (by omega) (by rw [rq.len]; omega)
          simp_arith [b_Basis_rest_of_2, b_Basis_rest_of_1, hix, vne_int, h0, h1, fc_Basis_prime, t_Basis_rest_of_scaled, hs1, t_Basis_rest_of_plus, hs2]) [some (.loc n), some v, some (.tup (vInts row)), none, none, none] ⟨none, none, none, rfl⟩
  rw [List.length_map, List.take_length] at he
  subst he
  simp_arith [b_Basis_rest_of, h1, oc_Basis_check_row, t_Basis_rest_of_Basis_check_row, c_check_ok h hv hz, gtup_of hv.is.seq.choose_spec (small_v hz'), fc_Basis_reduced, h2, L]
  rfl
end
section
variable {st : Store} {n m : Nat} {p : Int} {z : Nat} {b : Bas} {v : Val} {row : List Int} {R : List (List Int)}
theorem vInts_repl (k : Nat) : List.replicate k (Val.int 0) = vInts (List.replicate k 0) := by unfold vInts; rw [List.map_replicate]
theorem zeros_t {m : Bool} {k : Nat} (hk : k ≤ 1000) : binV m .mul (.tup [.int 0]) (.int (k : Int)) st = .ok (.tup (vInts (List.replicate k 0)), st) := by
  rw [reps_t hk, vInts_repl, newT_f]; rw [vInts_len, List.length_replicate]; unfold szMax; omega
theorem inP_pad {p : Int} {t : Nat} {a : List Int} (hp : 0 < p) (h : InP p a) : InP p (padN t a) := fun x hx => by
  rcases List.mem_append.mp hx with hx | hx
  · exact h x hx
  · rw [(List.mem_replicate.mp hx).2]; omega
theorem c_parted (hp : p ∈ primesL) (hz : z ≤ 6) (h : BasAt st n m p z b) (hr : BasOk p z R b) (ht : R.length ≤ 100) (hv : GoodR p z v row) :
    m_Basis_parted [.loc n, v] st = .ok (.tup [.tup (vInts (partN p b.taken b.red (row, List.replicate b.taken 0)).1), .tup (vInts (partN p b.taken b.red (row, List.replicate b.taken 0)).2)], st) := by
  have hb := prime_b hp
  have hp0 : 0 < p := by omega
  have h1 := h.obj
  have h2 := h.red
  have htk := hr.taken
  have hseq : seqOf st (.loc m) = some (true, b.red.map vRed) := by rw [l_seq, h2]; rfl
  refine mk_pure0 rfl ?_ (by show (closedL 0 (vInts _) && (closedL 0 (vInts _) && true)) = true; rw [closed_vInts, closed_vInts]; rfl)
  have hz' : row.length ≤ 100000 := by have := hv.len; omega
  obtain ⟨env', L, o4, o5, o6, o7, o8, he⟩ := forC_idx (t := .many [4, 5, 6]) (body := evSs T_Basis_parted G0 b_Basis_parted_2) (a := .loc m) (p := (true, b.red.map vRed)) (fun k env => ∃ o4 o5 o6 o7 o8, env = [some (.loc n), some v, some (.tup (vInts ((b.red.take k).foldl (stepP p b.taken) (row, List.replicate b.taken 0)).1)), some (.tup (vInts ((b.red.take k).foldl (stepP p b.taken) (row, List.replicate b.taken 0)).2)), o4, o5, o6, o7, o8]) (fun _ => st) (b.red.map vRed) (fun _ _ => hseq) (fun k x env hk ⟨o4, o5, o6, o7, o8, he⟩ => by
    rw [List.getElem?_map] at hk
    cases hq : b.red[k]? with
    | none => rw [hq] at hk; cases hk
    | some q =>
      rw [hq] at hk; cases hk
      have hlt := (List.getElem?_eq_some_iff.mp hq).1
      have hqm := List.mem_of_getElem? hq
      have rq := hr.red.row q hqm
      have mq := hr.mix q hqm
      subst he
      have etk : (b.red.take (k + 1)).foldl (stepP p b.taken) (row, List.replicate b.taken 0) = stepP p b.taken ((b.red.take k).foldl (stepP p b.taken) (row, List.replicate b.taken 0)) q := by
        rw [List.take_succ, hq, List.foldl_append]; rfl
      have e1 : ((b.red.take k).foldl (stepP p b.taken) (row, List.replicate b.taken 0)).1 = leftN p (b.red.take k) row := part_left (red := b.red.take k) (s := (row, List.replicate b.taken 0))
      have el : ((b.red.take k).foldl (stepP p b.taken) (row, List.replicate b.taken 0)).1.length = z := by rw [e1, len_left]; exact hv.len
      have ei : InP p ((b.red.take k).foldl (stepP p b.taken) (row, List.replicate b.taken 0)).1 := by rw [e1]; exact inP_left hp0 hv.inp
      have ef : ((b.red.take k).foldl (stepP p b.taken) (row, List.replicate b.taken 0)).2.length = b.taken := by
        have := part_len (p := p) (t := b.taken) (red := b.red.take k) (s := (row, List.replicate b.taken 0))
        unfold partN at this; rw [this]; simp
      generalize (b.red.take k).foldl (stepP p b.taken) (row, List.replicate b.taken 0) = s at el ei ef etk e1 ⊢
      obtain ⟨r, fs⟩ := s
      have el : r.length = z := el
      have ei : InP p r := ei
      have ef : fs.length = b.taken := ef
      have hix : ixV st (.tup (vInts r)) (.int q.place) = .ok (.int (cell r q.place)) := IsSeq.ix .tup (by rw [el]; exact rq.place)
      have hc := ei.cell hp0 q.place
      by_cases h0 : cell r q.place = 0
      · have es : stepP p b.taken (r, fs) q = (r, fs) := by unfold stepP; rw [if_neg (by simpa using h0)]
        refine ⟨[some (.loc n), some v, some (.tup (vInts r)), some (.tup (vInts fs)), some (.int q.place), some (.tup (vInts q.row)), some (.tup (vInts q.mix)), o7, o8], [some (.loc n), some v, some (.tup (vInts r)), some (.tup (vInts fs)), some (.int q.place), some (.tup (vInts q.row)), some (.tup (vInts q.mix)), some (.int 0), o8], ?_, ?_, ⟨_, _, _, _, _, by rw [etk, es]⟩⟩
        · simp_arith [setTg_many, seqN_t, vRed]
        · simp_arith [b_Basis_parted_2, hix, vne_int, h0]
      · have es : stepP p b.taken (r, fs) q = (subL p (cell r q.place) r q.row, plusN fs (scaledN (padN b.taken q.mix) (cell r q.place) p) p) := by unfold stepP; rw [if_pos h0]
        refine ⟨[some (.loc n), some v, some (.tup (vInts r)), some (.tup (vInts fs)), some (.int q.place), some (.tup (vInts q.row)), some (.tup (vInts q.mix)), o7, o8], [some (.loc n), some v, some (.tup (vInts (subL p (cell r q.place) r q.row))), some (.tup (vInts (plusN fs (scaledN (padN b.taken q.mix) (cell r q.place) p) p))), some (.int q.place), some (.tup (vInts q.row)), some (.tup (vInts q.mix)), some (.int (cell r q.place)), some (.tup (vInts (padN b.taken q.mix)))], ?_, ?_, ⟨_, _, _, _, _, by rw [etk, es]⟩⟩
        · simp_arith [setTg_many, seqN_t, vRed]
        · have hs1 := scaled_ok (st := st) hp rq.inp (f := -(cell r q.place)) (by omega) (by omega) (by rw [rq.len]; omega)
          have hs2 := sub_ok (st := st) (r := r) hp rq.inp (by rw [el, rq.len]) hc.1 (by omega) (by rw [rq.len]; omega)
          have hml : q.mix.length ≤ b.taken := by rw [htk]; exact mq.1
          have epl : (padN b.taken q.mix).length = b.taken := pad_len hml
          have hs3 := scaled_ok (st := st) hp (inP_pad (t := b.taken) hp0 (hr.mixp q hqm)) (f := cell r q.place) (by omega) (by omega) (by rw [epl]; omega)
          have hs4 : m_plus [.tup (vInts fs), .tup (vInts (scaledN (padN b.taken q.mix) (cell r q.place) p)), .int p] st = .ok (.tup (vInts (plusN fs (scaledN (padN b.taken q.mix) (cell r q.place) p) p)), st) := c_plus (seqI_of .tup) (seqI_of .tup) (by rw [len_scaled, epl, ef]) hp0 (by omega)
          have esub : (b.taken : Int) - (q.mix.length : Int) = ((b.taken - q.mix.length : Nat) : Int) := by omega
          have hz1 := zeros_t (st := st) (m := false) (k := b.taken - q.mix.length) (by omega)
          have happ : binV false .add (.tup (vInts q.mix)) (.tup (vInts (List.replicate (b.taken - q.mix.length) 0))) st = .ok (.tup (vInts (padN b.taken q.mix)), st) := by
            rw [bV_tup, vInts_app, newT_f]
            · rfl
            · exact small_v (by show (padN b.taken q.mix).length ≤ _; omega)
          simp_arith [b_Basis_parted_2, b_Basis_parted_1, hix, vne_int, h0, h1, fc_Basis_prime, fc_Basis_taken, t_Basis_parted_scaled, hs1, t_Basis_parted_plus, hs2, vInts_len, esub, hz1, happ, hs3, hs4]) [some (.loc n), some v, some (.tup (vInts row)), some (.tup (vInts (List.replicate b.taken 0))), none, none, none, none, none] ⟨none, none, none, none, none, rfl⟩
  rw [List.length_map, List.take_length] at he
  subst he
  have hz0 := zeros_t (st := st) (m := false) (k := b.taken) (by omega)
  simp_arith [b_Basis_parted, h1, oc_Basis_check_row, t_Basis_parted_Basis_check_row, c_check_ok h hv hz, gtup_of hv.is.seq.choose_spec (small_v hz'), fc_Basis_taken, hz0, fc_Basis_reduced, h2, L]
  rfl
/-- the cells behind a taken row -/
def takeS (st : Store) (n m : Nat) (p : Int) (z : Nat) (b : Bas) : Store := (st.set n (basC p z m b.taken)).set m (.lst (b.red.map vRed))
theorem takeS_at (h : st[n]? = some c) (h' : st[m]? = some d) (hn : n ≠ m) (b : Bas) : BasAt (takeS st n m p z b) n m p z b where
  obj := by unfold takeS; rw [List.getElem?_set_ne (Ne.symm hn)]; exact g_set h
  red := by unfold takeS; exact g_set (by rw [List.getElem?_set_ne hn]; exact h')
theorem takeS_len : (takeS st n m p z b).length = st.length := by unfold takeS; simp
theorem takeS_off {i : Nat} (h1 : i ≠ n) (h2 : i ≠ m) : (takeS st n m p z b)[i]? = st[i]? := by unfold takeS; rw [List.getElem?_set_ne (Ne.symm h2), List.getElem?_set_ne (Ne.symm h1)]
theorem c_take (hp : p ∈ primesL) (hz : z ≤ 6) (h : BasAt st n m p z b) (hr : BasOk p z R b) (ht : R.length < 60) (hv : GoodR p z v row) :
    m_Basis_take [.loc n, v] st = .ok (.bl (firstN (leftN p b.red row)).isSome, takeS st n m p z (takeB p b row)) := by
  have hb := prime_b hp
  have hp0 : 0 < p := by omega
  have h1 := h.obj
  have h2 := h.red
  have hne := h.ne
  have htk := hr.taken
  have hpa := c_parted hp hz h hr (by omega) hv
  have h60 : ¬ (b.taken : Int) = 60 := by omega
  have e1 : (partN p b.taken b.red (row, List.replicate b.taken 0)).1 = leftN p b.red row := part_left
  have hm : m < st.length := lt_g h2
  generalize hs : partN p b.taken b.red (row, List.replicate b.taken 0) = s at hpa e1
  obtain ⟨r, fs⟩ := s
  have e1 : r = leftN p b.red row := e1
  have rl : r.length = z := by rw [e1, len_left]; exact hv.len
  have ri : InP p r := by rw [e1]; exact inP_left hp0 hv.inp
  have hf := c_first (st := st) r (by omega)
  have fl : fs.length = b.taken := by have := part_len (p := p) (t := b.taken) (red := b.red) (s := (row, List.replicate b.taken 0)); rw [hs] at this; rw [show fs.length = (r, fs).2.length from rfl, this]; simp
  have fi : InP p fs := by have := part_inP (p := p) (t := b.taken) hp0 (red := b.red) (s := (row, List.replicate b.taken 0)) (InP.zeros (by omega)); rw [hs] at this; exact this
  have hst : st.set n (basC p z m (b.taken + 1)) = takeS st n m p z ⟨b.red, b.taken + 1⟩ := by
    unfold takeS
    refine List.ext_getElem? fun i => ?_
    by_cases e : m = i
    · subst e; rw [List.getElem?_set_self (by simpa using hm), List.getElem?_set_ne hne]; exact h2
    · rw [List.getElem?_set_ne e]
  have hclosed : ∀ b' : Bas, ∀ (j : Nat) (c : Cell), (takeS st n m p z b')[j]? = some c → st[j]? = some c ∨ closedC st.length c = true := fun b' j c hc => by
    by_cases ej : j = m
    · subst ej
      unfold takeS at hc
      rw [List.getElem?_set_self (by simpa using hm)] at hc
      cases hc; exact .inr (closed_red _ _)
    · by_cases en : j = n
      · subst en
        unfold takeS at hc
        rw [List.getElem?_set_ne (Ne.symm ej), List.getElem?_set_self (lt_g h1)] at hc
        cases hc
        refine .inr ?_
        show (true && (true && (decide (m < st.length) && (true && true)))) = true
        rw [decide_eq_true hm]; rfl
      · rw [takeS_off en ej] at hc; exact .inl hc
  rw [← e1]
  have g60 := g_Basis_take_MOST_ROWS
  have hset : ∀ x : Cell, (st.set n x)[n]? = some x := fun x => g_set h1
  have hsm : ∀ x : Cell, (st.set n x)[m]? = some (.lst (b.red.map vRed)) := fun x => by rw [List.getElem?_set_ne hne]; exact h2
  have hf2 : ∀ s : Store, m_first_place [.tup (vInts r)] s = .ok ((match firstN r with | some k => .int k | none => .non), s) := fun s => c_first (st := s) r (by omega)
  have ht1 : ((b.taken : Int) + 1) = ((b.taken + 1 : Nat) : Int) := by omega
  cases hfr : firstN r with
  | none =>
    have et : takeB p b row = ⟨b.red, b.taken + 1⟩ := by unfold takeB; dsimp only; rw [hs]; dsimp only; rw [hfr]
    rw [et]
    rw [hfr] at hf2
    refine mk_upd (g := []) rfl ?_ takeS_len rfl (hclosed _)
    rw [← hst, List.append_nil]
    simp_arith [b_Basis_take, h1, fc_Basis_taken, g60, h60, oc_Basis_parted, t_Basis_take_Basis_parted, hpa, seqN_t, ht1, fu_Basis_taken, t_Basis_take_first_place, hf2, basC, Option.isSome]
  | some k =>
    obtain ⟨hk, hn0⟩ := first_some hfr
    have hc := ri.cell hp0 k
    obtain ⟨_, i1, i2, i3⟩ := inv_spec (x := cell r k) hp (by omega) hc.2
    have et : takeB p b row = ⟨b.red ++ [⟨k, scaledN r (invI (cell r k) p) p, scaledN fs (-(invI (cell r k) p)) p ++ [invI (cell r k) p]⟩], b.taken + 1⟩ := by unfold takeB; dsimp only; rw [hs]; dsimp only; rw [hfr]
    rw [et]
    rw [hfr] at hf2
    have hinv : ∀ s : Store, m_inverse [.int (cell r k), .int p] s = .ok (.int (invI (cell r k) p), s) := fun s => c_inverse (st := s) hp (by omega) hc.2
    generalize hce : invI (cell r k) p = c at i1 i2 i3 hinv et ⊢
    have hix : ∀ s : Store, ixV s (.tup (vInts r)) (.int k) = .ok (.int (cell r k)) := fun s => IsSeq.ix .tup hk
    have hs1 : ∀ s : Store, m_scaled [.tup (vInts fs), .int (-c), .int p] s = .ok (.tup (vInts (scaledN fs (-c) p)), s) := fun s => scaled_ok (st := s) hp fi (by omega) (by omega) (by omega)
    have hs2 : ∀ s : Store, m_scaled [.tup (vInts r), .int c, .int p] s = .ok (.tup (vInts (scaledN r c p)), s) := fun s => scaled_ok (st := s) hp ri (by omega) (by omega) (by omega)
    have happ : ∀ s : Store, binV false .add (.tup (vInts (scaledN fs (-c) p))) (.tup [.int c]) s = .ok (.tup (vInts (scaledN fs (-c) p ++ [c])), s) := fun s => by
      rw [bV_tup, newT_f]
      · rw [show [Val.int c] = vInts [c] from rfl, vInts_app]
      · rw [List.length_append, vInts_len, len_scaled]; simp [szMax]; omega
    have hl : (b.red.map vRed).length < 100000 := by rw [List.length_map]; have := hr.len; omega
    refine mk_upd (g := []) rfl ?_ takeS_len rfl (hclosed _)
    rw [List.append_nil]
    unfold takeS
    have ecell : List.map vRed (b.red ++ [⟨k, scaledN r c p, scaledN fs (-c) p ++ [c]⟩]) = b.red.map vRed ++ [.tup [.int k, .tup (vInts (scaledN r c p)), .tup (vInts (scaledN fs (-c) p ++ [c]))]] := by rw [List.map_append]; rfl
    rw [ecell]
    simp_arith [b_Basis_take, h1, fc_Basis_taken, fc_Basis_prime, fc_Basis_reduced, g60, h60, oc_Basis_parted, t_Basis_take_Basis_parted, hpa, seqN_t, ht1, fu_Basis_taken, t_Basis_take_first_place, hf2, hset, hsm, hix, t_Basis_take_inverse, hinv, t_Basis_take_scaled, hs1, hs2, happ, hl, basC, Option.isSome]
end
section
variable {st : Store} {n m : Nat} {p : Int} {z : Nat} {b : Bas} {v : Val} {row : List Int} {R : List (List Int)}
theorem c_rank (h : BasAt st n m p z b) : m_Basis_rank [.loc n] st = .ok (.int b.red.length, st) := by
  have h1 := h.obj
  have h2 := h.red
  exact mk_pure0 rfl (by simp_arith [b_Basis_rank, h1, fc_Basis_reduced, h2, List.length_map]) rfl
theorem c_combination (hp : p ∈ primesL) (hz : z ≤ 6) (h : BasAt st n m p z b) (hr : BasOk p z R b) (ht : R.length ≤ 100) (hv : GoodR p z v row) :
    m_Basis_combination [.loc n, v] st = .ok (if firstN (leftN p b.red row) = none then .tup (vInts (partN p b.taken b.red (row, List.replicate b.taken 0)).2) else .non, st) := by
  have h1 := h.obj
  have hb := prime_b hp
  have hpa := c_parted hp hz h hr ht hv
  have e1 : (partN p b.taken b.red (row, List.replicate b.taken 0)).1 = leftN p b.red row := part_left
  generalize hs : partN p b.taken b.red (row, List.replicate b.taken 0) = s at hpa e1
  obtain ⟨r, fs⟩ := s
  have e1 : r = leftN p b.red row := e1
  have rl : r.length = z := by rw [e1, len_left]; exact hv.len
  have hf := c_first (st := st) r (by omega)
  rw [← e1]
  cases hfr : firstN r with
  | none =>
    rw [hfr] at hf
    exact mk_pure0 rfl (by simp_arith [b_Basis_combination, h1, oc_Basis_parted, t_Basis_combination_Basis_parted, hpa, seqN_t, t_Basis_combination_first_place, hf]) (by rw [if_pos rfl]; exact closed_vInts 0 _)
  | some k =>
    rw [hfr] at hf
    exact mk_pure0 rfl (by simp_arith [b_Basis_combination, h1, oc_Basis_parted, t_Basis_combination_Basis_parted, hpa, seqN_t, t_Basis_combination_first_place, hf, reduceCtorEq]) rfl
theorem c_solved (hp : p ∈ primesL) (hz : z ≤ 6) (h : BasAt st n m p z b) (hr : RedOk p z b.red) (hl : b.red.length ≤ 100) {k : Nat} {x : Int} (hk : k < z) (x0 : 0 ≤ x) (x1 : x < p) :
    m_Basis_solved [.loc n, .int k, .int x] st = .ok (.tup (vInts (solveN p z b.red ((List.replicate z 0).set k x))), st) := by
  have hb := prime_b hp
  have hp0 : 0 < p := by omega
  have h1 := h.obj
  have h2 := h.red
  generalize hv0 : (List.replicate z (0 : Int)).set k x = v0
  have l0 : v0.length = z := by rw [← hv0]; simp
  have p0 : InP p v0 := fun y hy => by
    rw [← hv0] at hy
    rcases List.mem_or_eq_of_mem_set hy with hy | rfl
    · rw [(List.mem_replicate.mp hy).2]; omega
    · omega
  have hl' : ∀ k, (solveN p z (b.red.drop k) v0).length = z := fun k => by rw [solve_len, l0]
  refine mk_pure (g := [.lst (vInts (solveN p z b.red v0))]) rfl ?_ (closed_vInts 0 _)
  obtain ⟨env', st', L, j, hj, hx, o4, o5, o6, o7, he, hst⟩ := forL_inv (i := 4) (body := evSs T_Basis_solved G0 b_Basis_solved_1) (fun xs env s => ∃ j, j ≤ b.red.length ∧ xs = ((List.range b.red.length).map fun (i : Nat) => Val.int ((b.red.length : Int) - 1 - (i : Nat))).drop j ∧ ∃ o4 o5 o6 o7, env = [some (.loc n), some (.int k), some (.int x), some (.loc st.length), o4, o5, o6, o7] ∧ s = st ++ [.lst (vInts (solveN p z (b.red.drop (b.red.length - j)) v0))]) (fun y ys env s ⟨j, hj, hx, o4, o5, o6, o7, he, hst⟩ => by
    obtain ⟨q1, q2⟩ := drop_cons hx.symm
    rw [List.getElem?_map] at q1
    have hjl : j < b.red.length := by
      rcases Nat.lt_or_ge j b.red.length with h | h
      · exact h
      · rw [List.getElem?_eq_none (by simpa using h)] at q1; cases q1
    rw [List.getElem?_range hjl] at q1
    cases q1
    have hidx : b.red.length - (j + 1) < b.red.length := by omega
    generalize hqe : b.red[b.red.length - (j + 1)] = q
    have hqm : q ∈ b.red := by rw [← hqe]; exact List.getElem_mem hidx
    have rq := hr.row q hqm
    have edrop : b.red.drop (b.red.length - (j + 1)) = q :: b.red.drop (b.red.length - j) := by
      rw [List.drop_eq_getElem_cons hidx, hqe]; congr 2; omega
    generalize hw : solveN p z (b.red.drop (b.red.length - j)) v0 = w at hst
    have wl : w.length = z := by rw [← hw]; exact hl' _
    have wi : InP p w := by rw [← hw]; exact solve_inP hp0 p0
    have enew : solveN p z (b.red.drop (b.red.length - (j + 1))) v0 = w.set q.place (-(dt q.row w z) % p) := by rw [edrop, ← hw]; rfl
    subst he hst
    have h1' : (st ++ [Cell.lst (vInts w)])[n]? = _ := g_old h1
    have h2' : (st ++ [Cell.lst (vInts w)])[m]? = _ := g_old h2
    have hix : atI (b.red.map vRed) ((b.red.length : Int) - 1 - (j : Nat)) = some (vRed q) := by
      rw [show (b.red.length : Int) - 1 - (j : Nat) = ((b.red.length - (j + 1) : Nat) : Int) by omega]
      refine atI_n ?_
      rw [List.getElem?_map, List.getElem?_eq_getElem hidx, hqe]; rfl
    have hd : m_dot [.tup (vInts q.row), .loc st.length, .int p] (st ++ [Cell.lst (vInts w)]) = .ok (.int (dt q.row w z % p), st ++ [Cell.lst (vInts w)]) := by
      have := c_dot (st := st ++ [Cell.lst (vInts w)]) (v := .tup (vInts q.row)) (w := .loc st.length) (a := q.row) (b := w) (seqI_of .tup) ⟨true, cell_seq _⟩ (by rw [rq.len, wl]) hp0 (rq.inp.bd (by omega)) (wi.bd (by omega)) (by rw [rq.len]; omega)
      rw [rq.len] at this; exact this
    have hmod : -(dt q.row w z % p) % p = -(dt q.row w z) % p := by
      have := (Cg.mod p (dt q.row w z)).neg
      exact Cg.iff.mp this
    have hplace : ixN (vInts w).length (q.place : Int) = some q.place := ixN_n (by rw [vInts_len, wl]; exact rq.place)
    refine ⟨_, _, ?_, j + 1, hjl, q2, some (.int ((b.red.length : Int) - 1 - (j : Nat))), some (.int q.place), some (.tup (vInts q.row)), some (.tup (vInts q.mix)), rfl, rfl⟩
    rw [enew]
    simp_arith [b_Basis_solved_1, h1', fc_Basis_reduced, h2', hix, vRed, seqN_t, fc_Basis_prime, t_Basis_solved_dot, hd, bV_mod hp0, hmod, hplace, vInts_set]) ((List.range b.red.length).map fun (i : Nat) => Val.int ((b.red.length : Int) - 1 - (i : Nat))) [some (.loc n), some (.int k), some (.int x), some (.loc st.length), none, none, none, none] (st ++ [.lst (vInts v0)]) ⟨0, Nat.zero_le _, rfl, none, none, none, none, rfl, by rw [Nat.sub_zero, List.drop_length]; rfl⟩
  have ej : j = b.red.length := by
    have := congrArg List.length hx; simp at this; omega
  subst ej
  rw [Nat.sub_self, List.drop_zero] at hst
  subst he hst
  have hrz : ∀ s : Store, binV true .mul (.lst [.int 0]) (.int (z : Int)) s = .ok (.loc s.length, s ++ [.lst (vInts (List.replicate z 0))]) := fun s => by
    rw [zeros_l (show z ≤ 1000 by omega), newL_t]; rw [vInts_len, List.length_replicate]; unfold szMax; omega
  have h1' : ∀ c : Cell, (st ++ [c])[n]? = _ := fun c => g_old h1
  have h2' : ∀ c : Cell, (st ++ [c])[m]? = _ := fun c => g_old h2
  have hplace : ixN (vInts (List.replicate z (0 : Int))).length (k : Int) = some k := ixN_n (by rw [vInts_len, List.length_replicate]; exact hk)
  have hrev : rngV [.int ((b.red.length : Int) - 1), .int (-1), .int (-1)] = .ok ((List.range b.red.length).map fun (i : Nat) => Val.int ((b.red.length : Int) - 1 - (i : Nat))) := by
    rw [rng3 (by omega) (by omega) (by omega) (by omega)]
    have : ((b.red.length : Int) - 1 - -1).toNat = b.red.length := by omega
    rw [this]
  have hgt : ∀ (s : Store) (w : List Int), w.length = z → g1V false .tuple (.loc st.length) (st ++ [.lst (vInts w)]) = .ok (.tup (vInts w), st ++ [.lst (vInts w)]) := fun s w hw => gtup_of (cell_seq _) (small_v (by omega))
  have hfin := hgt st (solveN p z b.red v0) (by rw [solve_len, l0])
  simp_arith [b_Basis_solved, h1, fc_Basis_size, hrz, hplace, vInts_set, hv0, h1', fc_Basis_reduced, h2', List.length_map, hrev, L, hfin]
def twinV (p : Int) (z : Nat) (red : List Red) (row : List Int) : Val := match firstN (leftN p red row) with | none => .non | some k => .tup (vInts (twinN p z red (leftN p red row) k))
theorem twinV_cl {red : List Red} : closed 0 (twinV p z red row) = true := by
  unfold twinV; split
  · rfl
  · exact closed_vInts 0 _
theorem c_twin (hp : p ∈ primesL) (hz : z ≤ 6) (h : BasAt st n m p z b) (hr : BasOk p z R b) (ht : R.length ≤ 100) (hv : GoodR p z v row) :
    m_Basis_twin [.loc n, v] st = .ok (twinV p z b.red row, st) := by
  unfold twinV
  have h1 := h.obj
  have hb := prime_b hp
  have hp0 : 0 < p := by omega
  have hre := c_rest_of hp hz h hr.red hv
  generalize hs : leftN p b.red row = s at hre ⊢
  have sl : s.length = z := by rw [← hs, len_left]; exact hv.len
  have si : InP p s := by rw [← hs]; exact inP_left hp0 hv.inp
  have hf := c_first (st := st) s (by omega)
  cases hfr : firstN s with
  | none =>
    rw [hfr] at hf
    exact mk_pure0 rfl (by simp_arith [b_Basis_twin, h1, oc_Basis_rest_of, t_Basis_twin_Basis_rest_of, hre, t_Basis_twin_first_place, hf]) rfl
  | some k =>
    rw [hfr] at hf
    obtain ⟨hk, hn⟩ := first_some hfr
    have hc := si.cell hp0 k
    obtain ⟨_, i1, i2, i3⟩ := inv_spec (x := cell s k) hp (by omega) hc.2
    have hix : ixV st (.tup (vInts s)) (.int k) = .ok (.int (cell s k)) := IsSeq.ix .tup hk
    have hinv := c_inverse (st := st) hp (x := cell s k) (by omega) hc.2
    have hso := c_solved hp hz h hr.red (by have := hr.len; omega) (k := k) (x := invI (cell s k) p) (by omega) (by omega) i2
    exact mk_pure0 rfl (by simp_arith [b_Basis_twin, h1, fc_Basis_prime, oc_Basis_rest_of, oc_Basis_solved, t_Basis_twin_Basis_rest_of, hre, t_Basis_twin_first_place, hf, hix, t_Basis_twin_inverse, hinv, t_Basis_twin_Basis_solved, hso, twinN]) (closed_vInts 0 _)
end
/-! known.py -/
section
variable {st : Store} {n m : Nat} {p : Int} {z : Nat} {b : Bas} {v : Val} {row : List Int} {R : List (List Int)}
/-- the rows that are taken one after the other -/
def basisN (p : Int) (R : List (List Int)) : Bas := R.foldl (takeB p) ⟨[], 0⟩
theorem basisN_ok (hp : p ∈ primesL) : ∀ {R S : List (List Int)} {b : Bas}, BasOk p z S b → (∀ r ∈ R, r.length = z ∧ InP p r) → BasOk p z (S ++ R) (R.foldl (takeB p) b)
  | [], S, b, h, _ => by rw [List.append_nil]; exact h
  | r :: R, S, b, h, hr => by
    have h1 := h.take hp (hr r (List.mem_cons_self ..)).1 (hr r (List.mem_cons_self ..)).2
    have h2 := basisN_ok hp (R := R) h1 fun x hx => hr x (List.mem_cons_of_mem _ hx)
    rw [List.append_assoc] at h2
    exact h2
/-- rows as they are handed in: each a list or a tuple of numbers -/
structure Given (p : Int) (z : Nat) (v : Val) (vs : List Val) (R : List (List Int)) : Prop where
  is : v = .lst vs ∨ v = .tup vs
  len : vs.length = R.length
  row : ∀ (i : Nat) (x : Val) (r : List Int), vs[i]? = some x → R[i]? = some r → IsSeq x r
  ok : ∀ r ∈ R, r.length = z ∧ InP p r
theorem Given.seq {g : Val} {vs : List Val} (h : Given p z g vs R) : ∃ k, seqOf st g = some (k, vs) := by rcases h.is with rfl | rfl; exact ⟨_, rfl⟩; exact ⟨_, rfl⟩
theorem Given.glen {g : Val} {vs : List Val} (h : Given p z g vs R) : f1V .len g st = .ok (.int R.length) := by obtain ⟨k, hk⟩ := h.seq (st := st); rw [len_seq hk, h.len]
theorem Given.it {g : Val} {vs : List Val} (h : Given p z g vs R) : kI1 (g, st) = .ok (vs, st) := by rcases h.is with rfl | rfl <;> rfl
theorem Given.at {g : Val} {vs : List Val} (h : Given p z g vs R) {i : Nat} {x : Val} (hx : vs[i]? = some x) : ∃ r, R[i]? = some r ∧ r ∈ R ∧ GoodR p z x r := by
  have hi := (List.getElem?_eq_some_iff.mp hx).1
  rw [h.len] at hi
  have hr := List.getElem?_eq_getElem hi
  have hm := List.getElem_mem hi
  exact ⟨R[i], hr, hm, ⟨h.row i x _ hx hr, (h.ok _ hm).1, (h.ok _ hm).2⟩⟩
theorem Given.ix {g : Val} {vs : List Val} (h : Given p z g vs R) {i : Nat} (hi : i < R.length) : ∃ x, vs[i]? = some x ∧ ixV st g (.int i) = .ok x ∧ GoodR p z x R[i] := by
  have hl : i < vs.length := by rw [h.len]; exact hi
  have hx := List.getElem?_eq_getElem hl
  obtain ⟨k, hk⟩ := h.seq (st := st)
  refine ⟨vs[i], hx, ix_seq hk (atI_n hx), ?_⟩
  obtain ⟨r, hr, _, hg⟩ := h.at hx
  rw [List.getElem?_eq_getElem hi] at hr
  cases hr; exact hg
theorem c_Basis_init {c : Nat} (hp : p ∈ primesL) (hz : z ≤ 6) (hn : st[c]? = some (.obj "Basis" [] [])) :
    runB T_Basis_init G_Basis_init 3 b_Basis_init [.loc c, .int p, .int z] st = .ok (.non, (st ++ [Cell.lst []]).set c (basC p z st.length 0)) := by
  have hp' : cmpV .notin (.int p) (.tup (vInts primesL)) st = .ok false := by rw [notin_of p (seqOf_tup _)]; simp [hp]
  have hp' : cmpV .notin (.int p) (.tup [.int 2, .int 3, .int 5, .int 7, .int 11, .int 13, .int 17, .int 19, .int 23, .int 29, .int 31]) st = .ok false := hp'
  have hb : m_is_between [.int z, .int 0, .int 6] st = .ok (.bl true, st) := by
    rw [c_between]; have : (z : Int) ≤ 6 := by omega
    have h0 : (0 : Int) ≤ (z : Int) := by omega
    simp [this, h0]
  have hset : ∀ x : Cell, (st.set c x)[c]? = some x := fun x => g_set hn
  have hs2 : ∀ x y : Cell, (st.set c x ++ [y])[c]? = some x := fun x y => g_old (g_set hn)
  have hs3 : ∀ x y w : Cell, (st.set c x ++ [y]).set c w = st.set c w ++ [y] := fun x y w => by rw [s_old (g_set hn), List.set_set]
  have he : ∀ w y : Cell, (st ++ [y]).set c w = st.set c w ++ [y] := fun w y => s_old hn
  rw [he]
  simp_arith [b_Basis_init, g_Basis_init_PRIMES, hp', t_Basis_init_is_between, hb, hn, fs_Basis_prime, hset, fs_Basis_size, fs_Basis_reduced, fs_Basis_taken, hs2, hs3, List.set_set, List.length_set, basC]
  rfl
theorem m_Basis_init_ok {c : Nat} (hp : p ∈ primesL) (hz : z ≤ 6) (hn : st[c]? = some (.obj "Basis" [] [])) :
    m_Basis_init [.loc c, .int p, .int z] st = .ok (.non, (st ++ [Cell.lst []]).set c (basC p z st.length 0)) := by
  have h := c_Basis_init hp hz hn
  show (if [Val.loc c, .int p, .int z].length = 3 then gcR st (runB T_Basis_init G_Basis_init 3 b_Basis_init [.loc c, .int p, .int z] st) else .stuck) = _
  rw [if_pos (show [Val.loc c, .int p, .int z].length = 3 from rfl), h]
  unfold gcR
  dsimp only
  rw [if_neg]
  intro hk
  have hc : c < st.length := lt_g hn
  rcases hk.2.2 c (basC p z st.length 0) hc (by rw [List.getElem?_set_self]; simp; omega) with e | e
  · rw [hn] at e; cases e
  · have : (true && (true && (decide (st.length < st.length) && (true && true)))) = true := e
    simp at this
theorem c_basis_of {g : Val} {vs : List Val} (hp : p ∈ primesL) (hz : z ≤ 6) (hg : Given p z g vs R) (hl : R.length ≤ 60) :
    ∃ st' : Store, m_basis_of [.int p, .int z, g] st = .ok (.loc st.length, st') ∧ (∃ e, st' = st ++ e) ∧ BasAt st' st.length (st.length + 1) p z (basisN p R) ∧ BasOk p z R (basisN p R) := by
  have hb := prime_b hp
  have hinit := m_Basis_init_ok (st := st ++ [Cell.obj "Basis" [] []]) (c := st.length) hp hz g_0
  have e0 : ((st ++ [Cell.obj "Basis" [] []]) ++ [Cell.lst []]).set st.length (basC p z (st ++ [Cell.obj "Basis" [] []]).length 0) = st ++ [basC p z (st.length + 1) 0, .lst []] := by
    rw [List.append_assoc]; show (st ++ Cell.obj "Basis" [] [] :: [Cell.lst []]).set st.length _ = _; rw [s_0]; simp
  rw [e0] at hinit
  have hat0 : BasAt (st ++ [basC p z (st.length + 1) 0, .lst []]) st.length (st.length + 1) p z ⟨[], 0⟩ := ⟨g_0, g_1⟩
  obtain ⟨env', s', L, j, hj, hx, o4, he, hs1, hs2, hat, hok⟩ := forL_inv (i := 4) (body := evSs T_basis_of G_basis_of b_basis_of_1) (fun xs env s => ∃ j, j ≤ vs.length ∧ xs = vs.drop j ∧ ∃ o4, env = [some (.int p), some (.int z), some g, some (.loc st.length), o4] ∧ (∃ e, s = st ++ e) ∧ s.length = st.length + 2 ∧ BasAt s st.length (st.length + 1) p z ((R.take j).foldl (takeB p) ⟨[], 0⟩) ∧ BasOk p z (R.take j) ((R.take j).foldl (takeB p) ⟨[], 0⟩)) (fun y ys env s ⟨j, hj, hx, o4, he, ⟨e, hs1⟩, hs2, hat, hok⟩ => by
    obtain ⟨q1, q2⟩ := drop_cons hx.symm
    obtain ⟨r, hr, hrm, hgr⟩ := hg.at q1
    have hjl := (List.getElem?_eq_some_iff.mp q1).1
    have etk : R.take (j + 1) = R.take j ++ [r] := by rw [List.take_succ, hr]; rfl
    have ht := c_take (v := y) hp hz hat hok (by rw [List.length_take]; have := hg.len; omega) hgr
    have hok2 := hok.take hp hgr.len hgr.inp
    subst he
    generalize hB : (R.take j).foldl (takeB p) ⟨[], 0⟩ = B at hat hok ht hok2
    refine ⟨[some (.int p), some (.int z), some g, some (.loc st.length), some y], takeS s st.length (st.length + 1) p z (takeB p B r), ?_, j + 1, hjl, q2, some y, rfl, ?_, ?_, ?_, ?_⟩
    · have ho := hat.obj
      simp_arith [b_basis_of_1, ho, oc_Basis_take, t_basis_of_Basis_take, ht]
    · refine ⟨((e.set 0 (basC p z (st.length + 1) (takeB p B r).taken)).set 1 (.lst ((takeB p B r).red.map vRed))), ?_⟩
      unfold takeS
      rw [hs1, List.set_append_right _ _ (by omega), List.set_append_right _ _ (by omega)]
      congr 2
      · congr 1; omega
      · omega
    · rw [takeS_len]; exact hs2
    · rw [etk, List.foldl_append, hB]
      exact takeS_at hat.obj hat.red hat.ne _
    · rw [etk, List.foldl_append, hB]; exact hok2) vs [some (.int p), some (.int z), some g, some (.loc st.length), none] (st ++ [basC p z (st.length + 1) 0, .lst []]) ⟨0, Nat.zero_le _, rfl, none, rfl, ⟨_, rfl⟩, by simp, hat0, BasOk.nil p z⟩
  have ej : j = vs.length := by have := congrArg List.length hx; simp at this; omega
  have etk : R.take j = R := by rw [ej, hg.len, List.take_length]
  rw [etk] at hat hok
  refine ⟨s', mk_loc rfl ?_ (Nat.le_refl _), hs1, hat, hok⟩
  subst he
  have h60 : ¬ (60 : Int) < (R.length : Int) := by omega
  have gl := fun s : Store => hg.glen (st := s)
  have gi := fun s : Store => hg.it (st := s)
  simp_arith [b_basis_of, t_basis_of_Basis_init, hinit, gl, g_basis_of_MOST_ROWS, h60, gi, L]
end
/-! rows of numbers compared -/
section
variable {st : Store}
theorem eqa_ints : ∀ a b : List Int, PyData.eqvAll (toPDs (vInts a)) (toPDs (vInts b)) = decide (a = b)
  | [], [] => by simp [vInts, toPDs, PyData.eqvAll]
  | [], y :: b => by simp [vInts, toPDs, PyData.eqvAll]
  | x :: a, [] => by simp [vInts, toPDs, PyData.eqvAll]
  | x :: a, y :: b => by
    have ih := eqa_ints a b
    have e : PyData.eqv (toPD (.int x)) (toPD (.int y)) = decide (x = y) := rfl
    show (PyData.eqvAll (toPD (.int x) :: toPDs (vInts a)) (toPD (.int y) :: toPDs (vInts b))) = _
    rw [PyData.eqvAll, e, ih]
    by_cases h1 : x = y
    · by_cases h2 : a = b <;> simp [h1, h2]
    · simp [h1]
theorem veq_tups (a b : List Int) : cmpV .eq (.tup (vInts a)) (.tup (vInts b)) st = .ok (decide (a = b)) := by
  have h1 : SeqAt.shaped (toPD (.tup (vInts a))) = true := shaped_sz (sz_tup (k := 63) (sz_ints a))
  have h2 : SeqAt.shaped (toPD (.tup (vInts b))) = true := shaped_sz (sz_tup (k := 63) (sz_ints b))
  rw [cmpV_eq, h1, h2]
  simp only [Bool.and_self, if_true]
  rw [← eqa_ints a b]
  show R.ok (PyData.eqv (.tuple (toPDs (vInts a))) (.tuple (toPDs (vInts b)))) = _
  rw [PyData.eqv]
theorem veq_lsts (a b : List Int) : cmpV .eq (.lst (vInts a)) (.lst (vInts b)) st = .ok (decide (a = b)) := by
  have h1 : SeqAt.shaped (toPD (.lst (vInts a))) = true := shaped_sz (sz_lst (k := 63) (sz_ints a))
  have h2 : SeqAt.shaped (toPD (.lst (vInts b))) = true := shaped_sz (sz_lst (k := 63) (sz_ints b))
  rw [cmpV_eq, h1, h2]
  simp only [Bool.and_self, if_true]
  rw [← eqa_ints a b]
  show R.ok (PyData.eqv (.list (toPDs (vInts a))) (.list (toPDs (vInts b)))) = _
  rw [PyData.eqv]
theorem vne_bl (i j : Bool) : cmpV .ne (.bl i) (.bl j) st = .ok (!(i == j)) := by
  simp only [cmpV_ne, shaped_bl, Bool.and_self, if_true]
  rfl
end
section
variable {st : Store} {n m : Nat} {p : Int} {z : Nat} {b : Bas} {v g : Val} {vs : List Val} {row : List Int} {R : List (List Int)}
theorem c_rank_of (hp : p ∈ primesL) (hz : z ≤ 6) (hg : Given p z g vs R) (hl : R.length ≤ 60) : m_rank_of [.int p, .int z, g] st = .ok (.int (basisN p R).red.length, st) := by
  obtain ⟨st', h1, ⟨e, h2⟩, hat, hok⟩ := c_basis_of (st := st) hp hz hg hl
  have ho := hat.obj
  subst h2
  exact mk_pure (g := e) rfl (by simp_arith [b_rank_of, t_rank_of_basis_of, h1, ho, oc_Basis_rank, t_rank_of_Basis_rank, c_rank hat]) rfl
theorem c_combination_of (hp : p ∈ primesL) (hz : z ≤ 6) (hg : Given p z g vs R) (hl : R.length ≤ 60) (hv : GoodR p z v row) : m_combination_of [.int p, .int z, g, v] st =
    .ok (if firstN (leftN p (basisN p R).red row) = none then .tup (vInts (partN p (basisN p R).taken (basisN p R).red (row, List.replicate (basisN p R).taken 0)).2) else .non, st) := by
  obtain ⟨st', h1, ⟨e, h2⟩, hat, hok⟩ := c_basis_of (st := st) hp hz hg hl
  have ho := hat.obj
  subst h2
  have hc := c_combination hp hz hat hok (by omega) hv
  refine mk_pure (g := e) rfl (by simp_arith [b_combination_of, t_combination_of_basis_of, h1, ho, oc_Basis_combination, t_combination_of_Basis_combination, hc]) ?_
  split
  · exact closed_vInts 0 _
  · rfl
theorem c_twin_for (hp : p ∈ primesL) (hz : z ≤ 6) (hg : Given p z g vs R) (hl : R.length ≤ 60) (hv : GoodR p z v row) : m_twin_for [.int p, .int z, g, v] st =
    .ok (twinV p z (basisN p R).red row, st) := by
  obtain ⟨st', h1, ⟨e, h2⟩, hat, hok⟩ := c_basis_of (st := st) hp hz hg hl
  have ho := hat.obj
  subst h2
  have hc := c_twin hp hz hat hok (by omega) hv
  exact mk_pure (g := e) rfl (by simp_arith [b_twin_for, t_twin_for_basis_of, h1, ho, oc_Basis_twin, t_twin_for_Basis_twin, hc]) twinV_cl
/-! sums -/
def totN (p : Int) (z : Nat) (R : List (List Int)) (fs : List Int) (k : Nat) : List Int := (List.range z).map fun j => cmb (fs.take k) (R.take k) j % p
theorem tot_len {fs : List Int} {k : Nat} : (totN p z R fs k).length = z := by simp [totN]
theorem tot_zero {fs : List Int} : totN p z R fs 0 = List.replicate z 0 := by
  unfold totN
  refine List.ext_getElem (by simp) fun i h1 h2 => ?_
  simp [cmb]
theorem tot_inP {fs : List Int} {k : Nat} (hp : 0 < p) : InP p (totN p z R fs k) := fun x hx => by
  obtain ⟨j, _, rfl⟩ := List.mem_map.mp hx
  exact ⟨Int.emod_nonneg _ (by omega), Int.emod_lt_of_pos _ hp⟩
theorem tot_step {fs : List Int} {k : Nat} (hk : k < R.length) (hf : fs.length = R.length) (j : Nat) (hj : j < z) : cell (totN p z R fs (k + 1)) j = (cell (totN p z R fs k) j + cell fs k * cell (R[k]) j) % p := by
  have e1 : fs.take (k + 1) = fs.take k ++ [cell fs k] := by
    rw [List.take_succ, List.getElem?_eq_getElem (by omega)]
    unfold cell; rw [List.getD_eq_getElem?_getD, List.getElem?_eq_getElem (by omega)]; rfl
  have e2 : R.take (k + 1) = R.take k ++ [R[k]] := by rw [List.take_succ, List.getElem?_eq_getElem hk]; rfl
  unfold totN
  rw [cell_map hj, cell_map hj, e1, e2, cmb_app (by simp; omega)]
  exact Cg.iff.mp ((Cg.mod p _).symm.add (Cg.refl _ _))
theorem tot_next {fs : List Int} {k : Nat} (hk : k < R.length) (hf : fs.length = R.length) : totN p z R fs (k + 1) = (List.range z).map fun j => (cell (totN p z R fs k) j + cell fs k * cell (R[k]) j) % p := by
  refine List.ext_getElem (by simp [totN]) fun i h1 h2 => ?_
  have hi : i < z := by simpa [totN] using h1
  have := tot_step (p := p) (z := z) hk hf i hi
  unfold cell at this
  rw [List.getD_eq_getElem?_getD, List.getElem?_eq_getElem h1] at this
  simp at this ⊢
  exact this
theorem tot_plus {fs : List Int} {k : Nat} (hk : k < R.length) (hf : fs.length = R.length) (hr : (R[k]).length = z) : plusN (totN p z R fs k) (scaledN (R[k]) (cell fs k) p) p = totN p z R fs (k + 1) := by
  rw [tot_next hk hf]
  unfold plusN
  rw [tot_len]
  refine List.map_congr_left fun j hj => ?_
  rw [cell_scaled, Int.mul_comm]
  exact Cg.iff.mp ((Cg.refl _ _).add (Cg.mod _ _))
theorem c_mixed {fs : List Int} {w : Val} (hp : p ∈ primesL) (hz : z ≤ 6) (hg : Given p z g vs R) (hl : R.length ≤ 60) (hw : IsSeq w fs) (hf : fs.length = R.length) (hi : InP p fs) : m_mixed [.int p, .int z, g, w] st = .ok (.tup (vInts (totN p z R fs R.length)), st) := by
  have hb := prime_b hp
  refine mk_pure0 rfl ?_ (closed_vInts 0 _)
  obtain ⟨o, L⟩ := forL_range (i := 5) (body := evSs T_mixed G0 b_mixed_1) (fun k o => [some (.int p), some (.int z), some g, some w, some (.tup (vInts (totN p z R fs k))), o]) (fun _ => st) R.length (fun _ _ _ => rfl) (fun k hk => by
    obtain ⟨x, _, hx, hgr⟩ := hg.ix (st := st) hk
    have hfx := hw.ix (st := st) (k := k) (by omega)
    have hc := hi.cell (by omega) k
    have hs := c_scaled (st := st) (f := cell fs k) (p := p) hgr.is (by omega) (hgr.inp.bd (by omega)) (bd_of (by omega) (by omega)) (by rw [hgr.len]; omega)
    have hpl := c_plus (st := st) (v := .tup (vInts (totN p z R fs k))) (w := .tup (vInts (scaledN (R[k]) (cell fs k) p))) (p := p) (seqI_of .tup) (seqI_of .tup) (by rw [tot_len, len_scaled, hgr.len]) (by omega) (by rw [tot_len]; omega)
    rw [tot_plus hk hf hgr.len] at hpl
    simp_arith [b_mixed_1, hx, hfx, t_mixed_scaled, hs, t_mixed_plus, hpl]) none
  rw [tot_zero] at L
  have hz0 := zeros_t (st := st) (m := false) (k := z) (by omega)
  simp_arith [b_mixed, hz0, hg.glen (st := st), rng1 (show R.length ≤ 1000000 by omega), L]
theorem c_all_zero {w : Val} {a : List Int} (hp : p ∈ primesL) (hz : z ≤ 6) (hg : Given p z g vs R) (hw : GoodR p z w a) : m_all_zero [.int p, g, w] st = .ok (.bl (R.all fun r => decide (dt r a z % p = 0)), st) := by
  have hb := prime_b hp
  have key : ∀ (ws : List Val) (S : List (List Int)) (o : Option Val), ws.length = S.length → (∀ (i : Nat) x r, ws[i]? = some x → S[i]? = some r → GoodR p z x r) → ∃ o', forL 3 (evSs T_all_zero G0 b_all_zero_1) ws [some (.int p), some g, some w, o] st = if (S.all fun r => decide (dt r a z % p = 0)) = true then .next [some (.int p), some g, some w, o'] st else .ret (.bl false) st := by
    intro ws
    induction ws with
    | nil => intro S o hl _; cases S with
      | nil => exact ⟨o, rfl⟩
      | cons => cases hl
    | cons x ws ih =>
      intro S o hl hr
      cases S with
      | nil => cases hl
      | cons r S =>
        have hx := hr 0 x r rfl rfl
        have hd := c_dot (st := st) (p := p) (seqI_of hx.is) (seqI_of hw.is) (by rw [hx.len, hw.len]) (by omega) (hx.inp.bd (by omega)) (hw.inp.bd (by omega)) (by rw [hx.len]; omega)
        rw [hx.len] at hd
        obtain ⟨o', h'⟩ := ih S (some x) (by simpa using hl) fun i y s h1 h2 => hr (i + 1) y s h1 h2
        by_cases h0 : dt r a z % p = 0
        · refine ⟨o', ?_⟩
          have : (r :: S).all (fun r => decide (dt r a z % p = 0)) = S.all fun r => decide (dt r a z % p = 0) := by simp [h0]
          rw [this, ← h']
          have hbd : evSs T_all_zero G0 b_all_zero_1 [some (.int p), some g, some w, some x] st = .next [some (.int p), some g, some w, some x] st := by
            simp_arith [b_all_zero_1, t_all_zero_dot, hd, vne_int, h0]
          simp only [forL, List.set_cons_succ, List.set_cons_zero, hbd]
        · refine ⟨none, ?_⟩
          have : (r :: S).all (fun r => decide (dt r a z % p = 0)) = false := by simp [h0]
          rw [this]
          have hbd : evSs T_all_zero G0 b_all_zero_1 [some (.int p), some g, some w, some x] st = .ret (.bl false) st := by
            simp_arith [b_all_zero_1, t_all_zero_dot, hd, vne_int, h0]
          simp only [forL, List.set_cons_succ, List.set_cons_zero, hbd, Bool.false_eq_true, if_false]
  obtain ⟨o', L⟩ := key vs R none hg.len fun i x r h1 h2 => ⟨hg.row i x r h1 h2, (hg.ok r (List.mem_of_getElem? h2)).1, (hg.ok r (List.mem_of_getElem? h2)).2⟩
  refine mk_pure0 rfl ?_ rfl
  cases hh : R.all fun r => decide (dt r a z % p = 0) with
  | true => rw [hh, if_pos rfl] at L; simp_arith [b_all_zero, hg.it (st := st), L]
  | false => rw [hh] at L; simp_arith [b_all_zero, hg.it (st := st), L]
/-- what is said of a paper -/
def combB (p : Int) (z : Nat) (R : List (List Int)) (row : List Int) (v : Val) : Bool := match goodV v R.length 0 (p - 1), seqOf [] v with
  | true, some (_, xs) => (match asInts xs with | some fs => decide (totN p z R fs R.length = row) | none => false)
  | _, _ => false
def twinB (p : Int) (z : Nat) (R : List (List Int)) (row : List Int) (v : Val) : Bool := match goodV v z 0 (p - 1), seqOf [] v with
  | true, some (_, xs) => (match asInts xs with | some a => (R.all fun r => decide (dt r a z % p = 0)) && decide (dt row a z % p ≠ 0) | none => false)
  | _, _ => false
theorem combB_is {fs : List Int} (h : IsSeq v fs) (hl : fs.length = R.length) (hi : InP p fs) : combB p z R row v = decide (totN p z R fs R.length = row) := by
  have hg := is_goodV h hi
  rw [hl] at hg
  unfold combB
  rw [hg]
  rcases h with rfl | rfl
  · simp only [seqOf_lst, asInts_vInts]
  · simp only [seqOf_tup, asInts_vInts]
theorem combB_no (h : goodV v R.length 0 (p - 1) = false) : combB p z R row v = false := by unfold combB; rw [h]
theorem twinB_is {a : List Int} (h : IsSeq v a) (hl : a.length = z) (hi : InP p a) : twinB p z R row v = ((R.all fun r => decide (dt r a z % p = 0)) && decide (dt row a z % p ≠ 0)) := by
  have hg := is_goodV h hi
  rw [hl] at hg
  unfold twinB
  rw [hg]
  rcases h with rfl | rfl
  · simp only [seqOf_lst, asInts_vInts]
  · simp only [seqOf_tup, asInts_vInts]
theorem twinB_no (h : goodV v z 0 (p - 1) = false) : twinB p z R row v = false := by unfold twinB; rw [h]
theorem c_is_combination {w : Val} (hp : p ∈ primesL) (hz : z ≤ 6) (hg : Given p z g vs R) (hl : R.length ≤ 60) (hv : GoodR p z v row) (hw : PlV w) : m_is_combination [.int p, .int z, g, v, w] st = .ok (.bl (combB p z R row w), st) := by
  have hb := prime_b hp
  obtain ⟨st', h1, ⟨e, h2⟩, hat, hok⟩ := c_basis_of (st := st) hp hz hg hl
  have ho := hat.obj
  subst h2
  have hc := c_check_ok hat hv hz
  have hn := c_are_numbers (st := st ++ e) hw R.length 0 (p - 1)
  refine mk_pure (g := e) rfl ?_ rfl
  cases hgd : goodV w R.length 0 (p - 1) with
  | false =>
    rw [hgd] at hn
    rw [combB_no hgd]
    simp_arith [b_is_combination, t_is_combination_basis_of, h1, ho, oc_Basis_check_row, t_is_combination_Basis_check_row, hc, hg.glen, t_is_combination_are_numbers, hn]
  | true =>
    rw [hgd] at hn
    obtain ⟨fs, f1, f2, f3⟩ := goodV_is hgd
    rw [combB_is f1 f2 f3]
    have hm := c_mixed (st := st ++ e) hp hz hg hl f1 f2 f3
    have hgt := gtup_of (m := false) (st := st ++ e) hv.is.seq.choose_spec (small_v (by rw [hv.len]; omega))
    simp_arith [b_is_combination, t_is_combination_basis_of, h1, ho, oc_Basis_check_row, t_is_combination_Basis_check_row, hc, hg.glen, t_is_combination_are_numbers, hn, t_is_combination_mixed, hm, hgt, veq_tups]
theorem c_is_twin {w : Val} (hp : p ∈ primesL) (hz : z ≤ 6) (hg : Given p z g vs R) (hl : R.length ≤ 60) (hv : GoodR p z v row) (hw : PlV w) : m_is_twin [.int p, .int z, g, v, w] st = .ok (.bl (twinB p z R row w), st) := by
  have hb := prime_b hp
  obtain ⟨st', h1, ⟨e, h2⟩, hat, hok⟩ := c_basis_of (st := st) hp hz hg hl
  have ho := hat.obj
  subst h2
  have hc := c_check_ok hat hv hz
  have hn := c_are_numbers (st := st ++ e) hw z 0 (p - 1)
  refine mk_pure (g := e) rfl ?_ rfl
  cases hgd : goodV w z 0 (p - 1) with
  | false =>
    rw [hgd] at hn
    rw [twinB_no hgd]
    simp_arith [b_is_twin, t_is_twin_basis_of, h1, ho, oc_Basis_check_row, t_is_twin_Basis_check_row, hc, t_is_twin_are_numbers, hn]
  | true =>
    rw [hgd] at hn
    obtain ⟨a, f1, f2, f3⟩ := goodV_is hgd
    rw [twinB_is f1 f2 f3]
    have hm := c_all_zero (st := st ++ e) hp hz hg ⟨f1, f2, f3⟩
    have hd := c_dot (st := st ++ e) (p := p) (seqI_of hv.is) (seqI_of f1) (by rw [hv.len, f2]) (by omega) (hv.inp.bd (by omega)) (f3.bd (by omega)) (by rw [hv.len]; omega)
    rw [hv.len] at hd
    cases hall : R.all fun r => decide (dt r a z % p = 0) with
    | true =>
      rw [hall] at hm
      simp_arith [b_is_twin, t_is_twin_basis_of, h1, ho, oc_Basis_check_row, t_is_twin_Basis_check_row, hc, t_is_twin_are_numbers, hn, t_is_twin_all_zero, hm, t_is_twin_dot, hd, vne_int, decide_not, ne_eq]
    | false =>
      rw [hall] at hm
      simp_arith [b_is_twin, t_is_twin_basis_of, h1, ho, oc_Basis_check_row, t_is_twin_Basis_check_row, hc, t_is_twin_are_numbers, hn, t_is_twin_all_zero, hm]
end
/-! the law's own elimination -/
section
variable {st : Store} {p : Int} {z : Nat} {v g : Val} {vs : List Val} {row : List Int} {R : List (List Int)} {red : List Red}
def vRow (r : List Int) : Val := .lst (vInts r)
def vPair (q : Red) : Val := .lst [.int q.place, .lst (vInts q.row)]
theorem closed_rows (n : Nat) : ∀ rs : List (List Int), closedL n (rs.map vRow) = true
  | [] => rfl
  | r :: rs => by show (closedL n (vInts r) && closedL n (rs.map vRow)) = true; rw [closed_vInts n r, closed_rows n rs]; rfl
theorem closed_pairs (n : Nat) : ∀ l : List Red, closedL n (l.map vPair) = true
  | [] => rfl
  | q :: l => by show ((true && (closedL n (vInts q.row) && true)) && closedL n (l.map vPair)) = true; rw [closed_vInts, closed_pairs n l]; rfl
theorem filter_some {α : Type} {f : α → Bool} {k : α} : ∀ {l : List α}, l.find? f = some k → ∃ t, l.filter f = k :: t
  | [], h => by cases h
  | x :: l, h => by
    cases hx : f x with
    | true =>
      rw [List.find?_cons, hx] at h
      cases h
      exact ⟨l.filter f, by rw [List.filter_cons, if_pos hx]⟩
    | false =>
      rw [List.find?_cons, hx] at h
      obtain ⟨t, ht⟩ := filter_some h
      exact ⟨t, by rw [List.filter_cons, if_neg (by simp [hx]), ht]⟩
theorem filter_none {α : Type} {f : α → Bool} {l : List α} (h : l.find? f = none) : l.filter f = [] := by
  rw [List.filter_eq_nil_iff]; exact List.find?_eq_none.mp h
theorem ite_set {b : Bool} {x y : α} : (if b = true then x else y) = (if b = true then x else y) := rfl
theorem c_law_left (hp : p ∈ primesL) (hz : z ≤ 6) {B : Val} {kb : Bool} (hB : seqOf st B = some (kb, red.map vPair)) (hr : ∀ q ∈ red, RowOk p z q) (hl : row.length = z) (hi : InP p row) : m_law_left [.int p, B, .lst (vInts row)] st = .ok (.lst (vInts (leftN p red row)), st) := by
  have hb := prime_b hp
  have hp0 : 0 < p := by omega
  refine mk_pure0 rfl ?_ (closed_vInts 0 _)
  obtain ⟨env', L, o4, o5, o6, he⟩ := forC_idx (t := .one 4) (body := evSs T_law_left G0 b_law_left_2) (a := B) (p := (kb, red.map vPair)) (fun k env => ∃ o4 o5 o6, env = [some (.int p), some B, some (.lst (vInts row)), some (.lst (vInts ((red.take k).foldl (stepR p) row))), o4, o5, o6]) (fun _ => st) (red.map vPair) (fun _ _ => hB) (fun k x env hk ⟨o4, o5, o6, he⟩ => by
    rw [List.getElem?_map] at hk
    cases hq : red[k]? with
    | none => rw [hq] at hk; cases hk
    | some q =>
      rw [hq] at hk; cases hk
      have rq := hr q (List.mem_of_getElem? hq)
      subst he
      have etk : (red.take (k + 1)).foldl (stepR p) row = stepR p ((red.take k).foldl (stepR p) row) q := by rw [List.take_succ, hq, List.foldl_append]; rfl
      have el : ((red.take k).foldl (stepR p) row).length = z := by have := len_left (p := p) (red := red.take k) (r := row); unfold leftN at this; rw [this]; exact hl
      have ei : InP p ((red.take k).foldl (stepR p) row) := inP_left hp0 (red := red.take k) hi
      generalize (red.take k).foldl (stepR p) row = r at el ei etk ⊢
      have hix : ixV st (.lst (vInts r)) (.int q.place) = .ok (.int (cell r q.place)) := IsSeq.ix .lst (by rw [el]; exact rq.place)
      have hc := ei.cell hp0 q.place
      refine ⟨[some (.int p), some B, some (.lst (vInts row)), some (.lst (vInts r)), some (vPair q), o5, o6], [some (.int p), some B, some (.lst (vInts row)), some (.lst (vInts (stepR p r q))), some (vPair q), some (.int (cell r q.place)), o6], rfl, ?_, ⟨_, _, _, by rw [etk]⟩⟩
      have i0 : ixV st (vPair q) (.int 0) = .ok (.int q.place) := rfl
      unfold stepR
      by_cases h0 : cell r q.place = 0
      · rw [if_neg (by simpa using h0)]
        simp_arith [b_law_left_2, i0, hix, vne_int, h0]
      · rw [if_pos h0]
        have C := compL_map0 (c := (ev T_law_left G0 .no).t) (e := (ev T_law_left G0 b_law_left_1).v) (x := 6) (env := [some (.int p), some B, some (.lst (vInts row)), some (.lst (vInts r)), some (vPair q), some (.int (cell r q.place)), o6]) (st := st) (fun (k : Nat) => Val.int k) (fun k => Val.int ((cell r k - cell r q.place * cell q.row k) % p)) (List.range r.length) (fun _ _ => rfl) (fun k hk => by
          have hk := List.mem_range.mp hk
          have i1 : ixV st (vPair q) (.int 1) = .ok (.lst (vInts q.row)) := rfl
          have hx1 : ixV st (.lst (vInts r)) (.int k) = .ok (.int (cell r k)) := IsSeq.ix .lst hk
          have hx2 : ixV st (.lst (vInts q.row)) (.int k) = .ok (.int (cell q.row k)) := IsSeq.ix .lst (by rw [rq.len]; omega)
          have hck := rq.inp.cell hp0 k
          have hm : mulOk (cell r q.place) (cell q.row k) = true := mul_ok (n := 10) (k := 10) (bd_lt (by omega) (by omega)) (bd_lt (by omega) (by omega)) (by decide)
          simp_arith [b_law_left_1, i1, hx1, hx2, bV_mul hm, bV_mod hp0])
        have hrl : r.length ≤ 100000 := by omega
        have esub : ((List.range r.length).map fun k => Val.int ((cell r k - cell r q.place * cell q.row k) % p)) = vInts (subL p (cell r q.place) r q.row) := by unfold subL vInts; rw [List.map_map]; rfl
        rw [esub] at C
        have hnl : (vInts (subL p (cell r q.place) r q.row)).length ≤ szMax := small_v (by rw [len_sub]; omega)
        simp_arith [b_law_left_2, i0, hix, vne_int, h0, len_lst, vInts_len, rng1 (show r.length ≤ 1000000 by omega), List.length_map, List.length_range, hrl, C, newL_f _ hnl]) [some (.int p), some B, some (.lst (vInts row)), some (.lst (vInts row)), none, none, none] ⟨none, none, none, rfl⟩
  rw [List.length_map, List.take_length] at he
  subst he
  have hgl := glist_of (st := st) (v := .lst (vInts row)) (k := true) (xs := vInts row) rfl (small_v (by omega))
  simp_arith [b_law_left, hgl, hB, L]
  rfl
theorem basisN_app (R : List (List Int)) (r : List Int) : basisN p (R ++ [r]) = takeB p (basisN p R) r := by unfold basisN; rw [List.foldl_append]; rfl
theorem take_red {b : Bas} {row : List Int} : (takeB p b row).red = match firstN (leftN p b.red row) with | none => b.red | some k => b.red ++ [⟨k, scaledN (leftN p b.red row) (invI (cell (leftN p b.red row) k) p) p, scaledN (partN p b.taken b.red (row, List.replicate b.taken 0)).2 (-(invI (cell (leftN p b.red row) k) p)) p ++ [invI (cell (leftN p b.red row) k) p]⟩] := by
  have e : (partN p b.taken b.red (row, List.replicate b.taken 0)).1 = leftN p b.red row := part_left
  unfold takeB
  dsimp only
  rw [e]
  cases firstN (leftN p b.red row) <;> rfl
theorem c_law_basis (hp : p ∈ primesL) (hz : z ≤ 6) (hR : ∀ r ∈ R, r.length = z ∧ InP p r) (hl : R.length ≤ 60) : m_law_basis [.int p, .lst (R.map vRow)] st = .ok (.lst ((basisN p R).red.map vPair), st) := by
  have hb := prime_b hp
  have hp0 : 0 < p := by omega
  have okAt : ∀ j, BasOk p z (R.take j) (basisN p (R.take j)) := fun j => by
    have := basisN_ok (z := z) hp (R := R.take j) (BasOk.nil p z) fun r hr => hR r (List.mem_of_mem_take hr)
    rwa [List.nil_append] at this
  refine mk_pure (g := [.frz ((basisN p R).red.map vPair)]) rfl ?_ (closed_pairs 0 _)
  obtain ⟨env', s', L, j, hj, hx, o3, o4, o5, o6, o7, o8, o9, o10, he, hs⟩ := forL_inv (i := 3) (body := evSs T_law_basis G0 b_law_basis_5) (fun xs env s => ∃ j, j ≤ R.length ∧ xs = (R.map vRow).drop j ∧ ∃ o3 o4 o5 o6 o7 o8 o9 o10, env = [some (.int p), some (.lst (R.map vRow)), some (.loc st.length), o3, o4, o5, o6, o7, o8, o9, o10] ∧ s = st ++ [.lst ((basisN p (R.take j)).red.map vPair)]) (fun y ys env s ⟨j, hj, hx, o3, o4, o5, o6, o7, o8, o9, o10, he, hs⟩ => by
    obtain ⟨q1, q2⟩ := drop_cons hx.symm
    rw [List.getElem?_map] at q1
    cases hq : R[j]? with
    | none => rw [hq] at q1; cases q1
    | some r =>
      rw [hq] at q1; cases q1
      have hjl := (List.getElem?_eq_some_iff.mp hq).1
      obtain ⟨r1, r2⟩ := hR r (List.mem_of_getElem? hq)
      have etk : basisN p (R.take (j + 1)) = takeB p (basisN p (R.take j)) r := by rw [List.take_succ, hq]; exact basisN_app _ _
      have ok := okAt j
      generalize basisN p (R.take j) = B at hs etk ok
      subst he hs
      have hll := c_law_left (st := st ++ [Cell.lst (B.red.map vPair)]) (B := .loc st.length) hp hz (cell_seq _) ok.red.row r1 r2
      have hred := take_red (p := p) (b := B) (row := r)
      rw [← etk] at hred
      generalize hs : leftN p B.red r = s at hll hred
      have sl : s.length = z := by rw [← hs, len_left]; exact r1
      have si : InP p s := by rw [← hs]; exact inP_left hp0 r2
      have hnl : (vInts s).length ≤ szMax := small_v (by omega)
      have hsl : s.length ≤ 100000 := by omega
      have C1 := fun (o5 o6 o7 o8 o9 o10 : Option Val) => compL_map (c := (ev T_law_basis G0 b_law_basis_1).t) (e := (ev T_law_basis G0 (.var 8)).v) (x := 8) (env := [some (.int p), some (.lst (R.map vRow)), some (.loc st.length), some (vRow r), some (.lst (vInts s)), o5, o6, o7, o8, o9, o10]) (st := st ++ [Cell.lst (B.red.map vPair)]) (fun (k : Nat) => Val.int k) (fun k => decide (cell s k ≠ 0)) (fun (k : Nat) => Val.int k) (List.range s.length) (fun k hk => by
        have hk := List.mem_range.mp hk
        have hx1 : ∀ s2 : Store, ixV s2 (.lst (vInts s)) (.int k) = .ok (.int (cell s k)) := fun s2 => IsSeq.ix .lst hk
        simp_arith [b_law_basis_1, hx1, vne_int, decide_not, ne_eq]) (fun k _ _ => by simp_arith [])
      have hvr : vRow r = .lst (vInts r) := rfl
      cases hf : firstN s with
      | none =>
        have hfn : (List.range s.length).filter (fun k => decide (cell s k ≠ 0)) = [] := filter_none hf
        rw [hfn] at C1
        rw [hf] at hred
        refine ⟨_, _, ?_, j + 1, hjl, q2, some (vRow r), some (.lst (vInts s)), some (.lst []), o6, o7, o8, o9, o10, rfl, rfl⟩
        rw [hred]
        rw [hvr] at C1
        have h00 : ¬ (0 : Int) < ((0 : Nat) : Int) := by omega
        simp_arith [b_law_basis_5, t_law_basis_law_left, hvr, hll, vInts_len, rng1 (show s.length ≤ 1000000 by omega), List.length_range, List.length_map, hsl, C1, h00, Int.lt_irrefl]
      | some k =>
        obtain ⟨t, hft⟩ := filter_some (f := fun k => decide (cell s k ≠ 0)) (l := List.range s.length) hf
        have htl : t.length ≤ 100 := by
          have := List.length_filter_le (fun k => decide (cell s k ≠ 0)) (List.range s.length)
          rw [hft] at this; simp at this; omega
        obtain ⟨hk, hn⟩ := first_some hf
        have hc := si.cell hp0 k
        obtain ⟨hi0, i1, i2, i3⟩ := inv_spec (x := cell s k) hp (by omega) hc.2
        rw [hft] at C1
        rw [hf] at hred
        dsimp only at hred
        generalize hce : invI (cell s k) p = c at hi0 i1 i2 i3 hred
        have hxm : cell s k % p = cell s k := Int.emod_eq_of_lt hc.1 hc.2
        unfold invN at hi0
        rw [hxm] at hi0
        obtain ⟨u, hu⟩ := filter_some hi0
        have hul : u.length ≤ 100 := by
          have := List.length_filter_le (fun c => decide (c * cell s k % p = 1)) ((List.range (p - 1).toNat).map fun (k : Nat) => 1 + (k : Int))
          rw [hu] at this; simp at this; omega
        have C2 := fun (o7 o8 o9 o10 : Option Val) => compL_map (c := (ev T_law_basis G0 b_law_basis_2).t) (e := (ev T_law_basis G0 (.var 9)).v) (x := 9) (env := [some (.int p), some (.lst (R.map vRow)), some (.loc st.length), some (vRow r), some (.lst (vInts s)), some (.lst ((k :: t).map fun (k : Nat) => Val.int k)), some (.int (cell s k)), o7, o8, o9, o10]) (st := st ++ [Cell.lst (B.red.map vPair)]) Val.int (fun c => decide (c * cell s k % p = 1)) Val.int ((List.range (p - 1).toNat).map fun (k : Nat) => 1 + (k : Int)) (fun x hx => by
          rw [List.mem_map] at hx
          obtain ⟨i, hi, rfl⟩ := hx
          have hi := List.mem_range.mp hi
          have hm : mulOk (cell s k) (1 + (i : Int)) = true := mul_ok (n := 10) (k := 10) (bd_lt (by omega) (by omega)) (bd_lt (by omega) (by omega)) (by decide)
          simp_arith [b_law_basis_2, bV_mul hm, bV_mod hp0, veq_int, Int.mul_comm (cell s k) (1 + (i : Int))]) (fun x _ _ => by simp_arith [])
        rw [hu] at C2
        have C3 := fun (o8 o9 o10 : Option Val) => compL_map0 (c := (ev T_law_basis G0 .no).t) (e := (ev T_law_basis G0 b_law_basis_3).v) (x := 10) (env := [some (.int p), some (.lst (R.map vRow)), some (.loc st.length), some (vRow r), some (.lst (vInts s)), some (.lst ((k :: t).map fun (k : Nat) => Val.int k)), some (.int (cell s k)), some (.int c), o8, o9, o10]) (st := st ++ [Cell.lst (B.red.map vPair)]) Val.int (fun x => Val.int (x * c % p)) s (fun _ _ => rfl) (fun x hx => by
          have := si x hx
          have hm : mulOk x c = true := mul_ok (n := 10) (k := 10) (bd_lt (by omega) (by omega)) (bd_lt (by omega) (by omega)) (by decide)
          simp_arith [b_law_basis_3, bV_mul hm, bV_mod hp0])
        have esc : s.map (fun x => Val.int (x * c % p)) = vInts (scaledN s c p) := by unfold scaledN vInts; rw [List.map_map]; rfl
        rw [esc] at C3
        have hnl2 : (vInts (scaledN s c p)).length ≤ szMax := small_v (by rw [len_scaled]; omega)
        have hrng : rngV [.int 1, .int p] = .ok (((List.range (p - 1).toNat).map fun (k : Nat) => 1 + (k : Int)).map Val.int) := by
          rw [rng2 (by omega) (by omega) (by omega) (by omega), List.map_map]; rfl
        have hix : ∀ s2 : Store, ixV s2 (.lst (vInts s)) (.int k) = .ok (.int (cell s k)) := fun s2 => IsSeq.ix .lst hk
        have hBl : B.red.length < 100000 := by have := ok.len; rw [List.length_take] at this; omega
        have hit : ∀ s2 : Store, kI1 (.lst (vInts s), s2) = .ok (s.map Val.int, s2) := fun _ => rfl
        have ht1 : t.length + 1 ≤ 100000 := by omega
        have hu1 : u.length + 1 ≤ 100000 := by omega
        have hpl : (p - 1).toNat ≤ 100000 := by omega
        have h01 : (0 : Int) < ((t.length + 1 : Nat) : Int) := by omega
        refine ⟨_, _, ?_, j + 1, hjl, q2, some (vRow r), some (.lst (vInts s)), some (.lst ((k :: t).map fun (k : Nat) => Val.int k)), some (.int (cell s k)), some (.int c), o8, o9, o10, rfl, rfl⟩
        rw [hred]
        rw [hvr] at C1 C2 C3
        simp_arith [b_law_basis_5, t_law_basis_law_left, hvr, hll, vInts_len, rng1 (show s.length ≤ 1000000 by omega), List.length_range, hsl, C1, List.length_map, ht1, h01]
        rw [List.map_cons] at C2 C3
        simp_arith [b_law_basis_4, hix, hrng, List.length_map, List.length_range, hpl, C2, hu1, hit, hsl, C3, newL_f _ hnl2, hBl, vPair, List.map_append]) (R.map vRow) [some (.int p), some (.lst (R.map vRow)), some (.loc st.length), none, none, none, none, none, none, none, none] (st ++ [.lst []]) ⟨0, Nat.zero_le _, rfl, none, none, none, none, none, none, none, none, rfl, rfl⟩
  have ej : j = R.length := by have := congrArg List.length hx; simp at this; omega
  rw [ej, List.take_length] at hs
  subst he hs
  have hit : ∀ s2 : Store, kI1 (.lst (R.map vRow), s2) = .ok (R.map vRow, s2) := fun _ => rfl
  simp_arith [b_law_basis, hit, L]
end
section
variable {st : Store} {p : Int} {z : Nat} {v g w : Val} {vs : List Val} {row : List Int} {R : List (List Int)}
theorem c_isintV {x : Val} (h : flatish x = true) : m_law_is_integer [x] st = .ok (.bl (isI x), st) := by
  cases x with
  | loc _ => cases h
  | obj _ _ _ => cases h
  | _ => exact mk_pure0 rfl (by simp_arith [b_law_is_integer, isI]) rfl
theorem c_law_good (h : PlV v) (n : Nat) : m_law_good [v, .int n, .int p] st = .ok (.bl (goodV v n 0 (p - 1)), st) := by
  have seq : ∀ (xs : List Val), (v = .lst xs ∨ v = .tup xs) → m_law_good [v, .int n, .int p] st = .ok (.bl (decide (xs.length = n) && xs.all (btw 0 (p - 1))), st) := fun xs hv => by
    obtain ⟨h1, h2⟩ := h.its xs hv
    have hlen : f1V .len v st = .ok (.int xs.length) := by rcases hv with rfl | rfl <;> simp only [len_lst, len_tup]
    have hit : kI1 (v, st) = .ok (xs, st) := by rcases hv with rfl | rfl <;> rfl
    refine mk_pure0 rfl ?_ rfl
    by_cases hn : xs.length = n
    · subst hn
      have L := forL_fold (i := 3) (body := evSs T_law_good G0 b_law_good_1) (fun (x : Val) => x) (fun (_ : Unit) o => [some v, some (.int xs.length), some (.int p), o]) (fun _ => st) (fun _ x => if (!btw 0 (p - 1) x) = true then Out.ret (.bl false) st else .go ()) (fun _ _ _ => rfl) xs (fun t x hx => by
        have hi := c_isintV (st := st) (h2 x hx)
        cases x with
        | int i =>
          have hi : m_law_is_integer [.int i] st = .ok (.bl true, st) := hi
          have hb : btw 0 (p - 1) (.int i) = (decide (0 ≤ i) && decide (i ≤ p - 1)) := rfl
          by_cases h0 : i < 0
          · have : ¬ 0 ≤ i := by omega
            simp_arith [b_law_good_1, t_law_good_law_is_integer, hi, hb, h0, this]
          · have h0' : 0 ≤ i := by omega
            by_cases h1 : p ≤ i
            · have : ¬ i ≤ p - 1 := by omega
              simp_arith [b_law_good_1, t_law_good_law_is_integer, hi, hb, h0, h0', h1, this]
            · have : i ≤ p - 1 := by omega
              simp_arith [b_law_good_1, t_law_good_law_is_integer, hi, hb, h0, h0', h1, this]
        | loc _ => have := h2 _ hx; cases this
        | obj _ _ _ => have := h2 _ hx; cases this
        | _ => simp only [isI] at hi; simp_arith [b_law_good_1, t_law_good_law_is_integer, hi, btw]) () none
      rw [foldO_false, List.map_id'] at L
      have hbr : ∀ s : Store, binV false .add (.int 0) (.int 0) s = .ok (.int 0, s) := fun _ => rfl
      rcases hv with rfl | rfl
      all_goals
        simp_arith [b_law_good, hlen, vne_int, hit, L]
        cases hh : xs.all (btw 0 (p - 1)) with
        | true =>
          have : (xs.any fun x => !btw 0 (p - 1) x) = false := by
            rw [List.any_eq_false]; intro x hx; rw [List.all_eq_true] at hh; simp [hh x hx]
          rw [this]; simp_arith []
        | false =>
          have : (xs.any fun x => !btw 0 (p - 1) x) = true := by
            rw [List.all_eq_false] at hh
            obtain ⟨x, hx, hxx⟩ := hh
            exact List.any_eq_true.mpr ⟨x, hx, by simpa using hxx⟩
          rw [this]; simp_arith []
    · have hn' : ¬ (xs.length : Int) = n := by omega
      rcases hv with rfl | rfl
      · simp_arith [b_law_good, vne_int, hn', hn]
      · simp_arith [b_law_good, vne_int, hn', hn]
  cases v with
  | lst xs => exact seq xs (.inl rfl)
  | tup xs => exact seq xs (.inr rfl)
  | scr xs => exact absurd rfl (h.scr xs)
  | loc _ => cases h.top
  | obj _ _ _ => cases h.top
  | _ => exact mk_pure0 rfl (by simp_arith [b_law_good]; rfl) rfl
theorem c_law_dot {a b : List Int} (hv : SeqI st v a) (hw : SeqI st w b) (hl : a.length = b.length) (hp : 0 < p) (ha : ∀ z ∈ a, bd bits z) (hb : ∀ z ∈ b, bd bits z) (hs : a.length ≤ 1000000) : m_law_dot [v, w, .int p] st = .ok (.int (dt a b a.length % p), st) := by
  refine mk_pure0 rfl ?_ rfl
  have L := forL_fold (i := 4) (body := evSs T_law_dot G0 b_law_dot_1) (fun (k : Nat) => Val.int k) (fun (t : Int) o => [some v, some w, some (.int p), some (.int t), o]) (fun _ => st) (fun t k => Out.go (t + cell a k * cell b k)) (fun _ _ _ => rfl) (List.range a.length) (fun t k hk => by
    have hk := List.mem_range.mp hk
    simp_arith [b_law_dot_1, hv.ix hk, hw.ix (hl ▸ hk), bV_mul (mul_ok (bd_cell ha k) (bd_cell hb k) (by decide))]) 0 none
  rw [foldO_fold] at L
  rw [← dotN_dt]
  simp_arith [b_law_dot, hv.len, rng1 hs, L, bV_mod hp]; rfl
/-- the law's rows -/
structure Rows (p : Int) (z : Nat) (R : List (List Int)) : Prop where
  ok : ∀ r ∈ R, r.length = z ∧ InP p r
  len : R.length ≤ 60
theorem Rows.given (h : Rows p z R) : Given p z (.lst (R.map vRow)) (R.map vRow) R := ⟨.inl rfl, by simp, fun i x r h1 h2 => by rw [List.getElem?_map, h2] at h1; cases h1; exact .lst, h.ok⟩
theorem c_law_sum {fs : List Int} (hp : p ∈ primesL) (hz : z ≤ 6) (hR : Rows p z R) (hw : IsSeq w fs) (hf : fs.length = R.length) (hi : InP p fs) : m_law_sum [.int p, .int z, .lst (R.map vRow), w] st = .ok (.lst (vInts (totN p z R fs R.length)), st) := by
  have hb := prime_b hp
  have hp0 : 0 < p := by omega
  have hl := hR.len
  refine mk_pure0 rfl ?_ (closed_vInts 0 _)
  have key : ∀ j, j ≤ R.length → ∀ (o5 o6 : Option Val), ∃ o5' o6', forL 5 (evSs T_law_sum G0 b_law_sum_2) (((List.range R.length).drop j).map fun (k : Nat) => Val.int k) [some (.int p), some (.int z), some (.lst (R.map vRow)), some w, some (.lst (vInts (totN p z R fs j))), o5, o6] st = .next [some (.int p), some (.int z), some (.lst (R.map vRow)), some w, some (.lst (vInts (totN p z R fs R.length))), o5', o6'] st := by
    intro j
    induction hn : R.length - j generalizing j with
    | zero => intro hj o5 o6; have : j = R.length := by omega
              subst this; exact ⟨o5, o6, by rw [List.drop_eq_nil_of_le (by simp)]; rfl⟩
    | succ n ih =>
      intro hj o5 o6
      have hjl : j < R.length := by omega
      have e : (List.range R.length).drop j = j :: (List.range R.length).drop (j + 1) := by rw [List.drop_eq_getElem_cons (by simpa using hjl)]; simp
      obtain ⟨o5', o6', h'⟩ := ih (j + 1) (by omega) (by omega) (some (.int j)) o6
      refine ⟨o5', o6', ?_⟩
      rw [e, List.map_cons]
      have hfx := hw.ix (st := st) (k := j) (by omega)
      have hfc := hi.cell hp0 j
      have hrr := hR.ok R[j] (List.getElem_mem hjl)
      have hrx : ixV st (.lst (R.map vRow)) (.int j) = .ok (vRow R[j]) := ixL (by rw [List.getElem?_map, List.getElem?_eq_getElem hjl]; rfl)
      have C := compL_map0 (c := (ev T_law_sum G0 .no).t) (e := (ev T_law_sum G0 b_law_sum_1).v) (x := 6) (env := [some (.int p), some (.int z), some (.lst (R.map vRow)), some w, some (.lst (vInts (totN p z R fs j))), some (.int j), o6]) (st := st) (fun (k : Nat) => Val.int k) (fun k => Val.int ((cell (totN p z R fs j) k + cell fs j * cell R[j] k) % p)) (List.range z) (fun _ _ => rfl) (fun k hk => by
        have hk := List.mem_range.mp hk
        have hx1 : ixV st (.lst (vInts (totN p z R fs j))) (.int k) = .ok (.int (cell (totN p z R fs j) k)) := IsSeq.ix .lst (by rw [tot_len]; exact hk)
        have hx2 : ixV st (vRow R[j]) (.int k) = .ok (.int (cell R[j] k)) := IsSeq.ix .lst (by omega)
        have hck := hrr.2.cell hp0 k
        have hm : mulOk (cell fs j) (cell R[j] k) = true := mul_ok (n := 10) (k := 10) (bd_lt (by omega) (by omega)) (bd_lt (by omega) (by omega)) (by decide)
        simp_arith [b_law_sum_1, hx1, hfx, hrx, hx2, bV_mul hm, bV_mod hp0])
      have et : ((List.range z).map fun k => Val.int ((cell (totN p z R fs j) k + cell fs j * cell R[j] k) % p)) = vInts (totN p z R fs (j + 1)) := by rw [tot_next hjl hf]; unfold vInts; rw [List.map_map]; rfl
      rw [et] at C
      have hnl : (vInts (totN p z R fs (j + 1))).length ≤ szMax := small_v (by rw [tot_len]; omega)
      have hbd : evSs T_law_sum G0 b_law_sum_2 [some (.int p), some (.int z), some (.lst (R.map vRow)), some w, some (.lst (vInts (totN p z R fs j))), some (.int j), o6] st = .next [some (.int p), some (.int z), some (.lst (R.map vRow)), some w, some (.lst (vInts (totN p z R fs (j + 1)))), some (.int j), o6] st := by
        simp_arith [b_law_sum_2, rng1 (show z ≤ 1000000 by omega), List.length_map, List.length_range, show z ≤ 100000 by omega, C, newL_f _ hnl]
      simp only [forL, List.set_cons_succ, List.set_cons_zero, hbd]
      exact h'
  obtain ⟨o5', o6', L⟩ := key 0 (Nat.zero_le _) none none
  rw [List.drop_zero, tot_zero] at L
  have hzz : binV false .mul (.lst [.int 0]) (.int (z : Int)) st = .ok (.lst (vInts (List.replicate z 0)), st) := by
    rw [zeros_l (show z ≤ 1000 by omega), newL_f]; exact small_v (by simp; omega)
  simp_arith [b_law_sum, hzz, List.length_map, rng1 (show R.length ≤ 1000000 by omega), L]
theorem c_law_combines (hp : p ∈ primesL) (hz : z ≤ 6) (hR : Rows p z R) (hw : PlV w) : m_law_combines [.int p, .int z, .lst (R.map vRow), .lst (vInts row), w] st = .ok (.bl (combB p z R row w), st) := by
  refine mk_pure0 rfl ?_ rfl
  have hg := c_law_good (st := st) (p := p) hw R.length
  cases hgd : goodV w R.length 0 (p - 1) with
  | false =>
    rw [hgd] at hg
    rw [combB_no hgd]
    simp_arith [b_law_combines, List.length_map, t_law_combines_law_good, hg]
  | true =>
    rw [hgd] at hg
    obtain ⟨fs, f1, f2, f3⟩ := goodV_is hgd
    rw [combB_is f1 f2 f3]
    have hs := c_law_sum (st := st) hp hz hR f1 f2 f3
    simp_arith [b_law_combines, List.length_map, t_law_combines_law_good, hg, t_law_combines_law_sum, hs, veq_lsts]
theorem c_law_twins (hp : p ∈ primesL) (hz : z ≤ 6) (hR : Rows p z R) (hl : row.length = z) (hi : InP p row) (hw : PlV w) : m_law_twins [.int p, .int z, .lst (R.map vRow), .lst (vInts row), w] st = .ok (.bl (twinB p z R row w), st) := by
  have hb := prime_b hp
  refine mk_pure0 rfl ?_ rfl
  have hg := c_law_good (st := st) (p := p) hw z
  cases hgd : goodV w z 0 (p - 1) with
  | false =>
    rw [hgd] at hg
    rw [twinB_no hgd]
    simp_arith [b_law_twins, t_law_twins_law_good, hg]
  | true =>
    rw [hgd] at hg
    obtain ⟨a, f1, f2, f3⟩ := goodV_is hgd
    rw [twinB_is f1 f2 f3]
    have hd := fun (v : Val) (r : List Int) (h1 : IsSeq v r) (h2 : r.length = z) (h3 : InP p r) => c_law_dot (st := st) (p := p) (seqI_of h1) (seqI_of f1) (by rw [h2, f2]) (by omega) (h3.bd (by omega)) (f3.bd (by omega)) (by omega)
    have L := forL_fold (i := 5) (body := evSs T_law_twins G0 b_law_twins_1) vRow (fun (_ : Unit) o => [some (.int p), some (.int z), some (.lst (R.map vRow)), some (.lst (vInts row)), some w, o]) (fun _ => st) (fun _ r => if (!decide (dt r a z % p = 0)) = true then Out.ret (.bl false) st else .go ()) (fun _ _ _ => rfl) R (fun t r hr => by
      have h1 := hR.ok r hr
      have h2 := hd (vRow r) r .lst h1.1 h1.2
      rw [h1.1] at h2
      by_cases h0 : dt r a z % p = 0
      · simp_arith [b_law_twins_1, t_law_twins_law_dot, h2, vne_int, h0]
      · simp_arith [b_law_twins_1, t_law_twins_law_dot, h2, vne_int, h0]) () none
    rw [foldO_false] at L
    have hit : kI1 (.lst (R.map vRow), st) = .ok (R.map vRow, st) := rfl
    have hdr := hd (.lst (vInts row)) row .lst hl hi
    rw [hl] at hdr
    cases hh : R.all fun r => decide (dt r a z % p = 0) with
    | true =>
      have : (R.any fun r => !decide (dt r a z % p = 0)) = false := by
        rw [List.any_eq_false]; intro x hx; rw [List.all_eq_true] at hh; simp [hh x hx]
      rw [this] at L
      simp_arith [b_law_twins, t_law_twins_law_good, hg, hit, L, t_law_twins_law_dot, hdr, vne_int, decide_not, ne_eq]
    | false =>
      have : (R.any fun r => !decide (dt r a z % p = 0)) = true := by
        rw [List.all_eq_false] at hh
        obtain ⟨x, hx, hxx⟩ := hh
        exact List.any_eq_true.mpr ⟨x, hx, by simpa using hxx⟩
      rw [this] at L
      simp_arith [b_law_twins, t_law_twins_law_good, hg, hit, L]
end
/-! drawn rows -/
section
variable {a b p : Int} {z : Nat} {R : List (List Int)} {B : Val}
/-- the rows stand in B, whatever the source is -/
def Stays (B : Val) (n : Nat) (st : Store) (R : List (List Int)) : Prop := ∀ (c : Cell) (g : Store), seqOf (st.set n c ++ g) B = some (true, R.map vRow)
theorem Stays.lst {n : Nat} {st : Store} : Stays (.lst (R.map vRow)) n st R := fun _ _ => rfl
theorem Stays.loc {n ρ : Nat} {st : Store} (h : st[ρ]? = some (.lst (R.map vRow))) (hn : n ≠ ρ) : Stays (.loc ρ) n st R := fun c g => by
  have := g_old (st := st.set n c) (r := g) (m := ρ) (x := Cell.lst (R.map vRow)) (by rw [List.getElem?_set_ne hn]; exact h)
  rw [l_seq, this]; rfl
theorem Stays.more {n : Nat} {st g : Store} {x : Cell} (h : Stays B n st R) (hn : n < st.length) : Stays B n (st.set n x ++ g) R := fun c e => by
  rw [List.set_append_left _ _ (by simpa using hn), List.set_set, List.append_assoc]; exact h c _
theorem mixrow_inP (hp : 0 < p) {f : Nat → Int} : InP p ((List.range z).map fun j => f j % p) := fun x hx => by
  obtain ⟨j, _, rfl⟩ := List.mem_map.mp hx
  exact ⟨Int.emod_nonneg _ (by omega), Int.emod_lt_of_pos _ hp⟩
theorem row_turn (ok : SrcOk a b) (hp : p ∈ primesL) (hz : z ≤ 6) (hR : ∀ r ∈ R, r.length = z ∧ InP p r) (hl : 0 < R.length) (hl2 : R.length ≤ 60) {r : List Int} (hr : r.length = z) (hri : InP p r) :
    ∃ (r' : List Int) (a' b' : Int), SrcOk a' b' ∧ r'.length = z ∧ InP p r' ∧ ∀ (s : Store) (n ρ : Nat) (y x : Val) (o6 o7 o8 o9 o10 : Option Val), s[n]? = some (srcC a b) → s[ρ]? = some (.lst (vInts r)) → n ≠ ρ → Stays B n s R →
      ∃ o8' o9' o10', evSs T_law_row G0 b_law_row_3 [some (.loc n), some (.int p), some (.int z), some B, some y, some (.loc ρ), o6, o7, o8, o9, o10] s = .next [some (.loc n), some (.int p), some (.int z), some B, some y, some (.loc s.length), o6, o7, o8', o9', o10'] (s.set n (srcC a' b') ++ [.lst (vInts r')]) := by
  have hb := prime_b hp
  have hp0 : 0 < p := by omega
  obtain ⟨i, a1, b1, ok1, i0, i1, e1⟩ := d_draw ok (lim := (R.length : Int)) (by omega) (by omega)
  obtain ⟨i, rfl⟩ := pos_of i0
  obtain ⟨f, a2, b2, ok2, f0, f1, e2⟩ := d_draw ok1 (lim := p) (by omega) (by omega)
  have hi : i < R.length := by omega
  have hrr := hR R[i] (List.getElem_mem hi)
  refine ⟨(List.range z).map fun j => (cell r j + f * cell R[i] j) % p, a2, b2, ok2, by simp, mixrow_inP hp0, fun s n ρ y x o6 o7 o8 o9 o10 hn hρ hne hB => ⟨some (vRow R[i]), some (.int f), o10, ?_⟩⟩
  have hBl : ∀ c : Cell, f1V .len B (s.set n c) = .ok (.int R.length) := fun c => by
    have := hB c []; rw [List.append_nil] at this
    rw [len_seq this, List.length_map]
  have hB0 : f1V .len B s = .ok (.int R.length) := by
    have := hBl (srcC a b)
    have es : s.set n (srcC a b) = s := by
      refine List.ext_getElem? fun j => ?_
      by_cases e : n = j
      · subst e; rw [g_set hn, hn]
      · rw [List.getElem?_set_ne e]
    rwa [es] at this
  have hBx : ∀ c : Cell, ixV (s.set n c) B (.int i) = .ok (vRow R[i]) := fun c => by
    have := hB c []; rw [List.append_nil] at this
    exact ix_seq this (atI_n (by rw [List.getElem?_map, List.getElem?_eq_getElem hi]; rfl))
  have hρ2 : ∀ c : Cell, (s.set n c)[ρ]? = some (.lst (vInts r)) := fun c => by rw [List.getElem?_set_ne hne]; exact hρ
  have C := compL_map0 (c := (ev T_law_row G0 .no).t) (e := (ev T_law_row G0 b_law_row_2).v) (x := 10) (env := [some (.loc n), some (.int p), some (.int z), some B, some y, some (.loc ρ), o6, o7, some (vRow R[i]), some (.int f), o10]) (st := s.set n (srcC a2 b2)) (fun (k : Nat) => Val.int k) (fun k => Val.int ((cell r k + f * cell R[i] k) % p)) (List.range z) (fun _ _ => rfl) (fun k hk => by
    have hk := List.mem_range.mp hk
    have hx1 : atI (vInts r) (k : Int) = some (.int (cell r k)) := at_ints (by omega)
    have hx2 : ∀ s2 : Store, ixV s2 (vRow R[i]) (.int k) = .ok (.int (cell R[i] k)) := fun s2 => IsSeq.ix .lst (by omega)
    have hck := hrr.2.cell hp0 k
    have hm : mulOk f (cell R[i] k) = true := mul_ok (n := 10) (k := 10) (bd_lt (by omega) (by omega)) (bd_lt (by omega) (by omega)) (by decide)
    simp_arith [b_law_row_2, hρ2, hx1, hx2, bV_mul hm, bV_mod hp0])
  have et : ((List.range z).map fun k => Val.int ((cell r k + f * cell R[i] k) % p)) = vInts ((List.range z).map fun j => (cell r j + f * cell R[i] j) % p) := by unfold vInts; rw [List.map_map]; rfl
  rw [et] at C
  have hnl : (vInts ((List.range z).map fun j => (cell r j + f * cell R[i] j) % p)).length ≤ szMax := small_v (by simp; omega)
  simp_arith [b_law_row_3, t_law_row_law_draw, hB0, (e1.first hn).1, hBx, (e2.next hn).1, rng1 (show z ≤ 1000000 by omega), List.length_map, List.length_range, show z ≤ 100000 by omega, C, newL_t _ hnl, List.length_set]
theorem c_law_row (ok : SrcOk a b) (hp : p ∈ primesL) (hz : z ≤ 6) (hR : ∀ r ∈ R, r.length = z ∧ InP p r) (hl2 : R.length ≤ 60) : ∃ (row : List Int) (a' b' : Int), SrcOk a' b' ∧ row.length = z ∧ InP p row ∧ ∀ (st : Store) (n : Nat), st[n]? = some (srcC a b) → Stays B n st R → m_law_row [.loc n, .int p, .int z, B] st = .ok (.lst (vInts row), st.set n (srcC a' b')) := by
  have hb := prime_b hp
  have hp0 : 0 < p := by omega
  obtain ⟨k, a1, b1, ok1, k0, k1, e1⟩ := d_draw ok (lim := 6) (by decide) (by decide)
  have hz0 : InP p (List.replicate z 0) := InP.zeros (by omega)
  have hl0 : (List.replicate z (0 : Int)).length = z := by simp
  have hnl0 : (vInts (List.replicate z (0 : Int))).length ≤ szMax := small_v (by simp; omega)
  have hBl : ∀ (st : Store) (n : Nat), Stays B n st R → ∀ (c : Cell) (g : Store), f1V .len B (st.set n c ++ g) = .ok (.int R.length) := fun st n h c g => by rw [len_seq (h c g), List.length_map]
  by_cases h1 : k = 1
  · subst h1
    by_cases hzz : 0 < z
    · obtain ⟨j, a2, b2, ok2, j0, j1, e2⟩ := d_draw ok1 (lim := (z : Int)) (by omega) (by omega)
      obtain ⟨j, rfl⟩ := pos_of j0
      obtain ⟨f, a3, b3, ok3, f0, f1, e3⟩ := d_draw ok2 (lim := p - 1) (by omega) (by omega)
      refine ⟨(List.replicate z 0).set j (1 + f), a3, b3, ok3, by simp, fun x hx => ?_, fun st n hn hB => mk_set (g := [.frz (vInts ((List.replicate z 0).set j (1 + f)))]) rfl ?_ (closed_vInts 0 _) rfl⟩
      · rcases List.mem_or_eq_of_mem_set hx with h | h
        · exact hz0 x h
        · subst h; omega
      · have hz1 : (0 : Int) < z := by omega
        have hj : ixN (vInts (List.replicate z (0 : Int))).length (j : Int) = some j := ixN_n (by rw [vInts_len, hl0]; omega)
        simp_arith [b_law_row, b_law_row_1, t_law_row_law_draw, (e1.first hn).1, zeros_l (show z ≤ 1000 by omega), newL_t _ hnl0, List.length_set, hz1, (e2.next hn).2, (e3.next hn).2, gs_0, hj, ss_0, vInts_set, show ¬ (2 : Int) < 1 by decide]
    · refine ⟨List.replicate z 0, a1, b1, ok1, hl0, hz0, fun st n hn hB => mk_set (g := [.frz (vInts (List.replicate z 0))]) rfl ?_ (closed_vInts 0 _) rfl⟩
      have hz1 : ¬ (0 : Int) < z := by omega
      simp_arith [b_law_row, t_law_row_law_draw, (e1.first hn).1, zeros_l (show z ≤ 1000 by omega), newL_t _ hnl0, List.length_set, hz1, gs_0, ss_0, show ¬ (2 : Int) < 1 by decide]
  · by_cases h2 : k = 2
    · subst h2
      by_cases hRl : 0 < R.length
      · obtain ⟨r1, a2, b2, ok2, l1, p1, t1⟩ := row_turn (B := B) ok1 hp hz hR hRl hl2 hl0 hz0
        obtain ⟨r2, a3, b3, ok3, l2, p2, t2⟩ := row_turn (B := B) ok2 hp hz hR hRl hl2 l1 p1
        refine ⟨r2, a3, b3, ok3, l2, p2, fun st n hn hB => mk_set (g := [.lst (vInts (List.replicate z 0)), .lst (vInts r1), .frz (vInts r2)]) rfl ?_ (closed_vInts 0 _) rfl⟩
        have hnl := lt_g hn
        have hR1 : (0 : Int) < (R.length : Int) := by omega
        have hs0 : (st.set n (srcC a1 b1) ++ [Cell.lst (vInts (List.replicate z 0))])[n]? = some (srcC a1 b1) := g_old (g_set hn)
        obtain ⟨o8, o9, o10, q1⟩ := t1 (st.set n (srcC a1 b1) ++ [.lst (vInts (List.replicate z 0))]) n st.length (.int 2) .non none (some (.int 0)) none none none hs0 gs_0 (by omega) (hB.more hnl)
        have es1 : (st.set n (srcC a1 b1) ++ [Cell.lst (vInts (List.replicate z 0))]).set n (srcC a2 b2) ++ [Cell.lst (vInts r1)] = st.set n (srcC a2 b2) ++ [.lst (vInts (List.replicate z 0)), .lst (vInts r1)] := by
          rw [List.set_append_left _ _ (by simpa using hnl), List.set_set, List.append_assoc]; rfl
        rw [es1] at q1
        have hs1 : (st.set n (srcC a2 b2) ++ [Cell.lst (vInts (List.replicate z 0)), .lst (vInts r1)])[n]? = some (srcC a2 b2) := g_old (g_set hn)
        obtain ⟨o8', o9', o10', q2⟩ := t2 (st.set n (srcC a2 b2) ++ [.lst (vInts (List.replicate z 0)), .lst (vInts r1)]) n (st.length + 1) (.int 2) .non none (some (.int 1)) o8 o9 o10 hs1 gs_1 (by omega) (hB.more hnl)
        have es2 : (st.set n (srcC a2 b2) ++ [Cell.lst (vInts (List.replicate z 0)), .lst (vInts r1)]).set n (srcC a3 b3) ++ [Cell.lst (vInts r2)] = st.set n (srcC a3 b3) ++ [.lst (vInts (List.replicate z 0)), .lst (vInts r1), .lst (vInts r2)] := by
          rw [List.set_append_left _ _ (by simpa using hnl), List.set_set, List.append_assoc]; rfl
        rw [es2] at q2
        have ln1 : (st.set n (srcC a1 b1) ++ [Cell.lst (vInts (List.replicate z 0))]).length = st.length + 1 := by simp
        have ln2 : (st.set n (srcC a2 b2) ++ [Cell.lst (vInts (List.replicate z 0)), .lst (vInts r1)]).length = st.length + 2 := by simp
        rw [ln1] at q1
        rw [ln2] at q2
        have gs2 : (st.set n (srcC a3 b3) ++ [Cell.lst (vInts (List.replicate z 0)), .lst (vInts r1), .lst (vInts r2)])[st.length + 2]? = some (.lst (vInts r2)) := by
          have := g_2 (st := st.set n (srcC a3 b3)) (a := Cell.lst (vInts (List.replicate z 0))) (b := .lst (vInts r1)) (c := .lst (vInts r2)) (r := []); rwa [List.length_set] at this
        have ss2 : (st.set n (srcC a3 b3) ++ [Cell.lst (vInts (List.replicate z 0)), .lst (vInts r1), .lst (vInts r2)]).set (st.length + 2) (.frz (vInts r2)) = st.set n (srcC a3 b3) ++ [.lst (vInts (List.replicate z 0)), .lst (vInts r1), .frz (vInts r2)] := by
          have := s_2 (st := st.set n (srcC a3 b3)) (a := Cell.lst (vInts (List.replicate z 0))) (b := .lst (vInts r1)) (c := .lst (vInts r2)) (r := []) (x := .frz (vInts r2)); rwa [List.length_set] at this
        have hr2 : rngV [.int 2] = .ok [.int 0, .int 1] := rfl
        simp_arith [b_law_row, t_law_row_law_draw, (e1.first hn).1, zeros_l (show z ≤ 1000 by omega), newL_t _ hnl0, List.length_set, hBl st n hB, hR1, hr2, forL, q1, q2, gs2, ss2, show ¬ (2 : Int) < 2 by decide]
      · refine ⟨List.replicate z 0, a1, b1, ok1, hl0, hz0, fun st n hn hB => mk_set (g := [.frz (vInts (List.replicate z 0))]) rfl ?_ (closed_vInts 0 _) rfl⟩
        have hR1 : ¬ (0 : Int) < (R.length : Int) := by omega
        simp_arith [b_law_row, t_law_row_law_draw, (e1.first hn).1, zeros_l (show z ≤ 1000 by omega), newL_t _ hnl0, List.length_set, hBl st n hB, hR1, gs_0, ss_0, show ¬ (2 : Int) < 2 by decide]
    · by_cases h3 : 2 < k
      · obtain ⟨ys, a2, b2, ok2, l2, p2, e2⟩ := comp_draws (e := (ev T_law_row G0 b_law_row_4).v) (x := 10) (Φ := T_law_row) (G := G0) (env := fun n st => [some (.loc n), some (.int p), some (.int z), some B, some (.int k), some (.loc st.length), none, none, none, none, none]) (lim := p) (by omega) (by omega) ok1 (fun v w st n s s' h => by simp_arith [b_law_row_4, t_law_row_law_draw, h]) z
        refine ⟨ys, a2, b2, ok2, l2, p2, fun st n hn hB => mk_set (g := [.lst (vInts (List.replicate z 0)), .frz (vInts ys)]) rfl ?_ (closed_vInts 0 _) rfl⟩
        have ey : (vInts ys).length ≤ szMax := small_v (by omega)
        simp_arith [b_law_row, t_law_row_law_draw, (e1.first hn).1, zeros_l (show z ≤ 1000 by omega), newL_t _ hnl0, List.length_set, h1, h2, h3, rng1 (show z ≤ 1000000 by omega), List.length_map, List.length_range, show z ≤ 100000 by omega, (e2 st n _ hn).2, newL_t _ ey, gs_1, ss_1]
      · refine ⟨List.replicate z 0, a1, b1, ok1, hl0, hz0, fun st n hn hB => mk_set (g := [.frz (vInts (List.replicate z 0))]) rfl ?_ (closed_vInts 0 _) rfl⟩
        simp_arith [b_law_row, t_law_row_law_draw, (e1.first hn).1, zeros_l (show z ≤ 1000 by omega), newL_t _ hnl0, List.length_set, h1, h2, h3, gs_0, ss_0]
end
/-! papers: spoiled rows -/
section
variable {a b p : Int} {z : Nat} {st : Store}
theorem cut_mem {xs : List Val} {lo hi : Option Int} {x : Val} (hx : x ∈ cutA xs lo hi) : x ∈ xs := by
  unfold cutA at hx
  exact List.mem_of_mem_drop (List.mem_of_mem_take hx)
theorem cut_len {xs : List Val} (lo hi : Option Int) : (cutA xs lo hi).length ≤ xs.length := by
  unfold cutA
  rw [List.length_take, List.length_drop]; omega
theorem pickV {L : List Val} {d : Int} (h0 : 0 ≤ d) (h1 : d < L.length) : ∃ o, o ∈ L ∧ atI L d = some o := by
  obtain ⟨k, rfl⟩ := pos_of h0
  have hk : k < L.length := by omega
  exact ⟨L[k], List.getElem_mem hk, atI_n (List.getElem?_eq_getElem hk)⟩
theorem slc_l {m : Bool} {xs : List Val} {lo hi : Option Int} : slcV m st (.lst xs) lo hi = newL m (cutA xs lo hi) st := rfl
theorem part_i {i : Int} : partV false (.int i) = .ok (some i) := rfl
theorem part_n {v : Val} : partV true v = .ok none := rfl
/-- flat things, all closed -/
def FlatL (xs : List Val) : Prop := xs.length ≤ 1000 ∧ ∀ x ∈ xs, flatish x = true ∧ closed 0 x = true
theorem FlatL.plv {xs : List Val} (h : FlatL xs) : PlV (.lst xs) := ⟨rfl, (fun _ e => by cases e), (fun ys e => by rcases e with e | e <;> cases e; exact ⟨by have := h.1; omega, fun x hx => (h.2 x hx).1⟩), by
  show closedL 0 xs = true
  have : ∀ l : List Val, (∀ x ∈ l, closed 0 x = true) → closedL 0 l = true := fun l => by
    induction l with
    | nil => intro _; rfl
    | cons y l ih => intro h; show (closed 0 y && closedL 0 l) = true; rw [h y (List.mem_cons_self ..), ih fun x hx => h x (List.mem_cons_of_mem _ hx)]; rfl
  exact this xs fun x hx => (h.2 x hx).2⟩
theorem FlatL.tplv {xs : List Val} (h : FlatL xs) : PlV (.tup xs) := ⟨rfl, (fun _ e => by cases e), (fun ys e => by rcases e with e | e <;> cases e; exact ⟨by have := h.1; omega, fun x hx => (h.2 x hx).1⟩), h.plv.cl⟩
theorem FlatL.app {xs ys : List Val} (h : FlatL xs) (h' : FlatL ys) (hl : xs.length + ys.length ≤ 1000) : FlatL (xs ++ ys) := ⟨by simp; exact hl, fun x hx => by
  rcases List.mem_append.mp hx with hx | hx
  · exact h.2 x hx
  · exact h'.2 x hx⟩
theorem FlatL.cut {xs : List Val} (h : FlatL xs) (lo hi : Option Int) : FlatL (cutA xs lo hi) := ⟨Nat.le_trans (cut_len lo hi) h.1, fun x hx => h.2 x (cut_mem hx)⟩
theorem FlatL.ints {ns : List Int} (h : ns.length ≤ 1000) : FlatL (vInts ns) := ⟨by rw [vInts_len]; exact h, fun x hx => by
  unfold vInts at hx
  obtain ⟨i, _, rfl⟩ := List.mem_map.mp hx
  exact ⟨rfl, rfl⟩⟩
theorem FlatL.one {x : Val} (h : flatish x = true) (h' : closed 0 x = true) : FlatL [x] := ⟨by simp, fun y hy => by rw [List.mem_singleton.mp hy]; exact ⟨h, h'⟩⟩
theorem plv_flat {v : Val} (h : flat v = true) : PlV v := by
  cases v <;> first | (cases h; done) | exact ⟨rfl, (fun _ e => nomatch e), (fun _ e => by rcases e with e | e <;> cases e), rfl⟩
end
section
variable {a b p : Int} {z : Nat} {st : Store}
theorem c_law_count (ok : SrcOk a b) : ∃ (n : Nat) (a' b' : Int), SrcOk a' b' ∧ n ≤ 60 ∧ SrcE m_law_count [] a b (.int n) a' b' := by
  obtain ⟨k, a1, b1, ok1, k0, k1, e1⟩ := d_draw ok (lim := 32) (by decide) (by decide)
  by_cases hk : k = 0
  · subst hk
    obtain ⟨n, a2, b2, ok2, n0, n1, e2⟩ := d_draw ok1 (lim := 61) (by decide) (by decide)
    obtain ⟨n, rfl⟩ := pos_of n0
    exact ⟨n, a2, b2, ok2, by omega, fun st m hn => mk_set (g := []) rfl (by simp_arith [b_law_count, t_law_count_law_draw, (e1.first hn).1, (e2.next hn).1, List.append_nil]) rfl rfl⟩
  · obtain ⟨n1, a2, b2, ok2, n10, n11, e2⟩ := d_draw ok1 (lim := 4) (by decide) (by decide)
    obtain ⟨n2, a3, b3, ok3, n20, n21, e3⟩ := d_draw ok2 (lim := 9) (by decide) (by decide)
    obtain ⟨n3, a4, b4, ok4, n30, n31, e4⟩ := d_draw ok3 (lim := 21) (by decide) (by decide)
    obtain ⟨j, a5, b5, ok5, j0, j1, e5⟩ := d_draw ok4 (lim := 3) (by decide) (by decide)
    obtain ⟨w, hw, hwe⟩ := pickV (L := [.int n1, .int n2, .int n3]) j0 (by simpa using j1)
    have hwi : ∃ i : Nat, w = .int i ∧ i ≤ 60 := by
      simp only [List.mem_cons, List.not_mem_nil, or_false] at hw
      rcases hw with rfl | rfl | rfl
      · exact ⟨n1.toNat, by rw [Int.toNat_of_nonneg n10], by omega⟩
      · exact ⟨n2.toNat, by rw [Int.toNat_of_nonneg n20], by omega⟩
      · exact ⟨n3.toNat, by rw [Int.toNat_of_nonneg n30], by omega⟩
    obtain ⟨i, rfl, hi⟩ := hwi
    exact ⟨i, a5, b5, ok5, hi, fun st m hn => mk_set (g := []) rfl (by simp_arith [b_law_count, t_law_count_law_draw, (e1.first hn).1, hk, (e2.next hn).1, (e3.next hn).1, (e4.next hn).1, (e5.next hn).1, hwe, List.append_nil]) rfl rfl⟩
theorem closed_of {L : List Val} (h : closedL 0 L = true) {o : Val} (ho : o ∈ L) : closed 0 o = true := closedL_mem h o ho
theorem c_law_spoiled (ok : SrcOk a b) (h0 : 2 ≤ p) (h1 : p ≤ 31) {ys : List Int} (hl : ys.length ≤ 60) : ∃ (v : Val) (a' b' : Int), SrcOk a' b' ∧ PlV v ∧ SrcE m_law_spoiled [.lst (vInts ys), .int p] a b v a' b' := by
  have hyl : (vInts ys).length ≤ 60 := by rw [vInts_len]; exact hl
  have hF : FlatL (vInts ys) := FlatL.ints (by omega)
  obtain ⟨k, a1, b1, ok1, k0, k1, e1⟩ := d_draw ok (lim := 9) (by decide) (by decide)
  obtain ⟨j, a2, b2, ok2, j0, j1, e2⟩ := d_draw ok1 (lim := (ys.length : Int) + 1) (by omega) (by omega)
  obtain ⟨d, a3, b3, ok3, d0, d1, e3⟩ := d_draw ok2 (lim := 10) (by decide) (by decide)
  obtain ⟨o, ho, hoe⟩ := pickV (L := [.int p, .int (-1), .bl true, .bl false, .non, .str "", .str "1", .tup [], .lst [.int 0], .int 100000000000000000000]) d0 (by simpa using d1)
  have hof : flatish o = true ∧ closed 0 o = true := by
    simp only [List.mem_cons, List.not_mem_nil, or_false] at ho
    rcases ho with rfl | rfl | rfl | rfl | rfl | rfl | rfl | rfl | rfl | rfl <;> exact ⟨rfl, rfl⟩
  have hc : ∀ lo hi : Option Int, (cutA (vInts ys) lo hi).length ≤ 60 := fun lo hi => Nat.le_trans (cut_len lo hi) hyl
  have n1 : ∀ lo hi : Option Int, (cutA (vInts ys) lo hi).length ≤ szMax := fun lo hi => Nat.le_trans (hc lo hi) (by decide)
  have n2 : ∀ (lo hi lo' hi' : Option Int), (cutA (vInts ys) lo hi).length + (cutA (vInts ys) lo' hi').length ≤ 100000 := fun lo hi lo' hi' => by have := hc lo hi; have := hc lo' hi'; omega
  have n3 : ∀ (lo hi : Option Int), (cutA (vInts ys) lo hi).length + 1 ≤ 100000 := fun lo hi => by have := hc lo hi; omega
  have n4 : ∀ (lo hi lo' hi' : Option Int), (cutA (vInts ys) lo hi).length + ((cutA (vInts ys) lo' hi').length + 1) ≤ 100000 := fun lo hi lo' hi' => by have := hc lo hi; have := hc lo' hi'; omega
  have F3 : ∀ (x : Val) (lo hi lo' hi' : Option Int), flatish x = true → closed 0 x = true → FlatL ((cutA (vInts ys) lo hi ++ [x]) ++ cutA (vInts ys) lo' hi') := fun x lo hi lo' hi' f c =>
    ((hF.cut lo hi).app (FlatL.one f c) (by have := hc lo hi; simp; omega)).app (hF.cut lo' hi') (by have := hc lo hi; have := hc lo' hi'; simp; omega)
  have F2 : ∀ (lo hi lo' hi' : Option Int), FlatL (cutA (vInts ys) lo hi ++ cutA (vInts ys) lo' hi') := fun lo hi lo' hi' => (hF.cut lo hi).app (hF.cut lo' hi') (by have := hc lo hi; have := hc lo' hi'; omega)
  have hne : ∀ i : Int, k = i → (decide (k = i)) = true := fun i h => by simp [h]
  have stp := fun (st : Store) (n : Nat) (hn : st[n]? = some (srcC a b)) => (And.intro (e1.first hn).1 (And.intro (e2.next hn).1 (e3.next hn).1))
  by_cases h_0 : k = 0
  · subst h_0
    exact ⟨_, a3, b3, ok3, (F2 none (some j) (some (j + 1)) none).plv, fun st n hn => mk_set (g := []) rfl (by
      obtain ⟨q1, q2, q3⟩ := stp st n hn
      simp_arith [b_law_spoiled, t_law_spoiled_law_draw, q1, vInts_len, q2, q3, hoe, slc_l, part_i, part_n, isNo, n1, n2, List.append_nil, List.append_assoc]) (F2 none (some j) (some (j + 1)) none).plv.cl rfl⟩
  by_cases h_1 : k = 1
  · subst h_1
    obtain ⟨u, a4, b4, ok4, u0, u1, e4⟩ := d_draw ok3 (lim := 2) (by decide) (by decide)
    have F := F3 (.int u) none (some j) (some j) none rfl rfl
    rw [List.append_assoc] at F
    exact ⟨_, a4, b4, ok4, F.plv, fun st n hn => mk_set (g := []) rfl (by
      obtain ⟨q1, q2, q3⟩ := stp st n hn
      simp_arith [b_law_spoiled, b_law_spoiled_1, t_law_spoiled_law_draw, q1, vInts_len, q2, q3, hoe, slc_l, part_i, part_n, isNo, n1, n2, n3, n4, (e4.next hn).1, List.append_nil]) F.plv.cl rfl⟩
  by_cases h_2 : k = 2
  · subst h_2
    have F := F3 o none (some j) (some (j + 1)) none hof.1 hof.2
    rw [List.append_assoc] at F
    exact ⟨_, a3, b3, ok3, F.plv, fun st n hn => mk_set (g := []) rfl (by
      obtain ⟨q1, q2, q3⟩ := stp st n hn
      simp_arith [b_law_spoiled, t_law_spoiled_law_draw, q1, vInts_len, q2, q3, hoe, slc_l, part_i, part_n, isNo, n1, n2, n3, n4, List.append_nil]) F.plv.cl rfl⟩
  by_cases h_3 : k = 3
  · subst h_3
    have F := F2 (some j) none none (some j)
    exact ⟨_, a3, b3, ok3, F.plv, fun st n hn => mk_set (g := []) rfl (by
      obtain ⟨q1, q2, q3⟩ := stp st n hn
      simp_arith [b_law_spoiled, t_law_spoiled_law_draw, q1, vInts_len, q2, q3, hoe, slc_l, part_i, part_n, isNo, n1, n2, n3, n4, List.append_nil]) F.plv.cl rfl⟩
  by_cases h_4 : k = 4
  · subst h_4
    obtain ⟨u, a4, b4, ok4, u0, u1, e4⟩ := d_draw ok3 (lim := 10) (by decide) (by decide)
    obtain ⟨v, hv, hve⟩ := pickV (L := [.non, .bl true, .int 0, .int 7, .str "", .str "0", .tup [], .lst [.lst (vInts ys)], .tup [.non], .lst [.lst [.int 0]]]) u0 (by simpa using u1)
    have hP : PlV v := by
      simp only [List.mem_cons, List.not_mem_nil, or_false] at hv
      rcases hv with rfl | rfl | rfl | rfl | rfl | rfl | rfl | rfl | rfl | rfl
      · exact plv_flat rfl
      · exact plv_flat rfl
      · exact plv_flat rfl
      · exact plv_flat rfl
      · exact plv_flat rfl
      · exact plv_flat rfl
      · exact FlatL.tplv ⟨by simp, (fun x hx => by cases hx)⟩
      · exact (FlatL.one (x := .lst (vInts ys)) rfl (closed_vInts 0 _)).plv
      · exact (FlatL.one (x := .non) rfl rfl).tplv
      · exact (FlatL.one (x := .lst [.int 0]) rfl rfl).plv
    exact ⟨v, a4, b4, ok4, hP, fun st n hn => mk_set (g := []) rfl (by
      obtain ⟨q1, q2, q3⟩ := stp st n hn
      simp_arith [b_law_spoiled, b_law_spoiled_2, t_law_spoiled_law_draw, q1, vInts_len, q2, q3, hoe, (e4.next hn).1, hve, List.append_nil]) hP.cl rfl⟩
  · by_cases h_5 : k < 7 ∧ j < (ys.length : Int)
    · obtain ⟨k7, jl⟩ := h_5
      obtain ⟨jn, rfl⟩ := pos_of j0
      obtain ⟨u, a4, b4, ok4, u0, u1, e4⟩ := d_draw ok3 (lim := p - 1) (by omega) (by omega)
      have hix : atI (vInts ys) (jn : Int) = some (.int (cell ys jn)) := at_ints (by omega)
      have F := F3 (.int ((cell ys jn + 1 + u) % p)) none (some (jn : Int)) (some ((jn : Int) + 1)) none rfl rfl
      rw [List.append_assoc] at F
      exact ⟨_, a4, b4, ok4, F.plv, fun st n hn => mk_set (g := []) rfl (by
        obtain ⟨q1, q2, q3⟩ := stp st n hn
        simp_arith [b_law_spoiled, b_law_spoiled_3, t_law_spoiled_law_draw, q1, vInts_len, q2, q3, hoe, h_0, h_1, h_2, h_3, h_4, k7, jl, slc_l, part_i, part_n, isNo, n1, n2, n3, n4, hix, (e4.next hn).1, bV_mod (show 0 < p by omega), List.append_nil]) F.plv.cl rfl⟩
    · refine ⟨_, a3, b3, ok3, hF.plv, fun st n hn => mk_set (g := []) rfl ?_ hF.plv.cl rfl⟩
      obtain ⟨q1, q2, q3⟩ := stp st n hn
      by_cases k7 : k < 7
      · have jl : ¬ j < (ys.length : Int) := fun h => h_5 ⟨k7, h⟩
        simp_arith [b_law_spoiled, t_law_spoiled_law_draw, q1, vInts_len, q2, q3, hoe, h_0, h_1, h_2, h_3, h_4, k7, jl, List.append_nil]
      · simp_arith [b_law_spoiled, t_law_spoiled_law_draw, q1, vInts_len, q2, q3, hoe, h_0, h_1, h_2, h_3, h_4, k7, List.append_nil]
end
section
variable {a b p : Int} {z : Nat} {st : Store} {R : List (List Int)}
theorem c_law_rows (ns : List Int) (hns : ∀ z ∈ ns, bd bits z) {start count : Nat} (hs : start ≤ 500) (hc : count ≤ 60) (hp : p ∈ primesL) (hz : z ≤ 6) (st : Store) :
    ∃ R, Rows p z R ∧ R.length = count ∧ m_law_rows [.scr (vInts ns), .int start, .int p, .int z, .int count] st = .ok (.lst (R.map vRow), st) := by
  obtain ⟨env', s', L, j, hj, hx, R, hl, hR, g, hg, hr, src, o7, he, hsrc⟩ := forL_inv (i := 7) (body := evSs T_law_rows G0 b_law_rows_1) (fun xs env s => ∃ j, j ≤ count ∧ xs = ((List.range count).map fun (k : Nat) => Val.int k).drop j ∧ ∃ R : List (List Int), R.length = j ∧ (∀ r ∈ R, r.length = z ∧ InP p r) ∧ ∃ g : Store, s = st ++ g ∧ s[st.length]? = some (.lst (R.map vRow)) ∧ ∃ (src : Val) (o7 : Option Val), env = [some (.scr (vInts ns)), some (.int start), some (.int p), some (.int z), some (.int count), some (.loc st.length), some src, o7] ∧ (j % 2 = 1 → ∃ (σ : Nat) (a b : Int), src = .loc σ ∧ st.length < σ ∧ SrcOk a b ∧ s[σ]? = some (srcC a b)))
    (fun y ys env s ⟨j, hj, hx, R, hl, hR, g, hg, hr, src, o7, he, hsrc⟩ => by
      obtain ⟨q1, q2⟩ := drop_cons hx.symm
      rw [List.getElem?_map] at q1
      have hjl : j < count := by
        rcases Nat.lt_or_ge j count with h | h
        · exact h
        · rw [List.getElem?_eq_none (by simpa using h)] at q1; cases q1
      rw [List.getElem?_range hjl] at q1
      cases q1
      have hrl : st.length < s.length := lt_g hr
      have fin : ∀ (s1 : Store) (σ : Nat) (a b : Int), SrcOk a b → s1[σ]? = some (srcC a b) → st.length < σ → s1[st.length]? = some (.lst (R.map vRow)) → (∃ g, s1 = st ++ g) →
          ∃ (row : List Int) (a' b' : Int), SrcOk a' b' ∧ row.length = z ∧ InP p row ∧ m_law_row [.loc σ, .int p, .int z, .loc st.length] s1 = .ok (.lst (vInts row), s1.set σ (srcC a' b')) ∧ (s1.set σ (srcC a' b'))[st.length]? = some (.lst (R.map vRow)) ∧
            (∃ g, (s1.set σ (srcC a' b')).set st.length (.lst (R.map vRow ++ [.lst (vInts row)])) = st ++ g) ∧ ((s1.set σ (srcC a' b')).set st.length (.lst (R.map vRow ++ [.lst (vInts row)])))[σ]? = some (srcC a' b') := by
        intro s1 σ a b ok h1 hσ h2 ⟨g, hg⟩
        obtain ⟨row, a', b', ok', r1, r2, r3⟩ := c_law_row (B := .loc st.length) ok hp hz hR (by omega)
        have hσ2 : σ ≠ st.length := by omega
        refine ⟨row, a', b', ok', r1, r2, r3 s1 σ h1 (Stays.loc h2 hσ2), by rw [List.getElem?_set_ne hσ2]; exact h2, ?_, ?_⟩
        · subst hg
          rw [List.set_append_right _ _ (by omega), List.set_append_right _ _ (by omega)]
          exact ⟨_, rfl⟩
        · rw [List.getElem?_set_ne (Ne.symm hσ2)]; exact g_set h1
      have hRl : R.length < 100000 := by omega
      have emap : ∀ row : List Int, (R ++ [row]).map vRow = R.map vRow ++ [.lst (vInts row)] := fun row => by rw [List.map_append]; rfl
      have hR2 : ∀ row : List Int, row.length = z → InP p row → ∀ r ∈ R ++ [row], r.length = z ∧ InP p r := fun row h1 h2 r hr => by
        rcases List.mem_append.mp hr with hr | hr
        · exact hR r hr
        · rw [List.mem_singleton.mp hr]; exact ⟨h1, h2⟩
      subst he
      by_cases hev : j % 2 = 0
      · have hm : ((j : Int) % 2) = 0 := by omega
        obtain ⟨a0, b0, ok0, e0⟩ := c_source ns hns (k := (start : Int) + (j : Int) / 2) (by omega) (by omega)
        obtain ⟨row, a', b', ok', r1, r2, r3, r4, r5, r6⟩ := fin (s ++ [srcC a0 b0]) s.length a0 b0 ok0 g_0 hrl (g_old hr) ⟨g ++ [srcC a0 b0], by rw [hg, List.append_assoc]⟩
        obtain ⟨g', hg'⟩ := r5
        refine ⟨_, _, ?_, j + 1, hjl, q2, R ++ [row], by simp [hl], hR2 row r1 r2, g', hg', ?_, .loc s.length, some (.int j), rfl, fun _ => ⟨s.length, a', b', rfl, hrl, ok', r6⟩⟩
        · simp_arith [b_law_rows_1, bV_mod (show (0 : Int) < 2 by decide), hm, t_law_rows_law_source, bV_fdivL (show (0 : Int) < 2 by decide) (by decide), e0, t_law_rows_law_row, g_old hr, r3, r4, List.length_map, hRl]
        · rw [emap]; exact g_set r4
      · have hm : ¬ ((j : Int) % 2) = 0 := by omega
        obtain ⟨σ, a0, b0, rfl, hσ, ok0, hσ2⟩ := hsrc (by omega)
        obtain ⟨row, a', b', ok', r1, r2, r3, r4, r5, r6⟩ := fin s σ a0 b0 ok0 hσ2 hσ hr ⟨g, hg⟩
        obtain ⟨g', hg'⟩ := r5
        refine ⟨_, _, ?_, j + 1, hjl, q2, R ++ [row], by simp [hl], hR2 row r1 r2, g', hg', ?_, .loc σ, some (.int j), rfl, fun _ => ⟨σ, a', b', rfl, hσ, ok', r6⟩⟩
        · simp_arith [b_law_rows_1, bV_mod (show (0 : Int) < 2 by decide), hm, hr, t_law_rows_law_row, r3, r4, List.length_map, hRl]
        · rw [emap]; exact g_set r4) ((List.range count).map fun (k : Nat) => Val.int k) [some (.scr (vInts ns)), some (.int start), some (.int p), some (.int z), some (.int count), some (.loc st.length), some (.lst [.int 0, .int 0]), none] (st ++ [.lst []]) ⟨0, Nat.zero_le _, rfl, [], rfl, (by intro r h; cases h), [.lst []], rfl, g_0, .lst [.int 0, .int 0], none, rfl, fun h => by omega⟩
  have ej : j = count := by have := congrArg List.length hx; simp at this; omega
  subst ej
  refine ⟨R, ⟨hR, by omega⟩, hl, ?_⟩
  refine mk_pure (g := g.set 0 (.frz (R.map vRow))) rfl ?_ (closed_rows 0 _)
  have es : st ++ g.set 0 (.frz (R.map vRow)) = s'.set st.length (.frz (R.map vRow)) := by
    subst hg
    rw [List.set_append_right _ _ (Nat.le_refl _), Nat.sub_self]
  rw [es]
  subst he
  simp_arith [b_law_rows, rng1 (show j ≤ 1000000 by omega), L, hr]
theorem c_law_shaped (hR : Rows p z R) (hz : z ≤ 6) (k : Int) : ∃ g vs, Given p z g vs R ∧ closed 0 g = true ∧ m_law_shaped [.lst (R.map vRow), .int k] st = .ok (g, st) := by
  have hit : kI1 (.lst (R.map vRow), st) = .ok (R.map vRow, st) := rfl
  have hl := hR.len
  have hl1 : R.length ≤ 100000 := by omega
  have tl : (R.map fun r => Val.tup (vInts r)).length ≤ szMax := by rw [List.length_map]; exact hl1
  have ll : (R.map vRow).length ≤ szMax := by rw [List.length_map]; exact hl1
  have ctup : ∀ rs : List (List Int), closedL 0 (rs.map fun r => Val.tup (vInts r)) = true := fun rs => by
    induction rs with
    | nil => rfl
    | cons r rs ih => show (closedL 0 (vInts r) && closedL 0 (rs.map fun r => Val.tup (vInts r))) = true; rw [closed_vInts, ih]; rfl
  have gl : ∀ r ∈ R, g1V false .list (vRow r) st = .ok (vRow r, st) := fun r hr => glist_of (st := st) (k := true) (xs := vInts r) rfl (small_v (by rw [(hR.ok r hr).1]; omega))
  have gt : ∀ r ∈ R, g1V false .tuple (vRow r) st = .ok (.tup (vInts r), st) := fun r hr => gtup_of (st := st) (k := true) (xs := vInts r) rfl (small_v (by rw [(hR.ok r hr).1]; omega))
  have C1 := compL_map0 (c := (ev T_law_shaped G0 .no).t) (e := (ev T_law_shaped G0 b_law_shaped_1).v) (x := 2) (env := [some (.lst (R.map vRow)), some (.int k), none]) (st := st) vRow vRow R (fun _ _ => rfl) (fun r hr => by simp_arith [b_law_shaped_1, gl r hr])
  have C2 := compL_map0 (c := (ev T_law_shaped G0 .no).t) (e := (ev T_law_shaped G0 b_law_shaped_2).v) (x := 2) (env := [some (.lst (R.map vRow)), some (.int k), none]) (st := st) vRow (fun r => Val.tup (vInts r)) R (fun _ _ => rfl) (fun r hr => by simp_arith [b_law_shaped_2, gt r hr])
  have C3 := compL_map0 (c := (ev T_law_shaped G0 .no).t) (e := (ev T_law_shaped G0 b_law_shaped_3).v) (x := 2) (env := [some (.lst (R.map vRow)), some (.int k), none]) (st := st) vRow (fun r => Val.tup (vInts r)) R (fun _ _ => rfl) (fun r hr => by simp_arith [b_law_shaped_3, gt r hr])
  have gv : ∀ w : Val, (w = .lst (R.map fun r => Val.tup (vInts r)) ∨ w = .tup (R.map fun r => Val.tup (vInts r))) → Given p z w (R.map fun r => Val.tup (vInts r)) R := fun w hw => ⟨hw, by simp, fun i x r h1 h2 => by rw [List.getElem?_map, h2] at h1; cases h1; exact .tup, hR.ok⟩
  by_cases h0 : k = 0
  · refine ⟨.lst (R.map vRow), _, hR.given, closed_rows 0 _, mk_pure0 rfl ?_ (closed_rows 0 _)⟩
    subst h0
    simp_arith [b_law_shaped, hit, List.length_map, hl1, C1, newL_f _ ll]
  · by_cases h1 : k = 1
    · refine ⟨.tup (R.map fun r => Val.tup (vInts r)), _, gv _ (.inr rfl), ctup R, mk_pure0 rfl ?_ (ctup R)⟩
      subst h1
      simp_arith [b_law_shaped, hit, List.length_map, hl1, C2, newL_f _ tl, gtup_of (seqOf_lst _) tl]
    · refine ⟨.lst (R.map fun r => Val.tup (vInts r)), _, gv _ (.inl rfl), ctup R, mk_pure0 rfl ?_ (ctup R)⟩
      simp_arith [b_law_shaped, h0, h1, hit, List.length_map, hl1, C3, newL_f _ tl]
theorem c_law_says (x y : Bool) : m_law_says [.bl x, .bl y] st = .ok (.bl (x == y), st) := mk_pure0 rfl (by simp_arith [b_law_says, veq_bl]) rfl
end
section
variable {a b p : Int} {z : Nat} {st : Store} {R : List (List Int)} {row : List Int} {g w : Val} {vs : List Val}
theorem goodL (hl : row.length = z) (hi : InP p row) : GoodR p z (.lst (vInts row)) row := ⟨.lst, hl, hi⟩
theorem goodT (hl : row.length = z) (hi : InP p row) : GoodR p z (.tup (vInts row)) row := ⟨.tup, hl, hi⟩
theorem c_law_judged (hp : p ∈ primesL) (hz : z ≤ 6) (hR : Rows p z R) (hg : Given p z g vs R) (hl : row.length = z) (hi : InP p row) (hw : PlV w) : m_law_judged [.int p, .int z, .lst (R.map vRow), .lst (vInts row), g, w] st = .ok (.bl true, st) := by
  have h1 := c_is_combination (st := st) hp hz hg hR.len (goodL hl hi) hw
  have h2 := c_law_combines (st := st) (row := row) hp hz hR hw
  have h3 := c_is_twin (st := st) hp hz hg hR.len (goodL hl hi) hw
  have h4 := c_law_twins (st := st) hp hz hR hl hi hw
  exact mk_pure0 rfl (by simp_arith [b_law_judged, t_law_judged_is_combination, h1, t_law_judged_law_combines, h2, t_law_judged_law_says, c_law_says, t_law_judged_is_twin, h3, t_law_judged_law_twins, h4, beq_self_eq_true]) rfl
theorem c_law_paper (ok : SrcOk a b) (h0 : 2 ≤ p) (h1 : p ≤ 31) (hz : z ≤ 6) {fs fd : List Int} (hf : fs.length ≤ 60) (hd : fd.length ≤ 60) (hdi : InP p fd) : ∃ (ys : List Int) (a' b' : Int), SrcOk a' b' ∧ ys.length ≤ 60 ∧ SrcE m_law_paper [.int p, .int z, .lst (vInts fs), .tup (vInts fd)] a b (.lst (vInts ys)) a' b' := by
  obtain ⟨k, a1, b1, ok1, k0, k1, e1⟩ := d_draw ok (lim := 4) (by decide) (by decide)
  obtain ⟨t, a2, b2, ok2, t0, t1, e2⟩ := d_draw ok1 (lim := p - 1) (by omega) (by omega)
  have gl1 : ∀ s : Store, g1V false .list (.lst (vInts fs)) s = .ok (.lst (vInts fs), s) := fun s => glist_of (seqOf_lst _) (small_v (by omega))
  have gl2 : ∀ s : Store, g1V false .list (.tup (vInts fd)) s = .ok (.lst (vInts fd), s) := fun s => glist_of (seqOf_tup _) (small_v (by omega))
  by_cases c0 : k = 0
  · subst c0
    exact ⟨fs, a2, b2, ok2, hf, fun st n hn => mk_set (g := []) rfl (by simp_arith [b_law_paper, t_law_paper_law_draw, (e1.first hn).1, (e2.next hn).1, gl1, List.append_nil]) (closed_vInts 0 _) rfl⟩
  by_cases c1 : k = 1
  · subst c1
    obtain ⟨ys, a3, b3, ok3, l3, p3, e3⟩ := comp_draws (e := (ev T_law_paper G0 b_law_paper_1).v) (x := 7) (Φ := T_law_paper) (G := G0) (env := fun n st => [some (.loc n), some (.int p), some (.int z), some (.lst (vInts fs)), some (.tup (vInts fd)), some (.int 1), some (.int (1 + t)), none, none]) (lim := p) (by omega) (by omega) ok2 (fun v w st n s s' h => by simp_arith [b_law_paper_1, t_law_paper_law_draw, h]) z
    have ey : (vInts ys).length ≤ szMax := small_v (by omega)
    exact ⟨ys, a3, b3, ok3, by omega, fun st n hn => mk_set (g := []) rfl (by simp_arith [b_law_paper, t_law_paper_law_draw, (e1.first hn).1, (e2.next hn).1, rng1 (show z ≤ 1000000 by omega), List.length_map, List.length_range, show z ≤ 100000 by omega, (e3 st n _ hn).1, newL_f _ ey, List.append_nil]) (closed_vInts 0 _) rfl⟩
  by_cases c2 : k = 2
  · subst c2
    refine ⟨fd.map fun x => x * (1 + t) % p, a2, b2, ok2, by simpa using hd, fun st n hn => mk_set (g := []) rfl ?_ (closed_vInts 0 _) rfl⟩
    have C := compL_map0 (c := (ev T_law_paper G0 .no).t) (e := (ev T_law_paper G0 b_law_paper_2).v) (x := 8) (env := [some (.loc n), some (.int p), some (.int z), some (.lst (vInts fs)), some (.tup (vInts fd)), some (.int 2), some (.int (1 + t)), none, none]) (st := st.set n (srcC a2 b2)) Val.int (fun x => Val.int (x * (1 + t) % p)) fd (fun _ _ => rfl) (fun x hx => by
      have := hdi x hx
      have hm : mulOk x (1 + t) = true := mul_ok (n := 10) (k := 10) (bd_lt (by omega) (by omega)) (bd_lt (by omega) (by omega)) (by decide)
      simp_arith [b_law_paper_2, bV_mul hm, bV_mod (show 0 < p by omega)])
    have et : (fd.map fun x => Val.int (x * (1 + t) % p)) = vInts (fd.map fun x => x * (1 + t) % p) := by unfold vInts; rw [List.map_map]; rfl
    rw [et] at C
    have hit : ∀ s : Store, kI1 (.tup (vInts fd), s) = .ok (fd.map Val.int, s) := fun _ => rfl
    have hnl : (vInts (fd.map fun x => x * (1 + t) % p)).length ≤ szMax := small_v (by simp; omega)
    simp_arith [b_law_paper, t_law_paper_law_draw, (e1.first hn).1, (e2.next hn).1, hit, List.length_map, show fd.length ≤ 100000 by omega, C, newL_f _ hnl, List.append_nil]
  · exact ⟨fd, a2, b2, ok2, hd, fun st n hn => mk_set (g := []) rfl (by simp_arith [b_law_paper, t_law_paper_law_draw, (e1.first hn).1, (e2.next hn).1, c0, c1, c2, gl2, List.append_nil]) (closed_vInts 0 _) rfl⟩
/-- what the program finds -/
def foundN (p : Int) (z : Nat) (R : List (List Int)) (row : List Int) : List Int := match firstN (leftN p (basisN p R).red row) with
  | none => (partN p (basisN p R).taken (basisN p R).red (row, List.replicate (basisN p R).taken 0)).2
  | some k => twinN p z (basisN p R).red (leftN p (basisN p R).red row) k
def knownN (p : Int) (R : List (List Int)) (row : List Int) : Bool := (firstN (leftN p (basisN p R).red row)).isNone
theorem basis_all (hp : p ∈ primesL) (hR : Rows p z R) : BasOk p z R (basisN p R) := by
  have := basisN_ok (z := z) hp (R := R) (BasOk.nil p z) hR.ok
  rwa [List.nil_append] at this
theorem tot_iff (hp0 : 0 < p) {fs : List Int} (hl : row.length = z) (hi : InP p row) (hf : fs.length = R.length) : totN p z R fs R.length = row ↔ ∀ j, j < z → Cg p (cell row j) (cmb fs R j) := by
  have e1 : fs.take R.length = fs := by rw [← hf]; exact List.take_length
  have e2 : R.take R.length = R := List.take_length
  constructor
  · intro h j hj
    have : cell (totN p z R fs R.length) j = cell row j := by rw [h]
    unfold totN at this
    rw [cell_map hj, e1, e2] at this
    rw [← this]; exact Cg.mod _ _
  · intro h
    refine List.ext_getElem (by rw [tot_len, hl]) fun j h1 h2 => ?_
    have hj : j < z := by rwa [tot_len] at h1
    have hc := hi.cell hp0 j
    have hx := Cg.iff.mp (h j hj)
    rw [Int.emod_eq_of_lt hc.1 hc.2] at hx
    have : cell (totN p z R fs R.length) j = cell row j := by
      unfold totN
      rw [cell_map hj, e1, e2, hx]
    unfold cell at this
    rw [List.getD_eq_getElem?_getD, List.getD_eq_getElem?_getD, List.getElem?_eq_getElem h1, List.getElem?_eq_getElem h2] at this
    simpa using this
theorem found_spec (hp : p ∈ primesL) (hz : z ≤ 6) (hR : Rows p z R) (hl : row.length = z) (hi : InP p row) :
    (foundN p z R row).length ≤ 60 ∧ InP p (foundN p z R row) ∧ combB p z R row (.tup (vInts (foundN p z R row))) = knownN p R row ∧ twinB p z R row (.tup (vInts (foundN p z R row))) = !knownN p R row := by
  have hb := prime_b hp
  have hp0 : 0 < p := by omega
  have hB := basis_all hp hR
  have hRl := hR.len
  have noTwin : ∀ v : List Int, (∀ j, j < z → Cg p (cell row j) (cmb v R j)) → ∀ x : List Int, ((R.all fun r => decide (dt r x z % p = 0)) && decide (dt row x z % p ≠ 0)) = false := fun v hv x => by
    rw [Bool.and_eq_false_iff]
    by_cases h : R.all (fun r => decide (dt r x z % p = 0)) = true
    · right
      have hx := not_both (p := p) (z := z) (R := R) (row := row) (fs := v) (v := x) hv fun r hr => Cg.zero.mpr (by rw [List.all_eq_true] at h; simpa using h r hr)
      simp [hx]
    · left; simpa using h
  unfold foundN knownN
  cases hf : firstN (leftN p (basisN p R).red row) with
  | none =>
    dsimp only
    obtain ⟨c1, c2, c3⟩ := hB.comb hp hl hi hf
    generalize (partN p (basisN p R).taken (basisN p R).red (row, List.replicate (basisN p R).taken 0)).2 = fs at c1 c2 c3
    refine ⟨by omega, c2, ?_, ?_⟩
    · rw [combB_is .tup c1 c2]
      simp [(tot_iff hp0 hl hi c1).mpr c3]
    · cases hg : goodV (.tup (vInts fs)) z 0 (p - 1) with
      | false => rw [twinB_no hg]; rfl
      | true =>
        have hlen : fs.length = z := by
          have h' : (decide ((vInts fs).length = z) && (vInts fs).all (btw 0 (p - 1))) = true := hg
          rw [Bool.and_eq_true, decide_eq_true_eq, vInts_len] at h'; exact h'.1
        rw [twinB_is .tup hlen c2, noTwin fs c3]; rfl
  | some k =>
    dsimp only
    obtain ⟨t1, t2, t3, t4⟩ := hB.twin hp hl hi hf
    generalize twinN p z (basisN p R).red (leftN p (basisN p R).red row) k = v at t1 t2 t3 t4
    have ht4 : dt row v z % p = 1 := by
      have := Cg.iff.mp t4; rwa [Int.emod_eq_of_lt (show (0 : Int) ≤ 1 by decide) hb.1] at this
    refine ⟨by omega, t2, ?_, ?_⟩
    · cases hg : goodV (.tup (vInts v)) R.length 0 (p - 1) with
      | false => rw [combB_no hg]; rfl
      | true =>
        have hlen : v.length = R.length := by
          have h' : (decide ((vInts v).length = R.length) && (vInts v).all (btw 0 (p - 1))) = true := hg
          rw [Bool.and_eq_true, decide_eq_true_eq, vInts_len] at h'; exact h'.1
        rw [combB_is .tup hlen t2]
        refine decide_eq_false fun h => ?_
        have h2 := (tot_iff hp0 hl hi hlen).mp h
        have := not_both (p := p) (z := z) (R := R) (row := row) (fs := v) (v := v) h2 t3
        omega
    · rw [twinB_is .tup t1 t2]
      have : (R.all fun r => decide (dt r v z % p = 0)) = true := by
        rw [List.all_eq_true]; intro r hr; simpa using Cg.zero.mp (t3 r hr)
      rw [this, ht4]; rfl
end
section
variable {a b p : Int} {z : Nat} {st : Store} {R : List (List Int)} {row fs : List Int} {g w : Val} {vs : List Val}
theorem PlV.tup {xs : List Val} (h : PlV (.lst xs)) : PlV (.tup xs) := ⟨rfl, (fun _ e => nomatch e), (fun ys e => by rcases e with e | e <;> cases e; exact h.its xs (.inl rfl)), h.cl⟩
theorem isTy_no {v : Val} (h : PlV v) (h2 : ∀ xs, v ≠ .lst xs) : isTy st .list v = some false := by
  cases v with
  | lst xs => exact absurd rfl (h2 xs)
  | scr xs => exact absurd rfl (h.scr xs)
  | loc _ => cases h.top
  | obj _ _ _ => cases h.top
  | _ => rfl
/-- the law's names behind the found paper -/
def lawE (scr : Val) (n : Nat) (p : Int) (z : Nat) (R : List (List Int)) (g : Val) (x6 : Val) (fs : List Int) (x8 : Val) (row : List Int) (bs kn rk cb tw : Val) (fd : List Int) (o16 o17 o18 o19 o20 : Option Val) : MP.Env :=
  [some scr, some (.loc n), some (.int p), some (.int z), some (.lst (R.map vRow)), some g, some x6, some (.lst (vInts fs)), some x8, some (.lst (vInts row)), some bs, some kn, some rk, some cb, some tw, some (.tup (vInts fd)), o16, o17, o18, o19, o20]
theorem turn3 (ok : SrcOk a b) (hp : p ∈ primesL) (hz : z ≤ 6) (hR : Rows p z R) (hg : Given p z g vs R) (hl : row.length = z) (hi : InP p row) {fd : List Int} (hf : fs.length ≤ 60) (hd : fd.length ≤ 60) (hdi : InP p fd) {n : Nat} (hn : st[n]? = some (srcC a b)) {scr x6 x8 bs kn rk cb tw : Val} {o16 o17 o18 o19 o20 : Option Val} :
    ∃ (a' b' : Int) (o : Option Val), SrcOk a' b' ∧ evSs T_law G0 b_law_3 (lawE scr n p z R g x6 fs x8 row bs kn rk cb tw fd o16 o17 o18 o19 o20) st = .next (lawE scr n p z R g x6 fs x8 row bs kn rk cb tw fd o16 o o18 o19 o20) (st.set n (srcC a' b')) := by
  have hb := prime_b hp
  obtain ⟨ys, a1, b1, ok1, hy, e1⟩ := c_law_paper ok (by omega) hb.2 hz hf hd hdi
  obtain ⟨v, a2, b2, ok2, hv, e2⟩ := c_law_spoiled ok1 (by omega) hb.2 hy
  have hj := fun (s : Store) (w : Val) (hw : PlV w) => c_law_judged (st := s) hp hz hR hg hl hi hw
  have hlen : ∀ s : Store, f1V .len (.lst (R.map vRow)) s = .ok (.int R.length) := fun s => by rw [len_lst, List.length_map]
  by_cases hx : ∃ xs, v = .lst xs
  · obtain ⟨xs, rfl⟩ := hx
    obtain ⟨d, a3, b3, ok3, d0, d1, e3⟩ := d_draw ok2 (lim := 2) (by decide) (by decide)
    by_cases hd0 : d = 0
    · subst hd0
      have gt := fun s : Store => gtup_of (m := false) (st := s) (seqOf_lst xs) (hv.its xs (.inl rfl)).1
      refine ⟨a3, b3, some (.tup xs), ok3, ?_⟩
      by_cases h21 : (R.length : Int) < 21
      · simp_arith [lawE, b_law_3, t_law_law_paper, (e1.first hn).1, t_law_law_spoiled, (e2.next hn).1, t_law_law_draw, (e3.next hn).1, gt, List.length_map, h21, t_law_law_judged, hj _ _ hv.tup]
      · simp_arith [lawE, b_law_3, t_law_law_paper, (e1.first hn).1, t_law_law_spoiled, (e2.next hn).1, t_law_law_draw, (e3.next hn).1, gt, List.length_map, h21]
    · refine ⟨a3, b3, some (.lst xs), ok3, ?_⟩
      by_cases h21 : (R.length : Int) < 21
      · simp_arith [lawE, b_law_3, t_law_law_paper, (e1.first hn).1, t_law_law_spoiled, (e2.next hn).1, t_law_law_draw, (e3.next hn).1, hd0, List.length_map, h21, t_law_law_judged, hj _ _ hv]
      · simp_arith [lawE, b_law_3, t_law_law_paper, (e1.first hn).1, t_law_law_spoiled, (e2.next hn).1, t_law_law_draw, (e3.next hn).1, hd0, List.length_map, h21]
  · have hT : ∀ s : Store, isTy s .list v = some false := fun s => isTy_no hv fun xs e => hx ⟨xs, e⟩
    have hT2 : ∀ s : Store, kIsi .list (v, s) = .ok (.bl false, s) := fun s => by unfold kIsi; simp only [hT]
    refine ⟨a2, b2, some v, ok2, ?_⟩
    have e1' : m_law_paper [.loc n, .int p, .int z, .lst (vInts fs), .tup (vInts fd)] st = .ok (.lst (vInts ys), st.set n (srcC a1 b1)) := (e1.first hn).1
    have e2' : m_law_spoiled [.loc n, .lst (vInts ys), .int p] (st.set n (srcC a1 b1)) = .ok (v, st.set n (srcC a2 b2)) := (e2.next hn).1
    have hb3 : b_law_3 = b_law_3 := rfl
    by_cases h21 : (R.length : Int) < 21
    · simp -implicitDefEqProofs only [lawE, b_law_3, MP.xs_cons, MP.x_asg, MP.v_call]
      simp_arith [t_law_law_paper, e1', t_law_law_spoiled, e2', hT2, hT, List.length_map, h21, t_law_law_judged, hj _ _ hv]
    · simp_arith [lawE, b_law_3, t_law_law_paper, e1', t_law_law_spoiled, e2', hT2, hT, List.length_map, h21]
theorem sz_rows : ∀ (R : List (List Int)), ∀ x ∈ R.map vRow, sz 60 x = true := fun R x hx => by
  obtain ⟨r, _, rfl⟩ := List.mem_map.mp hx
  exact sz_lst (k := 59) (sz_ints r)
theorem c_law_c22 (ok : SrcOk a b) (hp : p ∈ primesL) (hz : z ≤ 6) (hR : Rows p z R) (hg : Given p z g vs R) (hl : row.length = z) (hi : InP p row) {fd : List Int} (hf : fs.length ≤ 60) (hd : fd.length ≤ 60) (hdi : InP p fd) {n : Nat} (hn : st[n]? = some (srcC a b)) {scr x6 x8 bs kn rk cb tw : Val} :
    ∃ st', evSs T_law G0 b_law_c22 (lawE scr n p z R g x6 fs x8 row bs kn rk cb tw fd none none none none none) st = .ret (.bl true) st' := by
  have hb := prime_b hp
  obtain ⟨env', s', L, o16, o17, a', b', ok', hn', he⟩ := forL_inv (i := 16) (body := evSs T_law G0 b_law_3) (fun _ env s => ∃ (o16 o17 : Option Val) (a b : Int), SrcOk a b ∧ s[n]? = some (srcC a b) ∧ env = lawE scr n p z R g x6 fs x8 row bs kn rk cb tw fd o16 o17 none none none) (fun v vs' env s ⟨o16, o17, a, b, ok, hn, he⟩ => by
    subst he
    obtain ⟨a', b', o, ok', e⟩ := turn3 (o16 := some v) (o17 := o17) (o18 := none) (o19 := none) (o20 := none) (scr := scr) (x6 := x6) (x8 := x8) (bs := bs) (kn := kn) (rk := rk) (cb := cb) (tw := tw) ok hp hz hR hg hl hi hf hd hdi hn
    exact ⟨_, _, e, some v, o, a', b', ok', g_set hn, rfl⟩) ((List.range 3).map fun (k : Nat) => Val.int k) (lawE scr n p z R g x6 fs x8 row bs kn rk cb tw fd none none none none none) st ⟨none, none, a, b, ok, hn, rfl⟩
  subst he
  have r3 : rngV [.int 3] = .ok ((List.range 3).map fun (k : Nat) => Val.int k) := rng1 (n := 3) (by decide)
  have gl2 : ∀ s : Store, g1V false .list (.tup (vInts fd)) s = .ok (.lst (vInts fd), s) := fun s => glist_of (seqOf_tup _) (small_v (by omega))
  have hfp : PlV (.lst (vInts fd)) := plv_of .lst (by omega)
  have hj := c_law_judged (st := s') hp hz hR hg hl hi hfp
  have hit : kI1 (g, s') = .ok (vs, s') := hg.it
  have C : compL (ev T_law G0 .no).t (ev T_law G0 b_law_4).v 19 vs (lawE scr n p z R g x6 fs x8 row bs kn rk cb tw fd o16 o17 none none none) s' = .ok (R.map vRow, s') := by
    have key : ∀ (ws : List Val) (S : List (List Int)), ws.length = S.length → (∀ (i : Nat) x r, ws[i]? = some x → S[i]? = some r → GoodR p z x r) → compL (ev T_law G0 .no).t (ev T_law G0 b_law_4).v 19 ws (lawE scr n p z R g x6 fs x8 row bs kn rk cb tw fd o16 o17 none none none) s' = .ok (S.map vRow, s') := by
      intro ws
      induction ws with
      | nil => intro S hl _; cases S with
        | nil => rfl
        | cons => cases hl
      | cons x ws ih =>
        intro S hl hr
        cases S with
        | nil => cases hl
        | cons r S =>
          have hx := hr 0 x r rfl rfl
          have gx := glist_of (st := s') hx.is.seq.choose_spec (small_v (by rw [hx.len]; omega))
          have ih' := ih S (by simpa using hl) fun i y s h1 h2 => hr (i + 1) y s h1 h2
          have ev1 : (ev T_law G0 b_law_4).v ((lawE scr n p z R g x6 fs x8 row bs kn rk cb tw fd o16 o17 none none none).set 19 (some x)) s' = .ok (vRow r, s') := by
            simp_arith [lawE, b_law_4, gx, vRow]
          simp only [compL, List.map_cons]
          show (MP.R.ok (true, s')).bind _ = _
          simp only [MP.R.bind_ok, if_true, ev1, ih']
    exact key vs R hg.len fun i x r h1 h2 => ⟨hg.row i x r h1 h2, (hR.ok r (List.mem_of_getElem? h2)).1, (hR.ok r (List.mem_of_getElem? h2)).2⟩
  have hnl : (R.map vRow).length ≤ szMax := by rw [List.length_map]; have := hR.len; unfold szMax; omega
  have hvl : vs.length ≤ 100000 := by rw [hg.len]; have := hR.len; omega
  have heq := eq_self (v := .lst (R.map vRow)) (sz_mono (j := 61) (by decide) (sz_lst (k := 60) (sz_rows R))) s'
  refine ⟨s', ?_⟩
  unfold lawE at L C ⊢
  simp_arith [b_law_c22, r3, L, gl2, t_law_law_judged, hj, hit, hvl, C, newL_f _ hnl, heq]
end
section
variable {a b p : Int} {z : Nat} {st : Store} {R : List (List Int)} {row fs : List Int} {g w : Val} {vs : List Val}
theorem btf : (true == false) = false := rfl
theorem bft : (false == true) = false := rfl
theorem btt : (true == true) = true := rfl
theorem bff : (false == false) = true := rfl
theorem cmp_truth (x y : Bool) (s : Store) : cmpV .ne (.bl x) (.bl y) s = .ok (!(x == y)) := vne_bl x y
def combV (p : Int) (z : Nat) (R : List (List Int)) (row fd : List Int) : Val := if knownN p R row = true then .tup (vInts fd) else .non
def twV (p : Int) (z : Nat) (R : List (List Int)) (row fd : List Int) : Val := if knownN p R row = true then .non else .tup (vInts fd)
theorem c_law_c19 (ok : SrcOk a b) (hp : p ∈ primesL) (hz : z ≤ 6) (hR : Rows p z R) (hg : Given p z g vs R) (hl : row.length = z) (hi : InP p row) (hf : fs.length ≤ 60) {n : Nat} (hn : st[n]? = some (srcC a b)) {scr x6 x8 bs rk : Val} :
    ∃ st', evSs T_law G0 b_law_c19 [some scr, some (.loc n), some (.int p), some (.int z), some (.lst (R.map vRow)), some g, some x6, some (.lst (vInts fs)), some x8, some (.lst (vInts row)), some bs, some (.bl (knownN p R row)), some rk, some (combV p z R row (foundN p z R row)), some (twV p z R row (foundN p z R row)), none, none, none, none, none, none] st = .ret (.bl true) st' := by
  obtain ⟨f1, f2, f3, f4⟩ := found_spec hp hz hR hl hi
  have hP : PlV (.tup (vInts (foundN p z R row))) := plv_of .tup (by omega)
  have h1 := c_law_combines (st := st) (row := row) hp hz hR hP
  have h2 := c_law_twins (st := st) hp hz hR hl hi hP
  rw [f3] at h1
  rw [f4] at h2
  obtain ⟨st', h3⟩ := c_law_c22 (fd := foundN p z R row) (scr := scr) (x6 := x6) (x8 := x8) (bs := bs) (kn := .bl (knownN p R row)) (rk := rk) (cb := combV p z R row (foundN p z R row)) (tw := twV p z R row (foundN p z R row)) ok hp hz hR hg hl hi hf f1 f2 hn
  refine ⟨st', ?_⟩
  unfold lawE at h3
  unfold combV twV at h3 ⊢
  cases hk : knownN p R row with
  | true =>
    rw [hk] at h1 h2 h3
    simp_arith [] at h3
    simp_arith [b_law_c19, t_law_law_combines, h1, t_law_law_twins, h2, cmp_truth, veq_bl, beq_self_eq_true, h3, btf, bft, btt, bff]
  | false =>
    rw [hk] at h1 h2 h3
    simp_arith [] at h3
    simp_arith [b_law_c19, t_law_law_combines, h1, t_law_law_twins, h2, cmp_truth, veq_bl, beq_self_eq_true, h3, btf, bft, btt, bff]
theorem filter_all {r : List Int} : (r.filter fun x => decide (x ≠ 0)).length = 0 ↔ firstN r = none := by
  constructor
  · intro h
    have h' : r.filter (fun x => decide (x ≠ 0)) = [] := List.eq_nil_of_length_eq_zero h
    rw [List.filter_eq_nil_iff] at h'
    refine List.find?_eq_none.mpr fun k hk => ?_
    have hk := List.mem_range.mp hk
    have := h' _ (cell_mem hk)
    simpa using this
  · intro h
    have : r.filter (fun x => decide (x ≠ 0)) = [] := by
      rw [List.filter_eq_nil_iff]
      intro x hx
      obtain ⟨k, hk, e⟩ := List.mem_iff_getElem.mp hx
      have h1 := first_none h k
      unfold MP.cell at h1
      rw [List.getD_eq_getElem?_getD, List.getElem?_eq_getElem hk] at h1
      have : r[k] = 0 := by simpa using h1
      rw [← e, this]; simp
    rw [this]; rfl
theorem c_law_c10 (ok : SrcOk a b) (hp : p ∈ primesL) (hz : z ≤ 6) (hR : Rows p z R) (hg : Given p z g vs R) (hl : row.length = z) (hi : InP p row) (hf : fs.length ≤ 60) {n : Nat} (hn : st[n]? = some (srcC a b)) {scr x6 x8 : Val} :
    ∃ st', evSs T_law G0 b_law_c10 [some scr, some (.loc n), some (.int p), some (.int z), some (.lst (R.map vRow)), some g, some x6, some (.lst (vInts fs)), some x8, some (.lst (vInts row)), none, none, none, none, none, none, none, none, none, none, none] st = .ret (.bl true) st' := by
  have hB := basis_all hp hR
  have hRl := hR.len
  have h1 := c_law_basis (st := st) hp hz hR.ok hRl
  have h2 := c_law_left (st := st) (row := row) (B := .lst ((basisN p R).red.map vPair)) (kb := true) hp hz (seqOf_lst _) hB.red.row hl hi
  have hj := c_law_judged (st := st) (w := .lst (vInts fs)) hp hz hR hg hl hi (plv_of .lst (by omega))
  have h3 := c_rank_of (st := st) hp hz hg hRl
  have h4 := c_combination_of (st := st) hp hz hg hRl (goodT hl hi)
  have h5 := c_twin_for (st := st) hp hz hg hRl (goodL hl hi)
  have gt := gtup_of (m := false) (st := st) (seqOf_lst (vInts row)) (small_v (by omega))
  have gl := glist_of (st := st) (seqOf_lst (vInts row)) (small_v (by omega))
  have hint : m_law_is_integer [.int (basisN p R).red.length] st = .ok (.bl true, st) := c_isintV (x := .int (basisN p R).red.length) rfl
  have lsl : (leftN p (basisN p R).red row).length ≤ 100000 := by rw [len_left]; omega
  have C := compL_map (c := (ev T_law G0 b_law_2).t) (e := (ev T_law G0 (.var 20)).v) (x := 20) (env := [some scr, some (.loc n), some (.int p), some (.int z), some (.lst (R.map vRow)), some g, some x6, some (.lst (vInts fs)), some x8, some (.lst (vInts row)), some (.lst ((basisN p R).red.map vPair)), none, none, none, none, none, none, none, none, none, none]) (st := st) Val.int (fun x => decide (x ≠ 0)) Val.int (leftN p (basisN p R).red row) (fun x hx => by simp_arith [b_law_2, vne_int, decide_not, ne_eq]) (fun x _ _ => by simp_arith [])
  have hfl : ((leftN p (basisN p R).red row).filter fun x => decide (x ≠ 0)).length ≤ 100000 := Nat.le_trans (List.length_filter_le _ _) lsl
  have hit : kI1 (.lst (vInts (leftN p (basisN p R).red row)), st) = .ok ((leftN p (basisN p R).red row).map Val.int, st) := rfl
  have hkn : decide ((((leftN p (basisN p R).red row).filter fun x => decide (x ≠ 0)).length : Int) = 0) = knownN p R row := by
    unfold knownN
    cases hfn : firstN (leftN p (basisN p R).red row) with
    | none => have := filter_all.mpr hfn; exact decide_eq_true (by rw [this]; rfl)
    | some k =>
      have : ¬ ((leftN p (basisN p R).red row).filter fun x => decide (x ≠ 0)).length = 0 := fun h => by have := filter_all.mp h; rw [hfn] at this; cases this
      exact decide_eq_false (by omega)
  have hcv : (if firstN (leftN p (basisN p R).red row) = none then Val.tup (vInts (partN p (basisN p R).taken (basisN p R).red (row, List.replicate (basisN p R).taken 0)).2) else .non) = combV p z R row (foundN p z R row) := by
    unfold combV foundN knownN
    cases hfn : firstN (leftN p (basisN p R).red row) <;> simp
  have htv : twinV p z (basisN p R).red row = twV p z R row (foundN p z R row) := by
    unfold twinV twV foundN knownN
    cases hfn : firstN (leftN p (basisN p R).red row) <;> simp
  rw [hcv] at h4
  rw [htv] at h5
  obtain ⟨st', h6⟩ := c_law_c19 (scr := scr) (x6 := x6) (x8 := x8) (bs := .lst ((basisN p R).red.map vPair)) (rk := .int (basisN p R).red.length) ok hp hz hR hg hl hi hf hn
  refine ⟨st', ?_⟩
  unfold combV at h4 h6
  unfold twV at h5 h6
  cases hk : knownN p R row with
  | true =>
    rw [hk] at h4 h5 h6 hkn
    simp_arith [] at h4
    simp_arith [] at h5
    simp_arith [] at h6
    simp_arith [b_law_c10, t_law_law_basis, h1, t_law_law_left, h2, hit, List.length_map, lsl, C, hfl, hkn, t_law_law_judged, hj, t_law_rank_of, h3, gt, t_law_combination_of, h4, gl, t_law_twin_for, h5, t_law_law_is_integer, hint, vne_int, h6]
  | false =>
    rw [hk] at h4 h5 h6 hkn
    simp_arith [] at h4
    simp_arith [] at h5
    simp_arith [] at h6
    simp_arith [b_law_c10, t_law_law_basis, h1, t_law_law_left, h2, hit, List.length_map, lsl, C, hfl, hkn, t_law_law_judged, hj, t_law_rank_of, h3, gt, t_law_combination_of, h4, gl, t_law_twin_for, h5, t_law_law_is_integer, hint, vne_int, h6]
end
section
theorem c_law (ns : List Int) (hns : ∀ z ∈ ns, bd bits z) : ∃ st', m_law [.scr (vInts ns)] [] = .ok (.bl true, st') := by
  obtain ⟨a, b, ok, e0⟩ := c_source ns hns (k := 0) (by decide) (by decide)
  obtain ⟨pi, a1, b1, ok1, p0, p1, ep⟩ := d_draw ok (lim := 11) (by decide) (by decide)
  obtain ⟨p, hpm, hpe⟩ : ∃ p : Int, p ∈ primesL ∧ atI (vInts primesL) pi = some (.int p) := by
    obtain ⟨k, rfl⟩ := pos_of p0
    exact ⟨_, cell_mem (show k < primesL.length by show k < 11; omega), at_ints (by show k < 11; omega)⟩
  have hpe : atI [Val.int 2, .int 3, .int 5, .int 7, .int 11, .int 13, .int 17, .int 19, .int 23, .int 29, .int 31] pi = some (.int p) := hpe
  have hb := prime_b hpm
  obtain ⟨z, a2, b2, ok2, z0, z1, ez⟩ := d_draw ok1 (lim := 7) (by decide) (by decide)
  obtain ⟨z, rfl⟩ := pos_of z0
  have hz : z ≤ 6 := by omega
  obtain ⟨cn, a3, b3, ok3, hcn, ec⟩ := c_law_count ok2
  have i0 : m_law_source [.scr (vInts ns), .int 0] [] = .ok (.loc 0, [srcC a b]) := e0 []
  have ep' : m_law_draw [.loc 0, .int 11] [srcC a b] = .ok (.int pi, [srcC a1 b1]) := ep [srcC a b] 0 rfl
  have ez' : m_law_draw [.loc 0, .int 7] [srcC a1 b1] = .ok (.int z, [srcC a2 b2]) := ez [srcC a1 b1] 0 rfl
  have ec' : m_law_count [.loc 0] [srcC a2 b2] = .ok (.int cn, [srcC a3 b3]) := ec [srcC a2 b2] 0 rfl
  obtain ⟨R, hR, hRl, er⟩ := c_law_rows ns hns (start := 1) (by decide) hcn hpm hz [srcC a3 b3]
  have er : m_law_rows [.scr (vInts ns), .int 1, .int p, .int z, .int cn] [srcC a3 b3] = .ok (.lst (R.map vRow), [srcC a3 b3]) := er
  obtain ⟨k, a4, b4, ok4, k0, k1, ek⟩ := d_draw ok3 (lim := 3) (by decide) (by decide)
  have ek' : m_law_draw [.loc 0, .int 3] [srcC a3 b3] = .ok (.int k, [srcC a4 b4]) := ek [srcC a3 b3] 0 rfl
  obtain ⟨g, vs, hg, hgc, es⟩ := c_law_shaped (st := [srcC a4 b4]) hR hz k
  obtain ⟨c, d, okc, e31⟩ := c_source ns hns (k := 31) (by decide) (by decide)
  have i31 : m_law_source [.scr (vInts ns), .int 31] [srcC a4 b4] = .ok (.loc 1, [srcC a4 b4, srcC c d]) := e31 [srcC a4 b4]
  have hRn : R.length ≤ 60 := hR.len
  obtain ⟨fs, c1, d1, okc1, lf, pf, ef⟩ := comp_draws (e := (ev T_law G0 b_law_1).v) (x := 18) (Φ := T_law) (G := G0) (env := fun n st => [some (.scr (vInts ns)), some (.loc 0), some (.int p), some (.int z), some (.lst (R.map vRow)), some g, some (.loc n), none, none, none, none, none, none, none, none, none, none, none, none, none, none]) (lim := p) (by omega) (by omega) okc (fun v w st n s s' h => by simp_arith [b_law_1, t_law_law_draw, h]) R.length
  have ef' := (ef [srcC a4 b4, srcC c d] 1 (srcC c d) rfl).1
  have ef' : compL (ev T_law G0 .no).t (ev T_law G0 b_law_1).v 18 ((List.range R.length).map fun (k : Nat) => Val.int k) [some (.scr (vInts ns)), some (.loc 0), some (.int p), some (.int z), some (.lst (R.map vRow)), some g, some (.loc 1), none, none, none, none, none, none, none, none, none, none, none, none, none, none] [srcC a4 b4, srcC c d] = .ok (vInts fs, [srcC a4 b4, srcC c1 d1]) := ef'
  obtain ⟨u, v, oku, e32⟩ := c_source ns hns (k := 32) (by decide) (by decide)
  have i32 : m_law_source [.scr (vInts ns), .int 32] [srcC a4 b4, srcC c1 d1] = .ok (.loc 2, [srcC a4 b4, srcC c1 d1, srcC u v]) := e32 [srcC a4 b4, srcC c1 d1]
  obtain ⟨row, u1, v1, oku1, hl, hi, erow⟩ := c_law_row (B := .lst (R.map vRow)) oku hpm hz hR.ok hRn
  have erow : m_law_row [.loc 2, .int p, .int z, .lst (R.map vRow)] [srcC a4 b4, srcC c1 d1, srcC u v] = .ok (.lst (vInts row), [srcC a4 b4, srcC c1 d1, srcC u1 v1]) := erow [srcC a4 b4, srcC c1 d1, srcC u v] 2 rfl Stays.lst
  obtain ⟨q, u2, v2, oku2, q0, q1, eq⟩ := d_draw oku1 (lim := 3) (by decide) (by decide)
  have eq' : m_law_draw [.loc 2, .int 3] [srcC a4 b4, srcC c1 d1, srcC u1 v1] = .ok (.int q, [srcC a4 b4, srcC c1 d1, srcC u2 v2]) := eq [srcC a4 b4, srcC c1 d1, srcC u1 v1] 2 rfl
  have hsum := c_law_sum (st := [srcC a4 b4, srcC c1 d1, srcC u2 v2]) (w := .lst (vInts fs)) hpm hz hR .lst lf pf
  have hfl : fs.length ≤ 60 := by omega
  have hnl : (vInts fs).length ≤ szMax := small_v (by omega)
  have fin : ∃ st', runB T_law G0 21 b_law [.scr (vInts ns)] [] = .ok (.bl true, st') := by
    by_cases hq : q = 0
    · subst hq
      have tl : (totN p z R fs R.length).length = z := tot_len
      have ti : InP p (totN p z R fs R.length) := tot_inP (by omega)
      obtain ⟨st', h⟩ := c_law_c10 (st := [srcC a4 b4, srcC c1 d1, srcC u2 v2]) (n := 0) (fs := fs) (scr := .scr (vInts ns)) (x6 := .loc 1) (x8 := .loc 2) ok4 hpm hz hR hg tl ti hfl rfl
      refine ⟨st', ?_⟩
      simp_arith [b_law, t_law_law_source, i0, t_law_law_draw, ep', hpe, ez', t_law_law_count, ec', t_law_law_rows, er, ek', t_law_law_shaped, es, i31, List.length_map, rng1 (show R.length ≤ 1000000 by omega), List.length_range, show R.length ≤ 100000 by omega, ef', newL_f _ hnl, i32, t_law_law_row, erow, eq', t_law_law_sum, hsum, h]
    · obtain ⟨st', h⟩ := c_law_c10 (st := [srcC a4 b4, srcC c1 d1, srcC u2 v2]) (n := 0) (fs := fs) (scr := .scr (vInts ns)) (x6 := .loc 1) (x8 := .loc 2) ok4 hpm hz hR hg hl hi hfl rfl
      refine ⟨st', ?_⟩
      simp_arith [b_law, t_law_law_source, i0, t_law_law_draw, ep', hpe, ez', t_law_law_count, ec', t_law_law_rows, er, ek', t_law_law_shaped, es, i31, List.length_map, rng1 (show R.length ≤ 1000000 by omega), List.length_range, show R.length ≤ 100000 by omega, ef', newL_f _ hnl, i32, t_law_law_row, erow, eq', hq, h]
  obtain ⟨st', hf⟩ := fin
  refine ⟨_, mk_pure (g := st') rfl (by rw [hf]; rfl) rfl⟩
theorem law_true : ∀ ns : List Int, ns.length ≤ 63 → (∀ z ∈ ns, Builtin.Int.intBits z ≤ 1048576) → ∃ st', m_law [.scr (ns.map .int)] [] = .ok (.bl true, st') := fun ns _ h => c_law ns fun z hz => bd_bits (h z hz)
end
def top (i : Nat) : Stmt := PySem.Challenge.pw_lastdoor_k09_whole_combination_or_twin.main.body.getD i (.Pass ⟨0, 0, 0, 0⟩)
def bs : List Str := ["abs", "bool", "int", "isinstance", "len", "list", "range", "tuple"]
def xn : List (Str × List Str) := [("BadRow", ["place"]), ("TooMany", ["limit"]), ("BadHouse", ["part", "number"])]
def sub : List (Str × List Str) := []
def xinit (i j : Nat) : Stmt := match top i with | .ClassDef _ _ _ b _ _ _ _ _ _ _ => b.getD j (.Pass ⟨0, 0, 0, 0⟩) | s => s
def cs : List (Str × List Str) := [("Basis", ["prime", "size", "reduced", "taken"])]
noncomputable def d_law_source : Def := { x := "_law_source", st := top 31, ps := ["script", "k"], N := ["script", "k", "cell"], lv := 0, fs := [], body := b_law_source, Φ := T_law_source, G := G0, hfs := [], hot := false }
noncomputable def d_law_draw : Def := { x := "_law_draw", st := top 32, ps := ["source", "limit"], N := ["source", "limit", "value"], lv := 0, fs := [], body := b_law_draw, Φ := T_law_draw, G := G0, hfs := [], hot := false }
noncomputable def d_law_row : Def := { x := "_law_row", st := top 33, ps := ["source", "prime", "size", "rows"], N := ["source", "prime", "size", "rows", "kind", "row", "place", "k", "other", "factor", "j"], lv := 1, fs := ["_law_draw"], body := b_law_row, Φ := T_law_row, G := G0, hfs := [], hot := false }
noncomputable def d_law_rows : Def := { x := "_law_rows", st := top 34, ps := ["script", "start", "prime", "size", "count"], N := ["script", "start", "prime", "size", "count", "rows", "source", "at"], lv := 2, fs := ["_law_source", "_law_row"], body := b_law_rows, Φ := T_law_rows, G := G0, hfs := [], hot := false }
noncomputable def d_law_count : Def := { x := "_law_count", st := top 43, ps := ["source"], N := ["source"], lv := 1, fs := ["_law_draw"], body := b_law_count, Φ := T_law_count, G := G0, hfs := [], hot := false }
noncomputable def d_law_shaped : Def := { x := "_law_shaped", st := top 46, ps := ["rows", "kind"], N := ["rows", "kind", "row"], lv := 0, fs := [], body := b_law_shaped, Φ := T_law_shaped, G := G0, hfs := [], hot := false }
noncomputable def d_law_sum : Def := { x := "_law_sum", st := top 40, ps := ["prime", "size", "rows", "factors"], N := ["prime", "size", "rows", "factors", "total", "k", "j"], lv := 0, fs := [], body := b_law_sum, Φ := T_law_sum, G := G0, hfs := [], hot := false }
noncomputable def d_law_left : Def := { x := "_law_left", st := top 35, ps := ["prime", "basis", "row"], N := ["prime", "basis", "row", "rest", "pair", "factor", "k"], lv := 0, fs := [], body := b_law_left, Φ := T_law_left, G := G0, hfs := [], hot := false }
noncomputable def d_law_basis : Def := { x := "_law_basis", st := top 36, ps := ["prime", "rows"], N := ["prime", "rows", "basis", "row", "rest", "places", "lead", "factor", "place", "k", "entry"], lv := 1, fs := ["_law_left"], body := b_law_basis, Φ := T_law_basis, G := G0, hfs := [], hot := false }
noncomputable def d_law_says : Def := { x := "_law_says", st := top 47, ps := ["actual", "due"], N := ["actual", "due"], lv := 0, fs := [], body := b_law_says, Φ := T_law_says, G := G0, hfs := [], hot := false }
noncomputable def d_is_whole : Def := { x := "is_whole", st := top 7, ps := ["value"], N := ["value"], lv := 0, fs := [], body := b_is_whole, Φ := T_is_whole, G := G0, hfs := [], hot := false }
noncomputable def d_is_between : Def := { x := "is_between", st := top 9, ps := ["value", "low", "high"], N := ["value", "low", "high"], lv := 1, fs := ["is_whole"], body := b_is_between, Φ := T_is_between, G := G0, hfs := [], hot := false }
noncomputable def d_Basis_init : Def := { x := "Basis.__init__", st := xinit 20 0, ps := ["self", "prime", "size"], N := ["self", "prime", "size"], lv := 2, fs := ["is_between"], body := b_Basis_init, Φ := T_Basis_init, G := G_Basis_init, hfs := [], hot := false, nm := "__init__", cl := some "Basis", cs := cs, nw := [], ms := [] }
noncomputable def d_first_place : Def := { x := "first_place", st := top 19, ps := ["row"], N := ["row", "place"], lv := 0, fs := [], body := b_first_place, Φ := T_first_place, G := G0, hfs := [], hot := false }
noncomputable def d_inverse : Def := { x := "inverse", st := top 13, ps := ["value", "prime"], N := ["value", "prime", "rest", "candidate"], lv := 0, fs := [], body := b_inverse, Φ := T_inverse, G := G0, hfs := [], hot := false }
noncomputable def d_scaled : Def := { x := "scaled", st := top 15, ps := ["row", "factor", "prime"], N := ["row", "factor", "prime", "entry"], lv := 0, fs := [], body := b_scaled, Φ := T_scaled, G := G0, hfs := [], hot := false }
noncomputable def d_plus : Def := { x := "plus", st := top 16, ps := ["first", "second", "prime"], N := ["first", "second", "prime", "place"], lv := 0, fs := [], body := b_plus, Φ := T_plus, G := G0, hfs := [], hot := false }
noncomputable def d_is_row : Def := { x := "is_row", st := top 8, ps := ["value"], N := ["value"], lv := 0, fs := [], body := b_is_row, Φ := T_is_row, G := G0, hfs := [], hot := false }
noncomputable def d_are_numbers : Def := { x := "are_numbers", st := top 10, ps := ["value", "count", "low", "high"], N := ["value", "count", "low", "high", "number"], lv := 2, fs := ["is_row", "is_between"], body := b_are_numbers, Φ := T_are_numbers, G := G0, hfs := [], hot := false }
noncomputable def d_Basis_check_row : Def := { x := "Basis.check_row", st := xinit 20 1, ps := ["self", "row"], N := ["self", "row"], lv := 3, fs := ["are_numbers"], body := b_Basis_check_row, Φ := T_Basis_check_row, G := G0, hfs := [], hot := false, nm := "check_row", cl := some "Basis", cs := cs, nw := [], ms := [] }
noncomputable def d_Basis_parted : Def := { x := "Basis.parted", st := xinit 20 3, ps := ["self", "row"], N := ["self", "row", "rest", "factors", "place", "other", "mix", "factor", "longer"], lv := 4, fs := ["plus", "scaled"], body := b_Basis_parted, Φ := T_Basis_parted, G := G0, hfs := [], hot := false, nm := "parted", cl := some "Basis", cs := cs, nw := [], ms := [("Basis", "check_row")] }
noncomputable def d_Basis_take : Def := { x := "Basis.take", st := xinit 20 4, ps := ["self", "row"], N := ["self", "row", "rest", "factors", "place", "factor", "mix"], lv := 5, fs := ["first_place", "inverse", "scaled"], body := b_Basis_take, Φ := T_Basis_take, G := G_Basis_take, hfs := [], hot := false, nm := "take", cl := some "Basis", cs := cs, nw := [], ms := [("Basis", "parted")] }
noncomputable def d_basis_of : Def := { x := "basis_of", st := top 22, ps := ["prime", "size", "rows"], N := ["prime", "size", "rows", "basis", "row"], lv := 6, fs := [], body := b_basis_of, Φ := T_basis_of, G := G_basis_of, hfs := [], hot := false, cs := cs, nw := ["Basis"], ms := [("Basis", "take")] }
noncomputable def d_mixed : Def := { x := "mixed", st := top 26, ps := ["prime", "size", "rows", "factors"], N := ["prime", "size", "rows", "factors", "total", "at"], lv := 1, fs := ["plus", "scaled"], body := b_mixed, Φ := T_mixed, G := G0, hfs := [], hot := false }
noncomputable def d_is_combination : Def := { x := "is_combination", st := top 28, ps := ["prime", "size", "rows", "row", "factors"], N := ["prime", "size", "rows", "row", "factors"], lv := 7, fs := ["basis_of", "are_numbers", "mixed"], body := b_is_combination, Φ := T_is_combination, G := G0, hfs := [], hot := false, cs := cs, nw := [], ms := [("Basis", "check_row")] }
noncomputable def d_law_is_integer : Def := { x := "_law_is_integer", st := top 37, ps := ["value"], N := ["value"], lv := 0, fs := [], body := b_law_is_integer, Φ := T_law_is_integer, G := G0, hfs := [], hot := false }
noncomputable def d_law_good : Def := { x := "_law_good", st := top 38, ps := ["paper", "count", "prime"], N := ["paper", "count", "prime", "number"], lv := 1, fs := ["_law_is_integer"], body := b_law_good, Φ := T_law_good, G := G0, hfs := [], hot := false }
noncomputable def d_law_combines : Def := { x := "_law_combines", st := top 41, ps := ["prime", "size", "rows", "row", "paper"], N := ["prime", "size", "rows", "row", "paper"], lv := 2, fs := ["_law_good", "_law_sum"], body := b_law_combines, Φ := T_law_combines, G := G0, hfs := [], hot := false }
noncomputable def d_dot : Def := { x := "dot", st := top 14, ps := ["first", "second", "prime"], N := ["first", "second", "prime", "total", "place"], lv := 0, fs := [], body := b_dot, Φ := T_dot, G := G0, hfs := [], hot := false }
noncomputable def d_all_zero : Def := { x := "all_zero", st := top 27, ps := ["prime", "rows", "vector"], N := ["prime", "rows", "vector", "row"], lv := 1, fs := ["dot"], body := b_all_zero, Φ := T_all_zero, G := G0, hfs := [], hot := false }
noncomputable def d_is_twin : Def := { x := "is_twin", st := top 29, ps := ["prime", "size", "rows", "row", "vector"], N := ["prime", "size", "rows", "row", "vector"], lv := 7, fs := ["basis_of", "are_numbers", "all_zero", "dot"], body := b_is_twin, Φ := T_is_twin, G := G0, hfs := [], hot := false, cs := cs, nw := [], ms := [("Basis", "check_row")] }
noncomputable def d_law_dot : Def := { x := "_law_dot", st := top 39, ps := ["first", "second", "prime"], N := ["first", "second", "prime", "total", "place"], lv := 0, fs := [], body := b_law_dot, Φ := T_law_dot, G := G0, hfs := [], hot := false }
noncomputable def d_law_twins : Def := { x := "_law_twins", st := top 42, ps := ["prime", "size", "rows", "row", "paper"], N := ["prime", "size", "rows", "row", "paper", "other"], lv := 2, fs := ["_law_good", "_law_dot"], body := b_law_twins, Φ := T_law_twins, G := G0, hfs := [], hot := false }
noncomputable def d_law_judged : Def := { x := "_law_judged", st := top 48, ps := ["prime", "size", "rows", "row", "given", "paper"], N := ["prime", "size", "rows", "row", "given", "paper"], lv := 8, fs := ["_law_says", "is_combination", "_law_combines", "is_twin", "_law_twins"], body := b_law_judged, Φ := T_law_judged, G := G0, hfs := [], hot := false }
noncomputable def d_Basis_rank : Def := { x := "Basis.rank", st := xinit 20 5, ps := ["self"], N := ["self"], lv := 0, fs := [], body := b_Basis_rank, Φ := T_Basis_rank, G := G0, hfs := [], hot := false, nm := "rank", cl := some "Basis", cs := cs, nw := [], ms := [] }
noncomputable def d_rank_of : Def := { x := "rank_of", st := top 23, ps := ["prime", "size", "rows"], N := ["prime", "size", "rows"], lv := 7, fs := ["basis_of"], body := b_rank_of, Φ := T_rank_of, G := G0, hfs := [], hot := false, cs := cs, nw := [], ms := [("Basis", "rank")] }
noncomputable def d_Basis_combination : Def := { x := "Basis.combination", st := xinit 20 8, ps := ["self", "row"], N := ["self", "row", "rest", "factors"], lv := 5, fs := ["first_place"], body := b_Basis_combination, Φ := T_Basis_combination, G := G0, hfs := [], hot := false, nm := "combination", cl := some "Basis", cs := cs, nw := [], ms := [("Basis", "parted")] }
noncomputable def d_combination_of : Def := { x := "combination_of", st := top 24, ps := ["prime", "size", "rows", "row"], N := ["prime", "size", "rows", "row"], lv := 7, fs := ["basis_of"], body := b_combination_of, Φ := T_combination_of, G := G0, hfs := [], hot := false, cs := cs, nw := [], ms := [("Basis", "combination")] }
noncomputable def d_Basis_rest_of : Def := { x := "Basis.rest_of", st := xinit 20 2, ps := ["self", "row"], N := ["self", "row", "rest", "place", "other", "_"], lv := 4, fs := ["plus", "scaled"], body := b_Basis_rest_of, Φ := T_Basis_rest_of, G := G0, hfs := [], hot := false, nm := "rest_of", cl := some "Basis", cs := cs, nw := [], ms := [("Basis", "check_row")] }
noncomputable def d_Basis_solved : Def := { x := "Basis.solved", st := xinit 20 9, ps := ["self", "place", "value"], N := ["self", "place", "value", "vector", "at", "first", "other", "_"], lv := 1, fs := ["dot"], body := b_Basis_solved, Φ := T_Basis_solved, G := G0, hfs := [], hot := false, nm := "solved", cl := some "Basis", cs := cs, nw := [], ms := [] }
noncomputable def d_Basis_twin : Def := { x := "Basis.twin", st := xinit 20 11, ps := ["self", "row"], N := ["self", "row", "rest", "place"], lv := 5, fs := ["first_place", "inverse"], body := b_Basis_twin, Φ := T_Basis_twin, G := G0, hfs := [], hot := false, nm := "twin", cl := some "Basis", cs := cs, nw := [], ms := [("Basis", "rest_of"), ("Basis", "solved")] }
noncomputable def d_twin_for : Def := { x := "twin_for", st := top 25, ps := ["prime", "size", "rows", "row"], N := ["prime", "size", "rows", "row"], lv := 7, fs := ["basis_of"], body := b_twin_for, Φ := T_twin_for, G := G0, hfs := [], hot := false, cs := cs, nw := [], ms := [("Basis", "twin")] }
noncomputable def d_law_paper : Def := { x := "_law_paper", st := top 45, ps := ["source", "prime", "size", "factors", "found"], N := ["source", "prime", "size", "factors", "found", "kind", "times", "j", "number"], lv := 1, fs := ["_law_draw"], body := b_law_paper, Φ := T_law_paper, G := G0, hfs := [], hot := false }
noncomputable def d_law_spoiled : Def := { x := "_law_spoiled", st := top 44, ps := ["source", "paper", "prime"], N := ["source", "paper", "prime", "kind", "place", "odd"], lv := 1, fs := ["_law_draw"], body := b_law_spoiled, Φ := T_law_spoiled, G := G0, hfs := [], hot := false }
noncomputable def d_law : Def := { x := "law", st := top 49, ps := ["script"], N := ["script", "source", "prime", "size", "rows", "given", "other", "factors", "target", "row", "basis", "known", "rank", "combination", "twin", "found", "turn", "paper", "k", "one", "entry"], lv := 9, fs := ["_law_source", "_law_draw", "_law_rows", "_law_count", "_law_shaped", "_law_row", "_law_sum", "_law_basis", "_law_left", "_law_judged", "rank_of", "combination_of", "twin_for", "_law_is_integer", "_law_combines", "_law_twins", "_law_paper", "_law_spoiled"], body := b_law, Φ := T_law, G := G0, hfs := [], hot := false }
noncomputable def tab : List Def := [d_law_source, d_law_draw, d_law_row, d_law_rows, d_law_count, d_law_shaped, d_law_sum, d_law_left, d_law_basis, d_law_says, d_is_whole, d_is_between, d_Basis_init, d_first_place, d_inverse, d_scaled, d_plus, d_is_row, d_are_numbers, d_Basis_check_row, d_Basis_parted, d_Basis_take, d_basis_of, d_mixed, d_is_combination, d_law_is_integer, d_law_good, d_law_combines, d_dot, d_all_zero, d_is_twin, d_law_dot, d_law_twins, d_law_judged, d_Basis_rank, d_rank_of, d_Basis_combination, d_combination_of, d_Basis_rest_of, d_Basis_solved, d_Basis_twin, d_twin_for, d_law_paper, d_law_spoiled, d_law]
theorem in_law_source : d_law_source ∈ tab := by simp only [tab, List.mem_cons, true_or, or_true]
theorem in_law_draw : d_law_draw ∈ tab := by simp only [tab, List.mem_cons, true_or, or_true]
theorem in_law_row : d_law_row ∈ tab := by simp only [tab, List.mem_cons, true_or, or_true]
theorem in_law_rows : d_law_rows ∈ tab := by simp only [tab, List.mem_cons, true_or, or_true]
theorem in_law_count : d_law_count ∈ tab := by simp only [tab, List.mem_cons, true_or, or_true]
theorem in_law_shaped : d_law_shaped ∈ tab := by simp only [tab, List.mem_cons, true_or, or_true]
theorem in_law_sum : d_law_sum ∈ tab := by simp only [tab, List.mem_cons, true_or, or_true]
theorem in_law_left : d_law_left ∈ tab := by simp only [tab, List.mem_cons, true_or, or_true]
theorem in_law_basis : d_law_basis ∈ tab := by simp only [tab, List.mem_cons, true_or, or_true]
theorem in_law_says : d_law_says ∈ tab := by simp only [tab, List.mem_cons, true_or, or_true]
theorem in_is_whole : d_is_whole ∈ tab := by simp only [tab, List.mem_cons, true_or, or_true]
theorem in_is_between : d_is_between ∈ tab := by simp only [tab, List.mem_cons, true_or, or_true]
theorem in_Basis_init : d_Basis_init ∈ tab := by simp only [tab, List.mem_cons, true_or, or_true]
theorem in_first_place : d_first_place ∈ tab := by simp only [tab, List.mem_cons, true_or, or_true]
theorem in_inverse : d_inverse ∈ tab := by simp only [tab, List.mem_cons, true_or, or_true]
theorem in_scaled : d_scaled ∈ tab := by simp only [tab, List.mem_cons, true_or, or_true]
theorem in_plus : d_plus ∈ tab := by simp only [tab, List.mem_cons, true_or, or_true]
theorem in_is_row : d_is_row ∈ tab := by simp only [tab, List.mem_cons, true_or, or_true]
theorem in_are_numbers : d_are_numbers ∈ tab := by simp only [tab, List.mem_cons, true_or, or_true]
theorem in_Basis_check_row : d_Basis_check_row ∈ tab := by simp only [tab, List.mem_cons, true_or, or_true]
theorem in_Basis_parted : d_Basis_parted ∈ tab := by simp only [tab, List.mem_cons, true_or, or_true]
theorem in_Basis_take : d_Basis_take ∈ tab := by simp only [tab, List.mem_cons, true_or, or_true]
theorem in_basis_of : d_basis_of ∈ tab := by simp only [tab, List.mem_cons, true_or, or_true]
theorem in_mixed : d_mixed ∈ tab := by simp only [tab, List.mem_cons, true_or, or_true]
theorem in_is_combination : d_is_combination ∈ tab := by simp only [tab, List.mem_cons, true_or, or_true]
theorem in_law_is_integer : d_law_is_integer ∈ tab := by simp only [tab, List.mem_cons, true_or, or_true]
theorem in_law_good : d_law_good ∈ tab := by simp only [tab, List.mem_cons, true_or, or_true]
theorem in_law_combines : d_law_combines ∈ tab := by simp only [tab, List.mem_cons, true_or, or_true]
theorem in_dot : d_dot ∈ tab := by simp only [tab, List.mem_cons, true_or, or_true]
theorem in_all_zero : d_all_zero ∈ tab := by simp only [tab, List.mem_cons, true_or, or_true]
theorem in_is_twin : d_is_twin ∈ tab := by simp only [tab, List.mem_cons, true_or, or_true]
theorem in_law_dot : d_law_dot ∈ tab := by simp only [tab, List.mem_cons, true_or, or_true]
theorem in_law_twins : d_law_twins ∈ tab := by simp only [tab, List.mem_cons, true_or, or_true]
theorem in_law_judged : d_law_judged ∈ tab := by simp only [tab, List.mem_cons, true_or, or_true]
theorem in_Basis_rank : d_Basis_rank ∈ tab := by simp only [tab, List.mem_cons, true_or, or_true]
theorem in_rank_of : d_rank_of ∈ tab := by simp only [tab, List.mem_cons, true_or, or_true]
theorem in_Basis_combination : d_Basis_combination ∈ tab := by simp only [tab, List.mem_cons, true_or, or_true]
theorem in_combination_of : d_combination_of ∈ tab := by simp only [tab, List.mem_cons, true_or, or_true]
theorem in_Basis_rest_of : d_Basis_rest_of ∈ tab := by simp only [tab, List.mem_cons, true_or, or_true]
theorem in_Basis_solved : d_Basis_solved ∈ tab := by simp only [tab, List.mem_cons, true_or, or_true]
theorem in_Basis_twin : d_Basis_twin ∈ tab := by simp only [tab, List.mem_cons, true_or, or_true]
theorem in_twin_for : d_twin_for ∈ tab := by simp only [tab, List.mem_cons, true_or, or_true]
theorem in_law_paper : d_law_paper ∈ tab := by simp only [tab, List.mem_cons, true_or, or_true]
theorem in_law_spoiled : d_law_spoiled ∈ tab := by simp only [tab, List.mem_cons, true_or, or_true]
theorem in_law : d_law ∈ tab := by simp only [tab, List.mem_cons, true_or, or_true]
theorem chk_all : ∀ d ∈ tab, defB bs xn sub d = true := by decide +kernel
theorem call_all : ∀ d ∈ tab, ∀ f ∈ d.fs, ∃ d', d' ∈ tab ∧ d'.x = f ∧ d'.lv < d.lv ∧ d.Φ f = some d'.m ∧ (d.hot = true → d'.hot = true) ∧ d'.cl = none := by
  intro d hd
  simp only [tab, List.mem_cons, List.not_mem_nil, or_false] at hd
  rcases hd with rfl | rfl | rfl | rfl | rfl | rfl | rfl | rfl | rfl | rfl | rfl | rfl | rfl | rfl | rfl | rfl | rfl | rfl | rfl | rfl | rfl | rfl | rfl | rfl | rfl | rfl | rfl | rfl | rfl | rfl | rfl | rfl | rfl | rfl | rfl | rfl | rfl | rfl | rfl | rfl | rfl | rfl | rfl | rfl | rfl
  · intro f hf
    simp only [d_law_source, List.mem_cons, List.not_mem_nil, or_false] at hf
  · intro f hf
    simp only [d_law_draw, List.mem_cons, List.not_mem_nil, or_false] at hf
  · intro f hf
    simp only [d_law_row, List.mem_cons, List.not_mem_nil, or_false] at hf
    rcases hf with rfl
    · exact ⟨d_law_draw, in_law_draw, rfl, by decide, t_law_row_law_draw, by decide, rfl⟩
  · intro f hf
    simp only [d_law_rows, List.mem_cons, List.not_mem_nil, or_false] at hf
    rcases hf with rfl | rfl
    · exact ⟨d_law_source, in_law_source, rfl, by decide, t_law_rows_law_source, by decide, rfl⟩
    · exact ⟨d_law_row, in_law_row, rfl, by decide, t_law_rows_law_row, by decide, rfl⟩
  · intro f hf
    simp only [d_law_count, List.mem_cons, List.not_mem_nil, or_false] at hf
    rcases hf with rfl
    · exact ⟨d_law_draw, in_law_draw, rfl, by decide, t_law_count_law_draw, by decide, rfl⟩
  · intro f hf
    simp only [d_law_shaped, List.mem_cons, List.not_mem_nil, or_false] at hf
  · intro f hf
    simp only [d_law_sum, List.mem_cons, List.not_mem_nil, or_false] at hf
  · intro f hf
    simp only [d_law_left, List.mem_cons, List.not_mem_nil, or_false] at hf
  · intro f hf
    simp only [d_law_basis, List.mem_cons, List.not_mem_nil, or_false] at hf
    rcases hf with rfl
    · exact ⟨d_law_left, in_law_left, rfl, by decide, t_law_basis_law_left, by decide, rfl⟩
  · intro f hf
    simp only [d_law_says, List.mem_cons, List.not_mem_nil, or_false] at hf
  · intro f hf
    simp only [d_is_whole, List.mem_cons, List.not_mem_nil, or_false] at hf
  · intro f hf
    simp only [d_is_between, List.mem_cons, List.not_mem_nil, or_false] at hf
    rcases hf with rfl
    · exact ⟨d_is_whole, in_is_whole, rfl, by decide, t_is_between_is_whole, by decide, rfl⟩
  · intro f hf
    simp only [d_Basis_init, List.mem_cons, List.not_mem_nil, or_false] at hf
    rcases hf with rfl
    · exact ⟨d_is_between, in_is_between, rfl, by decide, t_Basis_init_is_between, by decide, rfl⟩
  · intro f hf
    simp only [d_first_place, List.mem_cons, List.not_mem_nil, or_false] at hf
  · intro f hf
    simp only [d_inverse, List.mem_cons, List.not_mem_nil, or_false] at hf
  · intro f hf
    simp only [d_scaled, List.mem_cons, List.not_mem_nil, or_false] at hf
  · intro f hf
    simp only [d_plus, List.mem_cons, List.not_mem_nil, or_false] at hf
  · intro f hf
    simp only [d_is_row, List.mem_cons, List.not_mem_nil, or_false] at hf
  · intro f hf
    simp only [d_are_numbers, List.mem_cons, List.not_mem_nil, or_false] at hf
    rcases hf with rfl | rfl
    · exact ⟨d_is_row, in_is_row, rfl, by decide, t_are_numbers_is_row, by decide, rfl⟩
    · exact ⟨d_is_between, in_is_between, rfl, by decide, t_are_numbers_is_between, by decide, rfl⟩
  · intro f hf
    simp only [d_Basis_check_row, List.mem_cons, List.not_mem_nil, or_false] at hf
    rcases hf with rfl
    · exact ⟨d_are_numbers, in_are_numbers, rfl, by decide, t_Basis_check_row_are_numbers, by decide, rfl⟩
  · intro f hf
    simp only [d_Basis_parted, List.mem_cons, List.not_mem_nil, or_false] at hf
    rcases hf with rfl | rfl
    · exact ⟨d_plus, in_plus, rfl, by decide, t_Basis_parted_plus, by decide, rfl⟩
    · exact ⟨d_scaled, in_scaled, rfl, by decide, t_Basis_parted_scaled, by decide, rfl⟩
  · intro f hf
    simp only [d_Basis_take, List.mem_cons, List.not_mem_nil, or_false] at hf
    rcases hf with rfl | rfl | rfl
    · exact ⟨d_first_place, in_first_place, rfl, by decide, t_Basis_take_first_place, by decide, rfl⟩
    · exact ⟨d_inverse, in_inverse, rfl, by decide, t_Basis_take_inverse, by decide, rfl⟩
    · exact ⟨d_scaled, in_scaled, rfl, by decide, t_Basis_take_scaled, by decide, rfl⟩
  · intro f hf
    simp only [d_basis_of, List.mem_cons, List.not_mem_nil, or_false] at hf
  · intro f hf
    simp only [d_mixed, List.mem_cons, List.not_mem_nil, or_false] at hf
    rcases hf with rfl | rfl
    · exact ⟨d_plus, in_plus, rfl, by decide, t_mixed_plus, by decide, rfl⟩
    · exact ⟨d_scaled, in_scaled, rfl, by decide, t_mixed_scaled, by decide, rfl⟩
  · intro f hf
    simp only [d_is_combination, List.mem_cons, List.not_mem_nil, or_false] at hf
    rcases hf with rfl | rfl | rfl
    · exact ⟨d_basis_of, in_basis_of, rfl, by decide, t_is_combination_basis_of, by decide, rfl⟩
    · exact ⟨d_are_numbers, in_are_numbers, rfl, by decide, t_is_combination_are_numbers, by decide, rfl⟩
    · exact ⟨d_mixed, in_mixed, rfl, by decide, t_is_combination_mixed, by decide, rfl⟩
  · intro f hf
    simp only [d_law_is_integer, List.mem_cons, List.not_mem_nil, or_false] at hf
  · intro f hf
    simp only [d_law_good, List.mem_cons, List.not_mem_nil, or_false] at hf
    rcases hf with rfl
    · exact ⟨d_law_is_integer, in_law_is_integer, rfl, by decide, t_law_good_law_is_integer, by decide, rfl⟩
  · intro f hf
    simp only [d_law_combines, List.mem_cons, List.not_mem_nil, or_false] at hf
    rcases hf with rfl | rfl
    · exact ⟨d_law_good, in_law_good, rfl, by decide, t_law_combines_law_good, by decide, rfl⟩
    · exact ⟨d_law_sum, in_law_sum, rfl, by decide, t_law_combines_law_sum, by decide, rfl⟩
  · intro f hf
    simp only [d_dot, List.mem_cons, List.not_mem_nil, or_false] at hf
  · intro f hf
    simp only [d_all_zero, List.mem_cons, List.not_mem_nil, or_false] at hf
    rcases hf with rfl
    · exact ⟨d_dot, in_dot, rfl, by decide, t_all_zero_dot, by decide, rfl⟩
  · intro f hf
    simp only [d_is_twin, List.mem_cons, List.not_mem_nil, or_false] at hf
    rcases hf with rfl | rfl | rfl | rfl
    · exact ⟨d_basis_of, in_basis_of, rfl, by decide, t_is_twin_basis_of, by decide, rfl⟩
    · exact ⟨d_are_numbers, in_are_numbers, rfl, by decide, t_is_twin_are_numbers, by decide, rfl⟩
    · exact ⟨d_all_zero, in_all_zero, rfl, by decide, t_is_twin_all_zero, by decide, rfl⟩
    · exact ⟨d_dot, in_dot, rfl, by decide, t_is_twin_dot, by decide, rfl⟩
  · intro f hf
    simp only [d_law_dot, List.mem_cons, List.not_mem_nil, or_false] at hf
  · intro f hf
    simp only [d_law_twins, List.mem_cons, List.not_mem_nil, or_false] at hf
    rcases hf with rfl | rfl
    · exact ⟨d_law_good, in_law_good, rfl, by decide, t_law_twins_law_good, by decide, rfl⟩
    · exact ⟨d_law_dot, in_law_dot, rfl, by decide, t_law_twins_law_dot, by decide, rfl⟩
  · intro f hf
    simp only [d_law_judged, List.mem_cons, List.not_mem_nil, or_false] at hf
    rcases hf with rfl | rfl | rfl | rfl | rfl
    · exact ⟨d_law_says, in_law_says, rfl, by decide, t_law_judged_law_says, by decide, rfl⟩
    · exact ⟨d_is_combination, in_is_combination, rfl, by decide, t_law_judged_is_combination, by decide, rfl⟩
    · exact ⟨d_law_combines, in_law_combines, rfl, by decide, t_law_judged_law_combines, by decide, rfl⟩
    · exact ⟨d_is_twin, in_is_twin, rfl, by decide, t_law_judged_is_twin, by decide, rfl⟩
    · exact ⟨d_law_twins, in_law_twins, rfl, by decide, t_law_judged_law_twins, by decide, rfl⟩
  · intro f hf
    simp only [d_Basis_rank, List.mem_cons, List.not_mem_nil, or_false] at hf
  · intro f hf
    simp only [d_rank_of, List.mem_cons, List.not_mem_nil, or_false] at hf
    rcases hf with rfl
    · exact ⟨d_basis_of, in_basis_of, rfl, by decide, t_rank_of_basis_of, by decide, rfl⟩
  · intro f hf
    simp only [d_Basis_combination, List.mem_cons, List.not_mem_nil, or_false] at hf
    rcases hf with rfl
    · exact ⟨d_first_place, in_first_place, rfl, by decide, t_Basis_combination_first_place, by decide, rfl⟩
  · intro f hf
    simp only [d_combination_of, List.mem_cons, List.not_mem_nil, or_false] at hf
    rcases hf with rfl
    · exact ⟨d_basis_of, in_basis_of, rfl, by decide, t_combination_of_basis_of, by decide, rfl⟩
  · intro f hf
    simp only [d_Basis_rest_of, List.mem_cons, List.not_mem_nil, or_false] at hf
    rcases hf with rfl | rfl
    · exact ⟨d_plus, in_plus, rfl, by decide, t_Basis_rest_of_plus, by decide, rfl⟩
    · exact ⟨d_scaled, in_scaled, rfl, by decide, t_Basis_rest_of_scaled, by decide, rfl⟩
  · intro f hf
    simp only [d_Basis_solved, List.mem_cons, List.not_mem_nil, or_false] at hf
    rcases hf with rfl
    · exact ⟨d_dot, in_dot, rfl, by decide, t_Basis_solved_dot, by decide, rfl⟩
  · intro f hf
    simp only [d_Basis_twin, List.mem_cons, List.not_mem_nil, or_false] at hf
    rcases hf with rfl | rfl
    · exact ⟨d_first_place, in_first_place, rfl, by decide, t_Basis_twin_first_place, by decide, rfl⟩
    · exact ⟨d_inverse, in_inverse, rfl, by decide, t_Basis_twin_inverse, by decide, rfl⟩
  · intro f hf
    simp only [d_twin_for, List.mem_cons, List.not_mem_nil, or_false] at hf
    rcases hf with rfl
    · exact ⟨d_basis_of, in_basis_of, rfl, by decide, t_twin_for_basis_of, by decide, rfl⟩
  · intro f hf
    simp only [d_law_paper, List.mem_cons, List.not_mem_nil, or_false] at hf
    rcases hf with rfl
    · exact ⟨d_law_draw, in_law_draw, rfl, by decide, t_law_paper_law_draw, by decide, rfl⟩
  · intro f hf
    simp only [d_law_spoiled, List.mem_cons, List.not_mem_nil, or_false] at hf
    rcases hf with rfl
    · exact ⟨d_law_draw, in_law_draw, rfl, by decide, t_law_spoiled_law_draw, by decide, rfl⟩
  · intro f hf
    simp only [d_law, List.mem_cons, List.not_mem_nil, or_false] at hf
    rcases hf with rfl | rfl | rfl | rfl | rfl | rfl | rfl | rfl | rfl | rfl | rfl | rfl | rfl | rfl | rfl | rfl | rfl | rfl
    · exact ⟨d_law_source, in_law_source, rfl, by decide, t_law_law_source, by decide, rfl⟩
    · exact ⟨d_law_draw, in_law_draw, rfl, by decide, t_law_law_draw, by decide, rfl⟩
    · exact ⟨d_law_rows, in_law_rows, rfl, by decide, t_law_law_rows, by decide, rfl⟩
    · exact ⟨d_law_count, in_law_count, rfl, by decide, t_law_law_count, by decide, rfl⟩
    · exact ⟨d_law_shaped, in_law_shaped, rfl, by decide, t_law_law_shaped, by decide, rfl⟩
    · exact ⟨d_law_row, in_law_row, rfl, by decide, t_law_law_row, by decide, rfl⟩
    · exact ⟨d_law_sum, in_law_sum, rfl, by decide, t_law_law_sum, by decide, rfl⟩
    · exact ⟨d_law_basis, in_law_basis, rfl, by decide, t_law_law_basis, by decide, rfl⟩
    · exact ⟨d_law_left, in_law_left, rfl, by decide, t_law_law_left, by decide, rfl⟩
    · exact ⟨d_law_judged, in_law_judged, rfl, by decide, t_law_law_judged, by decide, rfl⟩
    · exact ⟨d_rank_of, in_rank_of, rfl, by decide, t_law_rank_of, by decide, rfl⟩
    · exact ⟨d_combination_of, in_combination_of, rfl, by decide, t_law_combination_of, by decide, rfl⟩
    · exact ⟨d_twin_for, in_twin_for, rfl, by decide, t_law_twin_for, by decide, rfl⟩
    · exact ⟨d_law_is_integer, in_law_is_integer, rfl, by decide, t_law_law_is_integer, by decide, rfl⟩
    · exact ⟨d_law_combines, in_law_combines, rfl, by decide, t_law_law_combines, by decide, rfl⟩
    · exact ⟨d_law_twins, in_law_twins, rfl, by decide, t_law_law_twins, by decide, rfl⟩
    · exact ⟨d_law_paper, in_law_paper, rfl, by decide, t_law_law_paper, by decide, rfl⟩
    · exact ⟨d_law_spoiled, in_law_spoiled, rfl, by decide, t_law_law_spoiled, by decide, rfl⟩
theorem hcall_all : ∀ d ∈ tab, ∀ f ∈ d.hfs, ∃ d', d' ∈ tab ∧ d'.x = f ∧ d'.lv < d.lv ∧ d.Φ f = some d'.m ∧ d'.hot = true ∧ d'.cl = none := by
  intro d hd
  simp only [tab, List.mem_cons, List.not_mem_nil, or_false] at hd
  rcases hd with rfl | rfl | rfl | rfl | rfl | rfl | rfl | rfl | rfl | rfl | rfl | rfl | rfl | rfl | rfl | rfl | rfl | rfl | rfl | rfl | rfl | rfl | rfl | rfl | rfl | rfl | rfl | rfl | rfl | rfl | rfl | rfl | rfl | rfl | rfl | rfl | rfl | rfl | rfl | rfl | rfl | rfl | rfl | rfl | rfl
  · intro f hf
    simp only [d_law_source, List.mem_cons, List.not_mem_nil, or_false] at hf
  · intro f hf
    simp only [d_law_draw, List.mem_cons, List.not_mem_nil, or_false] at hf
  · intro f hf
    simp only [d_law_row, List.mem_cons, List.not_mem_nil, or_false] at hf
  · intro f hf
    simp only [d_law_rows, List.mem_cons, List.not_mem_nil, or_false] at hf
  · intro f hf
    simp only [d_law_count, List.mem_cons, List.not_mem_nil, or_false] at hf
  · intro f hf
    simp only [d_law_shaped, List.mem_cons, List.not_mem_nil, or_false] at hf
  · intro f hf
    simp only [d_law_sum, List.mem_cons, List.not_mem_nil, or_false] at hf
  · intro f hf
    simp only [d_law_left, List.mem_cons, List.not_mem_nil, or_false] at hf
  · intro f hf
    simp only [d_law_basis, List.mem_cons, List.not_mem_nil, or_false] at hf
  · intro f hf
    simp only [d_law_says, List.mem_cons, List.not_mem_nil, or_false] at hf
  · intro f hf
    simp only [d_is_whole, List.mem_cons, List.not_mem_nil, or_false] at hf
  · intro f hf
    simp only [d_is_between, List.mem_cons, List.not_mem_nil, or_false] at hf
  · intro f hf
    simp only [d_Basis_init, List.mem_cons, List.not_mem_nil, or_false] at hf
  · intro f hf
    simp only [d_first_place, List.mem_cons, List.not_mem_nil, or_false] at hf
  · intro f hf
    simp only [d_inverse, List.mem_cons, List.not_mem_nil, or_false] at hf
  · intro f hf
    simp only [d_scaled, List.mem_cons, List.not_mem_nil, or_false] at hf
  · intro f hf
    simp only [d_plus, List.mem_cons, List.not_mem_nil, or_false] at hf
  · intro f hf
    simp only [d_is_row, List.mem_cons, List.not_mem_nil, or_false] at hf
  · intro f hf
    simp only [d_are_numbers, List.mem_cons, List.not_mem_nil, or_false] at hf
  · intro f hf
    simp only [d_Basis_check_row, List.mem_cons, List.not_mem_nil, or_false] at hf
  · intro f hf
    simp only [d_Basis_parted, List.mem_cons, List.not_mem_nil, or_false] at hf
  · intro f hf
    simp only [d_Basis_take, List.mem_cons, List.not_mem_nil, or_false] at hf
  · intro f hf
    simp only [d_basis_of, List.mem_cons, List.not_mem_nil, or_false] at hf
  · intro f hf
    simp only [d_mixed, List.mem_cons, List.not_mem_nil, or_false] at hf
  · intro f hf
    simp only [d_is_combination, List.mem_cons, List.not_mem_nil, or_false] at hf
  · intro f hf
    simp only [d_law_is_integer, List.mem_cons, List.not_mem_nil, or_false] at hf
  · intro f hf
    simp only [d_law_good, List.mem_cons, List.not_mem_nil, or_false] at hf
  · intro f hf
    simp only [d_law_combines, List.mem_cons, List.not_mem_nil, or_false] at hf
  · intro f hf
    simp only [d_dot, List.mem_cons, List.not_mem_nil, or_false] at hf
  · intro f hf
    simp only [d_all_zero, List.mem_cons, List.not_mem_nil, or_false] at hf
  · intro f hf
    simp only [d_is_twin, List.mem_cons, List.not_mem_nil, or_false] at hf
  · intro f hf
    simp only [d_law_dot, List.mem_cons, List.not_mem_nil, or_false] at hf
  · intro f hf
    simp only [d_law_twins, List.mem_cons, List.not_mem_nil, or_false] at hf
  · intro f hf
    simp only [d_law_judged, List.mem_cons, List.not_mem_nil, or_false] at hf
  · intro f hf
    simp only [d_Basis_rank, List.mem_cons, List.not_mem_nil, or_false] at hf
  · intro f hf
    simp only [d_rank_of, List.mem_cons, List.not_mem_nil, or_false] at hf
  · intro f hf
    simp only [d_Basis_combination, List.mem_cons, List.not_mem_nil, or_false] at hf
  · intro f hf
    simp only [d_combination_of, List.mem_cons, List.not_mem_nil, or_false] at hf
  · intro f hf
    simp only [d_Basis_rest_of, List.mem_cons, List.not_mem_nil, or_false] at hf
  · intro f hf
    simp only [d_Basis_solved, List.mem_cons, List.not_mem_nil, or_false] at hf
  · intro f hf
    simp only [d_Basis_twin, List.mem_cons, List.not_mem_nil, or_false] at hf
  · intro f hf
    simp only [d_twin_for, List.mem_cons, List.not_mem_nil, or_false] at hf
  · intro f hf
    simp only [d_law_paper, List.mem_cons, List.not_mem_nil, or_false] at hf
  · intro f hf
    simp only [d_law_spoiled, List.mem_cons, List.not_mem_nil, or_false] at hf
  · intro f hf
    simp only [d_law, List.mem_cons, List.not_mem_nil, or_false] at hf
theorem cs_all : ∀ d ∈ tab, d.cs = cs ∨ d.cs = [] := by
  intro d hd
  simp only [tab, List.mem_cons, List.not_mem_nil, or_false] at hd
  rcases hd with rfl | rfl | rfl | rfl | rfl | rfl | rfl | rfl | rfl | rfl | rfl | rfl | rfl | rfl | rfl | rfl | rfl | rfl | rfl | rfl | rfl | rfl | rfl | rfl | rfl | rfl | rfl | rfl | rfl | rfl | rfl | rfl | rfl | rfl | rfl | rfl | rfl | rfl | rfl | rfl | rfl | rfl | rfl | rfl | rfl
  · exact .inr rfl
  · exact .inr rfl
  · exact .inr rfl
  · exact .inr rfl
  · exact .inr rfl
  · exact .inr rfl
  · exact .inr rfl
  · exact .inr rfl
  · exact .inr rfl
  · exact .inr rfl
  · exact .inr rfl
  · exact .inr rfl
  · exact .inl rfl
  · exact .inr rfl
  · exact .inr rfl
  · exact .inr rfl
  · exact .inr rfl
  · exact .inr rfl
  · exact .inr rfl
  · exact .inl rfl
  · exact .inl rfl
  · exact .inl rfl
  · exact .inl rfl
  · exact .inr rfl
  · exact .inl rfl
  · exact .inr rfl
  · exact .inr rfl
  · exact .inr rfl
  · exact .inr rfl
  · exact .inr rfl
  · exact .inl rfl
  · exact .inr rfl
  · exact .inr rfl
  · exact .inr rfl
  · exact .inl rfl
  · exact .inl rfl
  · exact .inl rfl
  · exact .inl rfl
  · exact .inl rfl
  · exact .inl rfl
  · exact .inl rfl
  · exact .inl rfl
  · exact .inr rfl
  · exact .inr rfl
  · exact .inr rfl
theorem new_all : ∀ d ∈ tab, ∀ c ∈ d.nw, ∃ d', d' ∈ tab ∧ d'.cl = some c ∧ d'.nm = "__init__" ∧ d'.lv + 1 < d.lv ∧ d.Φ (mName c "__init__") = some d'.m := by
  intro d hd
  simp only [tab, List.mem_cons, List.not_mem_nil, or_false] at hd
  rcases hd with rfl | rfl | rfl | rfl | rfl | rfl | rfl | rfl | rfl | rfl | rfl | rfl | rfl | rfl | rfl | rfl | rfl | rfl | rfl | rfl | rfl | rfl | rfl | rfl | rfl | rfl | rfl | rfl | rfl | rfl | rfl | rfl | rfl | rfl | rfl | rfl | rfl | rfl | rfl | rfl | rfl | rfl | rfl | rfl | rfl
  · intro f hf
    simp only [d_law_source, List.mem_cons, List.not_mem_nil, or_false] at hf
  · intro f hf
    simp only [d_law_draw, List.mem_cons, List.not_mem_nil, or_false] at hf
  · intro f hf
    simp only [d_law_row, List.mem_cons, List.not_mem_nil, or_false] at hf
  · intro f hf
    simp only [d_law_rows, List.mem_cons, List.not_mem_nil, or_false] at hf
  · intro f hf
    simp only [d_law_count, List.mem_cons, List.not_mem_nil, or_false] at hf
  · intro f hf
    simp only [d_law_shaped, List.mem_cons, List.not_mem_nil, or_false] at hf
  · intro f hf
    simp only [d_law_sum, List.mem_cons, List.not_mem_nil, or_false] at hf
  · intro f hf
    simp only [d_law_left, List.mem_cons, List.not_mem_nil, or_false] at hf
  · intro f hf
    simp only [d_law_basis, List.mem_cons, List.not_mem_nil, or_false] at hf
  · intro f hf
    simp only [d_law_says, List.mem_cons, List.not_mem_nil, or_false] at hf
  · intro f hf
    simp only [d_is_whole, List.mem_cons, List.not_mem_nil, or_false] at hf
  · intro f hf
    simp only [d_is_between, List.mem_cons, List.not_mem_nil, or_false] at hf
  · intro f hf
    simp only [d_Basis_init, List.mem_cons, List.not_mem_nil, or_false] at hf
  · intro f hf
    simp only [d_first_place, List.mem_cons, List.not_mem_nil, or_false] at hf
  · intro f hf
    simp only [d_inverse, List.mem_cons, List.not_mem_nil, or_false] at hf
  · intro f hf
    simp only [d_scaled, List.mem_cons, List.not_mem_nil, or_false] at hf
  · intro f hf
    simp only [d_plus, List.mem_cons, List.not_mem_nil, or_false] at hf
  · intro f hf
    simp only [d_is_row, List.mem_cons, List.not_mem_nil, or_false] at hf
  · intro f hf
    simp only [d_are_numbers, List.mem_cons, List.not_mem_nil, or_false] at hf
  · intro f hf
    simp only [d_Basis_check_row, List.mem_cons, List.not_mem_nil, or_false] at hf
  · intro f hf
    simp only [d_Basis_parted, List.mem_cons, List.not_mem_nil, or_false] at hf
  · intro f hf
    simp only [d_Basis_take, List.mem_cons, List.not_mem_nil, or_false] at hf
  · intro f hf
    simp only [d_basis_of, List.mem_cons, List.not_mem_nil, or_false] at hf
    rcases hf with rfl
    · exact ⟨d_Basis_init, in_Basis_init, rfl, rfl, by decide, t_basis_of_Basis_init⟩
  · intro f hf
    simp only [d_mixed, List.mem_cons, List.not_mem_nil, or_false] at hf
  · intro f hf
    simp only [d_is_combination, List.mem_cons, List.not_mem_nil, or_false] at hf
  · intro f hf
    simp only [d_law_is_integer, List.mem_cons, List.not_mem_nil, or_false] at hf
  · intro f hf
    simp only [d_law_good, List.mem_cons, List.not_mem_nil, or_false] at hf
  · intro f hf
    simp only [d_law_combines, List.mem_cons, List.not_mem_nil, or_false] at hf
  · intro f hf
    simp only [d_dot, List.mem_cons, List.not_mem_nil, or_false] at hf
  · intro f hf
    simp only [d_all_zero, List.mem_cons, List.not_mem_nil, or_false] at hf
  · intro f hf
    simp only [d_is_twin, List.mem_cons, List.not_mem_nil, or_false] at hf
  · intro f hf
    simp only [d_law_dot, List.mem_cons, List.not_mem_nil, or_false] at hf
  · intro f hf
    simp only [d_law_twins, List.mem_cons, List.not_mem_nil, or_false] at hf
  · intro f hf
    simp only [d_law_judged, List.mem_cons, List.not_mem_nil, or_false] at hf
  · intro f hf
    simp only [d_Basis_rank, List.mem_cons, List.not_mem_nil, or_false] at hf
  · intro f hf
    simp only [d_rank_of, List.mem_cons, List.not_mem_nil, or_false] at hf
  · intro f hf
    simp only [d_Basis_combination, List.mem_cons, List.not_mem_nil, or_false] at hf
  · intro f hf
    simp only [d_combination_of, List.mem_cons, List.not_mem_nil, or_false] at hf
  · intro f hf
    simp only [d_Basis_rest_of, List.mem_cons, List.not_mem_nil, or_false] at hf
  · intro f hf
    simp only [d_Basis_solved, List.mem_cons, List.not_mem_nil, or_false] at hf
  · intro f hf
    simp only [d_Basis_twin, List.mem_cons, List.not_mem_nil, or_false] at hf
  · intro f hf
    simp only [d_twin_for, List.mem_cons, List.not_mem_nil, or_false] at hf
  · intro f hf
    simp only [d_law_paper, List.mem_cons, List.not_mem_nil, or_false] at hf
  · intro f hf
    simp only [d_law_spoiled, List.mem_cons, List.not_mem_nil, or_false] at hf
  · intro f hf
    simp only [d_law, List.mem_cons, List.not_mem_nil, or_false] at hf
theorem met_all : ∀ d ∈ tab, ∀ p ∈ d.ms, ∃ d', d' ∈ tab ∧ d'.cl = some p.1 ∧ d'.nm = p.2 ∧ p.2 ≠ "__init__" ∧ d'.lv < d.lv ∧ d.Φ (mName p.1 p.2) = some d'.m := by
  intro d hd
  simp only [tab, List.mem_cons, List.not_mem_nil, or_false] at hd
  rcases hd with rfl | rfl | rfl | rfl | rfl | rfl | rfl | rfl | rfl | rfl | rfl | rfl | rfl | rfl | rfl | rfl | rfl | rfl | rfl | rfl | rfl | rfl | rfl | rfl | rfl | rfl | rfl | rfl | rfl | rfl | rfl | rfl | rfl | rfl | rfl | rfl | rfl | rfl | rfl | rfl | rfl | rfl | rfl | rfl | rfl
  · intro f hf
    simp only [d_law_source, List.mem_cons, List.not_mem_nil, or_false] at hf
  · intro f hf
    simp only [d_law_draw, List.mem_cons, List.not_mem_nil, or_false] at hf
  · intro f hf
    simp only [d_law_row, List.mem_cons, List.not_mem_nil, or_false] at hf
  · intro f hf
    simp only [d_law_rows, List.mem_cons, List.not_mem_nil, or_false] at hf
  · intro f hf
    simp only [d_law_count, List.mem_cons, List.not_mem_nil, or_false] at hf
  · intro f hf
    simp only [d_law_shaped, List.mem_cons, List.not_mem_nil, or_false] at hf
  · intro f hf
    simp only [d_law_sum, List.mem_cons, List.not_mem_nil, or_false] at hf
  · intro f hf
    simp only [d_law_left, List.mem_cons, List.not_mem_nil, or_false] at hf
  · intro f hf
    simp only [d_law_basis, List.mem_cons, List.not_mem_nil, or_false] at hf
  · intro f hf
    simp only [d_law_says, List.mem_cons, List.not_mem_nil, or_false] at hf
  · intro f hf
    simp only [d_is_whole, List.mem_cons, List.not_mem_nil, or_false] at hf
  · intro f hf
    simp only [d_is_between, List.mem_cons, List.not_mem_nil, or_false] at hf
  · intro f hf
    simp only [d_Basis_init, List.mem_cons, List.not_mem_nil, or_false] at hf
  · intro f hf
    simp only [d_first_place, List.mem_cons, List.not_mem_nil, or_false] at hf
  · intro f hf
    simp only [d_inverse, List.mem_cons, List.not_mem_nil, or_false] at hf
  · intro f hf
    simp only [d_scaled, List.mem_cons, List.not_mem_nil, or_false] at hf
  · intro f hf
    simp only [d_plus, List.mem_cons, List.not_mem_nil, or_false] at hf
  · intro f hf
    simp only [d_is_row, List.mem_cons, List.not_mem_nil, or_false] at hf
  · intro f hf
    simp only [d_are_numbers, List.mem_cons, List.not_mem_nil, or_false] at hf
  · intro f hf
    simp only [d_Basis_check_row, List.mem_cons, List.not_mem_nil, or_false] at hf
  · intro f hf
    simp only [d_Basis_parted, List.mem_cons, List.not_mem_nil, or_false] at hf
    rcases hf with rfl
    · exact ⟨d_Basis_check_row, in_Basis_check_row, rfl, rfl, by decide, by decide, t_Basis_parted_Basis_check_row⟩
  · intro f hf
    simp only [d_Basis_take, List.mem_cons, List.not_mem_nil, or_false] at hf
    rcases hf with rfl
    · exact ⟨d_Basis_parted, in_Basis_parted, rfl, rfl, by decide, by decide, t_Basis_take_Basis_parted⟩
  · intro f hf
    simp only [d_basis_of, List.mem_cons, List.not_mem_nil, or_false] at hf
    rcases hf with rfl
    · exact ⟨d_Basis_take, in_Basis_take, rfl, rfl, by decide, by decide, t_basis_of_Basis_take⟩
  · intro f hf
    simp only [d_mixed, List.mem_cons, List.not_mem_nil, or_false] at hf
  · intro f hf
    simp only [d_is_combination, List.mem_cons, List.not_mem_nil, or_false] at hf
    rcases hf with rfl
    · exact ⟨d_Basis_check_row, in_Basis_check_row, rfl, rfl, by decide, by decide, t_is_combination_Basis_check_row⟩
  · intro f hf
    simp only [d_law_is_integer, List.mem_cons, List.not_mem_nil, or_false] at hf
  · intro f hf
    simp only [d_law_good, List.mem_cons, List.not_mem_nil, or_false] at hf
  · intro f hf
    simp only [d_law_combines, List.mem_cons, List.not_mem_nil, or_false] at hf
  · intro f hf
    simp only [d_dot, List.mem_cons, List.not_mem_nil, or_false] at hf
  · intro f hf
    simp only [d_all_zero, List.mem_cons, List.not_mem_nil, or_false] at hf
  · intro f hf
    simp only [d_is_twin, List.mem_cons, List.not_mem_nil, or_false] at hf
    rcases hf with rfl
    · exact ⟨d_Basis_check_row, in_Basis_check_row, rfl, rfl, by decide, by decide, t_is_twin_Basis_check_row⟩
  · intro f hf
    simp only [d_law_dot, List.mem_cons, List.not_mem_nil, or_false] at hf
  · intro f hf
    simp only [d_law_twins, List.mem_cons, List.not_mem_nil, or_false] at hf
  · intro f hf
    simp only [d_law_judged, List.mem_cons, List.not_mem_nil, or_false] at hf
  · intro f hf
    simp only [d_Basis_rank, List.mem_cons, List.not_mem_nil, or_false] at hf
  · intro f hf
    simp only [d_rank_of, List.mem_cons, List.not_mem_nil, or_false] at hf
    rcases hf with rfl
    · exact ⟨d_Basis_rank, in_Basis_rank, rfl, rfl, by decide, by decide, t_rank_of_Basis_rank⟩
  · intro f hf
    simp only [d_Basis_combination, List.mem_cons, List.not_mem_nil, or_false] at hf
    rcases hf with rfl
    · exact ⟨d_Basis_parted, in_Basis_parted, rfl, rfl, by decide, by decide, t_Basis_combination_Basis_parted⟩
  · intro f hf
    simp only [d_combination_of, List.mem_cons, List.not_mem_nil, or_false] at hf
    rcases hf with rfl
    · exact ⟨d_Basis_combination, in_Basis_combination, rfl, rfl, by decide, by decide, t_combination_of_Basis_combination⟩
  · intro f hf
    simp only [d_Basis_rest_of, List.mem_cons, List.not_mem_nil, or_false] at hf
    rcases hf with rfl
    · exact ⟨d_Basis_check_row, in_Basis_check_row, rfl, rfl, by decide, by decide, t_Basis_rest_of_Basis_check_row⟩
  · intro f hf
    simp only [d_Basis_solved, List.mem_cons, List.not_mem_nil, or_false] at hf
  · intro f hf
    simp only [d_Basis_twin, List.mem_cons, List.not_mem_nil, or_false] at hf
    rcases hf with rfl | rfl
    · exact ⟨d_Basis_rest_of, in_Basis_rest_of, rfl, rfl, by decide, by decide, t_Basis_twin_Basis_rest_of⟩
    · exact ⟨d_Basis_solved, in_Basis_solved, rfl, rfl, by decide, by decide, t_Basis_twin_Basis_solved⟩
  · intro f hf
    simp only [d_twin_for, List.mem_cons, List.not_mem_nil, or_false] at hf
    rcases hf with rfl
    · exact ⟨d_Basis_twin, in_Basis_twin, rfl, rfl, by decide, by decide, t_twin_for_Basis_twin⟩
  · intro f hf
    simp only [d_law_paper, List.mem_cons, List.not_mem_nil, or_false] at hf
  · intro f hf
    simp only [d_law_spoiled, List.mem_cons, List.not_mem_nil, or_false] at hf
  · intro f hf
    simp only [d_law, List.mem_cons, List.not_mem_nil, or_false] at hf
open PyProof.Rows
set_option maxHeartbeats 0 in
theorem all_mk {P : Program} {w : World} {K : PySem.W.Frag} {h : Heap} {mg : Str → Option Value} {fa : Addr} (X : K.In h) (G : h.Ns mainGlobals mg) (hfa : mg "law" = some (.ref fa))
    {A_Basis : Addr}
    {f0 : Addr} {od0 an0 : Option Addr} {sl0 : Array (Option Value)} {oc0 kV0 dc0 pm0 cd0 ct0 : Value}
    {f1 : Addr} {od1 an1 : Option Addr} {sl1 : Array (Option Value)} {oc1 kV1 dc1 pm1 cd1 ct1 : Value}
    {f2 : Addr} {od2 an2 : Option Addr} {sl2 : Array (Option Value)} {oc2 kV2 dc2 pm2 cd2 ct2 : Value}
    {f3 : Addr} {od3 an3 : Option Addr} {sl3 : Array (Option Value)} {oc3 kV3 dc3 pm3 cd3 ct3 : Value}
    {f4 : Addr} {od4 an4 : Option Addr} {sl4 : Array (Option Value)} {oc4 kV4 dc4 pm4 cd4 ct4 : Value}
    {f5 : Addr} {od5 an5 : Option Addr} {sl5 : Array (Option Value)} {oc5 kV5 dc5 pm5 cd5 ct5 : Value}
    {f6 : Addr} {od6 an6 : Option Addr} {sl6 : Array (Option Value)} {oc6 kV6 dc6 pm6 cd6 ct6 : Value}
    {f7 : Addr} {od7 an7 : Option Addr} {sl7 : Array (Option Value)} {oc7 kV7 dc7 pm7 cd7 ct7 : Value}
    {f8 : Addr} {od8 an8 : Option Addr} {sl8 : Array (Option Value)} {oc8 kV8 dc8 pm8 cd8 ct8 : Value}
    {f9 : Addr} {od9 an9 : Option Addr} {sl9 : Array (Option Value)} {oc9 kV9 dc9 pm9 cd9 ct9 : Value}
    {f10 : Addr} {od10 an10 : Option Addr} {sl10 : Array (Option Value)} {oc10 kV10 dc10 pm10 cd10 ct10 : Value}
    {f11 : Addr} {od11 an11 : Option Addr} {sl11 : Array (Option Value)} {oc11 kV11 dc11 pm11 cd11 ct11 : Value}
    {f12 : Addr} {od12 an12 : Option Addr} {sl12 : Array (Option Value)} {oc12 kV12 dc12 pm12 cd12 ct12 : Value}
    {f13 : Addr} {od13 an13 : Option Addr} {sl13 : Array (Option Value)} {oc13 kV13 dc13 pm13 cd13 ct13 : Value}
    {f14 : Addr} {od14 an14 : Option Addr} {sl14 : Array (Option Value)} {oc14 kV14 dc14 pm14 cd14 ct14 : Value}
    {f15 : Addr} {od15 an15 : Option Addr} {sl15 : Array (Option Value)} {oc15 kV15 dc15 pm15 cd15 ct15 : Value}
    {f16 : Addr} {od16 an16 : Option Addr} {sl16 : Array (Option Value)} {oc16 kV16 dc16 pm16 cd16 ct16 : Value}
    {f17 : Addr} {od17 an17 : Option Addr} {sl17 : Array (Option Value)} {oc17 kV17 dc17 pm17 cd17 ct17 : Value}
    {f18 : Addr} {od18 an18 : Option Addr} {sl18 : Array (Option Value)} {oc18 kV18 dc18 pm18 cd18 ct18 : Value}
    {f19 : Addr} {od19 an19 : Option Addr} {sl19 : Array (Option Value)} {oc19 kV19 dc19 pm19 cd19 ct19 : Value}
    {f20 : Addr} {od20 an20 : Option Addr} {sl20 : Array (Option Value)} {oc20 kV20 dc20 pm20 cd20 ct20 : Value}
    {f21 : Addr} {od21 an21 : Option Addr} {sl21 : Array (Option Value)} {oc21 kV21 dc21 pm21 cd21 ct21 : Value}
    {f22 : Addr} {od22 an22 : Option Addr} {sl22 : Array (Option Value)} {oc22 kV22 dc22 pm22 cd22 ct22 : Value}
    {f23 : Addr} {od23 an23 : Option Addr} {sl23 : Array (Option Value)} {oc23 kV23 dc23 pm23 cd23 ct23 : Value}
    {f24 : Addr} {od24 an24 : Option Addr} {sl24 : Array (Option Value)} {oc24 kV24 dc24 pm24 cd24 ct24 : Value}
    {f25 : Addr} {od25 an25 : Option Addr} {sl25 : Array (Option Value)} {oc25 kV25 dc25 pm25 cd25 ct25 : Value}
    {f26 : Addr} {od26 an26 : Option Addr} {sl26 : Array (Option Value)} {oc26 kV26 dc26 pm26 cd26 ct26 : Value}
    {f27 : Addr} {od27 an27 : Option Addr} {sl27 : Array (Option Value)} {oc27 kV27 dc27 pm27 cd27 ct27 : Value}
    {f28 : Addr} {od28 an28 : Option Addr} {sl28 : Array (Option Value)} {oc28 kV28 dc28 pm28 cd28 ct28 : Value}
    {f29 : Addr} {od29 an29 : Option Addr} {sl29 : Array (Option Value)} {oc29 kV29 dc29 pm29 cd29 ct29 : Value}
    {f30 : Addr} {od30 an30 : Option Addr} {sl30 : Array (Option Value)} {oc30 kV30 dc30 pm30 cd30 ct30 : Value}
    {f31 : Addr} {od31 an31 : Option Addr} {sl31 : Array (Option Value)} {oc31 kV31 dc31 pm31 cd31 ct31 : Value}
    {f32 : Addr} {od32 an32 : Option Addr} {sl32 : Array (Option Value)} {oc32 kV32 dc32 pm32 cd32 ct32 : Value}
    {f33 : Addr} {od33 an33 : Option Addr} {sl33 : Array (Option Value)} {oc33 kV33 dc33 pm33 cd33 ct33 : Value}
    {f34 : Addr} {od34 an34 : Option Addr} {sl34 : Array (Option Value)} {oc34 kV34 dc34 pm34 cd34 ct34 : Value}
    {f35 : Addr} {od35 an35 : Option Addr} {sl35 : Array (Option Value)} {oc35 kV35 dc35 pm35 cd35 ct35 : Value}
    {f36 : Addr} {od36 an36 : Option Addr} {sl36 : Array (Option Value)} {oc36 kV36 dc36 pm36 cd36 ct36 : Value}
    {f37 : Addr} {od37 an37 : Option Addr} {sl37 : Array (Option Value)} {oc37 kV37 dc37 pm37 cd37 ct37 : Value}
    {f38 : Addr} {od38 an38 : Option Addr} {sl38 : Array (Option Value)} {oc38 kV38 dc38 pm38 cd38 ct38 : Value}
    {f39 : Addr} {od39 an39 : Option Addr} {sl39 : Array (Option Value)} {oc39 kV39 dc39 pm39 cd39 ct39 : Value}
    {f40 : Addr} {od40 an40 : Option Addr} {sl40 : Array (Option Value)} {oc40 kV40 dc40 pm40 cd40 ct40 : Value}
    {f41 : Addr} {od41 an41 : Option Addr} {sl41 : Array (Option Value)} {oc41 kV41 dc41 pm41 cd41 ct41 : Value}
    {f42 : Addr} {od42 an42 : Option Addr} {sl42 : Array (Option Value)} {oc42 kV42 dc42 pm42 cd42 ct42 : Value}
    {f43 : Addr} {od43 an43 : Option Addr} {sl43 : Array (Option Value)} {oc43 kV43 dc43 pm43 cd43 ct43 : Value}
    {f44 : Addr} {od44 an44 : Option Addr} {sl44 : Array (Option Value)} {oc44 kV44 dc44 pm44 cd44 ct44 : Value}
    {u_PRIMES : Addr} {o_PRIMES : Obj} {i_PRIMES : Array Value} {e_PRIMES : Nat}
    {u_MOST_ROWS : Tok}
    {A_BadRow : Addr}
    {A_TooMany : Addr}
    {A_BadHouse : Addr}
    {D_BadRow I_BadRow : Addr}
    {D_TooMany I_TooMany : Addr}
    {D_BadHouse I_BadHouse : Addr}
    (n_Basis : PySem.W.nsIn K mainGlobals "Basis" = some (some (.ref A_Basis)))
    (u_Basis : PySem.W.plainGet K A_Basis Str.empty = true) (v_Basis : PySem.W.hasDictIn K A_Basis = true) (w_Basis : PySem.W.plainOver K A_Basis = true) (h_Basis : PySem.W.findIn K (.ref A_Basis) "__setattr__" = some (some (.builtin "object.__setattr__")))
    (j_Basis_prime : PySem.W.findIn K (.ref A_Basis) "prime" = some none)
    (j_Basis_size : PySem.W.findIn K (.ref A_Basis) "size" = some none)
    (j_Basis_reduced : PySem.W.findIn K (.ref A_Basis) "reduced" = some none)
    (j_Basis_taken : PySem.W.findIn K (.ref A_Basis) "taken" = some none)
    (mk_Basis : PySem.W.makesIn K A_Basis = true) (kp_Basis : PySem.W.keepIn K (.ref A_Basis) = true)
    (a0 : PySem.W.nsIn K mainGlobals "_law_source" = some (some (.ref f0)))
    (l0 : K.lookup f0 = some ⟨oc0, od0, .func (PySem.W.fnOf "_law_source" "_law_source" (defArgs d_law_source.st) (defBody d_law_source.st) (defScope d_law_source.st) .none kV0 dc0 pm0 an0 cd0 ct0), sl0⟩)
    (c0 : PySem.W.codeIn K cd0 "_law_source" = true) (k0 : PySem.W.keepIn K (.ref f0) = true)
    (a1 : PySem.W.nsIn K mainGlobals "_law_draw" = some (some (.ref f1)))
    (l1 : K.lookup f1 = some ⟨oc1, od1, .func (PySem.W.fnOf "_law_draw" "_law_draw" (defArgs d_law_draw.st) (defBody d_law_draw.st) (defScope d_law_draw.st) .none kV1 dc1 pm1 an1 cd1 ct1), sl1⟩)
    (c1 : PySem.W.codeIn K cd1 "_law_draw" = true) (k1 : PySem.W.keepIn K (.ref f1) = true)
    (a2 : PySem.W.nsIn K mainGlobals "_law_row" = some (some (.ref f2)))
    (l2 : K.lookup f2 = some ⟨oc2, od2, .func (PySem.W.fnOf "_law_row" "_law_row" (defArgs d_law_row.st) (defBody d_law_row.st) (defScope d_law_row.st) .none kV2 dc2 pm2 an2 cd2 ct2), sl2⟩)
    (c2 : PySem.W.codeIn K cd2 "_law_row" = true) (k2 : PySem.W.keepIn K (.ref f2) = true)
    (a3 : PySem.W.nsIn K mainGlobals "_law_rows" = some (some (.ref f3)))
    (l3 : K.lookup f3 = some ⟨oc3, od3, .func (PySem.W.fnOf "_law_rows" "_law_rows" (defArgs d_law_rows.st) (defBody d_law_rows.st) (defScope d_law_rows.st) .none kV3 dc3 pm3 an3 cd3 ct3), sl3⟩)
    (c3 : PySem.W.codeIn K cd3 "_law_rows" = true) (k3 : PySem.W.keepIn K (.ref f3) = true)
    (a4 : PySem.W.nsIn K mainGlobals "_law_count" = some (some (.ref f4)))
    (l4 : K.lookup f4 = some ⟨oc4, od4, .func (PySem.W.fnOf "_law_count" "_law_count" (defArgs d_law_count.st) (defBody d_law_count.st) (defScope d_law_count.st) .none kV4 dc4 pm4 an4 cd4 ct4), sl4⟩)
    (c4 : PySem.W.codeIn K cd4 "_law_count" = true) (k4 : PySem.W.keepIn K (.ref f4) = true)
    (a5 : PySem.W.nsIn K mainGlobals "_law_shaped" = some (some (.ref f5)))
    (l5 : K.lookup f5 = some ⟨oc5, od5, .func (PySem.W.fnOf "_law_shaped" "_law_shaped" (defArgs d_law_shaped.st) (defBody d_law_shaped.st) (defScope d_law_shaped.st) .none kV5 dc5 pm5 an5 cd5 ct5), sl5⟩)
    (c5 : PySem.W.codeIn K cd5 "_law_shaped" = true) (k5 : PySem.W.keepIn K (.ref f5) = true)
    (a6 : PySem.W.nsIn K mainGlobals "_law_sum" = some (some (.ref f6)))
    (l6 : K.lookup f6 = some ⟨oc6, od6, .func (PySem.W.fnOf "_law_sum" "_law_sum" (defArgs d_law_sum.st) (defBody d_law_sum.st) (defScope d_law_sum.st) .none kV6 dc6 pm6 an6 cd6 ct6), sl6⟩)
    (c6 : PySem.W.codeIn K cd6 "_law_sum" = true) (k6 : PySem.W.keepIn K (.ref f6) = true)
    (a7 : PySem.W.nsIn K mainGlobals "_law_left" = some (some (.ref f7)))
    (l7 : K.lookup f7 = some ⟨oc7, od7, .func (PySem.W.fnOf "_law_left" "_law_left" (defArgs d_law_left.st) (defBody d_law_left.st) (defScope d_law_left.st) .none kV7 dc7 pm7 an7 cd7 ct7), sl7⟩)
    (c7 : PySem.W.codeIn K cd7 "_law_left" = true) (k7 : PySem.W.keepIn K (.ref f7) = true)
    (a8 : PySem.W.nsIn K mainGlobals "_law_basis" = some (some (.ref f8)))
    (l8 : K.lookup f8 = some ⟨oc8, od8, .func (PySem.W.fnOf "_law_basis" "_law_basis" (defArgs d_law_basis.st) (defBody d_law_basis.st) (defScope d_law_basis.st) .none kV8 dc8 pm8 an8 cd8 ct8), sl8⟩)
    (c8 : PySem.W.codeIn K cd8 "_law_basis" = true) (k8 : PySem.W.keepIn K (.ref f8) = true)
    (a9 : PySem.W.nsIn K mainGlobals "_law_says" = some (some (.ref f9)))
    (l9 : K.lookup f9 = some ⟨oc9, od9, .func (PySem.W.fnOf "_law_says" "_law_says" (defArgs d_law_says.st) (defBody d_law_says.st) (defScope d_law_says.st) .none kV9 dc9 pm9 an9 cd9 ct9), sl9⟩)
    (c9 : PySem.W.codeIn K cd9 "_law_says" = true) (k9 : PySem.W.keepIn K (.ref f9) = true)
    (a10 : PySem.W.nsIn K mainGlobals "is_whole" = some (some (.ref f10)))
    (l10 : K.lookup f10 = some ⟨oc10, od10, .func (PySem.W.fnOf "is_whole" "is_whole" (defArgs d_is_whole.st) (defBody d_is_whole.st) (defScope d_is_whole.st) .none kV10 dc10 pm10 an10 cd10 ct10), sl10⟩)
    (c10 : PySem.W.codeIn K cd10 "is_whole" = true) (k10 : PySem.W.keepIn K (.ref f10) = true)
    (a11 : PySem.W.nsIn K mainGlobals "is_between" = some (some (.ref f11)))
    (l11 : K.lookup f11 = some ⟨oc11, od11, .func (PySem.W.fnOf "is_between" "is_between" (defArgs d_is_between.st) (defBody d_is_between.st) (defScope d_is_between.st) .none kV11 dc11 pm11 an11 cd11 ct11), sl11⟩)
    (c11 : PySem.W.codeIn K cd11 "is_between" = true) (k11 : PySem.W.keepIn K (.ref f11) = true)
    (a12 : PySem.W.findIn K (.ref A_Basis) "__init__" = some (some (.ref f12))) (i12 : PySem.W.isFn K (.ref f12) = true)
    (l12 : K.lookup f12 = some ⟨oc12, od12, .func (PySem.W.fnOf "__init__" "Basis.__init__" (defArgs d_Basis_init.st) (defBody d_Basis_init.st) (defScope d_Basis_init.st) .none kV12 dc12 pm12 an12 cd12 ct12), sl12⟩)
    (c12 : PySem.W.codeIn K cd12 "Basis.__init__" = true) (k12 : PySem.W.keepIn K (.ref f12) = true)
    (a13 : PySem.W.nsIn K mainGlobals "first_place" = some (some (.ref f13)))
    (l13 : K.lookup f13 = some ⟨oc13, od13, .func (PySem.W.fnOf "first_place" "first_place" (defArgs d_first_place.st) (defBody d_first_place.st) (defScope d_first_place.st) .none kV13 dc13 pm13 an13 cd13 ct13), sl13⟩)
    (c13 : PySem.W.codeIn K cd13 "first_place" = true) (k13 : PySem.W.keepIn K (.ref f13) = true)
    (a14 : PySem.W.nsIn K mainGlobals "inverse" = some (some (.ref f14)))
    (l14 : K.lookup f14 = some ⟨oc14, od14, .func (PySem.W.fnOf "inverse" "inverse" (defArgs d_inverse.st) (defBody d_inverse.st) (defScope d_inverse.st) .none kV14 dc14 pm14 an14 cd14 ct14), sl14⟩)
    (c14 : PySem.W.codeIn K cd14 "inverse" = true) (k14 : PySem.W.keepIn K (.ref f14) = true)
    (a15 : PySem.W.nsIn K mainGlobals "scaled" = some (some (.ref f15)))
    (l15 : K.lookup f15 = some ⟨oc15, od15, .func (PySem.W.fnOf "scaled" "scaled" (defArgs d_scaled.st) (defBody d_scaled.st) (defScope d_scaled.st) .none kV15 dc15 pm15 an15 cd15 ct15), sl15⟩)
    (c15 : PySem.W.codeIn K cd15 "scaled" = true) (k15 : PySem.W.keepIn K (.ref f15) = true)
    (a16 : PySem.W.nsIn K mainGlobals "plus" = some (some (.ref f16)))
    (l16 : K.lookup f16 = some ⟨oc16, od16, .func (PySem.W.fnOf "plus" "plus" (defArgs d_plus.st) (defBody d_plus.st) (defScope d_plus.st) .none kV16 dc16 pm16 an16 cd16 ct16), sl16⟩)
    (c16 : PySem.W.codeIn K cd16 "plus" = true) (k16 : PySem.W.keepIn K (.ref f16) = true)
    (a17 : PySem.W.nsIn K mainGlobals "is_row" = some (some (.ref f17)))
    (l17 : K.lookup f17 = some ⟨oc17, od17, .func (PySem.W.fnOf "is_row" "is_row" (defArgs d_is_row.st) (defBody d_is_row.st) (defScope d_is_row.st) .none kV17 dc17 pm17 an17 cd17 ct17), sl17⟩)
    (c17 : PySem.W.codeIn K cd17 "is_row" = true) (k17 : PySem.W.keepIn K (.ref f17) = true)
    (a18 : PySem.W.nsIn K mainGlobals "are_numbers" = some (some (.ref f18)))
    (l18 : K.lookup f18 = some ⟨oc18, od18, .func (PySem.W.fnOf "are_numbers" "are_numbers" (defArgs d_are_numbers.st) (defBody d_are_numbers.st) (defScope d_are_numbers.st) .none kV18 dc18 pm18 an18 cd18 ct18), sl18⟩)
    (c18 : PySem.W.codeIn K cd18 "are_numbers" = true) (k18 : PySem.W.keepIn K (.ref f18) = true)
    (a19 : PySem.W.findIn K (.ref A_Basis) "check_row" = some (some (.ref f19))) (i19 : PySem.W.isFn K (.ref f19) = true)
    (l19 : K.lookup f19 = some ⟨oc19, od19, .func (PySem.W.fnOf "check_row" "Basis.check_row" (defArgs d_Basis_check_row.st) (defBody d_Basis_check_row.st) (defScope d_Basis_check_row.st) .none kV19 dc19 pm19 an19 cd19 ct19), sl19⟩)
    (c19 : PySem.W.codeIn K cd19 "Basis.check_row" = true) (k19 : PySem.W.keepIn K (.ref f19) = true)
    (a20 : PySem.W.findIn K (.ref A_Basis) "parted" = some (some (.ref f20))) (i20 : PySem.W.isFn K (.ref f20) = true)
    (l20 : K.lookup f20 = some ⟨oc20, od20, .func (PySem.W.fnOf "parted" "Basis.parted" (defArgs d_Basis_parted.st) (defBody d_Basis_parted.st) (defScope d_Basis_parted.st) .none kV20 dc20 pm20 an20 cd20 ct20), sl20⟩)
    (c20 : PySem.W.codeIn K cd20 "Basis.parted" = true) (k20 : PySem.W.keepIn K (.ref f20) = true)
    (a21 : PySem.W.findIn K (.ref A_Basis) "take" = some (some (.ref f21))) (i21 : PySem.W.isFn K (.ref f21) = true)
    (l21 : K.lookup f21 = some ⟨oc21, od21, .func (PySem.W.fnOf "take" "Basis.take" (defArgs d_Basis_take.st) (defBody d_Basis_take.st) (defScope d_Basis_take.st) .none kV21 dc21 pm21 an21 cd21 ct21), sl21⟩)
    (c21 : PySem.W.codeIn K cd21 "Basis.take" = true) (k21 : PySem.W.keepIn K (.ref f21) = true)
    (a22 : PySem.W.nsIn K mainGlobals "basis_of" = some (some (.ref f22)))
    (l22 : K.lookup f22 = some ⟨oc22, od22, .func (PySem.W.fnOf "basis_of" "basis_of" (defArgs d_basis_of.st) (defBody d_basis_of.st) (defScope d_basis_of.st) .none kV22 dc22 pm22 an22 cd22 ct22), sl22⟩)
    (c22 : PySem.W.codeIn K cd22 "basis_of" = true) (k22 : PySem.W.keepIn K (.ref f22) = true)
    (a23 : PySem.W.nsIn K mainGlobals "mixed" = some (some (.ref f23)))
    (l23 : K.lookup f23 = some ⟨oc23, od23, .func (PySem.W.fnOf "mixed" "mixed" (defArgs d_mixed.st) (defBody d_mixed.st) (defScope d_mixed.st) .none kV23 dc23 pm23 an23 cd23 ct23), sl23⟩)
    (c23 : PySem.W.codeIn K cd23 "mixed" = true) (k23 : PySem.W.keepIn K (.ref f23) = true)
    (a24 : PySem.W.nsIn K mainGlobals "is_combination" = some (some (.ref f24)))
    (l24 : K.lookup f24 = some ⟨oc24, od24, .func (PySem.W.fnOf "is_combination" "is_combination" (defArgs d_is_combination.st) (defBody d_is_combination.st) (defScope d_is_combination.st) .none kV24 dc24 pm24 an24 cd24 ct24), sl24⟩)
    (c24 : PySem.W.codeIn K cd24 "is_combination" = true) (k24 : PySem.W.keepIn K (.ref f24) = true)
    (a25 : PySem.W.nsIn K mainGlobals "_law_is_integer" = some (some (.ref f25)))
    (l25 : K.lookup f25 = some ⟨oc25, od25, .func (PySem.W.fnOf "_law_is_integer" "_law_is_integer" (defArgs d_law_is_integer.st) (defBody d_law_is_integer.st) (defScope d_law_is_integer.st) .none kV25 dc25 pm25 an25 cd25 ct25), sl25⟩)
    (c25 : PySem.W.codeIn K cd25 "_law_is_integer" = true) (k25 : PySem.W.keepIn K (.ref f25) = true)
    (a26 : PySem.W.nsIn K mainGlobals "_law_good" = some (some (.ref f26)))
    (l26 : K.lookup f26 = some ⟨oc26, od26, .func (PySem.W.fnOf "_law_good" "_law_good" (defArgs d_law_good.st) (defBody d_law_good.st) (defScope d_law_good.st) .none kV26 dc26 pm26 an26 cd26 ct26), sl26⟩)
    (c26 : PySem.W.codeIn K cd26 "_law_good" = true) (k26 : PySem.W.keepIn K (.ref f26) = true)
    (a27 : PySem.W.nsIn K mainGlobals "_law_combines" = some (some (.ref f27)))
    (l27 : K.lookup f27 = some ⟨oc27, od27, .func (PySem.W.fnOf "_law_combines" "_law_combines" (defArgs d_law_combines.st) (defBody d_law_combines.st) (defScope d_law_combines.st) .none kV27 dc27 pm27 an27 cd27 ct27), sl27⟩)
    (c27 : PySem.W.codeIn K cd27 "_law_combines" = true) (k27 : PySem.W.keepIn K (.ref f27) = true)
    (a28 : PySem.W.nsIn K mainGlobals "dot" = some (some (.ref f28)))
    (l28 : K.lookup f28 = some ⟨oc28, od28, .func (PySem.W.fnOf "dot" "dot" (defArgs d_dot.st) (defBody d_dot.st) (defScope d_dot.st) .none kV28 dc28 pm28 an28 cd28 ct28), sl28⟩)
    (c28 : PySem.W.codeIn K cd28 "dot" = true) (k28 : PySem.W.keepIn K (.ref f28) = true)
    (a29 : PySem.W.nsIn K mainGlobals "all_zero" = some (some (.ref f29)))
    (l29 : K.lookup f29 = some ⟨oc29, od29, .func (PySem.W.fnOf "all_zero" "all_zero" (defArgs d_all_zero.st) (defBody d_all_zero.st) (defScope d_all_zero.st) .none kV29 dc29 pm29 an29 cd29 ct29), sl29⟩)
    (c29 : PySem.W.codeIn K cd29 "all_zero" = true) (k29 : PySem.W.keepIn K (.ref f29) = true)
    (a30 : PySem.W.nsIn K mainGlobals "is_twin" = some (some (.ref f30)))
    (l30 : K.lookup f30 = some ⟨oc30, od30, .func (PySem.W.fnOf "is_twin" "is_twin" (defArgs d_is_twin.st) (defBody d_is_twin.st) (defScope d_is_twin.st) .none kV30 dc30 pm30 an30 cd30 ct30), sl30⟩)
    (c30 : PySem.W.codeIn K cd30 "is_twin" = true) (k30 : PySem.W.keepIn K (.ref f30) = true)
    (a31 : PySem.W.nsIn K mainGlobals "_law_dot" = some (some (.ref f31)))
    (l31 : K.lookup f31 = some ⟨oc31, od31, .func (PySem.W.fnOf "_law_dot" "_law_dot" (defArgs d_law_dot.st) (defBody d_law_dot.st) (defScope d_law_dot.st) .none kV31 dc31 pm31 an31 cd31 ct31), sl31⟩)
    (c31 : PySem.W.codeIn K cd31 "_law_dot" = true) (k31 : PySem.W.keepIn K (.ref f31) = true)
    (a32 : PySem.W.nsIn K mainGlobals "_law_twins" = some (some (.ref f32)))
    (l32 : K.lookup f32 = some ⟨oc32, od32, .func (PySem.W.fnOf "_law_twins" "_law_twins" (defArgs d_law_twins.st) (defBody d_law_twins.st) (defScope d_law_twins.st) .none kV32 dc32 pm32 an32 cd32 ct32), sl32⟩)
    (c32 : PySem.W.codeIn K cd32 "_law_twins" = true) (k32 : PySem.W.keepIn K (.ref f32) = true)
    (a33 : PySem.W.nsIn K mainGlobals "_law_judged" = some (some (.ref f33)))
    (l33 : K.lookup f33 = some ⟨oc33, od33, .func (PySem.W.fnOf "_law_judged" "_law_judged" (defArgs d_law_judged.st) (defBody d_law_judged.st) (defScope d_law_judged.st) .none kV33 dc33 pm33 an33 cd33 ct33), sl33⟩)
    (c33 : PySem.W.codeIn K cd33 "_law_judged" = true) (k33 : PySem.W.keepIn K (.ref f33) = true)
    (a34 : PySem.W.findIn K (.ref A_Basis) "rank" = some (some (.ref f34))) (i34 : PySem.W.isFn K (.ref f34) = true)
    (l34 : K.lookup f34 = some ⟨oc34, od34, .func (PySem.W.fnOf "rank" "Basis.rank" (defArgs d_Basis_rank.st) (defBody d_Basis_rank.st) (defScope d_Basis_rank.st) .none kV34 dc34 pm34 an34 cd34 ct34), sl34⟩)
    (c34 : PySem.W.codeIn K cd34 "Basis.rank" = true) (k34 : PySem.W.keepIn K (.ref f34) = true)
    (a35 : PySem.W.nsIn K mainGlobals "rank_of" = some (some (.ref f35)))
    (l35 : K.lookup f35 = some ⟨oc35, od35, .func (PySem.W.fnOf "rank_of" "rank_of" (defArgs d_rank_of.st) (defBody d_rank_of.st) (defScope d_rank_of.st) .none kV35 dc35 pm35 an35 cd35 ct35), sl35⟩)
    (c35 : PySem.W.codeIn K cd35 "rank_of" = true) (k35 : PySem.W.keepIn K (.ref f35) = true)
    (a36 : PySem.W.findIn K (.ref A_Basis) "combination" = some (some (.ref f36))) (i36 : PySem.W.isFn K (.ref f36) = true)
    (l36 : K.lookup f36 = some ⟨oc36, od36, .func (PySem.W.fnOf "combination" "Basis.combination" (defArgs d_Basis_combination.st) (defBody d_Basis_combination.st) (defScope d_Basis_combination.st) .none kV36 dc36 pm36 an36 cd36 ct36), sl36⟩)
    (c36 : PySem.W.codeIn K cd36 "Basis.combination" = true) (k36 : PySem.W.keepIn K (.ref f36) = true)
    (a37 : PySem.W.nsIn K mainGlobals "combination_of" = some (some (.ref f37)))
    (l37 : K.lookup f37 = some ⟨oc37, od37, .func (PySem.W.fnOf "combination_of" "combination_of" (defArgs d_combination_of.st) (defBody d_combination_of.st) (defScope d_combination_of.st) .none kV37 dc37 pm37 an37 cd37 ct37), sl37⟩)
    (c37 : PySem.W.codeIn K cd37 "combination_of" = true) (k37 : PySem.W.keepIn K (.ref f37) = true)
    (a38 : PySem.W.findIn K (.ref A_Basis) "rest_of" = some (some (.ref f38))) (i38 : PySem.W.isFn K (.ref f38) = true)
    (l38 : K.lookup f38 = some ⟨oc38, od38, .func (PySem.W.fnOf "rest_of" "Basis.rest_of" (defArgs d_Basis_rest_of.st) (defBody d_Basis_rest_of.st) (defScope d_Basis_rest_of.st) .none kV38 dc38 pm38 an38 cd38 ct38), sl38⟩)
    (c38 : PySem.W.codeIn K cd38 "Basis.rest_of" = true) (k38 : PySem.W.keepIn K (.ref f38) = true)
    (a39 : PySem.W.findIn K (.ref A_Basis) "solved" = some (some (.ref f39))) (i39 : PySem.W.isFn K (.ref f39) = true)
    (l39 : K.lookup f39 = some ⟨oc39, od39, .func (PySem.W.fnOf "solved" "Basis.solved" (defArgs d_Basis_solved.st) (defBody d_Basis_solved.st) (defScope d_Basis_solved.st) .none kV39 dc39 pm39 an39 cd39 ct39), sl39⟩)
    (c39 : PySem.W.codeIn K cd39 "Basis.solved" = true) (k39 : PySem.W.keepIn K (.ref f39) = true)
    (a40 : PySem.W.findIn K (.ref A_Basis) "twin" = some (some (.ref f40))) (i40 : PySem.W.isFn K (.ref f40) = true)
    (l40 : K.lookup f40 = some ⟨oc40, od40, .func (PySem.W.fnOf "twin" "Basis.twin" (defArgs d_Basis_twin.st) (defBody d_Basis_twin.st) (defScope d_Basis_twin.st) .none kV40 dc40 pm40 an40 cd40 ct40), sl40⟩)
    (c40 : PySem.W.codeIn K cd40 "Basis.twin" = true) (k40 : PySem.W.keepIn K (.ref f40) = true)
    (a41 : PySem.W.nsIn K mainGlobals "twin_for" = some (some (.ref f41)))
    (l41 : K.lookup f41 = some ⟨oc41, od41, .func (PySem.W.fnOf "twin_for" "twin_for" (defArgs d_twin_for.st) (defBody d_twin_for.st) (defScope d_twin_for.st) .none kV41 dc41 pm41 an41 cd41 ct41), sl41⟩)
    (c41 : PySem.W.codeIn K cd41 "twin_for" = true) (k41 : PySem.W.keepIn K (.ref f41) = true)
    (a42 : PySem.W.nsIn K mainGlobals "_law_paper" = some (some (.ref f42)))
    (l42 : K.lookup f42 = some ⟨oc42, od42, .func (PySem.W.fnOf "_law_paper" "_law_paper" (defArgs d_law_paper.st) (defBody d_law_paper.st) (defScope d_law_paper.st) .none kV42 dc42 pm42 an42 cd42 ct42), sl42⟩)
    (c42 : PySem.W.codeIn K cd42 "_law_paper" = true) (k42 : PySem.W.keepIn K (.ref f42) = true)
    (a43 : PySem.W.nsIn K mainGlobals "_law_spoiled" = some (some (.ref f43)))
    (l43 : K.lookup f43 = some ⟨oc43, od43, .func (PySem.W.fnOf "_law_spoiled" "_law_spoiled" (defArgs d_law_spoiled.st) (defBody d_law_spoiled.st) (defScope d_law_spoiled.st) .none kV43 dc43 pm43 an43 cd43 ct43), sl43⟩)
    (c43 : PySem.W.codeIn K cd43 "_law_spoiled" = true) (k43 : PySem.W.keepIn K (.ref f43) = true)
    (a44 : PySem.W.nsIn K mainGlobals "law" = some (some (.ref f44)))
    (l44 : K.lookup f44 = some ⟨oc44, od44, .func (PySem.W.fnOf "law" "law" (defArgs d_law.st) (defBody d_law.st) (defScope d_law.st) .none kV44 dc44 pm44 an44 cd44 ct44), sl44⟩)
    (c44 : PySem.W.codeIn K cd44 "law" = true) (k44 : PySem.W.keepIn K (.ref f44) = true)
    (z0 : PySem.W.nsIn K mainGlobals "abs" = some none)
    (z1 : PySem.W.nsIn K mainGlobals "bool" = some none)
    (z2 : PySem.W.nsIn K mainGlobals "int" = some none)
    (z3 : PySem.W.nsIn K mainGlobals "isinstance" = some none)
    (z4 : PySem.W.nsIn K mainGlobals "len" = some none)
    (z5 : PySem.W.nsIn K mainGlobals "list" = some none)
    (z6 : PySem.W.nsIn K mainGlobals "range" = some none)
    (z7 : PySem.W.nsIn K mainGlobals "tuple" = some none)
    (y_PRIMES : PySem.W.nsIn K mainGlobals "PRIMES" = some (some (.ref u_PRIMES))) (r_PRIMES : K.lookup u_PRIMES = some o_PRIMES) (s_PRIMES : o_PRIMES.cls = .type "tuple" ∧ o_PRIMES.data = .seq i_PRIMES e_PRIMES ∧ MP.tupInts i_PRIMES.toList [2, 3, 5, 7, 11, 13, 17, 19, 23, 29, 31] = true ∧ i_PRIMES.size ≤ sizeLine)
    (y_MOST_ROWS : PySem.W.nsIn K mainGlobals "MOST_ROWS" = some (some (.int 60 u_MOST_ROWS)))
    (n_BadRow : PySem.W.nsIn K mainGlobals "BadRow" = some (some (.ref A_BadRow)))
    (n_TooMany : PySem.W.nsIn K mainGlobals "TooMany" = some (some (.ref A_TooMany)))
    (n_BadHouse : PySem.W.nsIn K mainGlobals "BadHouse" = some (some (.ref A_BadHouse)))
    (t_BadRow : SupTxt P K mg A_BadRow D_BadRow I_BadRow (xinit 5 0) ["place"]) (x_BadRow : ExIs K A_BadRow)
    (t_TooMany : SupTxt P K mg A_TooMany D_TooMany I_TooMany (xinit 4 0) ["limit"]) (x_TooMany : ExIs K A_TooMany)
    (t_BadHouse : SupTxt P K mg A_BadHouse D_BadHouse I_BadHouse (xinit 3 0) ["part", "number"]) (x_BadHouse : ExIs K A_BadHouse)
    : ∃ fd : FuncData, (∀ (s : Shared) (u : Value), BindsTo s fd ⟨[u], []⟩ [("script", u)]) ∧ ∀ base : Heap, K.In base → base.Ns mainGlobals mg → FnOk P w K mg base (L2.CX P w) 201 fa fd [("script" : Str)] (MP.spLaw K) := by
  have e := hfa.symm.trans (PySem.W.mg_of X G a44)
  cases e
  have s0 : Stands K mg d_law_source := MP.stand_mk X G d_law_source a0 l0 c0 k0 rfl rfl fun _ _ _ _ _ _ us hl => match us, hl with | [_, _], _ => rfl
  have s1 : Stands K mg d_law_draw := MP.stand_mk X G d_law_draw a1 l1 c1 k1 rfl rfl fun _ _ _ _ _ _ us hl => match us, hl with | [_, _], _ => rfl
  have s2 : Stands K mg d_law_row := MP.stand_mk X G d_law_row a2 l2 c2 k2 rfl rfl fun _ _ _ _ _ _ us hl => match us, hl with | [_, _, _, _], _ => rfl
  have s3 : Stands K mg d_law_rows := MP.stand_mk X G d_law_rows a3 l3 c3 k3 rfl rfl fun _ _ _ _ _ _ us hl => match us, hl with | [_, _, _, _, _], _ => rfl
  have s4 : Stands K mg d_law_count := MP.stand_mk X G d_law_count a4 l4 c4 k4 rfl rfl fun _ _ _ _ _ _ us hl => match us, hl with | [_], _ => rfl
  have s5 : Stands K mg d_law_shaped := MP.stand_mk X G d_law_shaped a5 l5 c5 k5 rfl rfl fun _ _ _ _ _ _ us hl => match us, hl with | [_, _], _ => rfl
  have s6 : Stands K mg d_law_sum := MP.stand_mk X G d_law_sum a6 l6 c6 k6 rfl rfl fun _ _ _ _ _ _ us hl => match us, hl with | [_, _, _, _], _ => rfl
  have s7 : Stands K mg d_law_left := MP.stand_mk X G d_law_left a7 l7 c7 k7 rfl rfl fun _ _ _ _ _ _ us hl => match us, hl with | [_, _, _], _ => rfl
  have s8 : Stands K mg d_law_basis := MP.stand_mk X G d_law_basis a8 l8 c8 k8 rfl rfl fun _ _ _ _ _ _ us hl => match us, hl with | [_, _], _ => rfl
  have s9 : Stands K mg d_law_says := MP.stand_mk X G d_law_says a9 l9 c9 k9 rfl rfl fun _ _ _ _ _ _ us hl => match us, hl with | [_, _], _ => rfl
  have s10 : Stands K mg d_is_whole := MP.stand_mk X G d_is_whole a10 l10 c10 k10 rfl rfl fun _ _ _ _ _ _ us hl => match us, hl with | [_], _ => rfl
  have s11 : Stands K mg d_is_between := MP.stand_mk X G d_is_between a11 l11 c11 k11 rfl rfl fun _ _ _ _ _ _ us hl => match us, hl with | [_, _, _], _ => rfl
  have s12 : Stands K mg d_Basis_init := MP.stand_in X G d_Basis_init rfl rfl n_Basis ⟨u_Basis, v_Basis, w_Basis, h_Basis⟩ ⟨mk_Basis, a12, i12, kp_Basis⟩ l12 c12 k12 fun _ _ _ _ _ _ us hl => match us, hl with | [_, _, _], _ => rfl
  have s13 : Stands K mg d_first_place := MP.stand_mk X G d_first_place a13 l13 c13 k13 rfl rfl fun _ _ _ _ _ _ us hl => match us, hl with | [_], _ => rfl
  have s14 : Stands K mg d_inverse := MP.stand_mk X G d_inverse a14 l14 c14 k14 rfl rfl fun _ _ _ _ _ _ us hl => match us, hl with | [_, _], _ => rfl
  have s15 : Stands K mg d_scaled := MP.stand_mk X G d_scaled a15 l15 c15 k15 rfl rfl fun _ _ _ _ _ _ us hl => match us, hl with | [_, _, _], _ => rfl
  have s16 : Stands K mg d_plus := MP.stand_mk X G d_plus a16 l16 c16 k16 rfl rfl fun _ _ _ _ _ _ us hl => match us, hl with | [_, _, _], _ => rfl
  have s17 : Stands K mg d_is_row := MP.stand_mk X G d_is_row a17 l17 c17 k17 rfl rfl fun _ _ _ _ _ _ us hl => match us, hl with | [_], _ => rfl
  have s18 : Stands K mg d_are_numbers := MP.stand_mk X G d_are_numbers a18 l18 c18 k18 rfl rfl fun _ _ _ _ _ _ us hl => match us, hl with | [_, _, _, _], _ => rfl
  have s19 : Stands K mg d_Basis_check_row := MP.stand_mt X G d_Basis_check_row rfl rfl n_Basis ⟨u_Basis, v_Basis, w_Basis, h_Basis⟩ ⟨a19, i19, k19⟩ l19 c19 fun _ _ _ _ _ _ us hl => match us, hl with | [_, _], _ => rfl
  have s20 : Stands K mg d_Basis_parted := MP.stand_mt X G d_Basis_parted rfl rfl n_Basis ⟨u_Basis, v_Basis, w_Basis, h_Basis⟩ ⟨a20, i20, k20⟩ l20 c20 fun _ _ _ _ _ _ us hl => match us, hl with | [_, _], _ => rfl
  have s21 : Stands K mg d_Basis_take := MP.stand_mt X G d_Basis_take rfl rfl n_Basis ⟨u_Basis, v_Basis, w_Basis, h_Basis⟩ ⟨a21, i21, k21⟩ l21 c21 fun _ _ _ _ _ _ us hl => match us, hl with | [_, _], _ => rfl
  have s22 : Stands K mg d_basis_of := MP.stand_mk X G d_basis_of a22 l22 c22 k22 rfl rfl fun _ _ _ _ _ _ us hl => match us, hl with | [_, _, _], _ => rfl
  have s23 : Stands K mg d_mixed := MP.stand_mk X G d_mixed a23 l23 c23 k23 rfl rfl fun _ _ _ _ _ _ us hl => match us, hl with | [_, _, _, _], _ => rfl
  have s24 : Stands K mg d_is_combination := MP.stand_mk X G d_is_combination a24 l24 c24 k24 rfl rfl fun _ _ _ _ _ _ us hl => match us, hl with | [_, _, _, _, _], _ => rfl
  have s25 : Stands K mg d_law_is_integer := MP.stand_mk X G d_law_is_integer a25 l25 c25 k25 rfl rfl fun _ _ _ _ _ _ us hl => match us, hl with | [_], _ => rfl
  have s26 : Stands K mg d_law_good := MP.stand_mk X G d_law_good a26 l26 c26 k26 rfl rfl fun _ _ _ _ _ _ us hl => match us, hl with | [_, _, _], _ => rfl
  have s27 : Stands K mg d_law_combines := MP.stand_mk X G d_law_combines a27 l27 c27 k27 rfl rfl fun _ _ _ _ _ _ us hl => match us, hl with | [_, _, _, _, _], _ => rfl
  have s28 : Stands K mg d_dot := MP.stand_mk X G d_dot a28 l28 c28 k28 rfl rfl fun _ _ _ _ _ _ us hl => match us, hl with | [_, _, _], _ => rfl
  have s29 : Stands K mg d_all_zero := MP.stand_mk X G d_all_zero a29 l29 c29 k29 rfl rfl fun _ _ _ _ _ _ us hl => match us, hl with | [_, _, _], _ => rfl
  have s30 : Stands K mg d_is_twin := MP.stand_mk X G d_is_twin a30 l30 c30 k30 rfl rfl fun _ _ _ _ _ _ us hl => match us, hl with | [_, _, _, _, _], _ => rfl
  have s31 : Stands K mg d_law_dot := MP.stand_mk X G d_law_dot a31 l31 c31 k31 rfl rfl fun _ _ _ _ _ _ us hl => match us, hl with | [_, _, _], _ => rfl
  have s32 : Stands K mg d_law_twins := MP.stand_mk X G d_law_twins a32 l32 c32 k32 rfl rfl fun _ _ _ _ _ _ us hl => match us, hl with | [_, _, _, _, _], _ => rfl
  have s33 : Stands K mg d_law_judged := MP.stand_mk X G d_law_judged a33 l33 c33 k33 rfl rfl fun _ _ _ _ _ _ us hl => match us, hl with | [_, _, _, _, _, _], _ => rfl
  have s34 : Stands K mg d_Basis_rank := MP.stand_mt X G d_Basis_rank rfl rfl n_Basis ⟨u_Basis, v_Basis, w_Basis, h_Basis⟩ ⟨a34, i34, k34⟩ l34 c34 fun _ _ _ _ _ _ us hl => match us, hl with | [_], _ => rfl
  have s35 : Stands K mg d_rank_of := MP.stand_mk X G d_rank_of a35 l35 c35 k35 rfl rfl fun _ _ _ _ _ _ us hl => match us, hl with | [_, _, _], _ => rfl
  have s36 : Stands K mg d_Basis_combination := MP.stand_mt X G d_Basis_combination rfl rfl n_Basis ⟨u_Basis, v_Basis, w_Basis, h_Basis⟩ ⟨a36, i36, k36⟩ l36 c36 fun _ _ _ _ _ _ us hl => match us, hl with | [_, _], _ => rfl
  have s37 : Stands K mg d_combination_of := MP.stand_mk X G d_combination_of a37 l37 c37 k37 rfl rfl fun _ _ _ _ _ _ us hl => match us, hl with | [_, _, _, _], _ => rfl
  have s38 : Stands K mg d_Basis_rest_of := MP.stand_mt X G d_Basis_rest_of rfl rfl n_Basis ⟨u_Basis, v_Basis, w_Basis, h_Basis⟩ ⟨a38, i38, k38⟩ l38 c38 fun _ _ _ _ _ _ us hl => match us, hl with | [_, _], _ => rfl
  have s39 : Stands K mg d_Basis_solved := MP.stand_mt X G d_Basis_solved rfl rfl n_Basis ⟨u_Basis, v_Basis, w_Basis, h_Basis⟩ ⟨a39, i39, k39⟩ l39 c39 fun _ _ _ _ _ _ us hl => match us, hl with | [_, _, _], _ => rfl
  have s40 : Stands K mg d_Basis_twin := MP.stand_mt X G d_Basis_twin rfl rfl n_Basis ⟨u_Basis, v_Basis, w_Basis, h_Basis⟩ ⟨a40, i40, k40⟩ l40 c40 fun _ _ _ _ _ _ us hl => match us, hl with | [_, _], _ => rfl
  have s41 : Stands K mg d_twin_for := MP.stand_mk X G d_twin_for a41 l41 c41 k41 rfl rfl fun _ _ _ _ _ _ us hl => match us, hl with | [_, _, _, _], _ => rfl
  have s42 : Stands K mg d_law_paper := MP.stand_mk X G d_law_paper a42 l42 c42 k42 rfl rfl fun _ _ _ _ _ _ us hl => match us, hl with | [_, _, _, _, _], _ => rfl
  have s43 : Stands K mg d_law_spoiled := MP.stand_mk X G d_law_spoiled a43 l43 c43 k43 rfl rfl fun _ _ _ _ _ _ us hl => match us, hl with | [_, _, _], _ => rfl
  have s44 : Stands K mg d_law := MP.stand_mk X G d_law a44 l44 c44 k44 rfl rfl fun _ _ _ _ _ _ us hl => match us, hl with | [_], _ => rfl
  have m_BadRow := PySem.W.mg_of X G n_BadRow
  have m_TooMany := PySem.W.mg_of X G n_TooMany
  have m_BadHouse := PySem.W.mg_of X G n_BadHouse
  have p : Prg P ⟨K, mg, fun c => xn.lookup c, false, 0, .none, none, none, [], 0⟩ (fun d => d ∈ tab) bs xn sub := by
    refine ⟨chk_all, call_all, hcall_all, ?_, ?_, new_all, met_all, ?_, ?_, rfl, ?_⟩
    · intro d hd
      simp only [tab, List.mem_cons, List.not_mem_nil, or_false] at hd
      rcases hd with rfl | rfl | rfl | rfl | rfl | rfl | rfl | rfl | rfl | rfl | rfl | rfl | rfl | rfl | rfl | rfl | rfl | rfl | rfl | rfl | rfl | rfl | rfl | rfl | rfl | rfl | rfl | rfl | rfl | rfl | rfl | rfl | rfl | rfl | rfl | rfl | rfl | rfl | rfl | rfl | rfl | rfl | rfl | rfl | rfl
      · exact s0
      · exact s1
      · exact s2
      · exact s3
      · exact s4
      · exact s5
      · exact s6
      · exact s7
      · exact s8
      · exact s9
      · exact s10
      · exact s11
      · exact s12
      · exact s13
      · exact s14
      · exact s15
      · exact s16
      · exact s17
      · exact s18
      · exact s19
      · exact s20
      · exact s21
      · exact s22
      · exact s23
      · exact s24
      · exact s25
      · exact s26
      · exact s27
      · exact s28
      · exact s29
      · exact s30
      · exact s31
      · exact s32
      · exact s33
      · exact s34
      · exact s35
      · exact s36
      · exact s37
      · exact s38
      · exact s39
      · exact s40
      · exact s41
      · exact s42
      · exact s43
      · exact s44
    · intro d hd c l hc
      rcases cs_all d hd with e | e
      · rw [e] at hc
        have hc2 := PySem.mem_of_lookup hc
        simp only [cs, List.mem_cons, List.not_mem_nil, or_false, Prod.mk.injEq] at hc2
        rcases hc2 with ⟨rfl, rfl⟩
        · refine ⟨A_Basis, PySem.W.mg_of X G n_Basis, ⟨u_Basis, v_Basis, w_Basis, h_Basis⟩, fun f hf => ?_⟩
          simp only [List.mem_cons, List.not_mem_nil, or_false] at hf
          rcases hf with rfl | rfl | rfl | rfl
          · exact j_Basis_prime
          · exact j_Basis_size
          · exact j_Basis_reduced
          · exact j_Basis_taken
      · rw [e] at hc; cases hc
    · intro d hd
      simp only [tab, List.mem_cons, List.not_mem_nil, or_false] at hd
      rcases hd with rfl | rfl | rfl | rfl | rfl | rfl | rfl | rfl | rfl | rfl | rfl | rfl | rfl | rfl | rfl | rfl | rfl | rfl | rfl | rfl | rfl | rfl | rfl | rfl | rfl | rfl | rfl | rfl | rfl | rfl | rfl | rfl | rfl | rfl | rfl | rfl | rfl | rfl | rfl | rfl | rfl | rfl | rfl | rfl | rfl
      · intro x v e; cases e
      · intro x v e; cases e
      · intro x v e; cases e
      · intro x v e; cases e
      · intro x v e; cases e
      · intro x v e; cases e
      · intro x v e; cases e
      · intro x v e; cases e
      · intro x v e; cases e
      · intro x v e; cases e
      · intro x v e; cases e
      · intro x v e; cases e
      · refine MP.lk_all (l := ([("PRIMES", Val.tup [Val.int 2, Val.int 3, Val.int 5, Val.int 7, Val.int 11, Val.int 13, Val.int 17, Val.int 19, Val.int 23, Val.int 29, Val.int 31])] : List (Str × Val))) ?_
        intro x v hx
        simp only [List.mem_cons, List.not_mem_nil, or_false, Prod.mk.injEq] at hx
        rcases hx with ⟨rfl, rfl⟩
        · exact MP.gl_tup (PySem.W.mg_of X G y_PRIMES) r_PRIMES s_PRIMES
      · intro x v e; cases e
      · intro x v e; cases e
      · intro x v e; cases e
      · intro x v e; cases e
      · intro x v e; cases e
      · intro x v e; cases e
      · intro x v e; cases e
      · intro x v e; cases e
      · refine MP.lk_all (l := ([("MOST_ROWS", Val.int 60)] : List (Str × Val))) ?_
        intro x v hx
        simp only [List.mem_cons, List.not_mem_nil, or_false, Prod.mk.injEq] at hx
        rcases hx with ⟨rfl, rfl⟩
        · exact MP.gl_int (PySem.W.mg_of X G y_MOST_ROWS)
      · refine MP.lk_all (l := ([("MOST_ROWS", Val.int 60)] : List (Str × Val))) ?_
        intro x v hx
        simp only [List.mem_cons, List.not_mem_nil, or_false, Prod.mk.injEq] at hx
        rcases hx with ⟨rfl, rfl⟩
        · exact MP.gl_int (PySem.W.mg_of X G y_MOST_ROWS)
      · intro x v e; cases e
      · intro x v e; cases e
      · intro x v e; cases e
      · intro x v e; cases e
      · intro x v e; cases e
      · intro x v e; cases e
      · intro x v e; cases e
      · intro x v e; cases e
      · intro x v e; cases e
      · intro x v e; cases e
      · intro x v e; cases e
      · intro x v e; cases e
      · intro x v e; cases e
      · intro x v e; cases e
      · intro x v e; cases e
      · intro x v e; cases e
      · intro x v e; cases e
      · intro x v e; cases e
      · intro x v e; cases e
      · intro x v e; cases e
      · intro x v e; cases e
      · intro x v e; cases e
    · intro x hx
      simp only [bs, List.mem_cons, List.not_mem_nil, or_false] at hx
      rcases hx with rfl | rfl | rfl | rfl | rfl | rfl | rfl | rfl
      · exact PySem.W.mg_none_of X G z0
      · exact PySem.W.mg_none_of X G z1
      · exact PySem.W.mg_none_of X G z2
      · exact PySem.W.mg_none_of X G z3
      · exact PySem.W.mg_none_of X G z4
      · exact PySem.W.mg_none_of X G z5
      · exact PySem.W.mg_none_of X G z6
      · exact PySem.W.mg_none_of X G z7
    · refine MP.xt_mk (hX := rfl) ?_ ?_
      · intro c ns hc
        simp only [xn, List.mem_cons, List.not_mem_nil, or_false, Prod.mk.injEq] at hc
        rcases hc with ⟨rfl, rfl⟩ | ⟨rfl, rfl⟩ | ⟨rfl, rfl⟩
        · exact ⟨_, _, _, _, m_BadRow, t_BadRow, by decide, x_BadRow⟩
        · exact ⟨_, _, _, _, m_TooMany, t_TooMany, by decide, x_TooMany⟩
        · exact ⟨_, _, _, _, m_BadHouse, t_BadHouse, by decide, x_BadHouse⟩
      · intro y D hD
        simp only [sub, List.mem_cons, List.not_mem_nil, or_false, Prod.mk.injEq] at hD
  have F := fun_mk (x := "law") (qual := "law") (st := d_law.st) l44 c44 k44
  exact ⟨_, fun s v => .of_eq rfl, fun base _ _ => MP.law_fn p (d := d_law) in_law (by decide) rfl law_true F⟩
end LawMP
open PySem PySem.W PyProof.Rows in
set_option maxRecDepth 100000 in
set_option maxHeartbeats 0 in
theorem PySem.Challenge.cw_lastdoor_k09_whole_combination_or_twin_holds : PySem.Challenge.rw_lastdoor_k09_whole_combination_or_twin.Holds := by
  w_on; o_law; k_head; (case hw => w_witness2)
  k_fill
  refine MP.walk_mp (l := PySem.Challenge.rw_lastdoor_k09_whole_combination_or_twin) rfl rfl (fun w h Y => PySem.W.kIn_of Y) ?F
  case F =>
    intro w mg fa h KX G hmg
    refine' LawMP.all_mk KX G hmg ?n_Basis ?u_Basis ?v_Basis ?w_Basis ?h_Basis ?j_Basis_prime ?j_Basis_size ?j_Basis_reduced ?j_Basis_taken ?mk_Basis ?kp_Basis ?a0 ?l0 ?c0 ?k0 ?a1 ?l1 ?c1 ?k1 ?a2 ?l2 ?c2 ?k2 ?a3 ?l3 ?c3 ?k3 ?a4 ?l4 ?c4 ?k4 ?a5 ?l5 ?c5 ?k5 ?a6 ?l6 ?c6 ?k6 ?a7 ?l7 ?c7 ?k7 ?a8 ?l8 ?c8 ?k8 ?a9 ?l9 ?c9 ?k9 ?a10 ?l10 ?c10 ?k10 ?a11 ?l11 ?c11 ?k11 ?a12 ?i12 ?l12 ?c12 ?k12 ?a13 ?l13 ?c13 ?k13 ?a14 ?l14 ?c14 ?k14 ?a15 ?l15 ?c15 ?k15 ?a16 ?l16 ?c16 ?k16 ?a17 ?l17 ?c17 ?k17 ?a18 ?l18 ?c18 ?k18 ?a19 ?i19 ?l19 ?c19 ?k19 ?a20 ?i20 ?l20 ?c20 ?k20 ?a21 ?i21 ?l21 ?c21 ?k21 ?a22 ?l22 ?c22 ?k22 ?a23 ?l23 ?c23 ?k23 ?a24 ?l24 ?c24 ?k24 ?a25 ?l25 ?c25 ?k25 ?a26 ?l26 ?c26 ?k26 ?a27 ?l27 ?c27 ?k27 ?a28 ?l28 ?c28 ?k28 ?a29 ?l29 ?c29 ?k29 ?a30 ?l30 ?c30 ?k30 ?a31 ?l31 ?c31 ?k31 ?a32 ?l32 ?c32 ?k32 ?a33 ?l33 ?c33 ?k33 ?a34 ?i34 ?l34 ?c34 ?k34 ?a35 ?l35 ?c35 ?k35 ?a36 ?i36 ?l36 ?c36 ?k36 ?a37 ?l37 ?c37 ?k37 ?a38 ?i38 ?l38 ?c38 ?k38 ?a39 ?i39 ?l39 ?c39 ?k39 ?a40 ?i40 ?l40 ?c40 ?k40 ?a41 ?l41 ?c41 ?k41 ?a42 ?l42 ?c42 ?k42 ?a43 ?l43 ?c43 ?k43 ?a44 ?l44 ?c44 ?k44 ?z0 ?z1 ?z2 ?z3 ?z4 ?z5 ?z6 ?z7 ?y_PRIMES ?r_PRIMES ?s_PRIMES ?y_MOST_ROWS ?n_BadRow ?n_TooMany ?n_BadHouse ?t_BadRow ?x_BadRow ?t_TooMany ?x_TooMany ?t_BadHouse ?x_BadHouse
    (case n_Basis => k_is)
    (case u_Basis => k_is)
    (case v_Basis => k_is)
    (case w_Basis => k_is)
    (case h_Basis => k_is)
    (case j_Basis_prime => k_is)
    (case j_Basis_size => k_is)
    (case j_Basis_reduced => k_is)
    (case j_Basis_taken => k_is)
    (case mk_Basis => k_is)
    (case kp_Basis => k_is)
    (case a0 => k_is)
    (case l0 => k_is)
    (case c0 => k_is)
    (case k0 => k_is)
    (case a1 => k_is)
    (case l1 => k_is)
    (case c1 => k_is)
    (case k1 => k_is)
    (case a2 => k_is)
    (case l2 => k_is)
    (case c2 => k_is)
    (case k2 => k_is)
    (case a3 => k_is)
    (case l3 => k_is)
    (case c3 => k_is)
    (case k3 => k_is)
    (case a4 => k_is)
    (case l4 => k_is)
    (case c4 => k_is)
    (case k4 => k_is)
    (case a5 => k_is)
    (case l5 => k_is)
    (case c5 => k_is)
    (case k5 => k_is)
    (case a6 => k_is)
    (case l6 => k_is)
    (case c6 => k_is)
    (case k6 => k_is)
    (case a7 => k_is)
    (case l7 => k_is)
    (case c7 => k_is)
    (case k7 => k_is)
    (case a8 => k_is)
    (case l8 => k_is)
    (case c8 => k_is)
    (case k8 => k_is)
    (case a9 => k_is)
    (case l9 => k_is)
    (case c9 => k_is)
    (case k9 => k_is)
    (case a10 => k_is)
    (case l10 => k_is)
    (case c10 => k_is)
    (case k10 => k_is)
    (case a11 => k_is)
    (case l11 => k_is)
    (case c11 => k_is)
    (case k11 => k_is)
    (case a12 => k_is)
    (case i12 => k_is)
    (case l12 => k_is)
    (case c12 => k_is)
    (case k12 => k_is)
    (case a13 => k_is)
    (case l13 => k_is)
    (case c13 => k_is)
    (case k13 => k_is)
    (case a14 => k_is)
    (case l14 => k_is)
    (case c14 => k_is)
    (case k14 => k_is)
    (case a15 => k_is)
    (case l15 => k_is)
    (case c15 => k_is)
    (case k15 => k_is)
    (case a16 => k_is)
    (case l16 => k_is)
    (case c16 => k_is)
    (case k16 => k_is)
    (case a17 => k_is)
    (case l17 => k_is)
    (case c17 => k_is)
    (case k17 => k_is)
    (case a18 => k_is)
    (case l18 => k_is)
    (case c18 => k_is)
    (case k18 => k_is)
    (case a19 => k_is)
    (case i19 => k_is)
    (case l19 => k_is)
    (case c19 => k_is)
    (case k19 => k_is)
    (case a20 => k_is)
    (case i20 => k_is)
    (case l20 => k_is)
    (case c20 => k_is)
    (case k20 => k_is)
    (case a21 => k_is)
    (case i21 => k_is)
    (case l21 => k_is)
    (case c21 => k_is)
    (case k21 => k_is)
    (case a22 => k_is)
    (case l22 => k_is)
    (case c22 => k_is)
    (case k22 => k_is)
    (case a23 => k_is)
    (case l23 => k_is)
    (case c23 => k_is)
    (case k23 => k_is)
    (case a24 => k_is)
    (case l24 => k_is)
    (case c24 => k_is)
    (case k24 => k_is)
    (case a25 => k_is)
    (case l25 => k_is)
    (case c25 => k_is)
    (case k25 => k_is)
    (case a26 => k_is)
    (case l26 => k_is)
    (case c26 => k_is)
    (case k26 => k_is)
    (case a27 => k_is)
    (case l27 => k_is)
    (case c27 => k_is)
    (case k27 => k_is)
    (case a28 => k_is)
    (case l28 => k_is)
    (case c28 => k_is)
    (case k28 => k_is)
    (case a29 => k_is)
    (case l29 => k_is)
    (case c29 => k_is)
    (case k29 => k_is)
    (case a30 => k_is)
    (case l30 => k_is)
    (case c30 => k_is)
    (case k30 => k_is)
    (case a31 => k_is)
    (case l31 => k_is)
    (case c31 => k_is)
    (case k31 => k_is)
    (case a32 => k_is)
    (case l32 => k_is)
    (case c32 => k_is)
    (case k32 => k_is)
    (case a33 => k_is)
    (case l33 => k_is)
    (case c33 => k_is)
    (case k33 => k_is)
    (case a34 => k_is)
    (case i34 => k_is)
    (case l34 => k_is)
    (case c34 => k_is)
    (case k34 => k_is)
    (case a35 => k_is)
    (case l35 => k_is)
    (case c35 => k_is)
    (case k35 => k_is)
    (case a36 => k_is)
    (case i36 => k_is)
    (case l36 => k_is)
    (case c36 => k_is)
    (case k36 => k_is)
    (case a37 => k_is)
    (case l37 => k_is)
    (case c37 => k_is)
    (case k37 => k_is)
    (case a38 => k_is)
    (case i38 => k_is)
    (case l38 => k_is)
    (case c38 => k_is)
    (case k38 => k_is)
    (case a39 => k_is)
    (case i39 => k_is)
    (case l39 => k_is)
    (case c39 => k_is)
    (case k39 => k_is)
    (case a40 => k_is)
    (case i40 => k_is)
    (case l40 => k_is)
    (case c40 => k_is)
    (case k40 => k_is)
    (case a41 => k_is)
    (case l41 => k_is)
    (case c41 => k_is)
    (case k41 => k_is)
    (case a42 => k_is)
    (case l42 => k_is)
    (case c42 => k_is)
    (case k42 => k_is)
    (case a43 => k_is)
    (case l43 => k_is)
    (case c43 => k_is)
    (case k43 => k_is)
    (case a44 => k_is)
    (case l44 => k_is)
    (case c44 => k_is)
    (case k44 => k_is)
    (case z0 => k_is)
    (case z1 => k_is)
    (case z2 => k_is)
    (case z3 => k_is)
    (case z4 => k_is)
    (case z5 => k_is)
    (case z6 => k_is)
    (case z7 => k_is)
    (case y_PRIMES => k_is)
    (case r_PRIMES => k_is)
    (case s_PRIMES => exact ⟨rfl, rfl, by decide +kernel, by decide +kernel⟩)
    (case y_MOST_ROWS => k_is)
    (case n_BadRow => k_is)
    (case n_TooMany => k_is)
    (case n_BadHouse => k_is)
    (case t_BadRow => (refine' MP.sup_mk KX G ?b1 ?b2 ?b3 ?b4 ?b5 ?b6 ?b7 ?b8 ?b9 ?c0 ?f1 ?f2 ?f3 ?f4 ?f5 ?f6 ?f7 ?f8 ?f9 ?g1 ?g2 ?g3 ?g4 ?g5 ?g6 ?g7 ?g8; (case b1 => k_is); (case b2 => exact rfl); (case b3 => k_is); (case b4 => k_is); (case b5 => k_is); (case b6 => k_is); (case b7 => k_is); (case b8 => k_is); (case b9 => k_is); (case c0 => first | (refine MP.all1 ?_; k_is) | (refine MP.all2 ?_ ?_ <;> k_is) | (refine MP.all3 ?_ ?_ ?_ <;> k_is)); (case f1 => k_is); (case f2 => k_is); (case f3 => k_is); (case f4 => exact rfl); (case f5 => decide +kernel); (case f6 => k_is); (case f7 => k_is); (case f8 => k_is); (case f9 => ks_is); (case g1 => k_is); (case g2 => decide +kernel); (case g3 => k_is); (case g4 => decide +kernel); (case g5 => decide +kernel); (case g6 => exact rfl); (case g7 => decide +kernel); (case g8 => (first | (exact fun _ _ _ _ _ _ _ _ us hl => (match us, hl with | [_, _], _ => rfl)) | (exact fun _ _ _ _ _ _ _ _ us hl => (match us, hl with | [_, _, _], _ => rfl)) | (exact fun _ _ _ _ _ _ _ _ us hl => (match us, hl with | [_, _, _, _], _ => rfl))))))
    (case x_BadRow => (refine' MP.exis_mk ?e1 ?e2 ?e3 ?e4 ?e5 ?e6 ?e7 ?e8 ?e9; (case e1 => k_is); (case e2 => k_is); (case e3 => k_is); (case e4 => k_is); (case e5 => k_is); (case e6 => k_is); (case e7 => k_is); (case e8 => k_is); (case e9 => k_is)))
    (case t_TooMany => (refine' MP.sup_mk KX G ?b1 ?b2 ?b3 ?b4 ?b5 ?b6 ?b7 ?b8 ?b9 ?c0 ?f1 ?f2 ?f3 ?f4 ?f5 ?f6 ?f7 ?f8 ?f9 ?g1 ?g2 ?g3 ?g4 ?g5 ?g6 ?g7 ?g8; (case b1 => k_is); (case b2 => exact rfl); (case b3 => k_is); (case b4 => k_is); (case b5 => k_is); (case b6 => k_is); (case b7 => k_is); (case b8 => k_is); (case b9 => k_is); (case c0 => first | (refine MP.all1 ?_; k_is) | (refine MP.all2 ?_ ?_ <;> k_is) | (refine MP.all3 ?_ ?_ ?_ <;> k_is)); (case f1 => k_is); (case f2 => k_is); (case f3 => k_is); (case f4 => exact rfl); (case f5 => decide +kernel); (case f6 => k_is); (case f7 => k_is); (case f8 => k_is); (case f9 => ks_is); (case g1 => k_is); (case g2 => decide +kernel); (case g3 => k_is); (case g4 => decide +kernel); (case g5 => decide +kernel); (case g6 => exact rfl); (case g7 => decide +kernel); (case g8 => (first | (exact fun _ _ _ _ _ _ _ _ us hl => (match us, hl with | [_, _], _ => rfl)) | (exact fun _ _ _ _ _ _ _ _ us hl => (match us, hl with | [_, _, _], _ => rfl)) | (exact fun _ _ _ _ _ _ _ _ us hl => (match us, hl with | [_, _, _, _], _ => rfl))))))
    (case x_TooMany => (refine' MP.exis_mk ?e1 ?e2 ?e3 ?e4 ?e5 ?e6 ?e7 ?e8 ?e9; (case e1 => k_is); (case e2 => k_is); (case e3 => k_is); (case e4 => k_is); (case e5 => k_is); (case e6 => k_is); (case e7 => k_is); (case e8 => k_is); (case e9 => k_is)))
    (case t_BadHouse => (refine' MP.sup_mk KX G ?b1 ?b2 ?b3 ?b4 ?b5 ?b6 ?b7 ?b8 ?b9 ?c0 ?f1 ?f2 ?f3 ?f4 ?f5 ?f6 ?f7 ?f8 ?f9 ?g1 ?g2 ?g3 ?g4 ?g5 ?g6 ?g7 ?g8; (case b1 => k_is); (case b2 => exact rfl); (case b3 => k_is); (case b4 => k_is); (case b5 => k_is); (case b6 => k_is); (case b7 => k_is); (case b8 => k_is); (case b9 => k_is); (case c0 => first | (refine MP.all1 ?_; k_is) | (refine MP.all2 ?_ ?_ <;> k_is) | (refine MP.all3 ?_ ?_ ?_ <;> k_is)); (case f1 => k_is); (case f2 => k_is); (case f3 => k_is); (case f4 => exact rfl); (case f5 => decide +kernel); (case f6 => k_is); (case f7 => k_is); (case f8 => k_is); (case f9 => ks_is); (case g1 => k_is); (case g2 => decide +kernel); (case g3 => k_is); (case g4 => decide +kernel); (case g5 => decide +kernel); (case g6 => exact rfl); (case g7 => decide +kernel); (case g8 => (first | (exact fun _ _ _ _ _ _ _ _ us hl => (match us, hl with | [_, _], _ => rfl)) | (exact fun _ _ _ _ _ _ _ _ us hl => (match us, hl with | [_, _, _], _ => rfl)) | (exact fun _ _ _ _ _ _ _ _ us hl => (match us, hl with | [_, _, _, _], _ => rfl))))))
    (case x_BadHouse => (refine' MP.exis_mk ?e1 ?e2 ?e3 ?e4 ?e5 ?e6 ?e7 ?e8 ?e9; (case e1 => k_is); (case e2 => k_is); (case e3 => k_is); (case e4 => k_is); (case e5 => k_is); (case e6 => k_is); (case e7 => k_is); (case e8 => k_is); (case e9 => k_is)))
#print axioms PySem.Challenge.cw_lastdoor_k09_whole_combination_or_twin_holds
