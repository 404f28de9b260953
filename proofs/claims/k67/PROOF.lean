import PyProof.Rows.All
import Wide.All
import OpenK.AllK
import Wide.FinOn
import HandS.ForMost
import HandS.CallSlots
import HandS.TryOnly
import HandS.ForExc
import HandS.IsInst
import HandS.Strs
import HandS.SortInts
import HandS.TupAny
import HandS.TupMul
import HandS.Wide
import HandS.SetFor
import HandS.EndBits
import KE.SortData
import KE.DataCmp
import KE.KSortedM
import KE.KExcSuper
import HandS.ExcInit
import HandS.ExcSuper
import KE.KExcIs
import HandS.ExcField
import HandS.HotCalls
import KE.GoesRaise
import HandS.TryMany
import KE.RegKSuper
import KE.RegKTryMore
import KE.RegKIsAll
import PySem.Challenge.RW_lastdoor_k67_refusals_of_routes
set_option Elab.async false
set_option linter.all false
set_option maxRecDepth 100000
/-! MiniPy: a small language of Python texts with data as trees; its meaning as plain functions. -/
namespace MP
open PySem L2

inductive Val where
  | non | bl (b : Bool) | int (i : Int) | str (s : Str)
  | tup (xs : List Val) | lst (xs : List Val) | loc (n : Nat) | scr (xs : List Val)
  | obj (c : Str) (ns : List Str) (xs : List Val)

inductive Cell where
  | lst (xs : List Val) | frz (xs : List Val) | dk (kvs : List (Key × Val)) | dead
  | obj (c : Str) (ns : List Str) (xs : List Val) | fob (c : Str) (ns : List Str) (xs : List Val)
abbrev Store := List Cell
abbrev Env := List (Option Val)
inductive R (α : Type) where
  | ok (a : α) | exn (c : Str) (fs : List Val) (st : Store) | stuck
abbrev RV := R (Val × Store)
abbrev Mir := List Val → Store → RV
abbrev Tab := Str → Option Mir

def R.bind {α β : Type} (r : R α) (f : α → R β) : R β := match r with
  | .ok a => f a
  | .exn c fs st => .exn c fs st
  | .stuck => .stuck
@[simp] theorem R.bind_ok {α β : Type} (a : α) (f : α → R β) : (R.ok a).bind f = f a := rfl
@[simp] theorem R.bind_exn {α β : Type} (c : Str) (fs : List Val) (st : Store) (f : α → R β) : (R.exn c fs st).bind f = .exn c fs st := rfl
@[simp] theorem R.bind_stuck {α β : Type} (f : α → R β) : (R.stuck : R α).bind f = .stuck := rfl

/-- the largest length of a list, a tuple, a text that is made -/
def szMax : Nat := 100000

inductive BOp where | add | sub | mul | fdiv | mod | pow
  deriving DecidableEq
inductive COp where | eq | ne | lt | le | gt | ge | is_ | isnot | in_ | notin
  deriving DecidableEq
inductive Ty where | int | bool | str | tuple | list
  deriving DecidableEq
/-- built-in functions of one argument that give a plain value -/
inductive F1 where | len | int | abs | bool | sum | min | max | lenset
  deriving DecidableEq
/-- .. that give a new list or tuple -/
inductive G1 where | list | tuple | sorted | sortset
  deriving DecidableEq

mutual
inductive E where
  | var (i : Nat) | int (i : Int) | bl (b : Bool) | non | str (s : Str) | glob (x : Str)
  | tup (es : Es) | lst (m : Bool) (es : Es)
  | bin (m : Bool) (op : BOp) (a b : E) | neg (a : E) | not (a : E)
  | cmp (op : COp) (a b : E) | chain (op op' : COp) (a b c : E)
  | bo (k : Bool) (es : Es) | ifx (c a b : E)
  | call (f : Str) (es : Es)
  | isi (a : E) (t : Ty) | isi2 (a : E) (t u : Ty)
  | f1 (f : F1) (a : E) | mm (k : Bool) (a b : E) | g1 (m : Bool) (f : G1) (a : E)
  | sub (a i : E) | slc (m : Bool) (a lo hi : E) | no
  | rng (es : Es)
  | comp (m : Bool) (x : Nat) (it c elt : E)
  | frz (a : E)
  | app (o a : E)
  | xfld (h j : Nat) | xis (h : Nat) (ys : List (Str × List Str))
  | fld (c f : Str) (a : E) | new (c : Str) (es : Es) | meth (c m : Str) (o : E) (es : Es)
inductive Es where
  | nil | cons (e : E) (r : Es)
end

mutual
inductive S where
  | asg (i : Nat) (e : E)
  | asgt (is : List Nat) (e : E) | fort (is : List Nat) (it : E) (b : Ss)
  | sto (o i e : E)
  | stf (c f : Str) (o e : E)
  | expr (e : E)
  | ite (c : E) (a b : Ss)
  | forr (i : Nat) (it : E) (body : Ss)
  | whil (n : Nat) (c : E) (body : Ss)
  | ret (e : E) | retn | pass | brk | cnt | never
  | raise (c : Str) (es : Es)
  | tryx (b : Ss) (hs : Hs)
inductive Ss where
  | nil | cons (s : S) (r : Ss)
inductive Hs where
  | nil | cons (x : Str) (D : List Str) (sl : Option Nat) (b : Ss) (r : Hs)
end

/-! ### values -/
/-- the items of a list or a tuple; true: a list -/
def seqOf (st : Store) : Val → Option (Bool × List Val)
  | .tup xs => some (false, xs)
  | .lst xs => some (true, xs)
  | .scr xs => some (true, xs)
  | .loc n => match st[n]? with
    | some (.lst xs) => some (true, xs)
    | some (.frz xs) => some (true, xs)
    | _ => none
  | _ => none
/-- the items of a list that was made by the program -/
def lstOf (st : Store) : Val → Option (List Val)
  | .lst xs => some xs
  | .loc n => match st[n]? with
    | some (.lst xs) => some xs
    | some (.frz xs) => some xs
    | _ => none
  | _ => none

mutual
def toPD : Val → PyData
  | .non => .none
  | .bl b => .bool b
  | .int i => .int i
  | .str s => .str s
  | .tup xs => .tuple (toPDs xs)
  | .lst xs => .list (toPDs xs)
  | .scr xs => .list (toPDs xs)
  | .loc _ => .dict []
  | .obj _ _ _ => .dict []
def toPDs : List Val → List PyData
  | [] => []
  | x :: xs => toPD x :: toPDs xs
end

def newL (m : Bool) (xs : List Val) (st : Store) : RV :=
  if xs.length ≤ szMax then (if m then .ok (.loc st.length, st ++ [.lst xs]) else .ok (.lst xs, st)) else .stuck
def newT (xs : List Val) (st : Store) : RV := if xs.length ≤ szMax then .ok (.tup xs, st) else .stuck

def mulOk (i j : Int) : Bool := decide (i.natAbs.log2 + j.natAbs.log2 < 100000000)
def binV (m : Bool) (op : BOp) (x y : Val) (st : Store) : RV := match op, x, y with
  | .add, .int i, .int j => .ok (.int (i + j), st)
  | .sub, .int i, .int j => .ok (.int (i - j), st)
  | .mul, .int i, .int j => if mulOk i j then .ok (.int (i * j), st) else .stuck
  | .fdiv, .int i, .int j => if 0 < j ∧ j.natAbs.log2 < 9000 then .ok (.int (i / j), st) else .stuck
  | .mod, .int i, .int j => if 0 < j then .ok (.int (i % j), st) else .stuck
  | .pow, .int i, .int j => if 0 ≤ j ∧ j ≤ 1000000 ∧ i.natAbs < 2 ^ 64 then .ok (.int (i ^ j.toNat), st) else .stuck
  | .add, .str a, .str b => if a.length + b.length ≤ szMax then .ok (.str (a ++ b), st) else .stuck
  | .add, .tup xs, .tup ys => newT (xs ++ ys) st
  | .mul, .tup xs, .int k => if xs.isEmpty = false ∧ 2 ≤ k ∧ k ≤ 1000 ∧ xs.length ≤ 100 then newT (List.replicate k.toNat xs).flatten st else .stuck
  | .add, a, b => match lstOf st a, lstOf st b with
    | some xs, some ys => newL m (xs ++ ys) st
    | _, _ => .stuck
  | .mul, a, .int k => match lstOf st a with
    | some xs => if xs.length * k.toNat ≤ szMax ∧ k ≤ 1000000 ∧ -1000000 ≤ k then newL m (List.replicate k.toNat xs).flatten st else .stuck
    | none => .stuck
  | _, _, _ => .stuck

def flat : Val → Bool
  | .non => true | .bl _ => true | .int _ => true | .str _ => true | _ => false
/-- == of flat things, as Python has it -/
def eqF (x y : Val) : Bool := PyData.eqv (toPD x) (toPD y)
/-- can be ordered, place by place -/
def ordOk (x y : Val) : Bool := PySem.W.alike (toPD x) (toPD y) && (PyData.canLay0 (toPD x) && (PyData.canLay0 (toPD y) && decide ((toPD x).depth ≤ 60))) && (match x with | .non => false | _ => true)
def ltV (x y : Val) : Bool := PySem.W.dataLt (toPD x) (toPD y)
def cmpV (op : COp) (x y : Val) (st : Store) : R Bool := match op with
  | .eq => if SeqAt.shaped (toPD x) && SeqAt.shaped (toPD y) then .ok (PyData.eqv (toPD x) (toPD y)) else .stuck
  | .ne => if SeqAt.shaped (toPD x) && SeqAt.shaped (toPD y) then .ok (!PyData.eqv (toPD x) (toPD y)) else .stuck
  | .lt => match x, y with | .int i, .int j => .ok (decide (i < j)) | x, y => if ordOk x y then .ok (ltV x y) else .stuck
  | .le => match x, y with | .int i, .int j => .ok (decide (i ≤ j)) | x, y => if ordOk x y then .ok (!ltV y x) else .stuck
  | .gt => match x, y with | .int i, .int j => .ok (decide (j < i)) | x, y => if ordOk x y then .ok (ltV y x) else .stuck
  | .ge => match x, y with | .int i, .int j => .ok (decide (j ≤ i)) | x, y => if ordOk x y then .ok (!ltV x y) else .stuck
  | .is_ => match y with | .non => .ok (match x with | .non => true | _ => false) | .bl b => .ok (match x with | .bl a => a == b | _ => false) | _ => .stuck
  | .isnot => match y with | .non => .ok (match x with | .non => false | _ => true) | .bl b => .ok (match x with | .bl a => !(a == b) | _ => true) | _ => .stuck
  | .in_ => match seqOf st y with
    | some (_, xs) => if flat x && xs.all flat then .ok (xs.any fun z => eqF z x) else .stuck
    | none => .stuck
  | .notin => match seqOf st y with
    | some (_, xs) => if flat x && xs.all flat then .ok (!(xs.any fun z => eqF z x)) else .stuck
    | none => .stuck

def truth (st : Store) (x : Val) : R Bool := match x with
  | .non => .ok false
  | .bl b => .ok b
  | .int i => .ok (i != 0)
  | .str y => if y.length ≤ szMax then .ok ((y.length : Int) != 0) else .stuck
  | v => match seqOf st v with
    | some (_, xs) => .ok (!xs.isEmpty)
    | none => .stuck

def isL : Ty → Bool
  | .list => true
  | _ => false
def isTy (st : Store) (t : Ty) : Val → Option Bool
  | .obj _ _ _ => none
  | .non => some false
  | .bl _ => some (match t with | .bool => true | .int => true | _ => false)
  | .int _ => some (match t with | .int => true | _ => false)
  | .str _ => some (match t with | .str => true | _ => false)
  | .tup _ => some (match t with | .tuple => true | _ => false)
  | .lst _ => some (isL t)
  | .scr _ => some (isL t)
  | .loc n => match st[n]? with
    | some (.lst _) => some (isL t)
    | some (.frz _) => some (isL t)
    | _ => none

def asInts : List Val → Option (List Int)
  | [] => some []
  | .int i :: xs => (asInts xs).map (i :: ·)
  | _ :: _ => none
def minL (k : Int) : List Int → Int
  | [] => k
  | x :: xs => minL (if x < k then x else k) xs
def maxL (k : Int) : List Int → Int
  | [] => k
  | x :: xs => maxL (if k < x then x else k) xs
def insI (k : Int) : List Int → List Int
  | [] => [k]
  | x :: xs => if k ≤ x then k :: x :: xs else x :: insI k xs
def sortI : List Int → List Int
  | [] => []
  | x :: xs => insI x (sortI xs)
def insS (k : Int) : List Int → List Int
  | [] => [k]
  | x :: xs => if k < x then k :: x :: xs else if k = x then x :: xs else x :: insS k xs
def sortS : List Int → List Int
  | [] => []
  | x :: xs => insS x (sortS xs)

def f1V (f : F1) (x : Val) (st : Store) : R Val := match f with
  | .len => match x with
    | .str y => if y.length ≤ szMax then .ok (.int y.length) else .stuck
    | v => match seqOf st v with
      | some (_, xs) => .ok (.int xs.length)
      | none => .stuck
  | .int => match x with | .int i => .ok (.int i) | .bl b => .ok (.int (if b then 1 else 0)) | _ => .stuck
  | .abs => match x with | .int i => .ok (.int (if i < 0 then -i else i)) | _ => .stuck
  | .bool => match x with | .int i => .ok (.bl (i != 0)) | .bl b => .ok (.bl b) | _ => .stuck
  | .sum => match seqOf st x with
    | some (true, xs) => match asInts xs with | some ns => .ok (.int ns.sum) | none => .stuck
    | _ => .stuck
  | .min => match seqOf st x with
    | some (true, xs) => match asInts xs with | some (n :: ns) => .ok (.int (minL n ns)) | _ => .stuck
    | _ => .stuck
  | .max => match seqOf st x with
    | some (true, xs) => match asInts xs with | some (n :: ns) => .ok (.int (maxL n ns)) | _ => .stuck
    | _ => .stuck
  | .lenset => match seqOf st x with
    | some (true, xs) => match asInts xs with | some ns => if ns.length < 64 then .ok (.int (sortS ns).length) else .stuck | none => .stuck
    | _ => .stuck
def leV (x y : Val) : Bool := PySem.W.dataLe false toPD x y
/-- can be sorted -/
def sortOk (xs : List Val) : Bool := (xs.all fun x => (xs.all fun y => PySem.W.alike (toPD x) (toPD y)) && (PyData.canLay0 (toPD x) && decide ((toPD x).depth ≤ 60))) &&
  ((xs.all fun x => match x with | .tup (_ :: _) => true | _ => false) || (xs.all fun x => match x with | .tup _ => false | .non => false | _ => true))
def mmV (k : Bool) (x y : Val) : R Val := match x, y with
  | .int i, .int j => .ok (.int (if k then (if j > i then j else i) else (if j < i then j else i)))
  | _, _ => .stuck
def g1V (m : Bool) (f : G1) (x : Val) (st : Store) : RV := match f with
  | .list => match seqOf st x with | some (_, xs) => newL m xs st | none => .stuck
  | .tuple => match seqOf st x with | some (_, xs) => newT xs st | none => .stuck
  | .sorted => match seqOf st x with
    | some (true, xs) => match asInts xs with | some ns => newL m ((sortI ns).map .int) st | none => if sortOk xs then newL m (xs.mergeSort leV) st else .stuck
    | _ => .stuck
  | .sortset => match seqOf st x with
    | some (true, xs) => match asInts xs with
      | some ns => if ns.length < 64 then newL m ((sortS ns).map .int) st else .stuck
      | none => .stuck
    | _ => .stuck

/-- x[i] -/
def ixV (st : Store) (x i : Val) : R Val := match i with
  | .int k => match x with
    | .str z => if z.length ≤ szMax then (match atI z.cps.toList k with | some c => .ok (.str ⟨#[c]⟩) | none => .stuck) else .stuck
    | v => match seqOf st v with
      | some (_, xs) => match atI xs k with | some y => .ok y | none => .stuck
      | none => .stuck
  | _ => .stuck
def partV (absent : Bool) (v : Val) : R (Option Int) := if absent then .ok none else match v with | .int i => .ok (some i) | _ => .stuck
def cutA (xs : List Val) (lo hi : Option Int) : List Val := (xs.drop (HT.sIx xs.length 0 lo)).take (HT.sIx xs.length xs.length hi - HT.sIx xs.length 0 lo)
def slcV (m : Bool) (st : Store) (x : Val) (lo hi : Option Int) : RV := match x with
  | .str z => .stuck
  | v => match seqOf st v with
    | some (true, xs) => newL m (cutA xs lo hi) st
    | some (false, xs) => newT (cutA xs lo hi) st
    | none => .stuck

def rangeL (lo : Int) (n : Nat) : List Val := (List.range n).map fun i => Val.int (lo + (i : Nat))
def rngOk (i : Int) : Bool := decide (-1000000 ≤ i ∧ i ≤ 1000000)
def rngV : List Val → R (List Val)
  | [.int j] => if rngOk j then .ok (rangeL 0 j.toNat) else .stuck
  | [.int i, .int j] => if rngOk i && rngOk j then .ok (rangeL i (j - i).toNat) else .stuck
  | _ => .stuck

/-- the loop of a comprehension -/
def compL (c : Env → Store → R (Bool × Store)) (e : Env → Store → RV) (x : Nat) : List Val → Env → Store → R (List Val × Store)
  | [], _, st => .ok ([], st)
  | v :: vs, env, st => (c (env.set x (some v)) st).bind fun (b, st1) => if b then
      (e (env.set x (some v)) st1).bind fun (y, st2) => (compL c e x vs env st2).bind fun (ys, st3) => .ok (y :: ys, st3)
    else compL c e x vs env st1
def noExn {α : Type} : R α → R α
  | .ok a => .ok a
  | _ => .stuck

def isNo : E → Bool
  | .no => true
  | _ => false

/-! ### the meaning of expressions -/
/-- what an expression gives as a value, as a test, as a thing to walk -/
structure Ev where
  v : Env → Store → RV
  t : Env → Store → R (Bool × Store)
  i : Env → Store → R (List Val × Store)
def tOf (v : Env → Store → RV) : Env → Store → R (Bool × Store) := fun env st => (v env st).bind fun p => (truth p.2 p.1).bind fun b => .ok (b, p.2)
def iOf (v : Env → Store → RV) : Env → Store → R (List Val × Store) := fun env st => (v env st).bind fun p => match p.1 with
  | .tup xs => .ok (xs, p.2)
  | .lst xs => .ok (xs, p.2)
  | .scr xs => .ok (xs, p.2)
  | _ => .stuck
def mk (v : Env → Store → RV) : Ev := ⟨v, tOf v, iOf v⟩
def mkN (v : Env → Store → RV) : Ev := ⟨v, fun _ _ => .stuck, iOf v⟩

def vVar (i : Nat) : Env → Store → RV := fun env st => match env[i]? with | some (some v) => .ok (v, st) | _ => .stuck
def vFrz (x : Val) (st : Store) : RV := match x with
  | .loc n => match st[n]? with
    | some (.lst xs) => .ok (.lst xs, st.set n (.frz xs))
    | some (.frz xs) => .ok (.lst xs, st)
    | some (.obj c ns xs) => .ok (.obj c ns xs, st.set n (.fob c ns xs))
    | some (.fob c ns xs) => .ok (.obj c ns xs, st)
    | _ => .stuck
  | v => .ok (v, st)
def isCell (st : Store) : Val → Bool
  | .loc n => match st[n]? with | some (.lst _) => true | _ => false
  | _ => false
def vApp (x y : Val) (st : Store) : RV := match x with
  | .loc n => match st[n]? with
    | some (.lst xs) => if xs.length < szMax then .ok (.non, st.set n (.lst (xs ++ [y]))) else .stuck
    | _ => .stuck
  | _ => .stuck
/-- o.f -/
def vFld (c f : Str) (x : Val) (st : Store) : R Val := match x with
  | .obj d ns xs => if c = d then (match (ns.zip xs).lookup f with | some v => .ok v | none => .stuck) else .stuck
  | .loc n => match st[n]? with
    | some (.obj d ns xs) => if c = d then (match (ns.zip xs).lookup f with | some v => .ok v | none => .stuck) else .stuck
    | some (.fob d ns xs) => if c = d then (match (ns.zip xs).lookup f with | some v => .ok v | none => .stuck) else .stuck
    | _ => .stuck
  | _ => .stuck
/-- the place of a name -/
def ixF (f : Str) : List Str → Option Nat
  | [] => none
  | n :: ns => if f = n then some 0 else (ixF f ns).map (· + 1)
/-- o.f = y -/
def vStf (c f : Str) (x y : Val) (st : Store) : R Store := match x with
  | .loc n => match st[n]? with
    | some (.obj d ns xs) => if c = d ∧ ns.length = xs.length ∧ ns.length < 100 then (match ixF f ns with
      | some i => .ok (st.set n (.obj c ns (xs.set i y)))
      | none => .ok (st.set n (.obj c (ns ++ [f]) (xs ++ [y])))) else .stuck
    | _ => .stuck
  | _ => .stuck
/-- an object of the class -/
def isObj (c m : Str) (st : Store) : Val → Bool
  | .obj d ns _ => decide (c = d) && !ns.contains m
  | .loc n => match st[n]? with
    | some (.obj d ns _) => decide (c = d) && !ns.contains m
    | some (.fob d ns _) => decide (c = d) && !ns.contains m
    | _ => false
  | _ => false
/-- the name under which a method stands -/
def mName (c m : Str) : Str := c ++ ("." ++ m)
section
variable (Φ : Tab) (G : Str → Option Val)
mutual
def ev : E → Ev
  | .var i => mk (vVar i)
  | .int i => mk fun _ st => .ok (.int i, st)
  | .bl b => mk fun _ st => .ok (.bl b, st)
  | .non => mk fun _ st => .ok (.non, st)
  | .str s => mk fun _ st => .ok (.str s, st)
  | .glob x => mk fun _ st => match G x with | some v => .ok (v, st) | none => .stuck
  | .tup es => mk fun env st => (evs es env st).bind fun p => newT p.1 p.2
  | .lst m es => mk fun env st => (evs es env st).bind fun p => newL m p.1 p.2
  | .bin m op a b => mk fun env st => ((ev a).v env st).bind fun p => ((ev b).v env p.2).bind fun q => binV m op p.1 q.1 q.2
  | .neg a => mk fun env st => ((ev a).v env st).bind fun p => match p.1 with | .int i => .ok (.int (-i), p.2) | _ => .stuck
  | .not a => ⟨fun env st => ((ev a).v env st).bind fun p => match p.1 with | .bl b => .ok (.bl (!b), p.2) | _ => .stuck, fun env st => ((ev a).t env st).bind fun p => .ok (!p.1, p.2), fun _ _ => .stuck⟩
  | .cmp op a b => mk fun env st => ((ev a).v env st).bind fun p => ((ev b).v env p.2).bind fun q => (cmpV op p.1 q.1 q.2).bind fun k => .ok (.bl k, q.2)
  | .chain op op' a b c => mk fun env st => ((ev a).v env st).bind fun p => ((ev b).v env p.2).bind fun q => (cmpV op p.1 q.1 q.2).bind fun k =>
      if k then ((ev c).v env q.2).bind fun r => (cmpV op' q.1 r.1 r.2).bind fun k' => .ok (.bl k', r.2) else .ok (.bl false, q.2)
  | .bo k es => ⟨evBo k es, evBoT k es, fun _ _ => .stuck⟩
  | .ifx c a b => mkN fun env st => ((ev c).t env st).bind fun p => if p.1 then (ev a).v env p.2 else (ev b).v env p.2
  | .call f es => mk fun env st => (evs es env st).bind fun p => match Φ f with | some m => m p.1 p.2 | none => .stuck
  | .isi a t => mk fun env st => ((ev a).v env st).bind fun p => match isTy p.2 t p.1 with | some b => .ok (.bl b, p.2) | none => .stuck
  | .isi2 a t u => mk fun env st => ((ev a).v env st).bind fun p => match isTy p.2 t p.1, isTy p.2 u p.1 with | some b, some b' => .ok (.bl (b || b'), p.2) | _, _ => .stuck
  | .f1 f a => mk fun env st => ((ev a).v env st).bind fun p => (f1V f p.1 p.2).bind fun y => .ok (y, p.2)
  | .mm k a b => mk fun env st => ((ev a).v env st).bind fun p => ((ev b).v env p.2).bind fun q => (mmV k p.1 q.1).bind fun z => .ok (z, q.2)
  | .g1 m f a => mk fun env st => ((ev a).v env st).bind fun p => g1V m f p.1 p.2
  | .sub a i => mk fun env st => ((ev a).v env st).bind fun p => ((ev i).v env p.2).bind fun q => (ixV q.2 p.1 q.1).bind fun y => .ok (y, q.2)
  | .slc m a lo hi => mk fun env st => ((ev a).v env st).bind fun p => ((ev lo).v env p.2).bind fun q => (partV (isNo lo) q.1).bind fun l' =>
      ((ev hi).v env q.2).bind fun r => (partV (isNo hi) r.1).bind fun h' => slcV m r.2 p.1 l' h'
  | .no => ⟨fun _ st => .ok (.non, st), fun _ st => .ok (true, st), fun _ _ => .stuck⟩
  | .rng es => ⟨fun _ _ => .stuck, fun _ _ => .stuck, fun env st => (evs es env st).bind fun p => (rngV p.1).bind fun xs => .ok (xs, p.2)⟩
  | .comp m x it c elt => mk fun env st => ((ev it).i env st).bind fun p => if p.1.length ≤ szMax then
      ((compL (ev c).t (ev elt).v x p.1 env p.2).bind fun q => newL m q.1 q.2) else .stuck
  | .frz a => mkN fun env st => ((ev a).v env st).bind fun p => vFrz p.1 p.2
  | .app o a => mkN fun env st => ((ev o).v env st).bind fun p => if isCell p.2 p.1 then ((ev a).v env p.2).bind fun q => vApp p.1 q.1 q.2 else .stuck
  | .xfld h j => mk fun env st => match env[h + 1]? with | some (some (.tup fs)) => (match fs[j]? with | some v => .ok (v, st) | none => .stuck) | _ => .stuck
  | .xis h ys => mk fun env st => match env[h]? with | some (some (.str c)) => .ok (.bl (ys.any fun p => p.2.contains c), st) | _ => .stuck
  | .fld c f a => mk fun env st => ((ev a).v env st).bind fun p => (vFld c f p.1 p.2).bind fun y => .ok (y, p.2)
  | .new c es => mk fun env st => (evs es env st).bind fun p => match Φ (mName c "__init__") with
    | some m => (m (.loc p.2.length :: p.1) (p.2 ++ [.obj c [] []])).bind fun q => (match q.1 with | .non => .ok (.loc p.2.length, q.2) | _ => .stuck)
    | none => .stuck
  | .meth c m o es => mk fun env st => ((ev o).v env st).bind fun p => if isObj c m p.2 p.1 then (evs es env p.2).bind fun q => (match Φ (mName c m) with | some f => f (p.1 :: q.1) q.2 | none => .stuck) else .stuck
def evs : Es → Env → Store → R (List Val × Store)
  | .nil, _, st => .ok ([], st)
  | .cons e r, env, st => ((ev e).v env st).bind fun p => (evs r env p.2).bind fun q => .ok (p.1 :: q.1, q.2)
/-- and, or as values: all but the last are booleans -/
def evBo : Bool → Es → Env → Store → RV
  | _, .nil, _, _ => .stuck
  | k, .cons e r, env, st => match r with
    | .nil => (ev e).v env st
    | .cons _ _ => ((ev e).v env st).bind fun p => match p.1 with
      | .bl b => if b = k then evBo k r env p.2 else .ok (.bl b, p.2)
      | _ => .stuck
def evBoT : Bool → Es → Env → Store → R (Bool × Store)
  | _, .nil, _, _ => .stuck
  | k, .cons e r, env, st => match r with
    | .nil => (ev e).t env st
    | .cons _ _ => ((ev e).t env st).bind fun p => if p.1 = k then evBoT k r env p.2 else .ok (p.1, p.2)
end
end
/-! ### the meaning of statements -/
inductive RS where
  | next (env : Env) (st : Store) | ret (v : Val) (st : Store) | brk (env : Env) (st : Store) | cnt (env : Env) (st : Store)
  | exn (c : Str) (fs : List Val) (env : Env) (st : Store) | stuck
def RS.bind (r : RS) (f : Env → Store → RS) : RS := match r with
  | .next env st => f env st
  | r => r
@[simp] theorem RS.bind_next (env : Env) (st : Store) (f : Env → Store → RS) : (RS.next env st).bind f = f env st := rfl
@[simp] theorem RS.bind_ret (v : Val) (st : Store) (f : Env → Store → RS) : (RS.ret v st).bind f = .ret v st := rfl
@[simp] theorem RS.bind_stuck (f : Env → Store → RS) : RS.stuck.bind f = .stuck := rfl
@[simp] theorem RS.bind_brk (env : Env) (st : Store) (f : Env → Store → RS) : (RS.brk env st).bind f = .brk env st := rfl
@[simp] theorem RS.bind_cnt (env : Env) (st : Store) (f : Env → Store → RS) : (RS.cnt env st).bind f = .cnt env st := rfl
@[simp] theorem RS.bind_exn (c : Str) (fs : List Val) (env : Env) (st : Store) (f : Env → Store → RS) : (RS.exn c fs env st).bind f = .exn c fs env st := rfl
/-- an expression's end, in a statement -/
def R.st {α : Type} (r : R α) (env : Env) (f : α → RS) : RS := match r with
  | .ok a => f a
  | .exn c fs st => .exn c fs env st
  | .stuck => .stuck
@[simp] theorem R.st_ok {α : Type} (a : α) (env : Env) (f : α → RS) : (R.ok a).st env f = f a := rfl
@[simp] theorem R.st_stuck {α : Type} (env : Env) (f : α → RS) : (R.stuck : R α).st env f = .stuck := rfl
@[simp] theorem R.st_exn {α : Type} (c : Str) (fs : List Val) (st : Store) (env : Env) (f : α → RS) : (R.exn c fs st : R α).st env f = .exn c fs env st := rfl
def forL (i : Nat) (body : Env → Store → RS) : List Val → Env → Store → RS
  | [], env, st => .next env st
  | v :: vs, env, st => match body (env.set i (some v)) st with
    | .next env' st' => forL i body vs env' st'
    | .cnt env' st' => forL i body vs env' st'
    | .brk env' st' => .next env' st'
    | r => r
/-- several names at once -/
def setN : List Nat → List Val → Env → Env
  | i :: is, v :: vs, env => setN is vs (env.set i (some v))
  | _, _, env => env
def seqN (is : List Nat) (v : Val) (env : Env) (st : Store) : Option Env := match seqOf st v with
  | some (_, xs) => if xs.length = is.length then some (setN is xs env) else none
  | none => none
def forT (is : List Nat) (body : Env → Store → RS) : List Val → Env → Store → RS
  | [], env, st => .next env st
  | v :: vs, env, st => match seqN is v env st with
    | some env1 => (match body env1 st with
      | .next env' st' => forT is body vs env' st'
      | .cnt env' st' => forT is body vs env' st'
      | .brk env' st' => .next env' st'
      | r => r)
    | none => .stuck
def whileL (c : Env → Store → R (Bool × Store)) (body : Env → Store → RS) : Nat → Env → Store → RS
  | 0, _, _ => .stuck
  | n + 1, env, st => (c env st).st env fun p => if p.1 then (match body env p.2 with
    | .next env' st' => whileL c body n env' st'
    | .cnt env' st' => whileL c body n env' st'
    | .brk env' st' => .next env' st'
    | r => r) else .next env p.2
/-- the end of an except suite: n names, the caught one gone -/
def clrS (sl : Option Nat) (env : Env) : Env := match sl with | some i => env.set i none | none => env
def endH (sl : Option Nat) (n : Nat) : RS → RS
  | .next env st => .next (clrS sl (env.take n)) st
  | .brk env st => .brk (clrS sl (env.take n)) st
  | .cnt env st => .cnt (clrS sl (env.take n)) st
  | .ret v st => .ret v st
  | _ => .stuck
def vSto (x k y : Val) (st : Store) : R Store := match x, k with
  | .loc n, .int j => match st[n]? with
    | some (.lst xs) => match ixN xs.length j with
      | some m => .ok (st.set n (.lst (xs.set m y)))
      | none => .stuck
    | _ => .stuck
  | _, _ => .stuck
section
variable (Φ : Tab) (G : Str → Option Val)
mutual
def evS : S → Env → Store → RS
  | .asg i e, env, st => ((ev Φ G e).v env st).st env fun p => .next (env.set i (some p.1)) p.2
  | .sto o i e, env, st => ((ev Φ G e).v env st).st env fun p => ((ev Φ G o).v env p.2).st env fun q => ((ev Φ G i).v env q.2).st env fun r =>
      (vSto q.1 r.1 p.1 r.2).st env fun st' => .next env st'
  | .stf c f o e, env, st => ((ev Φ G e).v env st).st env fun p => ((ev Φ G o).v env p.2).st env fun q => (vStf c f q.1 p.1 q.2).st env fun st' => .next env st'
  | .expr e, env, st => ((ev Φ G e).v env st).st env fun p => .next env p.2
  | .ite c a b, env, st => ((ev Φ G c).t env st).st env fun p => if p.1 then evSs a env p.2 else evSs b env p.2
  | .forr i it body, env, st => ((ev Φ G it).i env st).st env fun p => forL i (evSs body) p.1 env p.2
  | .asgt is e, env, st => ((ev Φ G e).v env st).st env fun p => (match seqN is p.1 env p.2 with | some env' => .next env' p.2 | none => .stuck)
  | .fort is it body, env, st => ((ev Φ G it).i env st).st env fun p => forT is (evSs body) p.1 env p.2
  | .whil n c body, env, st => whileL (ev Φ G c).t (evSs body) n env st
  | .ret e, env, st => ((ev Φ G e).v env st).st env fun p => .ret p.1 p.2
  | .retn, _, st => .ret .non st
  | .pass, env, st => .next env st
  | .brk, env, st => .brk env st
  | .cnt, env, st => .cnt env st
  | .never, _, _ => .stuck
  | .raise c es, env, st => (evs Φ G es env st).st env fun p => .exn c p.1 env p.2
  | .tryx b hs, env, st => match evSs b env st with
    | .exn c fs env' st' => evHs hs c fs env' st'
    | r => r
def evHs : Hs → Str → List Val → Env → Store → RS
  | .nil, c, fs, env, st => .exn c fs env st
  | .cons _ D sl b r, c, fs, env, st => if D.contains c then endH sl env.length (evSs b (clrS sl env ++ [some (.str c), some (.tup fs)]) st) else evHs r c fs env st
def evSs : Ss → Env → Store → RS
  | .nil, env, st => .next env st
  | .cons s r, env, st => (evS s env st).bind (evSs r)
end
end
/-- a def: its number of names, its body -/
def runB (Φ : Tab) (G : Str → Option Val) (n : Nat) (body : Ss) (vs : List Val) (st : Store) : RV :=
  match evSs Φ G body (vs.map some ++ List.replicate (n - vs.length) none) st with
  | .next _ st' => .ok (.non, st')
  | .ret v st' => .ok (v, st')
  | .exn c fs _ st' => .exn c fs st'
  | _ => .stuck
end MP
/-! MiniPy: how trees and stores lie in the abstract heap. -/
namespace MP
open PySem L2

/-- the written part, the module's names -/
structure Kf where
  k : PySem.W.Frag
  mg : Str → Option Value
section
variable (K : Kf) (F : Hp) (μ : Nat → Addr) (n : Nat)
mutual
def RepV : Val → V → Prop
  | .non, v => v = .non
  | .bl b, v => v = .bl b
  | .int i, v => v = .int i
  | .str s, v => v = .str s
  | .tup xs, v => ∃ a vs, v = .ref a ∧ SqT K.k F a vs ∧ RepL xs vs
  | .lst xs, v => ∃ a vs, v = .ref a ∧ F a = some (.lst vs) ∧ RepL xs vs
  | .scr xs, v => ∃ a vs, v = .ref a ∧ SqL K.k F a vs ∧ RepL xs vs
  | .loc m, v => v = .ref (μ m) ∧ m < n
  | .obj c ns xs, v => ∃ a dx Ca vs, v = .ref a ∧ K.mg c = some (.ref Ca) ∧ F a = some (.ins Ca dx (ns.zip vs)) ∧ F dx = some (.own a) ∧ ns.length = xs.length ∧ RepL xs vs
def RepL : List Val → List V → Prop
  | [], vs => vs = []
  | x :: xs, vs => ∃ v r, vs = v :: r ∧ RepV x v ∧ RepL xs r
end
end

theorem sqL_mono {K : PySem.W.Frag} {F F' : Hp} {a : Addr} {xs : List V} (e : Same F F') (h : SqL K F a xs) : SqL K F' a xs := e.seq h
theorem sqT_mono {K : PySem.W.Frag} {F F' : Hp} {a : Addr} {xs : List V} (e : Same F F') (h : SqT K F a xs) : SqT K F' a xs := by
  rcases h with (h | ⟨o, h⟩) | h
  · exact .inl (.inl (e _ _ h))
  · exact .inl (.inr ⟨o, e _ _ h⟩)
  · exact .inr h

section
variable {K : Kf} {F F' : Hp} {μ μ' : Nat → Addr} {n n' : Nat}
mutual
theorem RepV.mono (e : Same F F') (m : ∀ i, i < n → μ' i = μ i) (l : n ≤ n') : ∀ {x : Val} {v : V}, RepV K F μ n x v → RepV K F' μ' n' x v
  | .non, _, h => h
  | .bl _, _, h => h
  | .int _, _, h => h
  | .str _, _, h => h
  | .tup xs, _, ⟨a, vs, h1, h2, h3⟩ => ⟨a, vs, h1, sqT_mono e h2, RepL.mono e m l h3⟩
  | .lst xs, _, ⟨a, vs, h1, h2, h3⟩ => ⟨a, vs, h1, e _ _ h2, RepL.mono e m l h3⟩
  | .scr xs, _, ⟨a, vs, h1, h2, h3⟩ => ⟨a, vs, h1, sqL_mono e h2, RepL.mono e m l h3⟩
  | .loc k, _, ⟨h1, h2⟩ => ⟨by rw [h1, m k h2], Nat.lt_of_lt_of_le h2 l⟩
  | .obj c ns xs, _, ⟨a, dx, Ca, vs, h1, h2, h3, h4, h5, h6⟩ => ⟨a, dx, Ca, vs, h1, h2, e _ _ h3, e _ _ h4, h5, RepL.mono e m l h6⟩
theorem RepL.mono (e : Same F F') (m : ∀ i, i < n → μ' i = μ i) (l : n ≤ n') : ∀ {xs : List Val} {vs : List V}, RepL K F μ n xs vs → RepL K F' μ' n' xs vs
  | [], _, h => h
  | x :: xs, _, ⟨v, r, h1, h2, h3⟩ => ⟨v, r, h1, RepV.mono e m l h2, RepL.mono e m l h3⟩
end
theorem RepL.len : ∀ {xs : List Val} {vs : List V}, RepL K F μ n xs vs → vs.length = xs.length
  | [], _, h => by cases h; rfl
  | x :: xs, _, ⟨v, r, h1, _, h3⟩ => by subst h1; simp [RepL.len h3]
theorem RepL.get : ∀ {xs : List Val} {vs : List V} {i : Nat} {x : Val}, RepL K F μ n xs vs → xs[i]? = some x → ∃ v, vs[i]? = some v ∧ RepV K F μ n x v
  | [], _, _, _, _, e => by simp at e
  | y :: ys, _, 0, x, ⟨v, r, h1, h2, _⟩, e => by
    simp at e; subst e; subst h1; exact ⟨v, rfl, h2⟩
  | y :: ys, _, i + 1, x, ⟨v, r, h1, _, h3⟩, e => by
    subst h1
    obtain ⟨w, h4, h5⟩ := RepL.get (i := i) (x := x) h3 (by simpa using e)
    exact ⟨w, by simpa using h4, h5⟩
theorem RepL.getV : ∀ {xs : List Val} {vs : List V} {i : Nat} {v : V}, RepL K F μ n xs vs → vs[i]? = some v → ∃ x, xs[i]? = some x ∧ RepV K F μ n x v
  | [], _, _, _, h, e => by cases h; simp at e
  | y :: ys, _, 0, x, ⟨v, r, h1, h2, _⟩, e => by
    subst h1; simp at e; subst e; exact ⟨y, rfl, h2⟩
  | y :: ys, _, i + 1, x, ⟨v, r, h1, _, h3⟩, e => by
    subst h1
    obtain ⟨w, h4, h5⟩ := RepL.getV (i := i) (v := x) h3 (by simpa using e)
    exact ⟨w, by simpa using h4, h5⟩
theorem RepL.append : ∀ {xs ys : List Val} {vs ws : List V}, RepL K F μ n xs vs → RepL K F μ n ys ws → RepL K F μ n (xs ++ ys) (vs ++ ws)
  | [], _, _, _, h, q => by cases h; exact q
  | x :: xs, _, _, _, ⟨v, r, h1, h2, h3⟩, q => by subst h1; exact ⟨v, _, rfl, h2, RepL.append h3 q⟩
theorem RepL.set {y : Val} {w : V} (hy : RepV K F μ n y w) : ∀ {xs : List Val} {vs : List V} (i : Nat), RepL K F μ n xs vs → RepL K F μ n (xs.set i y) (vs.set i w)
  | [], _, _, h => by cases h; rfl
  | x :: xs, _, 0, ⟨v, r, h1, h2, h3⟩ => by subst h1; exact ⟨w, r, rfl, hy, h3⟩
  | x :: xs, _, i + 1, ⟨v, r, h1, h2, h3⟩ => by subst h1; exact ⟨v, _, rfl, h2, RepL.set hy i h3⟩
theorem RepL.take : ∀ {xs : List Val} {vs : List V} (i : Nat), RepL K F μ n xs vs → RepL K F μ n (xs.take i) (vs.take i)
  | _, _, 0, _ => by rw [List.take_zero, List.take_zero]; rfl
  | [], _, i + 1, h => by cases h; rfl
  | x :: xs, _, i + 1, ⟨v, r, h1, h2, h3⟩ => by subst h1; exact ⟨v, _, rfl, h2, RepL.take i h3⟩
theorem RepL.drop : ∀ {xs : List Val} {vs : List V} (i : Nat), RepL K F μ n xs vs → RepL K F μ n (xs.drop i) (vs.drop i)
  | _, _, 0, h => h
  | [], _, i + 1, h => by cases h; rfl
  | x :: xs, _, i + 1, ⟨v, r, h1, h2, h3⟩ => by subst h1; exact RepL.drop i h3
theorem RepL.rep {xs : List Val} {vs : List V} (h : RepL K F μ n xs vs) : ∀ k : Nat, RepL K F μ n (List.replicate k xs).flatten (List.replicate k vs).flatten
  | 0 => by simp [RepL]
  | k + 1 => by simpa [List.replicate_succ] using h.append (RepL.rep h k)
theorem RepL.ints : ∀ {ns : List Int} {vs : List V}, RepL K F μ n (ns.map Val.int) vs → vs = ns.map V.int
  | [], _, h => h
  | i :: ns, _, ⟨v, r, h1, h2, h3⟩ => by subst h1; rw [RepL.ints h3]; cases h2; rfl
theorem repL_ints : ∀ (ns : List Int), RepL K F μ n (ns.map Val.int) (ns.map V.int)
  | [] => rfl
  | i :: ns => ⟨_, _, rfl, rfl, repL_ints ns⟩
theorem repL_nil : RepL K F μ n [] [] := rfl
theorem RepL.nil_iff {xs : List Val} {vs : List V} (h : RepL K F μ n xs vs) : vs = [] ↔ xs = [] := by
  have e := h.len
  constructor
  · intro q; subst q; cases xs with
    | nil => rfl
    | cons => simp at e
  · intro q; subst q; exact h

/-! closed: every place of the store that stands in it lies below n -/
mutual
def closed (n : Nat) : Val → Bool
  | .loc m => decide (m < n)
  | .tup xs => closedL n xs
  | .lst xs => closedL n xs
  | .scr xs => closedL n xs
  | .obj _ _ xs => closedL n xs
  | .non => true | .bl _ => true | .int _ => true | .str _ => true
def closedL (n : Nat) : List Val → Bool
  | [] => true
  | x :: xs => closed n x && closedL n xs
end
mutual
theorem RepV.closed : ∀ {x : Val} {v : V}, RepV K F μ n x v → MP.closed n x = true
  | .non, _, _ => rfl
  | .bl _, _, _ => rfl
  | .int _, _, _ => rfl
  | .str _, _, _ => rfl
  | .tup xs, _, ⟨a, vs, h1, h2, h3⟩ => RepL.closed h3
  | .lst xs, _, ⟨a, vs, h1, h2, h3⟩ => RepL.closed h3
  | .scr xs, _, ⟨a, vs, h1, h2, h3⟩ => RepL.closed h3
  | .loc k, _, ⟨h1, h2⟩ => decide_eq_true h2
  | .obj c ns xs, _, ⟨a, dx, Ca, vs, h1, h2, h3, h4, h5, h6⟩ => RepL.closed h6
theorem RepL.closed : ∀ {xs : List Val} {vs : List V}, RepL K F μ n xs vs → MP.closedL n xs = true
  | [], _, _ => rfl
  | x :: xs, _, ⟨v, r, h1, h2, h3⟩ => by
    show (MP.closed n x && MP.closedL n xs) = true
    rw [RepV.closed h2, RepL.closed h3]; rfl
end
mutual
theorem RepV.shut : ∀ {x : Val} {v : V}, RepV K F μ n x v → MP.closed n' x = true → RepV K F μ n' x v
  | .non, _, h, _ => h
  | .bl _, _, h, _ => h
  | .int _, _, h, _ => h
  | .str _, _, h, _ => h
  | .tup xs, _, ⟨a, vs, h1, h2, h3⟩, c => ⟨a, vs, h1, h2, RepL.shut h3 c⟩
  | .lst xs, _, ⟨a, vs, h1, h2, h3⟩, c => ⟨a, vs, h1, h2, RepL.shut h3 c⟩
  | .scr xs, _, ⟨a, vs, h1, h2, h3⟩, c => ⟨a, vs, h1, h2, RepL.shut h3 c⟩
  | .loc k, _, ⟨h1, h2⟩, c => ⟨h1, of_decide_eq_true c⟩
  | .obj _ ns xs, _, ⟨a, dx, Ca, vs, h1, h2, h3, h4, h5, h6⟩, c => ⟨a, dx, Ca, vs, h1, h2, h3, h4, h5, RepL.shut h6 c⟩
theorem RepL.shut : ∀ {xs : List Val} {vs : List V}, RepL K F μ n xs vs → MP.closedL n' xs = true → RepL K F μ n' xs vs
  | [], _, h, _ => h
  | x :: xs, _, ⟨v, r, h1, h2, h3⟩, c => by
    have c' : (MP.closed n' x && MP.closedL n' xs) = true := c
    rw [Bool.and_eq_true] at c'
    exact ⟨v, r, h1, RepV.shut h2 c'.1, RepL.shut h3 c'.2⟩
end
mutual
theorem closed_mono (l : n ≤ n') : ∀ {x : Val}, MP.closed n x = true → MP.closed n' x = true
  | .non, _ => rfl
  | .bl _, _ => rfl
  | .int _, _ => rfl
  | .str _, _ => rfl
  | .tup xs, h => closedL_mono l h
  | .lst xs, h => closedL_mono l h
  | .scr xs, h => closedL_mono l h
  | .loc k, h => decide_eq_true (Nat.lt_of_lt_of_le (of_decide_eq_true h) l)
  | .obj _ _ xs, h => closedL_mono l h
theorem closedL_mono (l : n ≤ n') : ∀ {xs : List Val}, MP.closedL n xs = true → MP.closedL n' xs = true
  | [], _ => rfl
  | x :: xs, h => by
    have c' : (MP.closed n x && MP.closedL n xs) = true := h
    rw [Bool.and_eq_true] at c'
    show (MP.closed n' x && MP.closedL n' xs) = true
    rw [closed_mono l c'.1, closedL_mono l c'.2]; rfl
end

/-- dicts: the same keys in the same order -/
def RepK (K : Kf) (F : Hp) (μ : Nat → Addr) (n : Nat) : List (Key × Val) → List (Key × V) → Prop
  | [], r => r = []
  | (k, x) :: xs, r => ∃ v q, r = (k, v) :: q ∧ RepV K F μ n x v ∧ RepK K F μ n xs q
theorem RepK.mono (e : Same F F') (m : ∀ i, i < n → μ' i = μ i) (l : n ≤ n') : ∀ {xs : List (Key × Val)} {vs : List (Key × V)}, RepK K F μ n xs vs → RepK K F' μ' n' xs vs
  | [], _, h => h
  | (k, x) :: xs, _, ⟨v, r, h1, h2, h3⟩ => ⟨v, r, h1, h2.mono e m l, RepK.mono e m l h3⟩
def closedK (n : Nat) (kvs : List (Key × Val)) : Bool := kvs.all fun p => closed n p.2
theorem RepK.closed : ∀ {xs : List (Key × Val)} {vs : List (Key × V)}, RepK K F μ n xs vs → closedK n xs = true
  | [], _, _ => rfl
  | (k, x) :: xs, _, ⟨v, r, h1, h2, h3⟩ => by
    show (MP.closed n x && closedK n xs) = true
    rw [RepV.closed h2, RepK.closed h3]; rfl
theorem RepK.shut : ∀ {xs : List (Key × Val)} {vs : List (Key × V)}, RepK K F μ n xs vs → closedK n' xs = true → RepK K F μ n' xs vs
  | [], _, h, _ => h
  | (k, x) :: xs, _, ⟨v, r, h1, h2, h3⟩, c => by
    have c' : (MP.closed n' x && closedK n' xs) = true := c
    rw [Bool.and_eq_true] at c'
    exact ⟨v, r, h1, h2.shut c'.1, RepK.shut h3 c'.2⟩
theorem closedK_mono (l : n ≤ n') : ∀ {xs : List (Key × Val)}, closedK n xs = true → closedK n' xs = true
  | [], _ => rfl
  | (k, x) :: xs, h => by
    have c' : (MP.closed n x && closedK n xs) = true := h
    rw [Bool.and_eq_true] at c'
    show (MP.closed n' x && closedK n' xs) = true
    rw [closed_mono l c'.1, closedK_mono l c'.2]; rfl
end

/-- the fixed things: the written part, the module's names, the error classes' fields; in an except suite: the caught error (its address, class, dict), its slot, the classes it may be of, the number of names -/
structure Fx where
  K : PySem.W.Frag
  mg : Str → Option Value
  Xn : Str → Option (List Str)
  hot : Bool := false
  cA : Addr := 0
  cC : Value := .none
  cD : Option Addr := none
  cI : Option Nat := none
  eD : List Str := []
  nN : Nat := 0
abbrev Fx.kf (Y : Fx) : Kf := ⟨Y.K, Y.mg⟩
/-- in a suite two hidden names stand behind the frame's: the caught error's class and its fields -/
def HotOk (Y : Fx) (F : Hp) (μ : Nat → Addr) (n : Nat) (env : Env) (σ : L2.St) : Prop := σ.length = Y.nN ∧ ∃ (c : Str) (fs : List Val) (dd : Addr) (ns : List Str) (vs : List V),
  env[σ.length]? = some (some (.str c)) ∧ env[σ.length + 1]? = some (some (.tup fs)) ∧ c ∈ Y.eD ∧ Y.mg c = some Y.cC ∧ Y.Xn c = some ns ∧ Y.cD = some dd ∧ ns.length = vs.length ∧ F dd = some (.xd (ns.zip vs)) ∧ RepL Y.kf F μ n fs vs ∧ ∀ i, Y.cI = some i → σ[i]? = some (some (.ref Y.cA))
/-! ### the store -/
def CellOk (K : Kf) (F : Hp) (μ : Nat → Addr) (n : Nat) (H : Hp) (a : Addr) : Cell → Prop
  | .lst xs => F a = none ∧ ∃ vs, H a = some (.lst vs) ∧ RepL K F μ n xs vs
  | .frz xs => ∃ vs, F a = some (.lst vs) ∧ RepL K F μ n xs vs
  | .dk kvs => F a = none ∧ ∃ r, H a = some (.dK r) ∧ RepK K F μ n kvs r
  | .dead => True
  | .obj c ns xs => F a = none ∧ ∃ dx Ca vs, K.mg c = some (.ref Ca) ∧ H a = some (.ins Ca dx (ns.zip vs)) ∧ F dx = some (.own a) ∧ ns.length = xs.length ∧ RepL K F μ n xs vs
  | .fob c ns xs => RepV K F μ n (.obj c ns xs) (.ref a)
def closedC (n : Nat) : Cell → Bool
  | .lst xs => closedL n xs
  | .frz xs => closedL n xs
  | .dk kvs => closedK n kvs
  | .dead => true
  | .obj _ _ xs => closedL n xs
  | .fob _ _ xs => closedL n xs
/-- a cell that may change -/
def live : Cell → Bool
  | .lst _ => true | .dk _ => true | .obj _ _ _ => true | _ => false
structure StOk (K : Kf) (F : Hp) (μ : Nat → Addr) (st : Store) (H : Hp) : Prop where
  cell : ∀ i c, st[i]? = some c → CellOk K F μ st.length H (μ i) c
  inj : ∀ i j c d, st[i]? = some c → st[j]? = some d → live c = true → live d = true → μ i = μ j → i = j
/-- a is no place of a cell that may change -/
def Quiet (μ : Nat → Addr) (st : Store) (a : Addr) : Prop := ∀ i c, st[i]? = some c → live c = true → μ i ≠ a
/-- what lies behind lies also here -/
structure Ext (F : Hp) (μ : Nat → Addr) (st : Store) (H : Hp) (F' : Hp) (μ' : Nat → Addr) (st' : Store) (H' : Hp) : Prop where
  same : Same F F'
  mu : ∀ i, i < st.length → μ' i = μ i
  len : st.length ≤ st'.length
  frm : ∀ a o, H a = some o → Quiet μ st a → H' a = some o
  new : ∀ i c, st'[i]? = some c → live c = true → (∃ d, st[i]? = some d ∧ live d = true) ∨ H (μ' i) = none
  dom : ∀ a o, H a = some o → ∃ o', H' a = some o'
  fz : ∀ a o, F' a = some o → F a = some o ∨ H a = none ∨ ∃ i c, st[i]? = some c ∧ live c = true ∧ μ i = a
theorem Ext.refl {F : Hp} {μ : Nat → Addr} {st : Store} {H : Hp} : Ext F μ st H F μ st H := ⟨Same.refl F, fun _ _ => rfl, Nat.le_refl _, fun _ _ h _ => h, fun _ c h l => .inl ⟨c, h, l⟩, fun _ o h => ⟨o, h⟩, fun _ _ h => .inl h⟩
theorem Ext.trans {F F1 F2 : Hp} {μ μ1 μ2 : Nat → Addr} {st st1 st2 : Store} {H H1 H2 : Hp} (a : Ext F μ st H F1 μ1 st1 H1) (b : Ext F1 μ1 st1 H1 F2 μ2 st2 H2) : Ext F μ st H F2 μ2 st2 H2 where
  same := a.same.trans b.same
  mu := fun i h => (b.mu i (Nat.lt_of_lt_of_le h a.len)).trans (a.mu i h)
  len := Nat.le_trans a.len b.len
  frm := fun x o h q => b.frm x o (a.frm x o h q) fun i c hc hl z => by
    rcases a.new i c hc hl with ⟨d, hd, ld⟩ | hn
    · have hi := (List.getElem?_eq_some_iff.mp hd).1
      rw [a.mu i hi] at z
      exact q i d hd ld z
    · rw [z, h] at hn; cases hn
  new := fun i c hc hl => by
    rcases b.new i c hc hl with ⟨d, hd, ld⟩ | hn
    · rcases a.new i d hd ld with ⟨d', hd', ld'⟩ | hn
      · exact .inl ⟨d', hd', ld'⟩
      · have hi := (List.getElem?_eq_some_iff.mp hd).1
        exact .inr (by rw [b.mu i hi]; exact hn)
    · refine .inr ?_
      cases q : H (μ2 i) with
      | none => rfl
      | some o =>
        obtain ⟨o', h'⟩ := a.dom _ o q
        rw [hn] at h'; cases h'
  dom := fun x o h => let ⟨o1, h1⟩ := a.dom x o h; b.dom x o1 h1
  fz := fun x o h => by
    rcases b.fz x o h with h1 | h1 | ⟨i, c, hc, hl, hx⟩
    · exact a.fz x o h1
    · refine .inr (.inl ?_)
      cases q : H x with
      | none => rfl
      | some u => obtain ⟨u', hu⟩ := a.dom x u q; rw [h1] at hu; cases hu
    · rcases a.new i c hc hl with ⟨d, hd, ld⟩ | hn
      · have hi := (List.getElem?_eq_some_iff.mp hd).1
        exact .inr (.inr ⟨i, d, hd, ld, by rw [← a.mu i hi]; exact hx⟩)
      · exact .inr (.inl (by rw [← hx]; exact hn))
section
variable {K : Kf} {F F' : Hp} {μ μ' : Nat → Addr} {st st' : Store} {H H' : Hp}
theorem Ext.v (e : Ext F μ st H F' μ' st' H') {x : Val} {v : V} (h : RepV K F μ st.length x v) : RepV K F' μ' st'.length x v := h.mono e.same e.mu e.len
theorem Ext.l (e : Ext F μ st H F' μ' st' H') {x : List Val} {v : List V} (h : RepL K F μ st.length x v) : RepL K F' μ' st'.length x v := h.mono e.same e.mu e.len
/-- the frame's names -/
structure EnvOk (Y : Fx) (F : Hp) (μ : Nat → Addr) (n : Nat) (env : Env) (σ : L2.St) : Prop where
  len : σ.length ≤ env.length
  sz : σ.length = Y.nN
  val : ∀ (i : Nat) (x : Val), i < σ.length → env[i]? = some (some x) → ∃ v, σ[i]? = some (some v) ∧ RepV Y.kf F μ n x v
  cold : Y.hot = false → env.length = σ.length
  warm : Y.hot = true → HotOk Y F μ n env σ
theorem HotOk.mono {Y : Fx} {n n' : Nat} {env : Env} {σ : L2.St} (e : Same F F') (m : ∀ i, i < n → μ' i = μ i) (l : n ≤ n') (h : HotOk Y F μ n env σ) : HotOk Y F' μ' n' env σ := by
  obtain ⟨h0, c, fs, dd, ns, vs, h1, h2, hd, h3, h4, h5, h6, h7, h8, h9⟩ := h
  exact ⟨h0, c, fs, dd, ns, vs, h1, h2, hd, h3, h4, h5, h6, e _ _ h7, h8.mono e m l, h9⟩
theorem Ext.env {Y : Fx} (e : Ext F μ st H F' μ' st' H') {env : Env} {σ : L2.St} (h : EnvOk Y F μ st.length env σ) : EnvOk Y F' μ' st'.length env σ :=
  ⟨h.len, h.sz, fun i x hi q => let ⟨v, h1, h2⟩ := h.val i x hi q; ⟨v, h1, e.v h2⟩, h.cold, fun w => (h.warm w).mono e.same e.mu e.len⟩
theorem EnvOk.set {Y : Fx} {n : Nat} {env : Env} {σ : L2.St} (h : EnvOk Y F μ n env σ) {x : Val} {v : V} (r : RepV Y.kf F μ n x v) (i : Nat) (hc : Y.hot = true → i < Y.nN ∧ Y.cI ≠ some i) : EnvOk Y F μ n (env.set i (some x)) (σ.set i (some v)) := by
  refine ⟨by rw [List.length_set, List.length_set]; exact h.len, by rw [List.length_set]; exact h.sz, fun j y hj e => ?_, fun w => by rw [List.length_set, List.length_set]; exact h.cold w, fun w => ?_⟩
  · rw [List.length_set] at hj
    by_cases hij : i = j
    · subst hij
      have hl : i < env.length := Nat.lt_of_lt_of_le hj h.len
      rw [List.getElem?_set_self hl] at e
      rw [List.getElem?_set_self hj]
      cases e
      exact ⟨v, rfl, r⟩
    · rw [List.getElem?_set_ne hij] at e
      rw [List.getElem?_set_ne hij]
      exact h.val j y hj e
  · obtain ⟨c1, c2⟩ := hc w
    obtain ⟨h0, c, fs, dd, ns, vs, h1, h2, hd, h3, h4, h5, h6, h7, h8, h9⟩ := h.warm w
    have hi : i < σ.length := by rw [h0]; exact c1
    refine ⟨by rw [List.length_set]; exact h0, c, fs, dd, ns, vs, ?_, ?_, hd, h3, h4, h5, h6, h7, h8, fun j hj => ?_⟩
    · rw [List.length_set, List.getElem?_set_ne (Nat.ne_of_lt hi)]; exact h1
    · rw [List.length_set, List.getElem?_set_ne (by omega)]; exact h2
    · have : i ≠ j := fun z => c2 (by rw [hj, z])
      rw [List.getElem?_set_ne this]; exact h9 j hj
/-- all together -/
structure Good (K : Kf) (F : Hp) (μ : Nat → Addr) (st : Store) (H : Hp) : Prop where
  same : Same F H
  st : StOk K F μ st H

theorem CellOk.mono {n n' : Nat} {a : Addr} {c : Cell} (e : Same F F') (m : ∀ i, i < n → μ' i = μ i) (l : n ≤ n') (h : CellOk K F μ n H a c) (hF : live c = true → F' a = none) (hH : live c = true → H' a = H a) : CellOk K F' μ' n' H' a c := by
  cases c with
  | lst xs =>
    obtain ⟨h1, vs, h2, h3⟩ := h
    exact ⟨hF rfl, vs, (hH rfl).trans h2, h3.mono e m l⟩
  | frz xs =>
    obtain ⟨vs, h2, h3⟩ := h
    exact ⟨vs, e _ _ h2, h3.mono e m l⟩
  | dk kvs =>
    obtain ⟨h1, vs, h2, h3⟩ := h
    exact ⟨hF rfl, vs, (hH rfl).trans h2, h3.mono e m l⟩
  | dead => trivial
  | obj c ns xs =>
    obtain ⟨h1, dx, Ca, vs, h2, h3, h4, h5, h6⟩ := h
    exact ⟨hF rfl, dx, Ca, vs, h2, (hH rfl).trans h3, e _ _ h4, h5, h6.mono e m l⟩
  | fob c ns xs => exact RepV.mono e m l (x := .obj c ns xs) h
theorem CellOk.there {n : Nat} {a : Addr} {c : Cell} (h : CellOk K F μ n H a c) (hl : live c = true) : ∃ o, H a = some o := by
  cases c with
  | lst xs => obtain ⟨_, vs, h2, _⟩ := h; exact ⟨_, h2⟩
  | frz xs => cases hl
  | dk kvs => obtain ⟨_, vs, h2, _⟩ := h; exact ⟨_, h2⟩
  | dead => cases hl
  | obj c ns xs => obtain ⟨_, dx, Ca, vs, _, h3, _⟩ := h; exact ⟨_, h3⟩
  | fob c ns xs => cases hl
theorem CellOk.free {n : Nat} {a : Addr} {c : Cell} (h : CellOk K F μ n H a c) (hl : live c = true) : F a = none := by
  cases c with
  | lst xs => exact h.1
  | frz xs => cases hl
  | dk kvs => exact h.1
  | dead => cases hl
  | obj c ns xs => exact h.1
  | fob c ns xs => cases hl

/-- a new object, frozen at once -/
theorem Good.frozen (g : Good K F μ st H) {p : Addr} {o : HO} (hp : H p = none) : Good K (upd F p o) μ st (upd H p o) ∧ Ext F μ st H (upd F p o) μ st (upd H p o) := by
  have hF : F p = none := g.same.free hp
  have sm : Same F (upd F p o) := fun b u e => by rw [upd_ne (ne_of_none e hF)]; exact e
  refine ⟨⟨fun b u e => ?_, ⟨fun i c e => ?_, g.st.inj⟩⟩, ⟨sm, fun _ _ => rfl, Nat.le_refl _, fun a u h _ => by rw [upd_ne (ne_of_none h hp)]; exact h, fun _ c h l => .inl ⟨c, h, l⟩, fun a u h => ⟨u, by rw [upd_ne (ne_of_none h hp)]; exact h⟩, fun a u h => by
    by_cases ha : a = p
    · exact .inr (.inl (by rw [ha]; exact hp))
    · rw [upd_ne ha] at h; exact .inl h⟩⟩
  · by_cases hb : b = p
    · subst hb; rw [upd_same] at e ⊢; exact e
    · rw [upd_ne hb] at e ⊢; exact g.same _ _ e
  · have ck := g.st.cell i c e
    refine ck.mono sm (fun _ _ => rfl) (Nat.le_refl _) (fun hl => ?_) fun hl => ?_
    · obtain ⟨u, hu⟩ := ck.there hl
      rw [upd_ne (ne_of_none hu hp)]
      exact ck.free hl
    · obtain ⟨u, hu⟩ := ck.there hl
      rw [upd_ne (ne_of_none hu hp)]
/-- other things laid beside -/
theorem Good.beside (g : Good K F μ st H) {p : Addr} {o : HO} (hp : H p = none) : Good K F μ st (upd H p o) := by
  have hF : F p = none := g.same.free hp
  refine ⟨fun b u e => ?_, ⟨fun i c e => ?_, g.st.inj⟩⟩
  · rw [upd_ne (ne_of_none e hF)]; exact g.same _ _ e
  · have ck := g.st.cell i c e
    refine ck.mono (Same.refl _) (fun _ _ => rfl) (Nat.le_refl _) (fun hl => ck.free hl) fun hl => ?_
    obtain ⟨u, hu⟩ := ck.there hl
    rw [upd_ne (ne_of_none hu hp)]
/-- a new cell -/
def muSet (μ : Nat → Addr) (i : Nat) (a : Addr) : Nat → Addr := fun k => if k = i then a else μ k
theorem Good.celled {H0 : Hp} {o : HO} (g0 : Good K F μ st H0) {p : Addr} {c : Cell} (hp : H0 p = none) (eH : H = upd H0 p o) (hc : CellOk K F μ st.length H p c) :
    Good K F (muSet μ st.length p) (st ++ [c]) H ∧ Ext F μ st H0 F (muSet μ st.length p) (st ++ [c]) H ∧ RepV K F (muSet μ st.length p) (st ++ [c]).length (.loc st.length) (.ref p) := by
  have g : Good K F μ st H := by rw [eH]; exact g0.beside hp
  have hF : F p = none := g0.same.free hp
  have hnew : ∀ i d, st[i]? = some d → live d = true → μ i ≠ p := fun i d e hl z => by
    obtain ⟨u, hu⟩ := (g0.st.cell i d e).there hl
    rw [z, hp] at hu; cases hu
  have mu : ∀ i, i < st.length → muSet μ st.length p i = μ i := fun i h => by unfold muSet; rw [if_neg (Nat.ne_of_lt h)]
  have mp : muSet μ st.length p st.length = p := by unfold muSet; rw [if_pos rfl]
  have ln : (st ++ [c]).length = st.length + 1 := by simp
  refine ⟨⟨g.same, ⟨fun i d e => ?_, fun i j d d' e1 e2 l1 l2 q => ?_⟩⟩, ⟨Same.refl _, mu, by omega, fun a u h _ => by rw [eH, upd_ne (ne_of_none h hp)]; exact h, fun i d e l => ?_, fun a u h => ⟨u, by rw [eH, upd_ne (ne_of_none h hp)]; exact h⟩, fun _ _ h => .inl h⟩, ?_⟩
  · rw [ln]
    by_cases hi : i < st.length
    · rw [List.getElem?_append_left hi] at e
      rw [mu i hi]
      exact (g.st.cell i d e).mono (Same.refl _) mu (Nat.le_succ _) (fun hl => (g.st.cell i d e).free hl) fun _ => rfl
    · have hi' : i = st.length := by
        have := (List.getElem?_eq_some_iff.mp e).1
        rw [ln] at this; omega
      subst hi'
      simp at e
      subst e
      rw [mp]
      exact hc.mono (Same.refl _) mu (Nat.le_succ _) (fun hl => hF) fun _ => rfl
  · have key : ∀ k d, (st ++ [c])[k]? = some d → k ≠ st.length → st[k]? = some d ∧ k < st.length := fun k d e hk => by
      have h1 := (List.getElem?_eq_some_iff.mp e).1
      rw [ln] at h1
      have h2 : k < st.length := by omega
      rw [List.getElem?_append_left h2] at e
      exact ⟨e, h2⟩
    by_cases hi : i = st.length
    · by_cases hj : j = st.length
      · rw [hi, hj]
      · obtain ⟨e2, hj2⟩ := key j d' e2 hj
        rw [hi, mp, mu j hj2] at q
        exact absurd q.symm (hnew j d' e2 l2)
    · obtain ⟨e1, hi2⟩ := key i d e1 hi
      by_cases hj : j = st.length
      · rw [hj, mp, mu i hi2] at q
        exact absurd q (hnew i d e1 l1)
      · obtain ⟨e2, hj2⟩ := key j d' e2 hj
        rw [mu i hi2, mu j hj2] at q
        exact g.st.inj i j d d' e1 e2 l1 l2 q
  · by_cases hi : i < st.length
    · rw [List.getElem?_append_left hi] at e
      exact .inl ⟨d, e, l⟩
    · have h1 := (List.getElem?_eq_some_iff.mp e).1
      rw [ln] at h1
      have e2 : i = st.length := by omega
      exact .inr (by rw [e2, mp]; exact hp)
  · refine ⟨by rw [mp], by rw [ln]; omega⟩
theorem Good.fresh (g : Good K F μ st H) {p : Addr} (hp : H p = none) : ∀ i d, st[i]? = some d → live d = true → μ i ≠ p := fun i d e hl z => by
  obtain ⟨o, ho⟩ := (g.st.cell i d e).there hl
  rw [z, hp] at ho; cases ho
/-- a live cell is written -/
theorem Good.write (g : Good K F μ st H) {i : Nat} {c c' : Cell} {o : HO} (hc : st[i]? = some c) (hl : live c = true) (hl' : live c' = true)
    (hn : CellOk K F μ st.length (upd H (μ i) o) (μ i) c') : Good K F μ (st.set i c') (upd H (μ i) o) ∧ Ext F μ st H F μ (st.set i c') (upd H (μ i) o) := by
  have ck := g.st.cell i c hc
  have hF := ck.free hl
  have hi : i < st.length := (List.getElem?_eq_some_iff.mp hc).1
  refine ⟨⟨fun b u e => ?_, ⟨fun j d e => ?_, fun j k d d' e1 e2 l1 l2 q => ?_⟩⟩, ⟨Same.refl _, fun _ _ => rfl, by simp, fun a u h q => by rw [upd_ne (Ne.symm (q i c hc hl))]; exact h, fun j d e l => ?_, fun a u h => ?_, fun _ _ h => .inl h⟩⟩
  · rw [upd_ne (ne_of_none e hF)]; exact g.same _ _ e
  · rw [List.length_set]
    by_cases hj : i = j
    · subst hj
      rw [List.getElem?_set_self hi] at e
      cases e
      exact hn
    · rw [List.getElem?_set_ne hj] at e
      have cj := g.st.cell j d e
      refine cj.mono (Same.refl _) (fun _ _ => rfl) (Nat.le_refl _) (fun h => cj.free h) fun h => ?_
      have : μ j ≠ μ i := fun z => hj (g.st.inj i j c d hc e hl h z.symm)
      rw [upd_ne this]
  · have fix : ∀ k d, (st.set i c')[k]? = some d → live d = true → ∃ d0, st[k]? = some d0 ∧ live d0 = true := fun k d e l => by
      by_cases hk : i = k
      · subst hk; exact ⟨c, hc, hl⟩
      · rw [List.getElem?_set_ne hk] at e; exact ⟨d, e, l⟩
    obtain ⟨d0, a1, a2⟩ := fix j d e1 l1
    obtain ⟨d1, b1, b2⟩ := fix k d' e2 l2
    exact g.st.inj j k d0 d1 a1 b1 a2 b2 q
  · by_cases hj : i = j
    · subst hj; exact .inl ⟨c, hc, hl⟩
    · rw [List.getElem?_set_ne hj] at e; exact .inl ⟨d, e, l⟩
  · by_cases ha : a = μ i
    · subst ha; exact ⟨o, upd_same⟩
    · exact ⟨u, by rw [upd_ne ha]; exact h⟩
/-- a live cell is frozen -/
theorem Good.freezeG (g : Good K F μ st H) {i : Nat} {c c' : Cell} {o : HO} (hc : st[i]? = some c) (hl : live c = true) (hl' : live c' = false) (hH : H (μ i) = some o) (hn : Same F (upd F (μ i) o) → CellOk K (upd F (μ i) o) μ (st.set i c').length H (μ i) c') :
    Good K (upd F (μ i) o) μ (st.set i c') H ∧ Ext F μ st H (upd F (μ i) o) μ (st.set i c') H := by
  have ck := g.st.cell i _ hc
  have hF := ck.free hl
  have hi : i < st.length := (List.getElem?_eq_some_iff.mp hc).1
  have sm : Same F (upd F (μ i) o) := fun b u e => by rw [upd_ne (ne_of_none e hF)]; exact e
  refine ⟨⟨fun b u e => ?_, ⟨fun j d e => ?_, fun j k d d' e1 e2 l1 l2 q => ?_⟩⟩, ⟨sm, fun _ _ => rfl, by simp, fun _ _ h _ => h, fun j d e l => ?_, fun _ u h => ⟨u, h⟩, fun a u h => ?_⟩⟩
  · by_cases hb : b = μ i
    · subst hb; rw [upd_same] at e; cases e; exact hH
    · rw [upd_ne hb] at e; exact g.same _ _ e
  · by_cases hj : i = j
    · subst hj
      rw [List.getElem?_set_self hi] at e
      cases e
      exact hn sm
    · rw [List.getElem?_set_ne hj] at e
      have cj := g.st.cell j d e
      refine cj.mono sm (fun _ _ => rfl) (by simp) (fun h => ?_) fun h => rfl
      have : μ j ≠ μ i := fun z => hj (g.st.inj i j _ d hc e hl h z.symm)
      rw [upd_ne this]
      exact cj.free h
  · have fix : ∀ k d, (st.set i c')[k]? = some d → live d = true → st[k]? = some d := fun k d e l => by
      by_cases hk : i = k
      · subst hk
        rw [List.getElem?_set_self hi] at e
        cases e; rw [hl'] at l; cases l
      · rw [List.getElem?_set_ne hk] at e; exact e
    exact g.st.inj j k d d' (fix j d e1 l1) (fix k d' e2 l2) l1 l2 q
  · by_cases hj : i = j
    · subst hj
      rw [List.getElem?_set_self hi] at e
      cases e; rw [hl'] at l; cases l
    · rw [List.getElem?_set_ne hj] at e; exact .inl ⟨d, e, l⟩
  · by_cases ha : a = μ i
    · exact .inr (.inr ⟨i, _, hc, hl, ha.symm⟩)
    · rw [upd_ne ha] at h; exact .inl h
/-- a list's cell is frozen -/
theorem Good.freeze (g : Good K F μ st H) {i : Nat} {xs : List Val} (hc : st[i]? = some (.lst xs)) :
    ∃ F', Good K F' μ (st.set i (.frz xs)) H ∧ Ext F μ st H F' μ (st.set i (.frz xs)) H ∧ RepV K F' μ (st.set i (.frz xs)).length (.lst xs) (.ref (μ i)) := by
  obtain ⟨hF, vs, hH, hr⟩ := g.st.cell i _ hc
  have sm : Same F (upd F (μ i) (.lst vs)) := fun b u e => by rw [upd_ne (ne_of_none e hF)]; exact e
  have hr' : RepL K (upd F (μ i) (.lst vs)) μ (st.set i (.frz xs)).length xs vs := hr.mono sm (fun _ _ => rfl) (by simp)
  obtain ⟨g1, e1⟩ := g.freezeG hc rfl (c' := .frz xs) rfl hH fun _ => ⟨vs, upd_same, hr'⟩
  exact ⟨_, g1, e1, ⟨_, vs, rfl, upd_same, hr'⟩⟩
/-- an object's cell is frozen -/
theorem Good.freezeO (g : Good K F μ st H) {i : Nat} {c : Str} {ns : List Str} {xs : List Val} (hc : st[i]? = some (.obj c ns xs)) :
    ∃ F', Good K F' μ (st.set i (.fob c ns xs)) H ∧ Ext F μ st H F' μ (st.set i (.fob c ns xs)) H ∧ RepV K F' μ (st.set i (.fob c ns xs)).length (.obj c ns xs) (.ref (μ i)) := by
  obtain ⟨hF, dx, Ca, vs, hm, hH, hd, hl, hr⟩ := g.st.cell i _ hc
  have sm : Same F (upd F (μ i) (.ins Ca dx (ns.zip vs))) := fun b u e => by rw [upd_ne (ne_of_none e hF)]; exact e
  have hv : RepV K (upd F (μ i) (.ins Ca dx (ns.zip vs))) μ (st.set i (.fob c ns xs)).length (.obj c ns xs) (.ref (μ i)) := ⟨_, dx, Ca, vs, rfl, hm, upd_same, sm _ _ hd, hl, hr.mono sm (fun _ _ => rfl) (by simp)⟩
  obtain ⟨g1, e1⟩ := g.freezeG hc rfl (c' := .fob c ns xs) rfl hH fun _ => hv
  exact ⟨_, g1, e1, hv⟩
/-- an object taken out -/
def era (H : Hp) (D : Addr) : Hp := fun a => if a = D then none else H a
theorem era_same {D : Addr} : era H D D = none := if_pos rfl
theorem era_ne {D a : Addr} (h : a ≠ D) : era H D a = H a := if_neg h
theorem upd_era {D : Addr} {o : HO} : upd (era H D) D o = upd H D o := by
  funext a
  by_cases h : a = D
  · subst h; rw [upd_same, upd_same]
  · rw [upd_ne h, upd_ne h, era_ne h]
/-- what was done beside an object D, without it -/
theorem Ext.ghost {D : Addr} {o : HO} (g : Good K F μ st H) (hD : H D = none) (e : Ext F μ st (upd H D o) F' μ' st' H') (g' : Good K F' μ' st' H') :
    H' D = some o ∧ Ext F μ st H F' μ' st' (era H' D) ∧ Good K F' μ' st' (era H' D) := by
  have hF : F D = none := g.same.free hD
  have hQ : Quiet μ st D := fun i c hc hl => g.fresh hD i c hc hl
  have hF' : F' D = none := by
    cases q : F' D with
    | none => rfl
    | some u =>
      rcases e.fz D u q with h | h | ⟨i, c, hc, hl, hx⟩
      · rw [hF] at h; cases h
      · rw [upd_same] at h; cases h
      · exact absurd hx (hQ i c hc hl)
  have hQ' : ∀ i c, st'[i]? = some c → live c = true → μ' i ≠ D := fun i c hc hl z => by
    rcases e.new i c hc hl with ⟨d, hd, ld⟩ | hn
    · have hi := (List.getElem?_eq_some_iff.mp hd).1
      exact hQ i d hd ld (by rw [← e.mu i hi]; exact z)
    · rw [z, upd_same] at hn; cases hn
  refine ⟨e.frm D o upd_same hQ, ⟨e.same, e.mu, e.len, fun a u h q => ?_, fun i c hc hl => ?_, fun a u h => ?_, fun a u h => ?_⟩, ⟨fun b u h => ?_, ⟨fun i c hc => ?_, g'.st.inj⟩⟩⟩
  · have ha := ne_of_none h hD
    rw [era_ne ha]
    exact e.frm a u (by rw [upd_ne ha]; exact h) q
  · rcases e.new i c hc hl with h | h
    · exact .inl h
    · have ha := hQ' i c hc hl
      rw [upd_ne ha] at h
      exact .inr h
  · have ha := ne_of_none h hD
    rw [era_ne ha]
    exact e.dom a u (by rw [upd_ne ha]; exact h)
  · rcases e.fz a u h with h1 | h1 | h1
    · exact .inl h1
    · by_cases ha : a = D
      · rw [ha, hF'] at h; cases h
      · rw [upd_ne ha] at h1; exact .inr (.inl h1)
    · exact .inr (.inr h1)
  · rw [era_ne (ne_of_none h hF')]; exact g'.same _ _ h
  · have ck := g'.st.cell i c hc
    exact ck.mono (Same.refl _) (fun _ _ => rfl) (Nat.le_refl _) (fun hl => ck.free hl) fun hl => era_ne (hQ' i c hc hl)

/-! ### reading sequences -/
theorem seqOf_rep (g : Good K F μ st H) {x : Val} {v : V} {k : Bool} {xs : List Val} (h : RepV K F μ st.length x v) (e : seqOf st x = some (k, xs)) :
    ∃ a vs, v = .ref a ∧ RepL K F μ st.length xs vs ∧ (if k = true then SqL K.k H a vs else SqT K.k H a vs) := by
  cases x with
  | tup ys =>
    obtain ⟨a, vs, h1, h2, h3⟩ := h
    cases e
    exact ⟨a, vs, h1, h3, by rw [if_neg Bool.false_ne_true]; exact sqT_mono g.same h2⟩
  | lst ys =>
    obtain ⟨a, vs, h1, h2, h3⟩ := h
    cases e
    exact ⟨a, vs, h1, h3, by rw [if_pos rfl]; exact SqL.of (g.same _ _ h2)⟩
  | scr ys =>
    obtain ⟨a, vs, h1, h2, h3⟩ := h
    cases e
    exact ⟨a, vs, h1, h3, by rw [if_pos rfl]; exact sqL_mono g.same h2⟩
  | loc m =>
    obtain ⟨h1, h2⟩ := h
    change (match st[m]? with | some (.lst xs) => some (true, xs) | some (.frz xs) => some (true, xs) | _ => none) = some (k, xs) at e
    split at e
    · rename_i ys hm
      cases e
      obtain ⟨_, vs, h3, h4⟩ := g.st.cell m _ hm
      exact ⟨_, vs, h1, h4, by rw [if_pos rfl]; exact SqL.of h3⟩
    · rename_i ys hm
      cases e
      obtain ⟨vs, h3, h4⟩ := g.st.cell m _ hm
      exact ⟨_, vs, h1, h4, by rw [if_pos rfl]; exact SqL.of (g.same _ _ h3)⟩
    · cases e
  | _ => cases e
theorem lstOf_rep (g : Good K F μ st H) {x : Val} {v : V} {xs : List Val} (h : RepV K F μ st.length x v) (e : lstOf st x = some xs) :
    ∃ a vs, v = .ref a ∧ RepL K F μ st.length xs vs ∧ H a = some (.lst vs) := by
  cases x with
  | lst ys =>
    obtain ⟨a, vs, h1, h2, h3⟩ := h
    cases e
    exact ⟨a, vs, h1, h3, g.same _ _ h2⟩
  | loc m =>
    obtain ⟨h1, h2⟩ := h
    change (match st[m]? with | some (.lst xs) => some xs | some (.frz xs) => some xs | _ => none) = some xs at e
    split at e
    · rename_i ys hm
      cases e
      obtain ⟨_, vs, h3, h4⟩ := g.st.cell m _ hm
      exact ⟨_, vs, h1, h4, h3⟩
    · rename_i ys hm
      cases e
      obtain ⟨vs, h3, h4⟩ := g.st.cell m _ hm
      exact ⟨_, vs, h1, h4, g.same _ _ h3⟩
    · cases e
  | _ => cases e
end
end MP
/-! MiniPy: a body against the text. -/
namespace MP
open PySem L2

/-! ### forms of expressions -/
def isName : Expr → Option Str | .Name x _ => some x | _ => none
def isInt : Expr → Option Int | .Constant (.int i) _ _ => some i | _ => none
def isBl : Expr → Option Bool | .Constant (.bool b) _ _ => some b | _ => none
def isNon : Expr → Bool | .Constant .none _ _ => true | _ => false
def isStr : Expr → Option Str | .Constant (.str s) _ _ => some s | _ => none
def isTup : Expr → Option (List Expr) | .Tuple es _ _ => some es | _ => none
def isLst : Expr → Option (List Expr) | .List es _ => some es | _ => none
def isBin : Expr → Option (Expr × Operator × Expr) | .BinOp a op b _ => some (a, op, b) | _ => none
def isUn : Expr → Option (UnaryOp × Expr) | .UnaryOp op a _ => some (op, a) | _ => none
def isCmp : Expr → Option (Expr × CmpOp × Expr) | .Compare a [op] [b] _ => some (a, op, b) | _ => none
def isChain : Expr → Option (Expr × CmpOp × Expr × CmpOp × Expr) | .Compare a [op, op'] [b, c] _ => some (a, op, b, op', c) | _ => none
def isBo : Expr → Option (BoolOp × List Expr) | .BoolOp op es _ => some (op, es) | _ => none
def isIfx : Expr → Option (Expr × Expr × Expr) | .IfExp c a b _ => some (c, a, b) | _ => none
def isCall : Expr → Option (Str × List Expr) | .Call (.Name x _) es [] _ => some (x, es) | _ => none
def isMeth : Expr → Option (Expr × Str × List Expr × Bool) | .Call (.Attribute o m apos) es [] cpos => some (o, m, es, apos.endLine == cpos.line) | _ => none
def isSub : Expr → Option (Expr × Expr) | .Subscript a i _ => some (a, i) | _ => none
def isSlice : Expr → Option (Option Expr × Option Expr) | .Slice lo hi none _ => some (lo, hi) | _ => none
def isComp : Expr → Option (Expr × Expr × Expr × List Expr × Scope) | .ListComp elt [⟨tg, it, ifs, 0⟩] sc _ => some (elt, tg, it, ifs, sc) | _ => none

section
variable {pe : Expr}
theorem isName_eq {x : Str} (h : isName pe = some x) : ∃ p, pe = .Name x p := by cases pe <;> first | (cases h; exact ⟨_, rfl⟩) | cases h
theorem isInt_eq {i : Int} (h : isInt pe = some i) : ∃ j p, pe = .Constant (.int i) j p := by
  cases pe <;> first | (rename_i c j p; cases c <;> first | (cases h; exact ⟨_, _, rfl⟩) | cases h) | cases h
theorem isBl_eq {b : Bool} (h : isBl pe = some b) : ∃ j p, pe = .Constant (.bool b) j p := by
  cases pe <;> first | (rename_i c j p; cases c <;> first | (cases h; exact ⟨_, _, rfl⟩) | cases h) | cases h
theorem isNon_eq (h : isNon pe = true) : ∃ j p, pe = .Constant .none j p := by
  cases pe <;> first | (rename_i c j p; cases c <;> first | (cases h; exact ⟨_, _, rfl⟩) | cases h) | cases h
theorem isStr_eq {s : Str} (h : isStr pe = some s) : ∃ j p, pe = .Constant (.str s) j p := by
  cases pe <;> first | (rename_i c j p; cases c <;> first | (cases h; exact ⟨_, _, rfl⟩) | cases h) | cases h
theorem isTup_eq {es : List Expr} (h : isTup pe = some es) : ∃ k p, pe = .Tuple es k p := by cases pe <;> first | (cases h; exact ⟨_, _, rfl⟩) | cases h
theorem isLst_eq {es : List Expr} (h : isLst pe = some es) : ∃ p, pe = .List es p := by cases pe <;> first | (cases h; exact ⟨_, rfl⟩) | cases h
theorem isBin_eq {a b : Expr} {op : Operator} (h : isBin pe = some (a, op, b)) : ∃ p, pe = .BinOp a op b p := by cases pe <;> first | (cases h; exact ⟨_, rfl⟩) | cases h
theorem isUn_eq {a : Expr} {op : UnaryOp} (h : isUn pe = some (op, a)) : ∃ p, pe = .UnaryOp op a p := by cases pe <;> first | (cases h; exact ⟨_, rfl⟩) | cases h
theorem isCmp_eq {a b : Expr} {op : CmpOp} (h : isCmp pe = some (a, op, b)) : ∃ p, pe = .Compare a [op] [b] p := by
  unfold isCmp at h; split at h <;> first | (cases h; exact ⟨_, rfl⟩) | cases h
theorem isChain_eq {a b c : Expr} {op op' : CmpOp} (h : isChain pe = some (a, op, b, op', c)) : ∃ p, pe = .Compare a [op, op'] [b, c] p := by
  unfold isChain at h; split at h <;> first | (cases h; exact ⟨_, rfl⟩) | cases h
theorem isBo_eq {op : BoolOp} {es : List Expr} (h : isBo pe = some (op, es)) : ∃ p, pe = .BoolOp op es p := by cases pe <;> first | (cases h; exact ⟨_, rfl⟩) | cases h
theorem isIfx_eq {a b c : Expr} (h : isIfx pe = some (c, a, b)) : ∃ p, pe = .IfExp c a b p := by cases pe <;> first | (cases h; exact ⟨_, rfl⟩) | cases h
theorem isCall_eq {x : Str} {es : List Expr} (h : isCall pe = some (x, es)) : ∃ p q, pe = .Call (.Name x p) es [] q := by
  unfold isCall at h; split at h <;> first | (cases h; exact ⟨_, _, rfl⟩) | cases h
theorem isMeth_eq {o : Expr} {m : Str} {es : List Expr} {k : Bool} (h : isMeth pe = some (o, m, es, k)) : ∃ p q, pe = .Call (.Attribute o m p) es [] q ∧ k = (p.endLine == q.line) := by
  unfold isMeth at h; split at h <;> first | (cases h; exact ⟨_, _, rfl, rfl⟩) | cases h
theorem isSub_eq {a i : Expr} (h : isSub pe = some (a, i)) : ∃ p, pe = .Subscript a i p := by cases pe <;> first | (cases h; exact ⟨_, rfl⟩) | cases h
theorem isSlice_eq {lo hi : Option Expr} (h : isSlice pe = some (lo, hi)) : ∃ p, pe = .Slice lo hi none p := by
  unfold isSlice at h; split at h <;> first | (cases h; exact ⟨_, rfl⟩) | cases h
theorem isComp_eq {elt tg it : Expr} {ifs : List Expr} {sc : Scope} (h : isComp pe = some (elt, tg, it, ifs, sc)) : ∃ p, pe = .ListComp elt [⟨tg, it, ifs, 0⟩] sc p := by
  unfold isComp at h; split at h <;> first | (cases h; exact ⟨_, rfl⟩) | cases h
end

/-! ### side conditions -/
def notStar : Expr → Bool | .Starred _ _ => false | _ => true
def notLc : Expr → Bool | .ListComp .. => false | .SetComp .. => false | .DictComp .. => false | _ => true
def notSet : Expr → Bool | .Set .. => false | _ => true
def notSlice : Expr → Bool | .Slice .. => false | _ => true
def plainBase : Expr → Bool | .Name .. => true | .Attribute .. => true | .Subscript .. => true | _ => false
def plainT : Expr → Bool | .UnaryOp .. => false | .BoolOp .. => false | .IfExp .. => false | .Compare .. => false | _ => true
section
variable {e : Expr} {env : PySem.Env}
theorem star_cons {es : List Expr} (h : notStar e = true) : starEach (e :: es) env = (false, eval e env) :: starEach es env := by
  cases e <;> first | rfl | cases h
def noStars : List Expr → Bool | [] => true | e :: es => notStar e && noStars es
theorem star_any {pos : Pos} : ∀ {es : List Expr}, noStars es = true → (backTo pos (starEach es env)).any (·.1) = false
  | [], _ => rfl
  | e :: es, h => by
    have h' : (notStar e && noStars es) = true := h
    rw [Bool.and_eq_true] at h'
    rw [star_cons h'.1]
    show (false || (backTo pos (starEach es env)).any (·.1)) = false
    rw [star_any h'.2]; rfl
theorem star_all {pos : Pos} : ∀ {es : List Expr}, noStars es = true → (backTo pos (starEach es env)).all (fun x => !x.1) = true
  | [], _ => rfl
  | e :: es, h => by
    have h' : (notStar e && noStars es) = true := h
    rw [Bool.and_eq_true] at h'
    rw [star_cons h'.1]
    show (true && (backTo pos (starEach es env)).all (fun x => !x.1)) = true
    rw [star_all h'.2]; rfl
theorem sw_false {t : Option Expr} {l : Nat} (h : notLc e = true) : swapsWith e t l env = pure false := by
  cases e <;> first | rfl | cases h
theorem folded_id (h : notSet e = true) : ∀ x, foldedSetIterable e env x = pure x := by
  cases e <;> first | (intro _; rfl) | cases h
theorem plain_ix (h : notSlice e = true) : PlainIx e := by
  cases e <;> first | exact fun _ _ => rfl | cases h
theorem base_id {m : Str} (h : plainBase e = true) : attributeBase e m env (eval e env) = eval e env := by
  cases e <;> first | rfl | cases h
theorem true_id (h : plainT e = true) : ∀ whole, isTrue e env whole = (do let v ← whole; standAt e.pos; holding [v] (truthy v)) := by
  cases e <;> first | (intro _; rfl) | cases h
theorem marks_not {op : CmpOp} (h : notSet e = true) : behindInMarks op e = false := by
  cases e <;> first | rfl | cases h
theorem sub_assign {i : Expr} {pos : Pos} (h : notSlice i = true) : ∀ v, assign (.Subscript e i pos) env v = (do
      let ov ← holding [v] (eval e env)
      let iv ← holding [v, ov] (eval i env)
      standAt pos
      holding [v, ov, iv] (setItem ov iv v)
      release [v, ov, iv] []) := by
  cases i <;> first | (intro _; rfl) | cases h
end

/-! ### the checker -/
abbrev Names := List (Str × NameKind)
def visB (ns : Names) (x : Str) : Bool := match ns.lookup x with | some .local => true | some .cell => true | some .free => true | _ => false
def locB (ns : Names) (x : Str) : Bool := match ns.lookup x with | some .local => true | some .cell => true | _ => false
def glB (ns : Names) (x : Str) : Bool := match ns.lookup x with | some .globalImplicit => true | _ => false
def okName (x : Str) : Bool := !(x == ("__debug__" : Str)) && (!(x == ("__classdict__" : Str)) && decide (x ≠ ("__name__" : Str)))
def relN (ns sc : Names) : Names := ns.map fun (n, k) => if (k == .free && true && sc.lookup n == some .cell) then (n, .cell) else (n, k)
def cOp : COp → CmpOp | .eq => .Eq | .ne => .NotEq | .lt => .Lt | .le => .LtE | .gt => .Gt | .ge => .GtE | .is_ => .Is | .isnot => .IsNot | .in_ => .In | .notin => .NotIn
def bOp : BOp → Operator | .add => .Add | .sub => .Sub | .mul => .Mult | .fdiv => .FloorDiv | .mod => .Mod | .pow => .Pow
def opEq : Operator → Operator → Bool
  | .Add, .Add => true | .Sub, .Sub => true | .Mult, .Mult => true | .FloorDiv, .FloorDiv => true | .Mod, .Mod => true | .Pow, .Pow => true | _, _ => false
def cEq : CmpOp → CmpOp → Bool
  | .Eq, .Eq => true | .NotEq, .NotEq => true | .Lt, .Lt => true | .LtE, .LtE => true | .Gt, .Gt => true | .GtE, .GtE => true | .Is, .Is => true | .IsNot, .IsNot => true | .In, .In => true | .NotIn, .NotIn => true | _, _ => false
theorem opEq_eq {a b : Operator} (h : opEq a b = true) : a = b := by cases a <;> cases b <;> first | rfl | cases h
theorem cEq_eq {a b : CmpOp} (h : cEq a b = true) : a = b := by cases a <;> cases b <;> first | rfl | cases h
def tyName : Ty → String | .int => "int" | .bool => "bool" | .str => "str" | .tuple => "tuple" | .list => "list"
def tyStr : Ty → Str | .int => "int" | .bool => "bool" | .str => "str" | .tuple => "tuple" | .list => "list"
def f1Str : F1 → Str | .len => "len" | .int => "int" | .abs => "abs" | .bool => "bool" | .sum => "sum" | .min => "min" | .max => "max" | .lenset => "len"
def g1Str : G1 → Str | .list => "list" | .tuple => "tuple" | .sorted => "sorted" | .sortset => "sorted"
def btNames : List Str := ["int", "bool", "str", "tuple", "list", "len", "abs", "sum", "min", "max", "sorted", "set", "range", "isinstance"]

/-- calm: not within an except suite; hot: in a suite, eI the slot of the caught error, eD the classes it may be of; xn: the error classes with their fields; sub: class names with those of xn that are below -/
structure Cfg where
  N : List Str
  fs : List Str
  bs : List Str
  hfs : List Str := []
  calm : Bool := true
  hot : Bool := false
  eI : Option Nat := none
  eD : List Str := []
  xn : List (Str × List Str) := []
  sub : List (Str × List Str) := []
  cs : List (Str × List Str) := []
  nw : List Str := []
  ms : List (Str × Str) := []
def isAttr : Expr → Option (Expr × Str) | .Attribute a f _ => some (a, f) | _ => none
theorem isAttr_eq {pe a : Expr} {f : Str} (h : isAttr pe = some (a, f)) : ∃ p, pe = .Attribute a f p := by cases pe <;> first | (cases h; exact ⟨_, rfl⟩) | cases h
def idxF (f : Str) : List Str → Option Nat
  | [] => none
  | n :: ns => if f = n then some 0 else (idxF f ns).map (· + 1)
/-- a name of the caught error -/
def errB (C : Cfg) (ns : Names) (pe : Expr) : Bool := match isName pe with | some y => C.hot && (match C.eI with | some i => decide (C.N[i]? = some y) | none => false) && (visB ns y && okName y) | none => false
def clsB (C : Cfg) (ns : Names) (p : Str × List Str) (pe : Expr) : Bool := match isName pe with | some y => decide (y = p.1) && (glB ns y && (okName y && decide (C.sub.lookup y = some p.2))) | none => false
def clssB (C : Cfg) (ns : Names) : List (Str × List Str) → List Expr → Bool
  | [], [] => true
  | p :: ps, e :: es => notStar e && (clsB C ns p e && clssB C ns ps es)
  | _, _ => false
def noIter : F1 → Bool | .sum => false | .min => false | .max => false | _ => true
def blkNames (ns : Names) (sc : Scope) : Names := relN sc.names ns
/-- the own names of a comprehension's block: its target -/
def blkC' (C : Cfg) (ns : Names) (sc : Scope) (y : Str) (x : Nat) : Bool := blkC C.N { kind := .function, names := ns, isGenerator := false, isCoroutine := false } sc [(y, x)] && (match sc.kind with | .function => true | _ => false)

mutual
def chkE (C : Cfg) (ns : Names) : E → Expr → Bool
  | .var i, pe => match isName pe with | some x => decide (C.N[i]? = some x) && (visB ns x && okName x) | none => false
  | .int i, pe => match isInt pe with | some j => decide (i = j) | none => false
  | .bl b, pe => match isBl pe with | some c => decide (b = c) | none => false
  | .non, pe => isNon pe
  | .str s, pe => match isStr pe with | some t => decide (s = t) | none => false
  | .glob g, pe => match isName pe with | some x => decide (g = x) && (glB ns x && okName x) | none => false
  | .tup es, pe => match isTup pe with | some ps => chkEs C ns es ps | none => false
  | .lst _ es, pe => match isLst pe with | some ps => chkEs C ns es ps | none => false
  | .bin _ op a b, pe => match isBin pe with | some (p, o, q) => opEq (bOp op) o && (chkE C ns a p && chkE C ns b q) | none => false
  | .neg a, pe => match isUn pe with | some (.USub, p) => chkE C ns a p | _ => false
  | .not a, pe => match isUn pe with | some (.Not, p) => chkE C ns a p | _ => false
  | .cmp op a b, pe => match isCmp pe with | some (p, o, q) => cEq (cOp op) o && (notSet q && (chkE C ns a p && chkE C ns b q)) | none => false
  | .chain op op' a b c, pe => match isChain pe with | some (p, o, q, o', r) => cEq (cOp op) o && (cEq (cOp op') o' && (notSet r && (chkE C ns a p && (chkE C ns b q && chkE C ns c r)))) | none => false
  | .bo k es, pe => match isBo pe with | some (.And, ps) => k && chkEs C ns es ps | some (.Or, ps) => !k && chkEs C ns es ps | _ => false
  | .ifx c a b, pe => match isIfx pe with | some (r, p, q) => chkE C ns c r && (chkE C ns a p && chkE C ns b q) | none => false
  | .call f es, pe => match isCall pe with | some (x, ps) => decide (f = x) && (!ps.isEmpty && (C.fs.contains f && (glB ns x && (okName x && (noStars ps && chkEs C ns es ps))))) | none => false
  | .isi a t, pe => match isCall pe with
    | some (x, [p, q]) => decide (x = "isinstance") && (glB ns x && (notStar p && (chkE C ns a p && (match isName q with | some y => decide (y = tyStr t) && (glB ns y && C.bs.contains y) | none => false)))) && C.bs.contains "isinstance"
    | _ => false
  | .isi2 a t u, pe => match isCall pe with
    | some (x, [p, q]) => decide (x = "isinstance") && (glB ns x && (notStar p && (chkE C ns a p && (match isTup q with
        | some [q1, q2] => (match isName q1, isName q2 with | some y, some z => decide (y = tyStr t) && (glB ns y && (C.bs.contains y && (decide (z = tyStr u) && (glB ns z && C.bs.contains z)))) | _, _ => false)
        | _ => false)))) && C.bs.contains "isinstance"
    | _ => false
  | .f1 .lenset a, pe => match isCall pe with
    | some (x, [p]) => C.calm && (decide (x = "len") && (glB ns x && (C.bs.contains x && (match isCall p with
        | some (y, [q]) => decide (y = "set") && (glB ns y && (C.bs.contains y && (notStar q && chkE C ns a q)))
        | _ => false))))
    | _ => false
  | .f1 f a, pe => match isCall pe with
    | some (x, [p]) => decide (x = f1Str f) && (glB ns x && (notStar p && (C.bs.contains x && (chkE C ns a p && (C.calm || noIter f)))))
    | _ => false
  | .mm k a b, pe => match isCall pe with
    | some (x, [p, q]) => C.calm && (decide (x = if k then "max" else "min") && (glB ns x && (notStar p && (notStar q && (C.bs.contains x && (chkE C ns a p && chkE C ns b q))))))
    | _ => false
  | .g1 _ .sortset a, pe => match isCall pe with
    | some (x, [p]) => C.calm && (decide (x = "sorted") && (glB ns x && (C.bs.contains x && (match isCall p with
        | some (y, [q]) => decide (y = "set") && (glB ns y && (C.bs.contains y && (notStar q && chkE C ns a q)))
        | _ => false))))
    | _ => false
  | .g1 _ f a, pe => match isCall pe with
    | some (x, [p]) => decide (x = g1Str f) && (glB ns x && (notStar p && (C.bs.contains x && chkE C ns a p)))
    | _ => false
  | .sub a i, pe => match isSub pe with | some (p, q) => notSlice q && (chkE C ns a p && chkE C ns i q) | none => false
  | .slc _ a lo hi, pe => match isSub pe with
    | some (p, q) => chkE C ns a p && (match isSlice q with
        | some (l, h) => (match l with | none => isNo lo | some l => !isNo lo && chkE C ns lo l) && (match h with | none => isNo hi | some h => !isNo hi && chkE C ns hi h)
        | none => false)
    | none => false
  | .no, _ => false
  | .rng es, pe => match isCall pe with
    | some (x, ps) => decide (x = "range") && (glB ns x && (C.bs.contains x && ((decide (ps.length = 1) || decide (ps.length = 2)) && (noStars ps && chkEs C ns es ps))))
    | none => false
  | .comp _ x it c elt, pe => match isComp pe with
    | some (pelt, tg, pit, ifs, sc) => C.calm && (match isName tg with
        | some y => decide (C.N[x]? = some y) && (locB sc.names y && blkC' C ns sc y x)
        | none => false) && (notSet pit && (chkE C ns it pit && (chkE C (blkNames ns sc) elt pelt && (match ifs with
          | [] => isNo c
          | [pc] => !isNo c && chkE C (blkNames ns sc) c pc
          | _ => false))))
    | none => false
  | .frz a, pe => chkE C ns a pe
  | .app o a, pe => match isMeth pe with
    | some (po, m, [p], k) => decide (m = "append") && (k && (plainBase po && (notStar p && (chkE C ns o po && chkE C ns a p))))
    | _ => false
  | .xfld h j, pe => match isAttr pe with
    | some (p, f) => decide (h = C.N.length) && (errB C ns p && C.xn.all fun q => !C.eD.contains q.1 || decide (idxF f q.2 = some j))
    | none => false
  | .xis h ys, pe => match isCall pe with
    | some (x, [p, q]) => decide (x = "isinstance") && (decide (h = C.N.length) && (errB C ns p && (glB ns x && (C.bs.contains "isinstance" && (notStar p && (notStar q && (match isTup q with
        | some qs => decide (ys.length ≤ 100) && clssB C ns ys qs
        | none => (match ys with | [y] => clsB C ns y q | _ => false))))))))
    | _ => false
  | .fld c f a, pe => match isAttr pe with
    | some (p, g) => decide (f = g) && (plainBase p && ((match C.cs.lookup c with | some l => l.contains f | none => false) && chkE C ns a p))
    | none => false
  | .new c es, pe => match isCall pe with | some (x, ps) => C.calm && (decide (c = x) && (!ps.isEmpty && (C.nw.contains c && (glB ns x && (okName x && (noStars ps && chkEs C ns es ps)))))) | none => false
  | .meth c m o es, pe => match isMeth pe with
    | some (po, m', ps, k) => C.calm && (decide (m = m') && (k && (plainBase po && (C.ms.contains (c, m) && (chkE C ns o po && (noStars ps && (decide (ps.length < 29) && chkEs C ns es ps)))))))
    | none => false
def chkEs (C : Cfg) (ns : Names) : Es → List Expr → Bool
  | .nil, [] => true
  | .cons e r, p :: ps => notStar p && (chkE C ns e p && chkEs C ns r ps)
  | _, _ => false
end
end MP
/-! MiniPy: what is wanted behind a piece, and the operations by values. -/
namespace MP
open PySem L2

/-- an error of the program's own class c with its fields -/
def ExnOk (Y : Fx) (F : Hp) (μ : Nat → Addr) (n : Nat) (c : Str) (fs : List Val) (cls : Value) (d : Option Addr) : Prop :=
  Y.mg c = some cls ∧ ∃ dd ns vs, d = some dd ∧ Y.Xn c = some ns ∧ ns.length = vs.length ∧ F dd = some (.xd (ns.zip vs)) ∧ RepL Y.kf F μ n fs vs

/-- what is wanted behind a piece -/
def RP {α : Type} (Y : Fx) (F : Hp) (μ : Nat → Addr) (st : Store) (H : Hp) (r : R (α × Store)) (k : Hp → (Nat → Addr) → Hp → α → Store → Prop) (W : XK) : Prop := match r with
  | .ok p => ∀ F' μ' H', Ext F μ st H F' μ' p.2 H' → Good Y.kf F' μ' p.2 H' → k F' μ' H' p.1 p.2
  | .exn c fs st' => ∀ F' μ' H' cls d, Ext F μ st H F' μ' st' H' → Good Y.kf F' μ' st' H' → ExnOk Y F' μ' st'.length c fs cls d → W cls d H'
  | .stuck => False
def kV (Y : Fx) (Q : VK) : Hp → (Nat → Addr) → Hp → Val → Store → Prop := fun F μ H x st => ∀ w, RepV Y.kf F μ st.length x w → Q w H
def kT (Q : Bool → Hp → Prop) : Hp → (Nat → Addr) → Hp → Bool → Store → Prop := fun _ _ H b _ => Q b H
def kA (Y : Fx) (Q : List V → Hp → Prop) : Hp → (Nat → Addr) → Hp → List Val → Store → Prop := fun F μ H xs st => ∀ ws, RepL Y.kf F μ st.length xs ws → Q ws H
section
variable {α β : Type} {Y : Fx} {F F1 H H1 : Hp} {μ μ1 : Nat → Addr} {st st1 : Store} {r : R (α × Store)} {k k' : Hp → (Nat → Addr) → Hp → α → Store → Prop} {W : XK}
theorem RP.ext (e : Ext F μ st H F1 μ1 st1 H1) (h : RP Y F μ st H r k W) : RP Y F1 μ1 st1 H1 r k W := by
  cases r with
  | ok p => exact fun F' μ' H' e' g => h F' μ' H' (e.trans e') g
  | exn c fs s => exact fun F' μ' H' cls d e' g x => h F' μ' H' cls d (e.trans e') g x
  | stuck => exact h
theorem RP.impE (h : RP Y F μ st H r k W) (i : ∀ F' μ' H' a st', r = .ok (a, st') → Ext F μ st H F' μ' st' H' → Good Y.kf F' μ' st' H' → k F' μ' H' a st' → k' F' μ' H' a st') : RP Y F μ st H r k' W := by
  cases r with
  | ok p => exact fun F' μ' H' e' g => i F' μ' H' p.1 p.2 rfl e' g (h F' μ' H' e' g)
  | exn c fs s => exact h
  | stuck => exact h
theorem RP.bind {f : α × Store → R (β × Store)} {kb : Hp → (Nat → Addr) → Hp → β → Store → Prop} (h : RP Y F μ st H (r.bind f) kb W) :
    RP Y F μ st H r (fun F' μ' H' a st' => RP Y F' μ' st' H' (f (a, st')) kb W) W := by
  cases r with
  | ok p => exact fun F' μ' H' e' g => RP.ext e' h
  | exn c fs s => exact h
  | stuck => exact h
theorem RP.bindP {δ : Type} {r : R δ} {f : δ → R (β × Store)} {kb : Hp → (Nat → Addr) → Hp → β → Store → Prop} (hx : ∀ c fs s, r ≠ .exn c fs s) (h : RP Y F μ st H (r.bind f) kb W) : ∃ a, r = .ok a ∧ RP Y F μ st H (f a) kb W := by
  cases r with
  | ok a => exact ⟨a, rfl, h⟩
  | exn c fs s => exact absurd rfl (hx c fs s)
  | stuck => exact False.elim h
theorem RP.wish {W' : XK} (h : RP Y F μ st H r k W) (w : ∀ c d H, W c d H → W' c d H) : RP Y F μ st H r k W' := by
  cases r with
  | ok p => exact h
  | exn c fs s => exact fun F' μ' H' cls d e g x => w _ _ _ (h F' μ' H' cls d e g x)
  | stuck => exact h
end

/-! ### new lists and tuples -/
theorem szMax_le {n : Nat} (h : n ≤ szMax) : n ≤ sizeLine := Nat.le_trans h (by rw [sizeLine_eq]; decide)
section
variable {Y : Fx} {F : Hp} {μ : Nat → Addr} {st : Store} {H : Hp} {W : XK} {Q : VK} {xs : List Val} {vs : List V} {m : Bool}
theorem newL_ok (g : Good Y.kf F μ st H) (h : RP Y F μ st H (newL m xs st) (kV Y Q) W) (r : RepL Y.kf F μ st.length xs vs) : vs.length ≤ sizeLine ∧ ∀ p, H p = none → Q (.ref p) (upd H p (.lst vs)) := by
  unfold newL at h
  by_cases hl : xs.length ≤ szMax
  · rw [if_pos hl] at h
    refine ⟨by rw [r.len]; exact szMax_le hl, fun p hp => ?_⟩
    cases m with
    | true =>
      rw [if_pos rfl] at h
      have hF : F p = none := g.same.free hp
      obtain ⟨g', e', r'⟩ := g.celled hp (o := .lst vs) rfl (c := .lst xs) ⟨hF, vs, upd_same, r⟩
      exact h _ _ _ e' g' _ r'
    | false =>
      rw [if_neg Bool.false_ne_true] at h
      obtain ⟨g', e'⟩ := g.frozen (o := .lst vs) hp
      exact h _ _ _ e' g' _ ⟨p, vs, rfl, upd_same, e'.l r⟩
  · rw [if_neg hl] at h; exact False.elim h
theorem newT_ok (g : Good Y.kf F μ st H) (h : RP Y F μ st H (newT xs st) (kV Y Q) W) (r : RepL Y.kf F μ st.length xs vs) : vs.length ≤ sizeLine ∧ ∀ p, H p = none → Q (.ref p) (upd H p (.tup vs)) := by
  unfold newT at h
  by_cases hl : xs.length ≤ szMax
  · rw [if_pos hl] at h
    refine ⟨by rw [r.len]; exact szMax_le hl, fun p hp => ?_⟩
    obtain ⟨g', e'⟩ := g.frozen (o := .tup vs) hp
    exact h _ _ _ e' g' _ ⟨p, vs, rfl, SqT.of upd_same, e'.l r⟩
  · rw [if_neg hl] at h; exact False.elim h
/-- the same tuple once more -/
theorem newT_same (g : Good Y.kf F μ st H) (h : RP Y F μ st H (newT xs st) (kV Y Q) W) {a : Addr} (r : RepV Y.kf F μ st.length (.tup xs) (.ref a)) : Q (.ref a) H := by
  unfold newT at h
  by_cases hl : xs.length ≤ szMax
  · rw [if_pos hl] at h
    exact h _ _ _ Ext.refl g _ r
  · rw [if_neg hl] at h; exact False.elim h
end

/-! ### the operations -/
/-- two values in, by their trees -/
def r2 (Y : Fx) (W : XK) (f : Val → Val → Store → RV) : R2 := fun x y H Q => ∃ F μ st a b, Good Y.kf F μ st H ∧ RepV Y.kf F μ st.length a x ∧ RepV Y.kf F μ st.length b y ∧ RP Y F μ st H (f a b st) (kV Y Q) W
def flatB (x : Val) : Bool := flat x
section
variable {X : Cx} {Y : Fx} {W : XK}
theorem rep_int {K : Kf} {F : Hp} {μ : Nat → Addr} {n : Nat} {i : Int} {x : V} (h : RepV K F μ n (.int i) x) : x = .int i := h
theorem repV_ext {F : Hp} {μ : Nat → Addr} {st : Store} {H : Hp} {Q : VK} {v : Val} {w : V} (g : Good Y.kf F μ st H) (h : RP Y F μ st H (.ok (v, st)) (kV Y Q) W) (r : RepV Y.kf F μ st.length v w) : Q w H := h F μ H Ext.refl g w r

theorem op_add_all (hK : X.K = Y.K) {m : Bool} : OpR X (binaryOp .Add) (r2 Y W (binV m .add)) := by
  intro pins s σ H x y v u Q I rx ry h
  obtain ⟨F, μ, st, a, b, g, ra, rb, h⟩ := h
  have lists : ∀ xs ys, lstOf st a = some xs → lstOf st b = some ys → RP Y F μ st H (newL m (xs ++ ys) st) (kV Y Q) W → wpAny (model X.prog X.w) X.A (binaryOp .Add v u) (EP X pins σ Q) X.xe s := fun xs ys h1 h2 h => by
    obtain ⟨p, vs, e1, r1, q1⟩ := lstOf_rep g ra h1
    obtain ⟨q, ws, e2, r2', q2⟩ := lstOf_rep g rb h2
    obtain ⟨z, k⟩ := newL_ok g h (r1.append r2')
    rw [List.length_append] at z
    exact op_cat pins s σ H x y v u Q I rx ry ⟨p, q, vs, ws, e1, e2, q1, q2, z, k⟩
  have rest : RP Y F μ st H (match lstOf st a, lstOf st b with | some xs, some ys => newL m (xs ++ ys) st | _, _ => .stuck) (kV Y Q) W → wpAny (model X.prog X.w) X.A (binaryOp .Add v u) (EP X pins σ Q) X.xe s := fun h => by
    split at h
    · rename_i xs ys h1 h2
      exact lists xs ys h1 h2 h
    · exact False.elim h
  cases a with
  | int i =>
    cases b with
    | int j =>
      have ex : x = .int i := ra
      have ey : y = .int j := rb
      subst ex ey
      exact op_add pins s σ H _ _ v u Q I rx ry ⟨i, j, rfl, rfl, repV_ext g h rfl⟩
    | _ => exact False.elim h
  | str i =>
    cases b with
    | str j =>
      have ex : x = .str i := ra
      have ey : y = .str j := rb
      subst ex ey
      have h' : RP Y F μ st H (if i.length + j.length ≤ szMax then .ok (.str (i ++ j), st) else .stuck) (kV Y Q) W := h
      by_cases hl : i.length + j.length ≤ szMax
      · rw [if_pos hl] at h'
        exact op_add_str pins s σ H _ _ v u Q I rx ry ⟨i, j, rfl, rfl, szMax_le hl, repV_ext g h' rfl⟩
      · rw [if_neg hl] at h'; exact False.elim h'
    | _ => exact False.elim h
  | tup xs =>
    cases b with
    | tup ys =>
      obtain ⟨p, vs, e1, q1, r1⟩ := id ra
      obtain ⟨q, ws, e2, q2, r2'⟩ := id rb
      have h' : RP Y F μ st H (newT (xs ++ ys) st) (kV Y Q) W := h
      obtain ⟨z, k⟩ := newT_ok g h' (r1.append r2')
      rw [List.length_append] at z
      refine op_catA pins s σ H x y v u Q I rx ry ⟨p, q, vs, ws, e1, e2, by rw [hK]; exact sqT_mono g.same q1, by rw [hK]; exact sqT_mono g.same q2, z, fun e => ?_, fun _ e => ?_, fun _ _ => k⟩
      · have ex : xs = [] := r1.nil_iff.mp e
        subst ex
        exact newT_same g h' (by rw [List.nil_append, ← e2]; exact rb)
      · have ey : ys = [] := r2'.nil_iff.mp e
        subst ey
        rw [List.append_nil] at h'
        exact newT_same g h' (by rw [← e1]; exact ra)
    | _ => exact False.elim h
  | non => cases b <;> exact False.elim h
  | bl _ => cases b <;> exact False.elim h
  | lst xs => cases b <;> exact rest h
  | loc n => cases b <;> exact rest h
  | scr xs => cases b <;> exact rest h
  | obj _ _ _ => cases b <;> exact rest h
theorem op_sub_all {m : Bool} : OpR X (binaryOp .Sub) (r2 Y W (binV m .sub)) := by
  intro pins s σ H x y v u Q I rx ry h
  obtain ⟨F, μ, st, a, b, g, ra, rb, h⟩ := h
  cases a <;> cases b <;> first
    | exact False.elim h
    | (rename_i i j
       have ex : x = .int i := ra
       have ey : y = .int j := rb
       subst ex ey
       exact op_sub pins s σ H _ _ v u Q I rx ry ⟨i, j, rfl, rfl, repV_ext g h rfl⟩)
theorem op_mod_all {m : Bool} : OpR X (binaryOp .Mod) (r2 Y W (binV m .mod)) := by
  intro pins s σ H x y v u Q I rx ry h
  obtain ⟨F, μ, st, a, b, g, ra, rb, h⟩ := h
  cases a <;> cases b <;> first
    | exact False.elim h
    | (rename_i i j
       have ex : x = .int i := ra
       have ey : y = .int j := rb
       subst ex ey
       have h' : RP Y F μ st H (if 0 < j then .ok (.int (i % j), st) else .stuck) (kV Y Q) W := h
       by_cases hj : 0 < j
       · rw [if_pos hj] at h'
         exact op_mod pins s σ H _ _ v u Q I rx ry ⟨i, j, rfl, rfl, hj, repV_ext g h' rfl⟩
       · rw [if_neg hj] at h'; exact False.elim h')
theorem op_fdiv_all {m : Bool} : OpR X (binaryOp .FloorDiv) (r2 Y W (binV m .fdiv)) := by
  intro pins s σ H x y v u Q I rx ry h
  obtain ⟨F, μ, st, a, b, g, ra, rb, h⟩ := h
  cases a <;> cases b <;> first
    | exact False.elim h
    | (rename_i i j
       have ex : x = .int i := ra
       have ey : y = .int j := rb
       subst ex ey
       have h' : RP Y F μ st H (if 0 < j ∧ j.natAbs.log2 < 9000 then .ok (.int (i / j), st) else .stuck) (kV Y Q) W := h
       by_cases hj : 0 < j ∧ j.natAbs.log2 < 9000
       · rw [if_pos hj] at h'
         exact op_fdivW pins s σ H _ _ v u Q I rx ry ⟨i, j, rfl, rfl, hj, repV_ext g h' rfl⟩
       · rw [if_neg hj] at h'; exact False.elim h')
theorem op_pow_all {m : Bool} : OpR X (binaryOp .Pow) (r2 Y W (binV m .pow)) := by
  intro pins s σ H x y v u Q I rx ry h
  obtain ⟨F, μ, st, a, b, g, ra, rb, h⟩ := h
  cases a <;> cases b <;> first
    | exact False.elim h
    | (rename_i i j
       have ex : x = .int i := ra
       have ey : y = .int j := rb
       subst ex ey
       have h' : RP Y F μ st H (if 0 ≤ j ∧ j ≤ 1000000 ∧ i.natAbs < 2 ^ 64 then .ok (.int (i ^ j.toNat), st) else .stuck) (kV Y Q) W := h
       by_cases hj : 0 ≤ j ∧ j ≤ 1000000 ∧ i.natAbs < 2 ^ 64
       · rw [if_pos hj] at h'
         exact op_pow pins s σ H _ _ v u Q I rx ry ⟨i, j, rfl, rfl, hj, repV_ext g h' rfl⟩
       · rw [if_neg hj] at h'; exact False.elim h')
theorem bitsX (x : Int) : Builtin.Int.intBits x ≤ x.natAbs.log2 + 1 := by unfold Builtin.Int.intBits; split <;> omega
theorem fitsX {i j : Int} (h : mulOk i j = true) : IntMulOk i j := fun z => by
  have l := of_decide_eq_true (Bool.and_eq_true_iff.mp z).2
  have q : i.natAbs.log2 + j.natAbs.log2 < 100000000 := of_decide_eq_true h
  rw [show bitsLine = 134217728 from by decide] at l
  have h1 := bitsX i; have h2 := bitsX j
  omega
/-- * of factors of together less than a hundred million bits -/
theorem op_mulX : OpR X (binaryOp .Mult) (rI (fun i j => mulOk i j = true) fun i j => .int (i * j)) := opI fun _ _ _ _ _ _ _ hc q => PyProof.Rows.mul_int q (fitsX hc)
theorem op_mul_all (hK : X.K = Y.K) {m : Bool} : OpR X (binaryOp .Mult) (r2 Y W (binV m .mul)) := by
  intro pins s σ H x y v u Q I rx ry h
  obtain ⟨F, μ, st, a, b, g, ra, rb, h⟩ := h
  have lists : ∀ (k : Int), b = .int k → RP Y F μ st H (match lstOf st a with | some xs => if xs.length * k.toNat ≤ szMax ∧ k ≤ 1000000 ∧ -1000000 ≤ k then newL m (List.replicate k.toNat xs).flatten st else .stuck | none => .stuck) (kV Y Q) W →
      wpAny (model X.prog X.w) X.A (binaryOp .Mult v u) (EP X pins σ Q) X.xe s := fun k eb h => by
    rw [eb] at rb
    have ey : y = .int k := rb
    subst ey
    split at h
    · rename_i xs h1
      obtain ⟨p, vs, e1, r1, q1⟩ := lstOf_rep g ra h1
      by_cases hk : xs.length * k.toNat ≤ szMax ∧ k ≤ 1000000 ∧ -1000000 ≤ k
      · rw [if_pos hk] at h
        obtain ⟨z, q⟩ := newL_ok g h (r1.rep k.toNat)
        exact op_rep pins s σ H x _ v u Q I rx ry ⟨p, k, vs, e1, rfl, q1, by omega, by omega, by rw [r1.len]; exact szMax_le hk.1, q⟩
      · rw [if_neg hk] at h; exact False.elim h
    · exact False.elim h
  cases a with
  | int i =>
    cases b with
    | int j =>
      have ex : x = .int i := ra
      have ey : y = .int j := rb
      subst ex ey
      have h' : RP Y F μ st H (if mulOk i j then .ok (.int (i * j), st) else .stuck) (kV Y Q) W := h
      by_cases hj : mulOk i j = true
      · rw [if_pos hj] at h'
        exact op_mulX pins s σ H _ _ v u Q I rx ry ⟨i, j, rfl, rfl, hj, repV_ext g h' rfl⟩
      · rw [if_neg hj] at h'; exact False.elim h'
    | _ => exact False.elim h
  | tup xs =>
    cases b with
    | int k =>
      obtain ⟨p, vs, e1, q1, r1⟩ := id ra
      have ey : y = .int k := rb
      subst ey
      have h' : RP Y F μ st H (if xs.isEmpty = false ∧ 2 ≤ k ∧ k ≤ 1000 ∧ xs.length ≤ 100 then newT (List.replicate k.toNat xs).flatten st else .stuck) (kV Y Q) W := h
      by_cases hk : xs.isEmpty = false ∧ 2 ≤ k ∧ k ≤ 1000 ∧ xs.length ≤ 100
      · rw [if_pos hk] at h'
        obtain ⟨z, q⟩ := newT_ok g h' (r1.rep k.toNat)
        refine op_repT pins s σ H x _ v u Q I rx ry ⟨p, k, vs, e1, rfl, by rw [hK]; exact sqT_mono g.same q1, fun e => ?_, hk.2.1, hk.2.2.1, by rw [r1.len]; omega, q⟩
        have ex : xs = [] := r1.nil_iff.mp e
        subst ex
        exact absurd hk.1 (by decide)
      · rw [if_neg hk] at h'; exact False.elim h'
    | _ => exact False.elim h
  | non => cases b <;> exact False.elim h
  | bl _ => cases b <;> exact False.elim h
  | str _ => cases b <;> exact False.elim h
  | lst xs => cases b <;> first | exact False.elim h | exact lists _ rfl h
  | loc n => cases b <;> first | exact False.elim h | exact lists _ rfl h
  | scr xs => cases b <;> exact False.elim h
  | obj _ _ _ => cases b <;> exact False.elim h
theorem op_bin (hK : X.K = Y.K) {m : Bool} (op : BOp) : OpR X (binaryOp (bOp op)) (r2 Y W (binV m op)) := by
  cases op with
  | add => exact op_add_all hK
  | sub => exact op_sub_all
  | mul => exact op_mul_all hK
  | fdiv => exact op_fdiv_all
  | mod => exact op_mod_all
  | pow => exact op_pow_all
end
end MP
/-! MiniPy: comparisons, truth, types, subscripts, built-in functions, by values. -/
namespace MP
open PySem L2 PySem.Spec PyProof.Rows

section
variable {K : Kf} {F H : Hp} {μ : Nat → Addr} {n : Nat}
mutual
theorem dp_rep (sm : Same F H) : ∀ {x : Val} {v : V}, RepV K F μ n x v → PyData.canLay0 (toPD x) = true → Dp K.k H v (toPD x)
  | .non, _, h, _ => by cases h; exact .non
  | .bl b, _, h, _ => by cases h; exact .bl b
  | .int i, _, h, _ => by cases h; exact .int i
  | .str s, _, h, _ => by cases h; exact .str s
  | .tup xs, _, ⟨a, vs, h1, h2, h3⟩, c => by subst h1; exact .tup (sqT_mono sm h2) (dps_rep sm h3 c)
  | .lst xs, _, ⟨a, vs, h1, h2, h3⟩, c => by subst h1; exact .lst (SqL.of (sm _ _ h2)) (dps_rep sm h3 c)
  | .scr xs, _, ⟨a, vs, h1, h2, h3⟩, c => by subst h1; exact .lst (sqL_mono sm h2) (dps_rep sm h3 c)
  | .loc _, _, _, c => by cases c
theorem dps_rep (sm : Same F H) : ∀ {xs : List Val} {vs : List V}, RepL K F μ n xs vs → PyData.canLayAll0 (toPDs xs) = true → DpAll K.k H vs (toPDs xs)
  | [], _, h, _ => by cases h; exact .nil
  | x :: xs, _, ⟨v, r, h1, h2, h3⟩, c => by
    subst h1
    have c' : (PyData.canLay0 (toPD x) && PyData.canLayAll0 (toPDs xs)) = true := c
    rw [Bool.and_eq_true] at c'
    exact .cons (dp_rep sm h2 c'.1) (dps_rep sm h3 c'.2)
end
theorem flat_rep {x : Val} {v : V} (h : RepV K F μ n x v) (f : flat x = true) : flatV v = true := by
  cases x with
  | non => cases h; rfl
  | bl b => cases h; rfl
  | int i => cases h; rfl
  | str s => cases h; rfl
  | _ => cases f
theorem eqF_rep {x y : Val} {v w : V} (h : RepV K F μ n x v) (h' : RepV K F μ n y w) (f : flat x = true) (f' : flat y = true) : eqV v w = eqF x y := by
  cases x with
  | non => cases h; cases y <;> first | (cases h'; rfl) | cases f'
  | bl b => cases h; cases y <;> first | (cases h'; rfl) | cases f'
  | int i => cases h; cases y <;> first | (cases h'; rfl) | cases f'
  | str s => cases h; cases y <;> first | (cases h'; rfl) | cases f'
  | _ => cases f
theorem flats_rep : ∀ {xs : List Val} {vs : List V}, RepL K F μ n xs vs → xs.all flat = true → vs.all flatV = true
  | [], _, h, _ => by cases h; rfl
  | x :: xs, _, ⟨v, r, h1, h2, h3⟩, f => by
    subst h1
    rw [List.all_cons, Bool.and_eq_true] at f
    rw [List.all_cons, flat_rep h2 f.1, flats_rep h3 f.2]; rfl
theorem in_rep {x : Val} {v : V} (h : RepV K F μ n x v) (f : flat x = true) : ∀ {xs : List Val} {vs : List V}, RepL K F μ n xs vs → xs.all flat = true → inV v vs = xs.any fun z => eqF z x
  | [], _, q, _ => by cases q; rfl
  | y :: xs, _, ⟨w, r, h1, h2, h3⟩, g => by
    subst h1
    rw [List.all_cons, Bool.and_eq_true] at g
    have e1 := eqF_rep h2 h g.1 f
    have e2 := in_rep h f h3 g.2
    show (eqV w v || inV v r) = _
    rw [e1, e2]; rfl
end

/-- a comparison by trees -/
def rC (Y : Fx) (op : COp) : R2 := fun x y H Q => ∃ F μ st a b k, Good Y.kf F μ st H ∧ RepV Y.kf F μ st.length a x ∧ RepV Y.kf F μ st.length b y ∧ cmpV op a b st = .ok k ∧ Q (.bl k) H
section
variable {X : Cx} {Y : Fx}
theorem seqIn (hK : X.K = Y.K) {F H : Hp} {μ : Nat → Addr} {st : Store} {b : Val} {y : V} {k : Bool} {xs : List Val} (g : Good Y.kf F μ st H) (rb : RepV Y.kf F μ st.length b y) (e : seqOf st b = some (k, xs)) :
    ∃ p vs, y = .ref p ∧ RepL Y.kf F μ st.length xs vs ∧ (SqL X.K H p vs ∨ SqT X.K H p vs) := by
  obtain ⟨p, vs, e1, r1, q1⟩ := seqOf_rep g rb e
  refine ⟨p, vs, e1, r1, ?_⟩
  rw [hK]
  cases k with
  | true => rw [if_pos rfl] at q1; exact .inl q1
  | false => rw [if_neg Bool.false_ne_true] at q1; exact .inr q1
def twoI (op : COp) (i j : Int) : Bool := match op with | .lt => decide (i < j) | .le => decide (i ≤ j) | .gt => decide (j < i) | _ => decide (j ≤ i)
def twoD (op : COp) (a b : Val) : Bool := match op with | .lt => ltV a b | .le => !ltV b a | .gt => ltV b a | _ => !ltV a b
theorem cmp_two {op : COp} {a b : Val} {st : Store} {k : Bool} (h : op = .lt ∨ op = .le ∨ op = .gt ∨ op = .ge) (e : cmpV op a b st = .ok k) :
    (∃ i j, a = .int i ∧ b = .int j ∧ k = twoI op i j) ∨ (ordOk a b = true ∧ k = twoD op a b) := by
  rcases h with rfl | rfl | rfl | rfl
  all_goals
    unfold cmpV at e
    dsimp only at e
    split at e
    · cases e; exact .inl ⟨_, _, rfl, rfl, rfl⟩
    · split at e
      · rename_i h; cases e; exact .inr ⟨h, rfl⟩
      · cases e
/-- of data -/
theorem ord_reads (hK : X.K = Y.K) {pins : List (Addr × Obj)} {s : Shared} {σ : L2.St} {F H : Hp} {μ : Nat → Addr} {st : Store} {a b : Val} {x y : V} {v u : Value} (hu : X.A.units + 64 < cLine) (I : Inv X pins σ H s) (rx : RelV x v) (ry : RelV y u) (g : Good Y.kf F μ st H) (ra : RepV Y.kf F μ st.length a x) (rb : RepV Y.kf F μ st.length b y) (h : ordOk a b = true) :
    ∃ as bs, Reads s.heap v (toPD a) as ∧ Reads s.heap u (toPD b) bs ∧ PySem.W.alike (toPD a) (toPD b) = true ∧ toPD a ≠ .none ∧ X.A.units + min (toPD a).depth (toPD b).depth < cLine := by
  unfold ordOk at h
  simp only [Bool.and_eq_true, decide_eq_true_eq] at h
  obtain ⟨⟨h1, h2, h3, h4⟩, h5⟩ := h
  obtain ⟨as, r1⟩ := Dp.reads I (toPD a) x v (by rw [hK]; exact dp_rep g.same ra h2) rx
  obtain ⟨bs, r2⟩ := Dp.reads I (toPD b) y u (by rw [hK]; exact dp_rep g.same rb h3) ry
  refine ⟨as, bs, r1, r2, h1, ?_, ?_⟩
  · cases a <;> first | (cases h5; done) | (intro z; cases z)
  · have := Nat.min_le_left (toPD a).depth (toPD b).depth
    omega
/-- is, is not of truth values -/
theorem plain_bl {x : V} {v : Value} (r : RelV x v) (b : Bool) : plainIs v (.bool b) = true := by
  cases x <;> first | (have e : v = _ := r; subst e; rfl) | (obtain ⟨t, e⟩ := r; subst e; rfl)
theorem op_isBlG {X : Cx} : OpR X (compareOp .Is) (fun x y H Q => ∃ b : Bool, y = .bl b ∧ Q (.bl (decide (x = .bl b))) H) := by
  intro pins s σ H x y v u Q I rx ry h
  obtain ⟨b, rfl, q⟩ := h
  cases (show u = Value.bool b from ry)
  by_cases e : x = .bl b
  · subst e
    cases (show v = Value.bool b from rx)
    exact wpAny_is_self rfl ⟨.bl true, H, I, rfl, by simpa using q⟩
  · refine wpAny_is_other (plain_bl rx b) (fun z => e ?_) ⟨.bl false, H, I, rfl, by simpa [e] using q⟩
    subst z
    cases x <;> first | (have e : Value.bool b = _ := rx; cases e; done) | (obtain ⟨t, e⟩ := rx; cases e; done) | (have e : Value.bool b = Value.bool _ := rx; cases e; rfl)
theorem op_notBlG {X : Cx} : OpR X (compareOp .IsNot) (fun x y H Q => ∃ b : Bool, y = .bl b ∧ Q (.bl (!decide (x = .bl b))) H) := by
  intro pins s σ H x y v u Q I rx ry h
  obtain ⟨b, rfl, q⟩ := h
  cases (show u = Value.bool b from ry)
  by_cases e : x = .bl b
  · subst e
    cases (show v = Value.bool b from rx)
    exact wpAny_isNot_self rfl ⟨.bl false, H, I, rfl, by simpa using q⟩
  · refine wpAny_isNot_other (plain_bl rx b) (fun z => e ?_) ⟨.bl true, H, I, rfl, by simpa [e] using q⟩
    subst z
    cases x <;> first | (have e : Value.bool b = _ := rx; cases e; done) | (obtain ⟨t, e⟩ := rx; cases e; done) | (have e : Value.bool b = Value.bool _ := rx; cases e; rfl)
theorem op_cmp (hK : X.K = Y.K) (hu : X.A.units + 64 < cLine) (op : COp) : OpR X (compareOp (cOp op)) (rC Y op) := by
  intro pins s σ H x y v u Q I rx ry h
  obtain ⟨F, μ, st, a, b, k, g, ra, rb, e, q⟩ := h
  cases op with
  | eq =>
    change (if (SeqAt.shaped (toPD a) && SeqAt.shaped (toPD b)) = true then R.ok (PyData.eqv (toPD a) (toPD b)) else .stuck) = .ok k at e
    by_cases hs : (SeqAt.shaped (toPD a) && SeqAt.shaped (toPD b)) = true
    · rw [if_pos hs] at e
      cases e
      rw [Bool.and_eq_true] at hs
      refine op_eqD hu pins s σ H x y v u Q I rx ry ⟨toPD a, toPD b, ?_, ?_, hs.1, hs.2, q⟩
      · rw [hK]; exact dp_rep g.same ra (SeqAt.canLay_of_shaped hs.1)
      · rw [hK]; exact dp_rep g.same rb (SeqAt.canLay_of_shaped hs.2)
    · rw [if_neg hs] at e; cases e
  | ne =>
    change (if (SeqAt.shaped (toPD a) && SeqAt.shaped (toPD b)) = true then R.ok (!PyData.eqv (toPD a) (toPD b)) else .stuck) = .ok k at e
    by_cases hs : (SeqAt.shaped (toPD a) && SeqAt.shaped (toPD b)) = true
    · rw [if_pos hs] at e
      cases e
      rw [Bool.and_eq_true] at hs
      refine op_neD hu pins s σ H x y v u Q I rx ry ⟨toPD a, toPD b, ?_, ?_, hs.1, hs.2, q⟩
      · rw [hK]; exact dp_rep g.same ra (SeqAt.canLay_of_shaped hs.1)
      · rw [hK]; exact dp_rep g.same rb (SeqAt.canLay_of_shaped hs.2)
    · rw [if_neg hs] at e; cases e
  | lt =>
    rcases cmp_two (.inl rfl) e with ⟨i, j, rfl, rfl, rfl⟩ | ⟨ho, rfl⟩
    · have ex : x = .int i := ra; have ey : y = .int j := rb; subst ex ey
      exact op_lt pins s σ H _ _ v u Q I rx ry ⟨i, j, rfl, rfl, q⟩
    · obtain ⟨as, bs, r1, r2, h1, h2, h3⟩ := ord_reads hK hu I rx ry g ra rb ho
      exact PySem.W.lt_data r1 r2 h1 h2 h3 ⟨.bl _, H, I, rfl, q⟩
  | le =>
    rcases cmp_two (.inr (.inl rfl)) e with ⟨i, j, rfl, rfl, rfl⟩ | ⟨ho, rfl⟩
    · have ex : x = .int i := ra; have ey : y = .int j := rb; subst ex ey
      exact op_le pins s σ H _ _ v u Q I rx ry ⟨i, j, rfl, rfl, q⟩
    · obtain ⟨as, bs, r1, r2, h1, h2, h3⟩ := ord_reads hK hu I rx ry g ra rb ho
      exact PySem.W.le_data r1 r2 h1 h2 h3 ⟨.bl _, H, I, rfl, q⟩
  | gt =>
    rcases cmp_two (.inr (.inr (.inl rfl))) e with ⟨i, j, rfl, rfl, rfl⟩ | ⟨ho, rfl⟩
    · have ex : x = .int i := ra; have ey : y = .int j := rb; subst ex ey
      exact op_gt pins s σ H _ _ v u Q I rx ry ⟨i, j, rfl, rfl, q⟩
    · obtain ⟨as, bs, r1, r2, h1, h2, h3⟩ := ord_reads hK hu I rx ry g ra rb ho
      exact PySem.W.gt_data r1 r2 h1 h2 h3 ⟨.bl _, H, I, rfl, q⟩
  | ge =>
    rcases cmp_two (.inr (.inr (.inr rfl))) e with ⟨i, j, rfl, rfl, rfl⟩ | ⟨ho, rfl⟩
    · have ex : x = .int i := ra; have ey : y = .int j := rb; subst ex ey
      exact op_ge pins s σ H _ _ v u Q I rx ry ⟨i, j, rfl, rfl, q⟩
    · obtain ⟨as, bs, r1, r2, h1, h2, h3⟩ := ord_reads hK hu I rx ry g ra rb ho
      exact PySem.W.ge_data r1 r2 h1 h2 h3 ⟨.bl _, H, I, rfl, q⟩
  | is_ =>
    cases b with
    | non =>
      have ey : y = .non := rb
      subst ey
      refine op_isN pins s σ H x _ v u Q I rx ry ⟨rfl, ?_⟩
      have ek : decide (x = V.non) = k := by
        cases a with
        | non => cases e; cases ra; rfl
        | bl _ => cases e; cases ra; rfl
        | int _ => cases e; cases ra; rfl
        | str _ => cases e; cases ra; rfl
        | tup _ => cases e; obtain ⟨_, _, h1, _⟩ := ra; subst h1; rfl
        | lst _ => cases e; obtain ⟨_, _, h1, _⟩ := ra; subst h1; rfl
        | scr _ => cases e; obtain ⟨_, _, h1, _⟩ := ra; subst h1; rfl
        | loc _ => cases e; obtain ⟨h1, _⟩ := ra; subst h1; rfl
        | obj _ _ _ => cases e; obtain ⟨_, _, _, _, h1, _⟩ := ra; subst h1; rfl
      rw [ek]; exact q
    | bl c =>
      have ey : y = .bl c := rb
      subst ey
      refine op_isBlG pins s σ H x _ v u Q I rx ry ⟨c, rfl, ?_⟩
      have ek : (decide (x = V.bl c)) = k := by
        cases a with
        | bl d => cases e; cases ra; cases c <;> cases d <;> rfl
        | non => cases e; cases ra; rfl
        | int _ => cases e; cases ra; rfl
        | str _ => cases e; cases ra; rfl
        | tup _ => cases e; obtain ⟨_, _, h1, _⟩ := ra; subst h1; rfl
        | lst _ => cases e; obtain ⟨_, _, h1, _⟩ := ra; subst h1; rfl
        | scr _ => cases e; obtain ⟨_, _, h1, _⟩ := ra; subst h1; rfl
        | loc _ => cases e; obtain ⟨h1, _⟩ := ra; subst h1; rfl
        | obj _ _ _ => cases e; obtain ⟨_, _, _, _, h1, _⟩ := ra; subst h1; rfl
      rw [ek]; exact q
    | _ => cases e
  | isnot =>
    cases b with
    | non =>
      have ey : y = .non := rb
      subst ey
      refine op_notN pins s σ H x _ v u Q I rx ry ⟨rfl, ?_⟩
      have ek : (!decide (x = V.non)) = k := by
        cases a with
        | non => cases e; cases ra; rfl
        | bl _ => cases e; cases ra; rfl
        | int _ => cases e; cases ra; rfl
        | str _ => cases e; cases ra; rfl
        | tup _ => cases e; obtain ⟨_, _, h1, _⟩ := ra; subst h1; rfl
        | lst _ => cases e; obtain ⟨_, _, h1, _⟩ := ra; subst h1; rfl
        | scr _ => cases e; obtain ⟨_, _, h1, _⟩ := ra; subst h1; rfl
        | loc _ => cases e; obtain ⟨h1, _⟩ := ra; subst h1; rfl
        | obj _ _ _ => cases e; obtain ⟨_, _, _, _, h1, _⟩ := ra; subst h1; rfl
      rw [ek]; exact q
    | bl c =>
      have ey : y = .bl c := rb
      subst ey
      refine op_notBlG pins s σ H x _ v u Q I rx ry ⟨c, rfl, ?_⟩
      have ek : (!decide (x = V.bl c)) = k := by
        cases a with
        | bl d => cases e; cases ra; cases c <;> cases d <;> rfl
        | non => cases e; cases ra; rfl
        | int _ => cases e; cases ra; rfl
        | str _ => cases e; cases ra; rfl
        | tup _ => cases e; obtain ⟨_, _, h1, _⟩ := ra; subst h1; rfl
        | lst _ => cases e; obtain ⟨_, _, h1, _⟩ := ra; subst h1; rfl
        | scr _ => cases e; obtain ⟨_, _, h1, _⟩ := ra; subst h1; rfl
        | loc _ => cases e; obtain ⟨h1, _⟩ := ra; subst h1; rfl
        | obj _ _ _ => cases e; obtain ⟨_, _, _, _, h1, _⟩ := ra; subst h1; rfl
      rw [ek]; exact q
    | _ => cases e
  | in_ =>
    change (match seqOf st b with | some (_, xs) => if (flat a && xs.all flat) = true then R.ok (xs.any fun z => eqF z a) else .stuck | none => .stuck) = .ok k at e
    split at e
    · rename_i kk xs hq
      by_cases hf : (flat a && xs.all flat) = true
      · rw [if_pos hf] at e
        cases e
        rw [Bool.and_eq_true] at hf
        obtain ⟨p, vs, e1, r1, q1⟩ := seqIn hK g rb hq
        refine op_in_seq pins s σ H x y v u Q I rx ry ⟨p, vs, e1, q1, flat_rep ra hf.1, flats_rep r1 hf.2, ?_⟩
        rw [if_neg Bool.false_ne_true, in_rep ra hf.1 r1 hf.2]; exact q
      · rw [if_neg hf] at e; cases e
    · cases e
  | notin =>
    change (match seqOf st b with | some (_, xs) => if (flat a && xs.all flat) = true then R.ok (!(xs.any fun z => eqF z a)) else .stuck | none => .stuck) = .ok k at e
    split at e
    · rename_i kk xs hq
      by_cases hf : (flat a && xs.all flat) = true
      · rw [if_pos hf] at e
        cases e
        rw [Bool.and_eq_true] at hf
        obtain ⟨p, vs, e1, r1, q1⟩ := seqIn hK g rb hq
        refine op_notIn_seq pins s σ H x y v u Q I rx ry ⟨p, vs, e1, q1, flat_rep ra hf.1, flats_rep r1 hf.2, ?_⟩
        rw [if_pos rfl, in_rep ra hf.1 r1 hf.2]; exact q
      · rw [if_neg hf] at e; cases e
    · cases e

/-- truth -/
theorem truth_rep (hK : X.K = Y.K) {F H : Hp} {μ : Nat → Addr} {st : Store} {x : Val} {v : V} {k : Bool} (g : Good Y.kf F μ st H) (r : RepV Y.kf F μ st.length x v) (e : truth st x = .ok k) : TruV X.K v H k := by
  have seqs : ∀ kk xs, seqOf st x = some (kk, xs) → k = (!xs.isEmpty) → TruV X.K v H k := fun kk xs hq ek => by
    obtain ⟨p, vs, e1, r1, q1⟩ := seqIn hK g r hq
    subst e1
    have em : xs.isEmpty = vs.isEmpty := by
      have := r1.nil_iff
      cases xs <;> cases vs <;> first | rfl | (simp at this)
    rw [em] at ek
    rcases q1 with q1 | q1
    · exact .inl ⟨vs, q1, ek⟩
    · exact .inr (.inl ⟨vs, q1, ek⟩)
  have rest : (match seqOf st x with | some (_, xs) => R.ok (!xs.isEmpty) | none => .stuck) = .ok k → TruV X.K v H k := fun e => by
    split at e
    · rename_i kk xs hq
      cases e
      exact seqs kk xs hq rfl
    · cases e
  cases x with
  | non => cases r; cases e; rfl
  | bl b => cases r; cases e; rfl
  | int i => cases r; cases e; rfl
  | str y =>
    cases r
    change (if y.length ≤ szMax then R.ok ((y.length : Int) != 0) else .stuck) = .ok k at e
    by_cases hl : y.length ≤ szMax
    · rw [if_pos hl] at e; cases e; exact ⟨szMax_le hl, rfl⟩
    · rw [if_neg hl] at e; cases e
  | tup xs => exact rest e
  | lst xs => exact rest e
  | loc m => exact rest e
  | scr xs => exact rest e
  | obj _ _ _ => exact rest e

/-- types -/
def tyOf : Val → String
  | .non => "NoneType" | .bl _ => "bool" | .int _ => "int" | .str _ => "str" | .tup _ => "tuple" | .lst _ => "list" | .loc _ => "list" | .scr _ => "list" | .obj _ _ _ => "object"
theorem kb_non (t : Ty) : kitB "NoneType" (tyName t) = some false := by cases t <;> decide +kernel
theorem kb_bool (t : Ty) : kitB "bool" (tyName t) = some (match t with | .bool => true | .int => true | _ => false) := by cases t <;> decide +kernel
theorem kb_int (t : Ty) : kitB "int" (tyName t) = some (match t with | .int => true | _ => false) := by cases t <;> decide +kernel
theorem kb_str (t : Ty) : kitB "str" (tyName t) = some (match t with | .str => true | _ => false) := by cases t <;> decide +kernel
theorem kb_tuple (t : Ty) : kitB "tuple" (tyName t) = some (match t with | .tuple => true | _ => false) := by cases t <;> decide +kernel
theorem kb_list (t : Ty) : kitB "list" (tyName t) = some (isL t) := by cases t <;> decide +kernel
theorem kit_tab {st : Store} {t : Ty} {b : Bool} {x : Val} (e : isTy st t x = some b) : kitB (tyOf x) (tyName t) = some b := by
  cases x with
  | non => rw [← e]; exact kb_non t
  | bl c => rw [← e]; exact kb_bool t
  | int i => rw [← e]; exact kb_int t
  | str i => rw [← e]; exact kb_str t
  | tup i => rw [← e]; exact kb_tuple t
  | lst i => rw [← e]; exact kb_list t
  | scr i => rw [← e]; exact kb_list t
  | obj _ _ _ => cases e
  | loc m =>
    change (match st[m]? with | some (.lst _) => some (isL t) | some (.frz _) => some (isL t) | _ => none) = some b at e
    split at e
    · rw [← e]; exact kb_list t
    · rw [← e]; exact kb_list t
    · cases e
theorem tyX_rep (hK : X.K = Y.K) {F H : Hp} {μ : Nat → Addr} {st : Store} {x : Val} {v : V} {b : Bool} {t : Ty} (g : Good Y.kf F μ st H) (r : RepV Y.kf F μ st.length x v) (e : isTy st t x = some b) : TyX X.K H v (.type (tyOf x)) := by
  rw [hK]
  cases x with
  | obj _ _ _ => cases e
  | non => cases r; exact .base .non
  | bl _ => cases r; exact .base (.bl _)
  | int _ => cases r; exact .base (.int _)
  | str _ => cases r; exact .base (.str _)
  | tup xs =>
    obtain ⟨a, vs, h1, h2, _⟩ := r
    subst h1
    rcases sqT_mono g.same h2 with (h | ⟨o, h⟩) | ⟨o, its, n, hk, hc, _⟩
    · exact .base (.tup h)
    · exact .fTuple h
    · exact .kTuple hk hc
  | lst xs =>
    obtain ⟨a, vs, h1, h2, _⟩ := r
    subst h1
    exact .base (.lst (g.same _ _ h2))
  | scr xs =>
    obtain ⟨a, vs, h1, h2, _⟩ := r
    subst h1
    rcases sqL_mono g.same h2 with (h | ⟨o, h⟩) | ⟨o, its, n, hk, hc, _⟩
    · exact .base (.lst h)
    · exact .base (.frz h)
    · exact .kList hk hc
  | loc m =>
    obtain ⟨h1, _⟩ := r
    subst h1
    change (match st[m]? with | some (.lst _) => some (isL t) | some (.frz _) => some (isL t) | _ => none) = some b at e
    split at e
    · rename_i ys hm
      obtain ⟨_, vs, h3, _⟩ := g.st.cell m _ hm
      exact .base (.lst h3)
    · rename_i ys hm
      obtain ⟨vs, h3, _⟩ := g.st.cell m _ hm
      exact .base (.lst (g.same _ _ h3))
    · cases e

/-- subscripts -/
def rI (Y : Fx) : R2 := fun x y H Q => ∃ F μ st a b c, Good Y.kf F μ st H ∧ RepV Y.kf F μ st.length a x ∧ RepV Y.kf F μ st.length b y ∧ ixV st a b = .ok c ∧ ∀ w, RepV Y.kf F μ st.length c w → Q w H
theorem atI_rep {K : Kf} {F : Hp} {μ : Nat → Addr} {n : Nat} {xs : List Val} {vs : List V} {i : Int} {c : Val} (r : RepL K F μ n xs vs) (e : atI xs i = some c) : ∃ w, atI vs i = some w ∧ RepV K F μ n c w := by
  unfold atI at e ⊢
  rw [r.len]
  cases h : ixN xs.length i with
  | none => rw [h] at e; cases e
  | some j =>
    rw [h] at e
    exact r.get e
theorem ix_all (hK : X.K = Y.K) : IxR X (rI Y) := by
  intro value slice pins s σ H x y v u Q I rx ry h hs
  obtain ⟨F, μ, st, a, b, c, g, ra, rb, e, q⟩ := h
  cases b with
  | int i =>
    have ey : y = .int i := rb
    subst ey
    have rest : (match seqOf st a with | some (_, xs) => (match atI xs i with | some y => R.ok y | none => .stuck) | none => .stuck) = .ok c → wpAny (model X.prog X.w) X.A (subscriptTail value slice v u) (EP X pins σ Q) X.xe s := fun e => by
      split at e
      · rename_i kk xs hq
        split at e
        · rename_i z hz
          cases e
          obtain ⟨p, vs, e1, r1, q1⟩ := seqIn hK g ra hq
          obtain ⟨w, hw, rw'⟩ := atI_rep r1 hz
          rcases q1 with q1 | q1
          · exact ix_seq value slice pins s σ H x _ v u Q I rx ry (.inl ⟨p, vs, i, w, e1, rfl, q1, hw, q w rw'⟩) hs
          · exact ix_seq value slice pins s σ H x _ v u Q I rx ry (.inr (.inl ⟨p, vs, i, w, e1, rfl, q1, hw, q w rw'⟩)) hs
        · cases e
      · cases e
    cases a with
    | str z =>
      have ex : x = .str z := ra
      subst ex
      change (if z.length ≤ szMax then (match atI z.cps.toList i with | some c => R.ok (Val.str ⟨#[c]⟩) | none => .stuck) else .stuck) = .ok c at e
      by_cases hl : z.length ≤ szMax
      · rw [if_pos hl] at e
        split at e
        · rename_i d hd
          cases e
          exact ix_seq value slice pins s σ H _ _ v u Q I rx ry (.inr (.inr ⟨z, i, d, rfl, rfl, szMax_le hl, hd, q _ rfl⟩)) hs
        · cases e
      · rw [if_neg hl] at e; cases e
    | non => exact rest e
    | bl _ => exact rest e
    | int _ => exact rest e
    | tup xs => exact rest e
    | lst xs => exact rest e
    | loc m => exact rest e
    | scr xs => exact rest e
    | obj _ _ _ => exact rest e
  | _ => cases e

/-- slices -/
def rSl (Y : Fx) (W : XK) (m : Bool) : V → Option Int → Option Int → Hp → VK → Prop := fun x lo hi H Q => ∃ F μ st a, Good Y.kf F μ st H ∧ RepV Y.kf F μ st.length a x ∧ RP Y F μ st H (slcV m st a lo hi) (kV Y Q) W
theorem cut_rep {K : Kf} {F : Hp} {μ : Nat → Addr} {n : Nat} {xs : List Val} {vs : List V} (lo hi : Option Int) (r : RepL K F μ n xs vs) : RepL K F μ n (cutA xs lo hi) (cutV vs lo hi) := by
  unfold cutA cutV
  rw [r.len]
  exact (r.drop _).take _
theorem sl_all (hK : X.K = Y.K) {W : XK} {m : Bool} : SlR X (rSl Y W m) := by
  intro pins s σ H x v vl vu lo hi sl Q I rx hs pl pu h
  obtain ⟨F, μ, st, a, g, ra, h⟩ := h
  have rest : RP Y F μ st H (match seqOf st a with | some (true, xs) => newL m (cutA xs lo hi) st | some (false, xs) => newT (cutA xs lo hi) st | none => .stuck) (kV Y Q) W → ∃ T id, typeLookup (.type T) "__getitem__" = pure (some (.builtin id)) ∧ s.TypeIs v T ∧ wpAny (model X.prog X.w) X.A (getItem v (.ref sl)) (EP X pins σ Q) X.xe s := fun h => by
    split at h
    · rename_i xs hq
      obtain ⟨p, vs, e1, r1, q1⟩ := seqOf_rep g ra hq
      rw [if_pos rfl] at q1
      obtain ⟨z, k⟩ := newL_ok g h (cut_rep lo hi r1)
      exact sl_list pins s σ H x v vl vu lo hi sl Q I rx hs pl pu ⟨p, vs, e1, by rw [hK]; exact q1, k⟩
    · rename_i xs hq
      obtain ⟨p, vs, e1, r1, q1⟩ := seqOf_rep g ra hq
      rw [if_neg Bool.false_ne_true] at q1
      obtain ⟨z, k⟩ := newT_ok g h (cut_rep lo hi r1)
      refine sl_tupA pins s σ H x v vl vu lo hi sl Q I rx hs pl pu ⟨p, vs, e1, by rw [hK]; exact q1, fun hw => ?_, fun _ => k⟩
      have hc : cutA xs lo hi = xs := by
        rw [r1.len] at hw
        unfold cutA
        rw [hw.1, hw.2]
        simp
      rw [hc] at h
      cases a with
      | tup ys =>
        have ey : ys = xs := by injection hq with hq; injection hq
        subst ey
        exact newT_same g h (by rw [← e1]; exact ra)
      | lst ys => injection hq with hq; injection hq with h1 h2; cases h1
      | scr ys => injection hq with hq; injection hq with h1 h2; cases h1
      | loc mm =>
        change (match st[mm]? with | some (.lst xs) => some (true, xs) | some (.frz xs) => some (true, xs) | _ => none) = some (false, xs) at hq
        split at hq <;> cases hq
      | _ => cases hq
    · exact False.elim h
  cases a with
  | str z => exact False.elim h
  | _ => exact rest h
end
end MP
/-! MiniPy: set(xs) of a list of ints. -/
namespace L2
open PySem PySem.Spec PyProof.Rows
abbrev set0 (w : World) : Obj := { cls := .type "set", dict := none, data := .set #[] 0 (.fresh 0 0 (!w.params.followText "set-order")) }
section
variable {P : Program} {w : World} {A : Around} {E : Value → Shared → Prop} {s : Shared}
set_option maxHeartbeats 3200000 in
theorem call_set_lstI {l : Addr} {items : Array Value} (ns : List Int) {Q : Value → Shared → Prop} (hh : A.handled = none) (hl : s.heap.IsList l items) (hit : IntsAre items.toList ns) (hb : ns.length + 1 < scanBound)
    (h : ∀ (h' : Heap) (tk c : Nat), SetR w h' s.heap.objs.size (fun j => decide (j ∈ ns)) c → c ≤ ns.length → (∀ b o, s.heap.get? b = some o → h'.get? b = some o) → Q (.ref s.heap.objs.size) { s with heap := h', toks := tk }) :
    wpAny (model P w) A (call (.type "set") [.ref l]) Q E s := by
  have hsz0 : items.size = ns.length := by
    have q := IntsAre.length hit
    rw [Array.length_toList] at q
    exact q
  obtain ⟨c, tl, hmro⟩ := F.called_set.mro
  have hmd := F.called_set.made
  have hsub := F.called_set.sub
  refine wpAny_call (codeAny_of_tree ?_)
  show wpAny _ _ (callAny (.type "set") _) _ _ _
  refine wpAny_pure ⟨Code.quiet_builtin _ (by decide +kernel), codeAny_builtin F.entry_type_call ?_⟩
  rw [Around.under_plain (weight_type_call_type "set" [.ref l] []) rfl]
  have h1 := F.called_set.notType
  have h2 := F.called_set.canCreate
  have hct := F.typeCall_set_1 (.ref l)
  repeat (any_goals (first | assumption | wp_step))

  refine codeAny_mono (code_set_led1 (.ref l) (E := E) (Q₁ := fun obj u₁ => obj = .ref s.heap.objs.size ∧ u₁ = { s with heap := s.heap.push (set0 w) }) ⟨rfl, rfl⟩) fun r u₁ hr => ?_
  cases r with
  | error e => exact hr
  | ok fl =>
    cases fl with
    | ret obj =>
      obtain ⟨rfl, rfl⟩ := hr
      have hS : (s.heap.push (set0 w)).get? s.heap.objs.size = some (set0 w) := Heap.get?_push_size _ rfl
      have hT : Shared.TypeIs { s with heap := s.heap.push (set0 w) } (.ref s.heap.objs.size) "set" := ⟨_, hS, rfl⟩
      have hli := F.called_set.init.lookup
      have hbi := F.called_set.init.bind (.ref s.heap.objs.size)
      repeat (any_goals (first | assumption | wp_step))

      refine codeAny_mono (codeAny_call_builtin (R := wants (fun r u₂ => r = .none ∧ ∃ h' tk c, u₂ = { s with heap := h', toks := tk } ∧ SetR w h' s.heap.objs.size (fun j => decide (j ∈ ns)) c ∧ c ≤ ns.length ∧
          (∀ b o, s.heap.get? b = some o → h'.get? b = some o)) E) F.called_set.init.plain F.entry_set_init (check_set_init_1 hT ?_)) fun q₂ u₂ hq₂ => ?_
      · obtain ⟨ol, hol, hcl, nl, hdl⟩ := hl
        obtain ⟨ocls, odict, odata, oslots⟩ := ol
        simp only at hcl hdl
        subst hcl; subst hdl
        have hol' : (s.heap.push (set0 w)).get? l = some { cls := .type "list", dict := odict, data := .seq items nl, slots := oslots } := Heap.get?_push_of_some _ hol
        have hsls := F.sub_list_set
        have hslf := F.sub_list_frozenset
        have hnd : (Value.type "list" == Value.type "dict") = false := by decide
        have hl1 : (s.heap.push (set0 w)).IsList l items := ⟨_, hol', rfl, nl, rfl⟩
        unfold Builtin.«set.__init__» noKeywords Builtin.Frozenset.updateFrom
        generalize hPJ : pyIter = PJ
        wp_walk
        subst hPJ

        refine wpAny_pyIter_list hl1 ?_
        refine wpAny_bind (wpAny_runValue ?_)
        have hlS : l < s.heap.objs.size := Heap.lt_size hol
        have hh3 : A.in1.in1.in1.handled = none := by simp [hh]
        have hz1 : (s.heap.push (set0 w)).objs.size = s.heap.objs.size + 1 := Heap.size_push ..
        have hneI : l ≠ (s.heap.push (set0 w)).objs.size := by
          rw [Heap.size_push]; exact Nat.ne_of_lt (Nat.lt_succ_of_lt hlS)
        have hSf : s.heap.objs.size ∉ [(s.heap.push (set0 w)).objs.size, l] := by
          rw [Heap.size_push]; simp only [List.mem_cons, List.mem_singleton, List.not_mem_nil, or_false, not_or]
          exact ⟨Nat.ne_of_lt (Nat.lt_succ_self _), Nat.ne_of_gt hlS⟩
        have hval : ∀ (i : Nat) (v : Value), items[i]? = some v → ∃ k t, ns[i]? = some k ∧ v = .int k t := fun i v hv => by
          have hi : i < ns.length := by rw [← hsz0]; exact (Array.getElem?_eq_some_iff.mp hv).1
          obtain ⟨t, e⟩ := PyProof.Rows.IntsAre.int_at hit i v (by rw [Array.getElem?_toList]; exact hv)
          refine ⟨ns[i], t, List.getElem?_eq_getElem hi, ?_⟩
          rw [e, List.getD_eq_getElem?_getD, List.getElem?_eq_getElem hi] <;> rfl
        refine set_update_ints ((Walks.list hh3 _ l hneI items).toS) s.heap.objs.size
          hSf ns hsz0 hb hval (items.size - 0) 0 _ (by omega) (Nat.zero_le _)
          ⟨⟨_, Heap.get?_push_size _ rfl, rfl, rfl⟩, (hl1.push _)⟩ ?hS0 ?hR
        case hS0 =>
          have hget : ((s.heap.push (set0 w)).push { cls := .type "list_iterator", data := .fields #[.ref l, .int 0 0] }).get? s.heap.objs.size
              = some (set0 w) := Heap.get?_push_of_some _ hS
          exact ⟨0, Nat.le_refl 0, setR_new_at hget⟩
        case hR =>
          intro s' c' hm hc' hS'
          obtain ⟨h', g2, d', tj', os'⟩ := s'
          have eg : g2 = s.gens := hm.gens
          have ed : d' = s.drawn := hm.drawn
          have eo : os' = s.os := hm.os
          subst eg; subst ed; subst eo
          show wpAny _ _ _ _ _ _
          refine wpAny_pure ?_
          show wpAny _ _ (ret Value.none) _ _ _
          rw [hsz0] at hc'
          refine wpAny_pure ⟨rfl, h', tj', c', rfl, hS', hc', fun b o e => ?_⟩
          have hb0 : b < s.heap.objs.size := Heap.lt_size e
          have hb1 : b ≠ s.heap.objs.size := Nat.ne_of_lt hb0
          have hb2 : b ≠ (s.heap.push (set0 w)).objs.size := by
            rw [Heap.size_push]; exact Nat.ne_of_lt (Nat.lt_succ_of_lt hb0)
          exact hm.heap b o (by simp only [List.mem_cons, List.mem_singleton, List.not_mem_nil, or_false, not_or]; exact ⟨hb1, hb2⟩) (Heap.get?_push_of_some _ (Heap.get?_push_of_some _ e))

      · cases q₂ with
        | error e => exact hq₂
        | ok fl₂ =>
          cases fl₂ with
          | ret r =>
            obtain ⟨rfl, h', tk, c', rfl, hS', hc', hk'⟩ := hq₂
            repeat (any_goals (first | assumption | wp_step))
            exact h _ _ _ hS' hc' hk'
          | _ => exact hq₂.elim
    | _ => exact hr.elim

end
end L2
/-! MiniPy: built-in functions, by values. -/
namespace MP
open PySem L2 PySem.Spec PyProof.Rows

/-! ### sorting, least, greatest -/
theorem insI_perm (k : Int) : ∀ xs : List Int, (insI k xs).Perm (k :: xs)
  | [] => List.Perm.refl _
  | x :: xs => by
    unfold insI
    by_cases h : k ≤ x
    · rw [if_pos h]
    · rw [if_neg h]
      exact ((insI_perm k xs).cons x).trans (List.Perm.swap k x xs)
theorem sortI_perm : ∀ xs : List Int, (sortI xs).Perm xs
  | [] => List.Perm.refl _
  | x :: xs => (insI_perm x (sortI xs)).trans ((sortI_perm xs).cons x)
theorem insI_sorted (k : Int) : ∀ xs : List Int, xs.Pairwise (· ≤ ·) → (insI k xs).Pairwise (· ≤ ·)
  | [], _ => by unfold insI; simp
  | x :: xs, h => by
    unfold insI
    obtain ⟨h1, h2⟩ := List.pairwise_cons.mp h
    by_cases hk : k ≤ x
    · rw [if_pos hk]
      exact List.pairwise_cons.mpr ⟨fun y hy => by
        rcases List.mem_cons.mp hy with rfl | hy
        · exact hk
        · exact Int.le_trans hk (h1 y hy), h⟩
    · rw [if_neg hk]
      refine List.pairwise_cons.mpr ⟨fun y hy => ?_, insI_sorted k xs h2⟩
      rcases List.mem_cons.mp ((insI_perm k xs).mem_iff.mp hy) with rfl | hy
      · omega
      · exact h1 y hy
theorem sortI_sorted : ∀ xs : List Int, (sortI xs).Pairwise (· ≤ ·)
  | [] => List.Pairwise.nil
  | x :: xs => insI_sorted x _ (sortI_sorted xs)
theorem sortI_only {ns ns' : List Int} (p : ns'.Perm ns) (s : ns'.Pairwise (· ≤ ·)) : ns' = sortI ns := PySem.W.ksm_same (p.trans (sortI_perm ns).symm) s (sortI_sorted ns)
theorem insS_mem (k : Int) : ∀ (xs : List Int) (y : Int), y ∈ insS k xs ↔ y = k ∨ y ∈ xs
  | [], y => by unfold insS; simp
  | x :: xs, y => by
    unfold insS
    by_cases h : k < x
    · rw [if_pos h]; simp
    · rw [if_neg h]
      by_cases h2 : k = x
      · rw [if_pos h2]; subst h2; simp
      · rw [if_neg h2, List.mem_cons, insS_mem k xs y, List.mem_cons]
        constructor
        · rintro (h | h | h) <;> simp [h]
        · rintro (h | h | h) <;> simp [h]
theorem insS_up (k : Int) : ∀ xs : List Int, xs.Pairwise (· < ·) → (insS k xs).Pairwise (· < ·)
  | [], _ => by unfold insS; simp
  | x :: xs, h => by
    unfold insS
    obtain ⟨h1, h2⟩ := List.pairwise_cons.mp h
    by_cases hk : k < x
    · rw [if_pos hk]
      exact List.pairwise_cons.mpr ⟨fun y hy => by
        rcases List.mem_cons.mp hy with rfl | hy
        · exact hk
        · exact Int.lt_trans hk (h1 y hy), h⟩
    · rw [if_neg hk]
      by_cases he : k = x
      · rw [if_pos he]; exact h
      · rw [if_neg he]
        refine List.pairwise_cons.mpr ⟨fun y hy => ?_, insS_up k xs h2⟩
        rcases (insS_mem k xs y).mp hy with rfl | hy
        · omega
        · exact h1 y hy
theorem sortS_mem : ∀ (xs : List Int) (y : Int), y ∈ sortS xs ↔ y ∈ xs
  | [], y => by unfold sortS; simp
  | x :: xs, y => by unfold sortS; rw [insS_mem, sortS_mem xs y, List.mem_cons]
theorem sortS_up : ∀ xs : List Int, (sortS xs).Pairwise (· < ·)
  | [] => List.Pairwise.nil
  | x :: xs => insS_up x _ (sortS_up xs)
theorem up_only : ∀ {a b : List Int}, a.Pairwise (· < ·) → b.Pairwise (· < ·) → (∀ k, k ∈ a ↔ k ∈ b) → a = b
  | [], [], _, _, _ => rfl
  | [], y :: b, _, _, h => by have := (h y).mpr List.mem_cons_self; cases this
  | x :: a, [], _, _, h => by have := (h x).mp List.mem_cons_self; cases this
  | x :: a, y :: b, ha, hb, h => by
    obtain ⟨a1, a2⟩ := List.pairwise_cons.mp ha
    obtain ⟨b1, b2⟩ := List.pairwise_cons.mp hb
    have e : x = y := by
      have h1 := (h x).mp List.mem_cons_self
      have h2 := (h y).mpr List.mem_cons_self
      rcases List.mem_cons.mp h1 with h1 | h1
      · exact h1
      · rcases List.mem_cons.mp h2 with h2 | h2
        · exact h2.symm
        · have := a1 y h2; have := b1 x h1; omega
    subst e
    have hh : ∀ k, k ∈ a ↔ k ∈ b := fun k => by
      constructor
      · intro hk
        rcases List.mem_cons.mp ((h k).mp (List.mem_cons_of_mem _ hk)) with e | hk'
        · have := a1 k hk; omega
        · exact hk'
      · intro hk
        rcases List.mem_cons.mp ((h k).mpr (List.mem_cons_of_mem _ hk)) with e | hk'
        · have := b1 k hk; omega
        · exact hk'
    rw [up_only a2 b2 hh]
theorem minL_spec : ∀ (k : Int) (xs : List Int), minL k xs ∈ k :: xs ∧ ∀ y ∈ k :: xs, minL k xs ≤ y
  | k, [] => by unfold minL; simp
  | k, x :: xs => by
    unfold minL
    by_cases hx : x < k
    · rw [if_pos hx]
      obtain ⟨h1, h2⟩ := minL_spec x xs
      refine ⟨List.mem_cons_of_mem _ h1, fun y hy => ?_⟩
      have h3 := h2 _ List.mem_cons_self
      rcases List.mem_cons.mp hy with rfl | hy
      · omega
      · exact h2 y hy
    · rw [if_neg hx]
      obtain ⟨h1, h2⟩ := minL_spec k xs
      refine ⟨?_, fun y hy => ?_⟩
      · rcases List.mem_cons.mp h1 with h | h
        · rw [h]; exact List.mem_cons_self
        · exact List.mem_cons_of_mem _ (List.mem_cons_of_mem _ h)
      · have h3 := h2 _ List.mem_cons_self
        rcases List.mem_cons.mp hy with rfl | hy
        · exact h3
        · rcases List.mem_cons.mp hy with rfl | hy
          · omega
          · exact h2 y (List.mem_cons_of_mem _ hy)
theorem maxL_spec : ∀ (k : Int) (xs : List Int), maxL k xs ∈ k :: xs ∧ ∀ y ∈ k :: xs, y ≤ maxL k xs
  | k, [] => by unfold maxL; simp
  | k, x :: xs => by
    unfold maxL
    by_cases hx : k < x
    · rw [if_pos hx]
      obtain ⟨h1, h2⟩ := maxL_spec x xs
      refine ⟨List.mem_cons_of_mem _ h1, fun y hy => ?_⟩
      have h3 := h2 _ List.mem_cons_self
      rcases List.mem_cons.mp hy with rfl | hy
      · omega
      · exact h2 y hy
    · rw [if_neg hx]
      obtain ⟨h1, h2⟩ := maxL_spec k xs
      refine ⟨?_, fun y hy => ?_⟩
      · rcases List.mem_cons.mp h1 with h | h
        · rw [h]; exact List.mem_cons_self
        · exact List.mem_cons_of_mem _ (List.mem_cons_of_mem _ h)
      · have h3 := h2 _ List.mem_cons_self
        rcases List.mem_cons.mp hy with rfl | hy
        · exact h3
        · rcases List.mem_cons.mp hy with rfl | hy
          · omega
          · exact h2 y (List.mem_cons_of_mem _ hy)
theorem asInts_eq : ∀ {xs : List Val} {ns : List Int}, asInts xs = some ns → xs = ns.map Val.int
  | [], ns, h => by cases h; rfl
  | x :: xs, ns, h => by
    cases x with
    | int i =>
      change (asInts xs).map (i :: ·) = some ns at h
      cases e : asInts xs with
      | none => rw [e] at h; cases h
      | some ms => rw [e] at h; cases h; rw [asInts_eq e]; rfl
    | _ => cases h

/-! ### one argument, a plain value -/
def rF1 (Y : Fx) (f : F1) : List V → Hp → VK → Prop := fun vs H Q => ∃ F μ st a v c, vs = [v] ∧ Good Y.kf F μ st H ∧ RepV Y.kf F μ st.length a v ∧ f1V f a st = .ok c ∧ ∀ w, RepV Y.kf F μ st.length c w → Q w H
def f1Val : F1 → Value | .len => .builtin "len" | .int => .type "int" | .abs => .builtin "abs" | .bool => .type "bool" | .sum => .builtin "sum" | .min => .builtin "min" | .max => .builtin "max" | .lenset => .builtin "len"
section
variable {X : Cx} {Y : Fx}
theorem intsAt (hK : X.K = Y.K) {F H : Hp} {μ : Nat → Addr} {st : Store} {a : Val} {v : V} {xs : List Val} {ns : List Int} (g : Good Y.kf F μ st H) (ra : RepV Y.kf F μ st.length a v) (e : seqOf st a = some (true, xs)) (e2 : asInts xs = some ns) :
    ∃ p, v = .ref p ∧ SqL X.K H p (ns.map V.int) := by
  obtain ⟨p, vs, e1, r1, q1⟩ := seqOf_rep g ra e
  rw [if_pos rfl] at q1
  have ex := asInts_eq e2
  subst ex
  rw [r1.ints] at q1
  exact ⟨p, e1, by rw [hK]; exact q1⟩
theorem call_f1 (hK : X.K = Y.K) (f : F1) (hf : f ≠ .lenset) (hc0 : noIter f = false → X.calm = true) : CallR X (f1Val f) (rF1 Y f) := by
  intro pins s σ H vs us Q I r h
  obtain ⟨F, μ, st, a, v, c, rfl, g, ra, e, q⟩ := h
  cases f with
  | lenset => exact absurd rfl hf
  | len =>
    have rest : (match seqOf st a with | some (_, xs) => R.ok (Val.int xs.length) | none => .stuck) = .ok c → wpAny (model X.prog X.w) X.A (call (.builtin "len") us) (EP X pins σ Q) X.xe s := fun e => by
      split at e
      · rename_i kk xs hq
        cases e
        obtain ⟨p, vs, e1, r1, q1⟩ := seqIn hK g ra hq
        subst e1
        exact call_len_seq pins s σ H _ us Q I r ⟨p, vs, rfl, q1, by rw [r1.len]; exact q _ rfl⟩
      · cases e
    cases a with
    | str y =>
      have ex : v = .str y := ra
      subst ex
      change (if y.length ≤ szMax then R.ok (Val.int y.length) else .stuck) = .ok c at e
      by_cases hl : y.length ≤ szMax
      · rw [if_pos hl] at e; cases e
        exact call_len_str pins s σ H _ us Q I r ⟨y, rfl, szMax_le hl, q _ rfl⟩
      · rw [if_neg hl] at e; cases e
    | non => exact rest e
    | bl _ => exact rest e
    | int _ => exact rest e
    | tup xs => exact rest e
    | lst xs => exact rest e
    | loc m => exact rest e
    | scr xs => exact rest e
    | obj _ _ _ => exact rest e
  | int =>
    cases a <;> first
      | (rename_i i; have ex : v = .int i := ra; subst ex; cases e
         exact call_int1 pins s σ H _ us Q I r (.inl ⟨i, rfl, q _ rfl⟩))
      | (rename_i b; have ex : v = .bl b := ra; subst ex; cases e
         exact call_int1 pins s σ H _ us Q I r (.inr ⟨b, rfl, q _ rfl⟩))
      | cases e
  | abs =>
    cases a <;> first
      | (rename_i i; have ex : v = .int i := ra; subst ex; cases e
         exact call_abs pins s σ H _ us Q I r ⟨i, rfl, q _ rfl⟩)
      | cases e
  | bool =>
    cases a <;> first
      | (rename_i i; have ex : v = .int i := ra; subst ex; cases e
         exact call_bool1 pins s σ H _ us Q I r (.inl ⟨i, rfl, q _ rfl⟩))
      | (rename_i b; have ex : v = .bl b := ra; subst ex; cases e
         exact call_bool1 pins s σ H _ us Q I r (.inr ⟨b, rfl, q _ rfl⟩))
      | cases e
  | sum =>
    change (match seqOf st a with | some (true, xs) => (match asInts xs with | some ns => R.ok (Val.int ns.sum) | none => .stuck) | _ => .stuck) = .ok c at e
    split at e
    · rename_i xs hq
      split at e
      · rename_i ns hn
        cases e
        obtain ⟨p, e1, q1⟩ := intsAt hK g ra hq hn
        subst e1
        exact cr_sum (hc0 rfl) pins s σ H _ us Q I r ⟨p, ns, rfl, q1, q _ rfl⟩
      · cases e
    · cases e
  | min =>
    change (match seqOf st a with | some (true, xs) => (match asInts xs with | some (n :: ns) => R.ok (Val.int (minL n ns)) | _ => .stuck) | _ => .stuck) = .ok c at e
    split at e
    · rename_i xs hq
      split at e
      · rename_i n ns hn
        cases e
        obtain ⟨p, e1, q1⟩ := intsAt hK g ra hq hn
        subst e1
        obtain ⟨m1, m2⟩ := minL_spec n ns
        refine cr_min (hc0 rfl) pins s σ H _ us Q I r ⟨p, n :: ns, rfl, q1, by simp, fun m h1 h2 => ?_⟩
        have em : m = minL n ns := Int.le_antisymm (h2 _ m1) (m2 _ h1)
        rw [em]; exact q _ rfl
      · cases e
    · cases e
  | max =>
    change (match seqOf st a with | some (true, xs) => (match asInts xs with | some (n :: ns) => R.ok (Val.int (maxL n ns)) | _ => .stuck) | _ => .stuck) = .ok c at e
    split at e
    · rename_i xs hq
      split at e
      · rename_i n ns hn
        cases e
        obtain ⟨p, e1, q1⟩ := intsAt hK g ra hq hn
        subst e1
        obtain ⟨m1, m2⟩ := maxL_spec n ns
        refine cr_max (hc0 rfl) pins s σ H _ us Q I r ⟨p, n :: ns, rfl, q1, by simp, fun m h1 h2 => ?_⟩
        have em : m = maxL n ns := Int.le_antisymm (m2 _ h1) (h2 _ m1)
        rw [em]; exact q _ rfl
      · cases e
    · cases e

def rMm (Y : Fx) (k : Bool) : List V → Hp → VK → Prop := fun vs H Q => ∃ F μ st a b v w c, vs = [v, w] ∧ Good Y.kf F μ st H ∧ RepV Y.kf F μ st.length a v ∧ RepV Y.kf F μ st.length b w ∧ mmV k a b = .ok c ∧ ∀ z, RepV Y.kf F μ st.length c z → Q z H
theorem call_mm (hc : X.calm = true) (k : Bool) : CallR X (.builtin (if k then "max" else "min")) (rMm Y k) := by
  intro pins s σ H vs us Q I r h
  obtain ⟨F, μ, st, a, b, v, w, c, rfl, g, ra, rb, e, q⟩ := h
  cases a <;> cases b <;> first
    | (rename_i i j
       have ex : v = .int i := ra
       have ey : w = .int j := rb
       subst ex ey
       cases e
       cases k with
       | true => exact call_max2 hc pins s σ H _ us Q I r ⟨i, j, rfl, q _ rfl⟩
       | false => exact call_min2 hc pins s σ H _ us Q I r ⟨i, j, rfl, q _ rfl⟩)
    | cases e

/-! ### one argument, a new list or tuple -/
def rG1 (Y : Fx) (W : XK) (m : Bool) (f : G1) : List V → Hp → VK → Prop := fun vs H Q => ∃ F μ st a v, vs = [v] ∧ Good Y.kf F μ st H ∧ RepV Y.kf F μ st.length a v ∧ RP Y F μ st H (g1V m f a st) (kV Y Q) W
theorem call_g_list (hK : X.K = Y.K) {W : XK} {m : Bool} : CallR X (.type "list") (rG1 Y W m .list) := by
  intro pins s σ H vs us Q I r h
  obtain ⟨F, μ, st, a, v, rfl, g, ra, h⟩ := h
  change RP Y F μ st H (match seqOf st a with | some (_, xs) => newL m xs st | none => .stuck) (kV Y Q) W at h
  split at h
  · rename_i kk xs hq
    obtain ⟨p, vs, e1, r1, q1⟩ := seqIn hK g ra hq
    subst e1
    obtain ⟨z, k⟩ := newL_ok g h r1
    exact call_list_of pins s σ H _ us Q I r ⟨p, vs, rfl, q1, k⟩
  · exact False.elim h
theorem call_g_tuple (hK : X.K = Y.K) {W : XK} {m : Bool} : CallR X (.type "tuple") (rG1 Y W m .tuple) := by
  intro pins s σ H vs us Q I r h
  obtain ⟨F, μ, st, a, v, rfl, g, ra, h⟩ := h
  change RP Y F μ st H (match seqOf st a with | some (_, xs) => newT xs st | none => .stuck) (kV Y Q) W at h
  split at h
  · rename_i kk xs hq
    obtain ⟨p, vs, e1, r1, q1⟩ := seqOf_rep g ra hq
    subst e1
    cases kk with
    | true =>
      rw [if_pos rfl] at q1
      obtain ⟨z, k⟩ := newT_ok g h r1
      exact call_tuple_of pins s σ H _ us Q I r ⟨p, vs, rfl, .inl ⟨by rw [hK]; exact q1, k⟩⟩
    | false =>
      rw [if_neg Bool.false_ne_true] at q1
      refine call_tuple_of pins s σ H _ us Q I r ⟨p, vs, rfl, .inr ⟨by rw [hK]; exact q1, ?_⟩⟩
      cases a with
      | tup ys =>
        have ey : ys = xs := by injection hq with hq; injection hq
        subst ey
        exact newT_same g h ra
      | lst ys => injection hq with hq; injection hq with h1 h2; cases h1
      | scr ys => injection hq with hq; injection hq with h1 h2; cases h1
      | loc mm =>
        change (match st[mm]? with | some (.lst xs) => some (true, xs) | some (.frz xs) => some (true, xs) | _ => none) = some (false, xs) at hq
        split at hq <;> cases hq
      | _ => cases hq
  · exact False.elim h
theorem each_rep {K : Kf} {F : Hp} {μ : Nat → Addr} {n : Nat} : ∀ {xs : List Val} {vs : List V} {us : List Value}, RepL K F μ n xs vs → Vals vs us → PySem.W.EachIs (fun u x => ∃ v, RelV v u ∧ RepV K F μ n x v) us xs
  | [], _, _, h, r => by cases h; cases r; exact .nil
  | x :: xs, _, us, ⟨v, q, h1, h2, h3⟩, r => by
    subst h1
    exact match us, r with
    | _, .cons a b => .cons ⟨v, a, h2⟩ (each_rep h3 b)
theorem rep_each {K : Kf} {F : Hp} {μ : Nat → Addr} {n : Nat} : ∀ {xs : List Val} {us : List Value}, PySem.W.EachIs (fun u x => ∃ v, RelV v u ∧ RepV K F μ n x v) us xs → ∃ vs, RepL K F μ n xs vs ∧ Vals vs us
  | _, _, .nil => ⟨[], rfl, .nil⟩
  | _, _, .cons ⟨v, a, h⟩ t => by
    obtain ⟨vs, h1, h2⟩ := rep_each t
    exact ⟨v :: vs, ⟨v, vs, rfl, h, h1⟩, .cons a h2⟩
theorem alikes_of {xs : List Val} (h : (xs.all fun x => (xs.all fun y => PySem.W.alike (toPD x) (toPD y)) && (PyData.canLay0 (toPD x) && decide ((toPD x).depth ≤ 60))) = true) : PySem.W.AllAlike (xs.map toPD) := by
  intro d hd d' hd'
  obtain ⟨b, h1, rfl⟩ := List.mem_map.mp hd
  obtain ⟨b', h2, rfl⟩ := List.mem_map.mp hd'
  rw [List.all_eq_true] at h
  have := h b h1
  rw [Bool.and_eq_true, List.all_eq_true] at this
  exact this.1 b' h2
theorem sortable_of {xs : List Val} (h : ((xs.all fun x => match x with | .tup (_ :: _) => true | _ => false) || (xs.all fun x => match x with | .tup _ => false | .non => false | _ => true)) = true) : PySem.W.Sortable (xs.map toPD) := by
  rw [Bool.or_eq_true] at h
  rcases h with h | h
  · refine .inl fun d hd => ?_
    obtain ⟨b, h1, rfl⟩ := List.mem_map.mp hd
    rw [List.all_eq_true] at h
    have q := h b h1
    split at q
    · exact ⟨_, _, rfl⟩
    · cases q
  · refine .inr fun d hd => ?_
    obtain ⟨b, h1, rfl⟩ := List.mem_map.mp hd
    rw [List.all_eq_true] at h
    have q := h b h1
    cases b <;> first | (cases q; done) | exact ⟨(by intro z; cases z), (by intro ys z; cases z)⟩
theorem call_g_sorted (hK : X.K = Y.K) (hu : X.A.units + 64 < cLine) {W : XK} {m : Bool} : CallR X (.builtin "sorted") (rG1 Y W m .sorted) := by
  intro pins s σ H vs us Q I r h
  obtain ⟨F, μ, st, a, v, rfl, g, ra, h⟩ := h
  change RP Y F μ st H (match seqOf st a with | some (true, xs) => (match asInts xs with | some ns => newL m ((sortI ns).map .int) st | none => if sortOk xs then newL m (xs.mergeSort leV) st else .stuck) | _ => .stuck) (kV Y Q) W at h
  split at h
  · rename_i xs hq
    split at h
    · rename_i ns hn
      obtain ⟨p, e1, q1⟩ := intsAt hK g ra hq hn
      subst e1
      obtain ⟨z, k⟩ := newL_ok g h (repL_ints (sortI ns))
      refine cr_sortedI pins s σ H _ us Q I r ⟨p, ns, rfl, q1, fun ns' l hp hs hl => ?_⟩
      rw [sortI_only hp hs]
      exact k l hl
    · by_cases ho : sortOk xs = true
      · rw [if_pos ho] at h
        unfold sortOk at ho
        rw [Bool.and_eq_true] at ho
        obtain ⟨p, vs, e1, r1, q1⟩ := seqOf_rep g ra hq
        subst e1
        rw [if_pos rfl] at q1
        rw [Vals.ref1 r]
        obtain ⟨its, rv, hl, hz⟩ := I.list (show SqL X.K H p vs by rw [hK]; exact q1)
        have er := each_rep r1 rv
        have hd : ∀ x ∈ xs, PyData.canLay0 (toPD x) = true ∧ (toPD x).depth ≤ 60 := fun x hx => by
          have := ho.1
          rw [List.all_eq_true] at this
          have := this x hx
          simp only [Bool.and_eq_true, decide_eq_true_eq] at this
          exact this.2
        have er2 : PySem.W.EachIs (fun u x => ∃ as, Reads s.heap u (toPD x) as) its xs := (PySem.W.each_mem er).mono fun u x ⟨⟨v, hv, hr⟩, hx⟩ => Dp.reads I (toPD x) v u (by rw [hK]; exact dp_rep g.same hr (hd x hx).1) hv
        have hlen := rv.length
        have hlx := r1.len
        refine PySem.W.sorted_data hl.isList er er2 (alikes_of ho.1) (sortable_of ho.2) (by omega) (fun b hb => by have := (hd b hb).2; omega) fun out hlo hout => ?_
        obtain ⟨ws, h1, h2⟩ := rep_each hout
        have hl2 : RepL Y.kf F μ st.length (xs.mergeSort leV) ws := h1
        obtain ⟨z, k⟩ := newL_ok g h hl2
        have hfr : H (s.heap.objs.size + 1) = none := I.hok.fresh (Nat.le_succ _)
        refine ⟨.ref (s.heap.objs.size + 1), upd H (s.heap.objs.size + 1) (.lst ws), I.laid (t' := s.toks) (fun b o e => sortedAll_old e) (Nat.le_succ _) ?_, rfl, k _ hfr⟩
        obtain ⟨n, hn⟩ := sortedAll_at s.heap its (List.toArray out)
        refine ⟨?_, out, n, h2, hn⟩
        have := hl2.len
        rw [List.length_mergeSort] at this
        omega
      · rw [if_neg ho] at h; exact False.elim h
  · exact False.elim h
/-- set(xs): an object whose members are known -/
def rMkSet (Y : Fx) (w : World) : List V → Hp → VK → Prop := fun vs H Q => ∃ F μ st a v xs ns, vs = [v] ∧ Good Y.kf F μ st H ∧ RepV Y.kf F μ st.length a v ∧ seqOf st a = some (true, xs) ∧ asInts xs = some ns ∧ ns.length < 64 ∧
  ∀ p n, H p = none → n < 64 → Q (.ref p) (upd H p (SetO w p (fun j => decide (j ∈ ns)) n))
theorem call_mkset (hK : X.K = Y.K) (hc : X.calm = true) : CallR X (.type "set") (rMkSet Y X.w) := by
  intro pins s σ H vs us Q I r h
  obtain ⟨F, μ, st, a, v, xs, ns, rfl, g, ra, hq, hn, h64, q⟩ := h
  obtain ⟨p, e1, q1⟩ := intsAt hK g ra hq hn
  subst e1
  obtain ⟨its, rv, pl, hz⟩ := I.list q1
  rw [Vals.ref1 r]
  have hi : IntsAre its ns := rv.ints
  refine call_set_lstI ns (I.ok.hd hc) pl.isList (by simpa using hi) (by unfold scanBound; omega) fun h' tk c R1 hcn k => ?_
  have hp : H s.heap.objs.size = none := I.hok.fresh (Nat.le_refl _)
  exact ⟨.ref s.heap.objs.size, _, I.laid (t' := tk) k (Nat.le_refl _) (setO_new R1), rfl, q _ c hp (by omega)⟩
theorem keys_ints : ∀ {es : List (Int × Value)}, (∀ e ∈ es, GoodE e) → ∃ ns : List Int, es.map keyOf = ns ∧ ns.length = es.length
  | es, _ => ⟨es.map keyOf, rfl, by simp⟩
theorem call_lenset : CallR X (.builtin "len") (fun xs H Q => ∃ (p : Addr) (ns : List Int) (n : Nat), xs = [.ref p] ∧ H p = some (SetO X.w p (fun j => decide (j ∈ ns)) n) ∧ n < 64 ∧ Q (.int (sortS ns).length) H) := by
  intro pins s σ H vs us Q I r h
  obtain ⟨p, ns, n, rfl, hp, h64, q⟩ := h
  rw [Vals.ref1 r]
  obtain ⟨o, es, ep, t, ho, hx, hd, hg, hnd, hm, hsz, hf, hn, _, _⟩ := setO_get I hp
  have hlen : (sortS ns).length = es.size := by
    have h1 : (sortS ns).Perm (es.toList.map keyOf) := by
      refine (List.perm_ext_iff_of_nodup ?_ hnd).mpr fun k => ?_
      · exact (sortS_up ns).imp fun {a b} hab => by omega
      · rw [← hm k, sortS_mem]; simp
    rw [h1.length_eq]; simp
  exact call_len_set ho hx hd hf (by omega) ⟨.int es.size, H, I.tok _, ⟨_, rfl⟩, by rw [← hlen]; exact q⟩
end
end MP
set_option maxHeartbeats 4000000
/-! MiniPy: the program's own errors over ValueError, whose __init__ says super().__init__('..') and stores its parameters. -/
namespace MP
open PySem PySem.W PySem.Calls PyProof.Rows PySem.HandSPX L2

/-- self.n = n, for each of ns -/
def asgsB : List Stmt → List Str → Bool
  | [], [] => true
  | .Assign [.Attribute (.Name a _) n _] (.Name b _) _ :: r, m :: ns => decide (a = "self") && (decide (n = m) && (decide (b = m) && asgsB r ns))
  | _, _ => false
def bodyB : List Stmt → List Str → Bool
  | .Expr (.Call (.Attribute (.Call (.Name a _) [] [] _) m p2) [.Constant (.str _) _ _] [] p4) _ :: r, ns => decide (a = "super") && (decide (m = "__init__") && ((p2.endLine == p4.line) && asgsB r ns))
  | _, _ => false
/-- the scope: the parameters are local, super global, __class__ captured -/
def iscB (sc : Scope) (ns : List Str) : Bool :=
  (match sc.kind with | .function => true | _ => false) && (!sc.isCoroutine && (!sc.isGenerator && (decide (sc.names.lookup ("super" : Str) = some .globalImplicit) && (decide (sc.names.lookup ("__class__" : Str) = some .free) && ((("self" : Str) :: ns).all (fun n => decide (sc.names.lookup n = some .local) && !(n == ("__debug__" : Str))) && sc.names.all fun y => match y.2 with | .cell => false | _ => true)))))
theorem asgsB_cons {st : Stmt} {r : List Stmt} {ns : List Str} (h : asgsB (st :: r) ns = true) : ∃ p1 p2 p3 p4 n ms, ns = n :: ms ∧ st = .Assign [.Attribute (.Name "self" p1) n p2] (.Name n p3) p4 ∧ asgsB r ms = true := by
  unfold asgsB at h
  split at h
  · rename_i heq1; cases heq1
  · rename_i a p1 n p2 b p3 p4 r' m ms heq1
    cases heq1
    simp only [Bool.and_eq_true, decide_eq_true_eq] at h
    obtain ⟨rfl, rfl, rfl, h4⟩ := h
    exact ⟨p1, p2, p3, p4, _, ms, rfl, rfl, h4⟩
  · cases h
theorem bodyB_eq {b : List Stmt} {ns : List Str} (h : bodyB b ns = true) : ∃ p0 p1 p2 p3 p4 p5 txt j r, b = .Expr (.Call (.Attribute (.Call (.Name "super" p0) [] [] p1) "__init__" p2) [.Constant (.str txt) j p3] [] p4) p5 :: r ∧ (p2.endLine == p4.line) = true ∧ asgsB r ns = true := by
  unfold bodyB at h
  split at h
  · simp only [Bool.and_eq_true, decide_eq_true_eq] at h
    obtain ⟨rfl, rfl, h2, h3⟩ := h
    exact ⟨_, _, _, _, _, _, _, _, _, rfl, h2, h3⟩
  · cases h

structure SupTxt (P : Program) (K : Frag) (mg : Str → Option Value) (C D fI : Addr) (st : Stmt) (ns : List Str) : Prop where
  cls : ∃ nm q N bs bm sn sub ab col dd k0 k1 k2 k3 k5, K.lookup C = some (excClassObj nm q C N bs bm true sn sub ab col dd k0 k1 k2 k3 k5 "ValueError.__new__") ∧ refsVE bm = true
  sa : findIn K (.ref C) "__setattr__" = some (some (.builtin "object.__setattr__"))
  exC : subIn K (.ref C) (.type "BaseException") = some true
  veC : subIn K (.ref C) (.type "ValueError") = some true
  tyC : typeIn K (.ref C) = some (.type "type")
  kC : keepIn K (.ref C) = true
  iC : findIn K (.ref C) "__init__" = some (some (.ref fI))
  tI : typeIn K (.ref fI) = some (.type "function")
  no : ∀ n ∈ ns, findIn K (.ref C) n = some none
  fn : ∃ (oc : Value) (od : Option Addr) (qual : Str) (kV doc pm : Value) (an : Option Addr) (cda : Addr) (ct : Value) (cc : Addr) (osl : Array (Option Value)),
    K.lookup fI = some ⟨oc, od, .func (ksFn "__init__" qual (defArgs st) (defBody st) (defScope st) .none kV doc pm an (.ref cda) ct cc), osl⟩ ∧ codeIn K (.ref cda) qual = true ∧
      (∃ (ccl : Value) (cdd : Option Addr) (vs : Array Value) (ccs : Array (Option Value)) (file : Str) (tf : Tok), K.lookup cda = some ⟨ccl, cdd, .fields vs, ccs⟩ ∧ vs[2]? = some (.str file tf) ∧ ((P.main.file : Str) == file) = true) ∧
      (∃ (cl : Value) (cld : Option Addr) (csl : Array (Option Value)), K.lookup cc = some ⟨cl, cld, .cell (some (.ref D)), csl⟩)
  clD : ∃ cdD, clsIn K D = some cdD
  sub : mroIn K C (.ref D) = some true
  sup : ks_superIn K C D "__init__" = some (some (.builtin "ValueError.__init__"))
  glb : mg "super" = none
  top : (P.main.scope.names.lookup ("super" : Str)).isSome = false
  opq : nsIn K cStatics "thirdparty.any" = some none
  body : bodyB (defBody st) ns = true
  scope : iscB (defScope st) ns = true
  ar : ((defArgs st).posonlyargs ++ (defArgs st).args).head?.map (·.arg) = some "self"
  nd : ns.Nodup ∧ ("self" : Str) ∉ ns ∧ ns ≠ []
  bind : ∀ (qual : Str) (kV doc pm : Value) (an : Option Addr) (cdv ct : Value) (cc : Addr) (us : List Value), us.length = ns.length + 1 → bindArgs (ksFn "__init__" qual (defArgs st) (defBody st) (defScope st) .none kV doc pm an cdv ct cc) ⟨us, []⟩ = pure ((("self" : Str) :: ns).zip us)

theorem lk_put {α : Type} (f g : Str) (y : α) (fs : List (Str × α)) : ((f, y) :: fs).lookup g = if g = f then some y else fs.lookup g := by
  by_cases h : g = f
  · subst h; simp [List.lookup]
  · have e : (g == f) = false := by simpa using h
    rw [if_neg h]; simp [List.lookup, e]

section
variable {P : Program} {w : World} {A : Around} {E : Value → Shared → Prop} {K : Frag} {mg : Str → Option Value} {base : Heap} {C D fI : Addr} {st : Stmt} {ns : List Str}
theorem kin_but {h h' : Heap} {x : Addr} (X : K.In base) (kb : ∀ b o, base.get? b = some o → h.get? b = some o) (hx : base.get? x = none) (k : ∀ b o, b ≠ x → h.get? b = some o → h'.get? b = some o) : ∀ b o, base.get? b = some o → h'.get? b = some o := fun b o e =>
  k b o (fun z => by rw [z, hx] at e; cases e) (kb b o e)
/-- the further stores -/
theorem sup_more (T : SupTxt P K mg C D fI st ns) (X : K.In base) {env : PySem.Env} {x dx t1 : Addr} {m : Str → Option Value} (hk : env.scope.kind = .function) (hbx : base.get? x = none) (hbd : ∀ o, base.get? dx = some o → False)
    (self : m ("self" : Str) = some (.ref x) ∧ env.kindOf "self" = some .local) {Q : Flow → Shared → Prop} : ∀ (r : List Stmt) (ms : List Str) (vs : List Value) (done : List (Str × Value)) (mA : Str → Option Value) (s : Shared),
    asgsB r ms = true → (∀ n ∈ ms, n ∈ ns) → ms.length = vs.length → (∀ n v, (n, v) ∈ ms.zip vs → m n = some v ∧ env.kindOf n = some .local ∧ (n == ("__debug__" : Str)) = false) → env.locals ≠ x → env.locals ≠ dx →
    (∀ b o, base.get? b = some o → s.heap.get? b = some o) → s.heap.Ns env.locals m → s.heap.get? x = some { cls := .ref C, dict := some dx, data := .fields #[.ref t1, .none, .none, .none, .bool false, .none] } → s.heap.Ns1 dx mA → (∀ f, mA f = done.lookup f) → done.length + ms.length ≤ 900 →
    (∀ h' tk mB, (∀ b o, b ≠ x → b ≠ dx → s.heap.get? b = some o → h'.get? b = some o) → h'.get? x = some { cls := .ref C, dict := some dx, data := .fields #[.ref t1, .none, .none, .none, .bool false, .none] } → h'.Ns1 dx mB → (∀ f, mB f = ((ms.zip vs).reverse ++ done).lookup f) → Q .next { s with heap := h', toks := tk }) →
    wpAny (model P w) A (execs r env) Q E s := by
  intro r
  induction r with
  | nil =>
    intro ms vs done mA s ha hin hl hm hLx hLd kb hn hx hd hA hz hq
    cases ms with
    | cons _ _ => cases ha
    | nil =>
      obtain ⟨hp, g, d, t, os⟩ := s
      exact wpAny_execs_nil (hq hp t mA (fun b o _ _ e => e) hx hd (by simpa using hA))
  | cons a r ih =>
    intro ms vs done mA s ha hin hl hm hLx hLd kb hn hx hd hA hz hq
    obtain ⟨p1, p2, p3, p4, n, ms', rfl, rfl, ha'⟩ := asgsB_cons ha
    cases vs with
    | nil => cases hl
    | cons v vs =>
      obtain ⟨nm, q, N, bs, bm, sn, sub, ab, col, dd, k0, k1, k2, k3, k5, hC, hbm⟩ := T.cls
      have hcl : clsIn K C = some { name := nm, bases := bs, mro := .ref C :: bm, ns := N, qualname := q, hasDict := true, slotNames := sn, subclasses := sub, abstract := ab, collection := col, hasDel := false } := by unfold clsIn; rw [hC] <;> rfl
      obtain ⟨hmn, hkn, hdn⟩ := hm n v (List.mem_cons_self ..)
      obtain ⟨hp, g, d, t, os⟩ := s
      obtain ⟨oD, esD, epD, hoD, hdD, hrD⟩ := hd
      have X1 : K.In hp := X.keeps kb
      refine wpAny_execs_cons (plainObj_wpAny_Assign_Attribute (ESX.ldL hn hmn (ESX.ldL hn self.1 ?_ hk self.2 (by decide +kernel)) hk hkn hdn) rfl)
      refine set_plain X1 (ox := { cls := .ref C, dict := some dx, data := .fields #[.ref t1, .none, .none, .none, .bool false, .none] }) (od := some oD) ⟨hx, rfl, rfl, hoD⟩ T.sa ?_
      have hw : Within mA (done.map (·.1)) := fun y hy => by
        rw [hA y] at hy
        cases hl' : done.lookup y with
        | none => exact absurd hl' hy
        | some u => exact List.mem_map_of_mem (f := (·.1)) (PySem.mem_of_lookup hl')
      refine OEX.osa_old X1 hx ⟨oD, esD, epD, hoD, hdD, hrD⟩ hw (by rw [List.length_map]; omega) hcl (show refsVE (.ref C :: bm) = true from hbm) rfl (T.no n (hin n (List.mem_cons_self ..))) (fun h' tk' k hn' => ?_)
      have kb' : ∀ b o, base.get? b = some o → h'.get? b = some o := fun b o e => k b o (fun z => hbd o (by rw [← z]; exact e)) (kb b o e)
      have hdx : dx ≠ x := fun z => by
        rw [z, hx] at hoD
        cases hoD
        cases hdD
      refine ih ms' vs ((n, v) :: done) _ _ ha' (fun y hy => hin y (List.mem_cons_of_mem _ hy)) (by simpa using hl) (fun y u hy => hm y u (List.mem_cons_of_mem _ hy)) hLx hLd kb' (hn.at fun o e => k _ _ hLd e) (k _ _ (Ne.symm hdx) hx) hn' (fun f => ?_) (by simp at hz ⊢; omega) (fun h2 tk2 mB k2 hx2 hd2 hB => hq h2 tk2 mB (fun b o hb hb2 e => k2 b o hb hb2 (k b o hb2 e)) hx2 hd2 fun f => ?_)
      · rw [lk_put, hA f]
      · rw [hB f]; simp
end
end MP
set_option maxHeartbeats 4000000
/-! MiniPy: such an error is made. -/
namespace MP
open PySem PySem.W PySem.Calls PyProof.Rows PySem.HandSPX L2
section
variable {P : Program} {w : World} {A : Around} {E : Value → Shared → Prop} {K : Frag} {mg : Str → Option Value} {base : Heap} {C D fI : Addr} {st : Stmt} {ns : List Str} {R : Result → Shared → Prop}
/-- ValueError.__init__, bound to the object, called -/
theorem mw_call {h : Heap} {g : Array GenState} {d : Drawn} {t : Nat} {os : OsState} {nm q : Str} {N : Addr} {bs bm : List Value} {sn : List Str} {sub : List Value} {ab : Bool} {col : Option Bool} {dd : Option Addr} {k0 k1 k2 k3 k5 : Option Value} {u x t0 : Addr} {rest : List Value} {Q : Value → Shared → Prop}
    (hC : h.get? C = some (excClassObj nm q C N bs bm true sn sub ab col dd k0 k1 k2 k3 k5 "ValueError.__new__")) (he : h.get? x = some (excO C t0)) (hu : h.get? u = some (kxs_mw "ValueError.__init__" x)) (hz : rest.length ≤ sizeLine)
    (hq : ∀ h' t1, (∀ b o, b ≠ x → h.get? b = some o → h'.get? b = some o) → h'.get? x = some (excO C t1) → Q .none ⟨h', g, d, t, os⟩) :
    wpAny (model P w) A (call (.ref u) rest) Q E ⟨h, g, d, t, os⟩ := by
  have FB := F.excBase_ValueError
  refine wpAny_call (codeAny_of_tree ?_)
  show wpAny (model P w) A.in1 (callAny (.ref u) ⟨rest, []⟩) _ _ _
  simp only [callAny]
  refine wpAny_bind (wpAny_load hu ?_)
  simp only [kxs_mw, show ((Value.type "method-wrapper" == Value.type "method") || (Value.type "method-wrapper" == Value.type "builtin_function_or_method") || (Value.type "method-wrapper" == Value.type "method-wrapper")) = true by decide, if_true]
  refine KFB.if_so (by decide) ?_
  refine wpAny_bind (check_bound_init FB.toExcCallFacts hC he rfl (wpAny_bind (wpAny_pure (wpAny_pure ?_))))
  refine ⟨plainId_quiet FB.init.plain _, codeAny_builtin FB.initEntry ?_⟩
  exact exc_init_tree (cls := .ref C) (t0 := t0) (dv := none) (c2 := .none) (c3 := .none) (b4 := .bool false) he hz fun h' k e' _ => hq h' _ k e'
theorem sup_call {p0 p1 p2 p3 p4 : Pos} {txt : Str} {jj : Nat} {env : PySem.Env} (hl : (p2.endLine == p4.line) = true) :
    eval (.Call (.Attribute (.Call (.Name "super" p0) [] [] p1) "__init__" p2) [.Constant (.str txt) jj p3] [] p4) env = (do
      let ov ← attributeBase (.Call (.Name "super" p0) [] [] p1) "__init__" env (eval (.Call (.Name "super" p0) [] [] p1) env)
      standAt p2.atName
      let (f, first) ← holding [ov] (getMethod ov "__init__" (do return (← importBound (.Call (.Name "super" p0) [] [] p1) env).getD true))
      callWith p4 f first (backTo p4 (starEach [.Constant (.str txt) jj p3] env)) []) := by
  have hp : methodCallPos true (.Call (.Name "super" p0) [] [] p1) env p2 p4 = pure p4 := by
    unfold methodCallPos
    rw [hl]; rfl
  have e : ∀ ov, methodCall (.Call (.Name "super" p0) [] [] p1) "__init__" p2 p4 env ov 1 (backTo p4 (starEach [.Constant (.str txt) jj p3] env)) [] = (do
      let (f, first) ← holding [ov] (getMethod ov "__init__" (do return (← importBound (.Call (.Name "super" p0) [] [] p1) env).getD true))
      callWith p4 f first (backTo p4 (starEach [.Constant (.str txt) jj p3] env)) []) := fun ov => by
    have hf : methodCallForm 1 (backTo p4 (starEach [.Constant (.str txt) jj p3] env)) [] = true := rfl
    unfold methodCall
    rw [hf, hp]
    simp only [pure_bind]
    rfl
  show (do
      let ov ← attributeBase (.Call (.Name "super" p0) [] [] p1) "__init__" env (eval (.Call (.Name "super" p0) [] [] p1) env)
      standAt p2.atName
      methodCall (.Call (.Name "super" p0) [] [] p1) "__init__" p2 p4 env ov 1 (backTo p4 (starEach [.Constant (.str txt) jj p3] env)) []) = _
  simp only [e]
theorem lookup_rev {α : Type} : ∀ {l : List (Str × α)} {n : Str} {v : α}, (l.map (·.1)).Nodup → (n, v) ∈ l → l.reverse.lookup n = some v
  | [], _, _, _, h => by cases h
  | (a, b) :: l, n, v, nd, h => by
    rw [List.map_cons, List.nodup_cons] at nd
    rw [List.reverse_cons, List.lookup_append]
    rcases List.mem_cons.mp h with h | h
    · obtain ⟨rfl, rfl⟩ := Prod.mk.inj h
      have : l.reverse.lookup n = none := by
        cases q : l.reverse.lookup n with
        | none => rfl
        | some u =>
          have := PySem.mem_of_lookup q
          exact absurd (List.mem_map_of_mem (f := (·.1)) (List.mem_reverse.mp this)) nd.1
      rw [this]
      simp
    · rw [lookup_rev nd.2 h]; rfl
theorem sup_init (T : SupTxt P K mg C D fI st ns) (M : Mod K mg base) {s : Shared} (kb : ∀ b o, base.get? b = some o → s.heap.get? b = some o) {x t0 : Addr} {us : List Value} (hx : s.heap.get? x = some (excO C t0)) (hbx : base.get? x = none) (hus : us.length = ns.length) (hn900 : ns.length ≤ 900)
    (hroom : A.depth < recursionLimit)
    (hq : ∀ h' tk dx t1 mA, (∀ b o, b ≠ x → s.heap.get? b = some o → h'.get? b = some o) → h'.get? x = some { cls := .ref C, dict := some dx, data := .fields #[.ref t1, .none, .none, .none, .bool false, .none] } → s.heap.objs.size ≤ dx → dx ≠ x → h'.Ns1 dx mA →
      (∀ f, mA f = (ns.zip us).reverse.lookup f) → R (.ok (.ret .none)) { s with heap := h', toks := tk }) :
    codeAny (model P w) A (.call (.ref fI) ⟨.ref x :: us, []⟩) R s := by
  obtain ⟨oc, od, qual, kV, doc, pm, an, cda, ct, cc, osl, ho, hcd, ⟨ccl, cdd, vs, ccs, file, tf, hcode, hvs, hfile⟩, ⟨cl, cld, csl, hcell⟩⟩ := T.fn
  obtain ⟨nm, q, N, bs, bm, sn, sub, ab, col, dd, k0, k1, k2, k3, k5, hC, hbm⟩ := T.cls
  have hcl : clsIn K C = some { name := nm, bases := bs, mro := .ref C :: bm, ns := N, qualname := q, hasDict := true, slotNames := sn, subclasses := sub, abstract := ab, collection := col, hasDel := false } := by unfold clsIn; rw [hC] <;> rfl
  obtain ⟨p0, p1, p2, p3, p4, p5, txt, jj, r, hbody, hline, hasg⟩ := bodyB_eq T.body
  have hsc := T.scope
  unfold iscB at hsc
  simp only [Bool.and_eq_true, decide_eq_true_eq, List.all_eq_true, Bool.not_eq_true'] at hsc
  obtain ⟨sk, sco, sgen, ssup, scls, sloc, scell⟩ := hsc
  have hk : (defScope st).kind = .function := by
    split at sk
    · assumption
    · cases sk
  have X : K.In s.heap := M.kin.keeps kb
  obtain ⟨n0, ns', hns0⟩ : ∃ n0 ns', ns = n0 :: ns' := by
    cases ns with
    | nil => exact absurd rfl T.nd.2.2
    | cons a b => exact ⟨a, b, rfl⟩
  have hb : BindsTo s (ksFn "__init__" qual (defArgs st) (defBody st) (defScope st) .none kV doc pm an (.ref cda) ct cc) ⟨.ref x :: us, []⟩ ((("self" : Str) :: ns).zip (.ref x :: us)) := .of_eq (T.bind qual kV doc pm an (.ref cda) ct cc (.ref x :: us) (by simp [hus]))
  refine ks_codeAny_call_defAt (fd := ksFn "__init__" qual (defArgs st) (defBody st) (defScope st) .none kV doc pm an (.ref cda) ct cc) (body := defBody st) hroom (X _ _ ho) rfl (M.nolimit.keeps kb) (codeRec_of X hcd) rfl hb (fun y hy e => ?_) (fun y hy => ?_) (fun h₁ hns hk₁ => ?_) sco sgen hk
  · have := scell y hy
    rw [e] at this; cases this
  · exact (sloc y.1 (List.of_mem_zip hy).1).1
  · generalize hfd : ksFn "__init__" qual (defArgs st) (defBody st) (defScope st) .none kV doc pm an (.ref cda) ct cc = fd at hb ⊢
    have e1 : fd.scope = defScope st := by rw [← hfd]
    generalize henv : callEnv fd s.heap.objs.size fI = env
    have es : env.scope = defScope st := by rw [← henv, ← e1]; rfl
    have eL : env.locals = s.heap.objs.size := by rw [← henv]; rfl
    have ef : env.func = some fI := by rw [← henv]; rfl
    have ec : env.code = .ref cda := by rw [← henv, ← hfd]; rfl
    have eg : env.globals = mainGlobals := by rw [← henv, ← hfd]; rfl
    have eb : env.builtins = builtinsNs := by rw [← henv, ← hfd]; rfl
    have ecl : env.cells = [(("__class__" : Str), cc)] := by rw [← henv, ← hfd]; rfl
    have ek : env.scope.kind = .function := by rw [es]; exact hk
    have kos : ∀ y, env.kindOf y = (defScope st).names.lookup y := fun y => by rw [← es]; rfl
    have kb1 : ∀ b o, base.get? b = some o → h₁.get? b = some o := fun b o e => hk₁ b o (kb b o e)
    have X1 : K.In h₁ := M.kin.keeps kb1
    have hx1 := hk₁ _ _ hx
    have nods : ((("self" : Str) :: ns).zip (Value.ref x :: us)).map (·.1) = ("self" : Str) :: ns := by
      rw [List.map_fst_zip]; simp [hus]
    have nodk : (("self" : Str) :: ns).Nodup := List.nodup_cons.mpr ⟨T.nd.2.1, T.nd.1⟩
    have hm : ∀ n v, (n, v) ∈ (("self" : Str) :: ns).zip (Value.ref x :: us) → ((("self" : Str) :: ns).zip (Value.ref x :: us)).reverse.lookup n = some v := fun n v hv => lookup_rev (by rw [nods]; exact nodk) hv
    have hself := hm "self" (.ref x) (List.mem_cons_self ..)
    rw [hbody]
    refine ks_wpAt_execs_cons (ks_wpAt_Expr_any (ks_wpAt_MethodCall ?_ (sup_call hline)) (by simp [interactive, ek]) rfl)
    · obtain ⟨ar, har, harn⟩ : ∃ ar, (fd.params.posonlyargs ++ fd.params.args).head? = some ar ∧ ar.arg = "self" := by
        have := T.ar
        rw [← hfd]
        cases hh : ((defArgs st).posonlyargs ++ (defArgs st).args).head? with
        | none => rw [hh] at this; cases this
        | some ar => rw [hh] at this; exact ⟨ar, rfl, Option.some.inj this⟩
      obtain ⟨cdD, hcD⟩ := T.clD
      obtain ⟨oD, hD1, hD2⟩ : ∃ oD, h₁.get? D = some oD ∧ oD.data = .cls cdD := by
        unfold clsIn at hcD
        split at hcD
        · rename_i c d cd' sl hoD
          cases hcD
          exact ⟨_, X1 _ _ hoD, rfl⟩
        · cases hcD
      have hfo : h₁.get? fI = some ⟨oc, od, .func fd, osl⟩ := by rw [← hfd]; exact X1 _ _ ho
      refine ks_wpAt_super_base (env := env) (by rw [kos]; exact ssup) (by rw [kos]; exact scls) (by decide +kernel) ef hfo rfl har ec (X1 _ _ hcode) rfl hvs hfile T.top ?_
      obtain ⟨mb, hb1, hb2⟩ := M.blt
      refine ks_loadName_global ek (by rw [kos]; exact ssup) (loadGlobal_builtin (by rw [eg]; exact M.glob.keeps kb1) T.glb (by rw [eb]; exact hb1.keeps kb1) ((hb2 _ (by decide +kernel)).trans (by decide +kernel)) ⟨rfl, ?_⟩)
      refine wpAny_loadName_free ek (by rw [kos]; exact scls) (by rw [ecl]; rfl) ⟨_, X1 _ _ hcell, rfl⟩ ?_
      refine wpAny_loadName_local ek (by rw [kos, harn]; exact (sloc "self" (List.mem_cons_self ..)).1) (by rw [eL]; exact hns) (by rw [harn]; exact hself) ?_
      refine ks_wpAny_isType_cls hD1 hD2 ⟨rfl, ?_⟩
      refine ks_wpAny_call_super hD1 hD2 hx1 rfl (fun c e => by cases e) (looks_mroIn X1 T.sub) (fun h2 hso k2 => ?_)
      have X2 : K.In h2 := X1.keeps k2
      have hx2 := k2 _ _ hx1
      have I2 : InstAt h2 x (excO C t0) C none := ⟨hx2, rfl, rfl, trivial⟩
      refine kxs_getMethod kxs_ValueError hso (looks_opaque X2 T.opq) (l₀ := .ref C :: bm) (fun A Q E s k q => wpAny_bind ((looks_clsIn X2 hcl) A _ E s k (wpAny_pure q))) rfl X2 (by
        have := T.sup
        unfold ks_superIn at this
        rw [hcl] at this
        exact this) (I2.type.andThen (looks_subIn X2 T.veC)) (ks_ne X2 I2 hcl) (by decide +kernel) ?_
      have hmw : (h2.push (kxs_mw "ValueError.__init__" x)).get? h2.objs.size = some (kxs_mw "ValueError.__init__" x) := Heap.get?_push_at rfl rfl
      have k3 : ∀ b o, h2.get? b = some o → (h2.push (kxs_mw "ValueError.__init__" x)).get? b = some o := fun b o e => Heap.get?_push_of_some _ e
      refine kxs_callWith (i := "ValueError.__init__") (x := x) rfl (evalArgs_plain (spliced_more (Constant_str (spliced_none ⟨hmw, ?_⟩)) rfl))
      refine mw_call (X2.keeps k3 _ _ hC) (k3 _ _ hx2) hmw (by show 1 ≤ sizeLine; rw [sizeLine_eq]; omega) fun h4 t4 k4 hx4 => ?_
      have hLx : s.heap.objs.size ≠ x := Nat.ne_of_gt (Heap.lt_size hx)
      have up4 : ∀ b o, b ≠ x → h₁.get? b = some o → h4.get? b = some o := fun b o hb e => k4 b o hb (k3 _ _ (k2 _ _ e))
      have kb4 : ∀ b o, base.get? b = some o → h4.get? b = some o := fun b o e => up4 b o (fun z => by rw [z, hbx] at e; cases e) (kb1 b o e)
      have X4 : K.In h4 := M.kin.keeps kb4
      have hn4 : h4.Ns env.locals (fun y => ((("self" : Str) :: ns).zip (Value.ref x :: us)).reverse.lookup y) := by rw [eL]; exact hns.at fun o e => up4 _ _ hLx e
      refine wpAt_of_wpAny ?_
      subst hns0
      cases us with
      | nil => simp at hus
      | cons u0 us =>
        cases r with
        | nil => cases hasg
        | cons a r =>
          obtain ⟨q1, q2, q3, q4, n, ms, en, ea, hasg'⟩ := asgsB_cons hasg
          cases en
          subst ea
          have hmn0 := hm n0 u0 (List.mem_cons_of_mem _ (List.mem_cons_self ..))
          have hkn := sloc n0 (List.mem_cons_of_mem _ (List.mem_cons_self ..))
          refine wpAny_execs_cons (plainObj_wpAny_Assign_Attribute (ESX.ldL hn4 hmn0 (ESX.ldL hn4 hself ?_ ek (by rw [kos]; exact (sloc "self" (List.mem_cons_self ..)).1) (by decide +kernel)) ek (by rw [kos]; exact hkn.1) hkn.2) rfl)
          refine set_plain X4 (ox := excO C t4) (od := none) ⟨hx4, rfl, rfl, trivial⟩ T.sa ?_
          refine exc_osa X4 hx4 hcl (show refsVE (.ref C :: bm) = true from hbm) rfl (T.no n0 (List.mem_cons_self ..)) (fun h5 tk5 dx k5 dn dne hx5 hn5 => ?_)
          have hL4 : s.heap.objs.size < h4.objs.size := by rw [← eL]; exact hn4.lt
          have hdL : env.locals ≠ dx := by rw [eL]; exact Nat.ne_of_lt (Nat.lt_of_lt_of_le hL4 dn)
          have kb5 : ∀ b o, base.get? b = some o → h5.get? b = some o := fun b o e => k5 b o (fun z => by rw [z, hbx] at e; cases e) (kb4 b o e)
          refine sup_more T M.kin (mg := mg) (x := x) (dx := dx) (t1 := t4) (m := fun y => ((("self" : Str) :: n0 :: ns').zip (Value.ref x :: u0 :: us)).reverse.lookup y) ek hbx (fun o e => absurd (Heap.lt_size (kb4 _ _ e)) (Nat.not_lt.mpr dn)) ⟨hself, by rw [kos]; exact (sloc "self" (List.mem_cons_self ..)).1⟩ r ns' us [(n0, u0)] _ _ hasg' (fun y hy => List.mem_cons_of_mem _ hy) (by simpa using hus.symm)
            (fun y v hv => ⟨hm y v (List.mem_cons_of_mem _ (List.mem_cons_of_mem _ hv)), by rw [kos]; exact (sloc y (List.mem_cons_of_mem _ (List.mem_cons_of_mem _ (List.of_mem_zip hv).1))).1, (sloc y (List.mem_cons_of_mem _ (List.mem_cons_of_mem _ (List.of_mem_zip hv).1))).2⟩)
            (by rw [eL]; exact hLx) hdL kb5 (hn4.at fun o e => k5 _ _ (by rw [eL]; exact hLx) e) hx5 hn5 (fun f => ?_) (by simp at hn900 ⊢; omega) (fun h6 tk6 mB k6 hx6 hd6 hB => ?_)
          · rw [lk_put]; rfl
          · refine hq h6 tk6 dx t4 mB (fun b o hb e => ?_) hx6 (Nat.le_trans (Nat.le_of_lt hL4) dn) dne hd6 (fun f => ?_)
            · have hb4 := up4 b o hb (hk₁ b o e)
              exact k6 b o hb (Nat.ne_of_lt (Nat.lt_of_lt_of_le (Heap.lt_size hb4) dn)) (k5 b o hb hb4)
            · rw [hB f]; simp
end
end MP
set_option maxHeartbeats 4000000
/-! MiniPy: raising such an error. -/
namespace MP
open PySem PySem.Spec PyProof.Rows L2
/-- C(..): its fields by their names -/
def tMkX (C : Addr) (ns : List Str) (ta : TA) : L2.St → Hp → XK → Prop := fun σ H Q => ta σ H fun vs H1 => vs.length = ns.length ∧ ∀ d, H1 d = none → Q (.ref C) (some d) (upd H1 d (.xd (ns.zip vs)))
theorem zip_rel {ns : List Str} : ∀ {vs : List V} {us : List Value}, Vals vs us → ∀ f, RelO ((ns.zip vs).lookup f) ((ns.zip us).lookup f) := by
  induction ns with
  | nil => intro vs us _ f; exact True.intro
  | cons n ns ih =>
    intro vs us r f
    cases r with
    | nil => exact True.intro
    | cons rv rr =>
      rw [List.zip_cons_cons, List.zip_cons_cons, lk_put, lk_put]
      by_cases h : f = n
      · rw [if_pos h, if_pos h]; exact rv
      · rw [if_neg h, if_neg h]; exact ih rr f
theorem rev_lookup {α : Type} {l : List (Str × α)} (nd : (l.map (·.1)).Nodup) (f : Str) : l.reverse.lookup f = l.lookup f := by
  cases h : l.lookup f with
  | some v => exact lookup_rev nd (PySem.mem_of_lookup h)
  | none =>
    cases h2 : l.reverse.lookup f with
    | none => rfl
    | some v =>
      have m := List.mem_reverse.mp (PySem.mem_of_lookup h2)
      have : ∃ u, l.lookup f = some u := by
        clear h h2 nd
        induction l with
        | nil => cases m
        | cons a l ih =>
          obtain ⟨n, y⟩ := a
          rw [lk_put]
          by_cases q : f = n
          · rw [if_pos q]; exact ⟨_, rfl⟩
          · rw [if_neg q]
            rcases List.mem_cons.mp m with m | m
            · cases m; exact absurd rfl q
            · exact ih m
      obtain ⟨u, hu⟩ := this
      rw [h] at hu; cases hu
section
variable {X : Cx} {C D fI : Addr} {st : Stmt} {ns : List Str} {e : Expr} {es : List Expr} {ta : TA} {x : Str} {p pos : Pos}
theorem pmk_sup (T : SupTxt X.prog X.K X.mg C D fI st ns) (hz : ns.length ≤ 900) (hr : X.A.depth + 1 < recursionLimit) (hg : Gl X x) (hm : X.mg x = some (.ref C)) (ha : PA X (e :: es) ta)
    (hdb : (x == ("__debug__" : Str)) = false) (he : starEach (e :: es) X.env = (false, eval e X.env) :: starEach es X.env) (hpl : (backTo pos (starEach es X.env)).any (·.1) = false) :
    PMk X (.Call (.Name x p) (e :: es) [] pos) (tMkX C ns ta) := by
  intro pins s σ H Q I h
  obtain ⟨nm, q, N, bs, bm, sn, sub, ab, col, dd, k0, k1, k2, k3, k5, hC, hbm⟩ := T.cls
  refine wpAny_Call_Name_kw (ld_glob I hg hm ?_ hdb)
  refine PySem.W.callWith_K (h₀ := X.base) I.ok.mod.kin T.kC (thn (ha.run pos pins s σ H _ I h) fun us s1 ⟨vs, H1, I1, r1, hl, q1⟩ => ⟨I1.kIn, ?_⟩) he hpl
  show wpAny _ _ (call (.ref C) us) _ _ _
  have hus : us.length = ns.length := by rw [← r1.length]; exact hl
  have hbk := I1.bk
  obtain ⟨hp, g, dr, tk, os⟩ := s1
  have keep0 : ∀ b o, hp.get? b = some o → ((hp.push (PySem.W.kdv_tup us)).push (PySem.HandSPX.excO C hp.objs.size)).get? b = some o := fun b o e => Heap.get?_push_of_some _ (Heap.get?_push_of_some _ e)
  have hget : ((hp.push (PySem.W.kdv_tup us)).push (PySem.HandSPX.excO C hp.objs.size)).get? (hp.objs.size + 1) = some (PySem.HandSPX.excO C hp.objs.size) := by heap_get
  have hbx : X.base.get? (hp.objs.size + 1) = none := by
    cases z : X.base.get? (hp.objs.size + 1) with
    | none => rfl
    | some o => exact absurd (Nat.lt_of_succ_lt (Heap.lt_size (hbk _ _ z))) (Nat.lt_irrefl _)
  have hsz : us.length ≤ sizeLine := by rw [hus, sizeLine_eq]; omega
  refine wpAny_call (PySem.HandSPX.call_own F.excBase_ValueError (fun Y => PySem.HandSPX.refsVE_contains Y bm hbm) (I1.kIn _ _ hC) (PySem.W.looks_findIn I1.kIn T.iC) (fun self => PySem.W.bind_fn I1.kIn self T.tI) hsz ?_)
  refine sup_init T I1.ok.mod (fun b o e => keep0 b o (hbk b o e)) hget hbx hus hz (by rw [make_depth]; exact hr) fun h' tk' d t1 mA k' hx dn dne hns hA => ⟨rfl, ?_⟩
  have old : ∀ b o, hp.get? b = some o → h'.get? b = some o := fun b o e => k' b o (Nat.ne_of_lt (Nat.lt_succ_of_lt (Heap.lt_size e))) (keep0 b o e)
  obtain ⟨G', g1, g2⟩ := restrict h' fun b => decide (b ≠ hp.objs.size + 1)
  have gk : ∀ b, b ≠ hp.objs.size + 1 → G'.get? b = h'.get? b := fun b hb => g1 b (decide_eq_true hb)
  have ge : G'.get? (hp.objs.size + 1) = none := g2 _ (by simp)
  have old' : ∀ b o, hp.get? b = some o → G'.get? b = some o := fun b o q => (gk b (Nat.ne_of_lt (Nat.lt_succ_of_lt (Heap.lt_size q)))).trans (old b o q)
  have dbig : hp.objs.size ≤ d := by
    have z : (((hp.push (PySem.W.kdv_tup us)).push (PySem.HandSPX.excO C hp.objs.size)).objs.size) ≤ d := dn
    rw [Heap.size_push, Heap.size_push] at z
    omega
  have ob : ObjOk X.prog X.w (upd H1 d (.xd (ns.zip vs))) G' d (.xd (ns.zip vs)) :=
    ⟨mA, hns.at (fun o q => (gk d dne).trans q), fun f => by
      rw [hA f, rev_lookup (by rw [List.map_fst_zip (by omega)]; exact T.nd.1)]
      exact zip_rel r1 f⟩
  have J : Inv X pins σ (upd H1 d (.xd (ns.zip vs))) ⟨G', g, dr, tk', os⟩ := I1.laid (t' := tk') old' dbig ob
  refine ⟨hp.objs.size + 1, _, _, ⟨G', g, dr, tk', os⟩, _, .ref C, some d, rfl, J, fun b o q => ?_, ge, hx, ⟨rfl, rfl⟩, rfl, rfl, ?_, rfl, I1.bare, raises_own T.exC T.tyC, q1 d (I1.hok.fresh dbig)⟩
  · by_cases hb : b = hp.objs.size + 1
    · have q' : G'.get? b = some o := q
      rw [hb, ge] at q'; cases q'
    · exact (gk b hb).symm.trans q
  · rw [upd_ne (Ne.symm dne)]
    exact I1.hok.fresh (Nat.le_succ _)
end
end MP
set_option maxHeartbeats 4000000
/-! MiniPy: isinstance of the error that a suite holds, its dict laid. -/
namespace MP
open PySem PySem.Spec PyProof.Rows L2
/-- what the written part says of the class, so that isinstance asks its errors rightly -/
structure ExIs (K : PySem.W.Frag) (C : Addr) : Prop where
  cl : (PySem.W.clsIn K C).isSome = true
  ga : PySem.W.findIn K (.ref C) "__getattribute__" = some (some (.builtin "BaseException.__getattribute__"))
  gt : PySem.W.findIn K (.ref C) "__getattr__" = some none
  sub : PySem.W.subIn K (.ref C) (.type "BaseException") = some true
  ha : PySem.W.findIn K (.ref C) "__class__" = some (some (.builtin "object.__class__"))
  hn : PySem.W.specialIn K (.builtin "object.__class__") "__get__" = some (some (.builtin "getset_descriptor.__get__"))
  ht : PySem.W.takesIn K (.builtin "object.__class__") = some true
  hm : PySem.W.mroIn K C (.type "object") = some true
  hd : PySem.W.hasDictIn K C = true
def rIsX (K : PySem.W.Frag) (C a dd : Addr) : List V → Hp → VK → Prop := fun xs H Q => (∃ fs, H dd = some (.xd fs)) ∧
  ((∃ c u b, xs = [.ref a, c] ∧ ClsV c u ∧ PySem.W.kitOne K (.ref C) u = some b ∧ Q (.bl b) H) ∨
    ∃ (tp : Addr) (cs : List V) (us : List Value) (b : Bool), xs = [.ref a, .ref tp] ∧ H tp = some (.tup cs) ∧ Paired ClsV cs us ∧ PySem.W.kitAny K (.ref C) us = some b ∧ Q (.bl b) H)
theorem call_isX {X : Cx} {a C dd : Addr} {oe : Obj} {pn : List (Addr × Obj)} (T : ExIs X.K C) (hz : Zc (.ref C) (some dd) oe) (hf : ∃ vs, oe.data = .fields vs) : CallR (X.suite a ((a, oe) :: pn)) (.builtin "isinstance") (rIsX X.K C a dd) := by
  intro pins s σ H xs us Q I r h
  obtain ⟨⟨fs, hdd⟩, h⟩ := h
  obtain ⟨hget, _⟩ := I.pin (a, oe) (List.mem_append.mpr (.inl List.mem_cons_self))
  obtain ⟨vs, hv⟩ := hf
  obtain ⟨mA, ⟨od, e1, e2, hod, e4⟩, _⟩ := (show ObjOk X.prog X.w H s.heap dd (.xd fs) from I.hok dd _ hdd)
  have J : PySem.W.InstAt s.heap a oe C (some od) := by
    obtain ⟨oc, o2, oda, osl⟩ := oe
    obtain ⟨h1, h2⟩ := hz
    dsimp only at h1 h2 hv
    subst h1 hv
    obtain ⟨rfl, _⟩ := h2
    exact ⟨hget, rfl, rfl, hod⟩
  have Z := PySem.W.kitx_exc (x := a) (od := some od) (ox := oe) T.cl T.ga T.gt T.sub T.ha T.hn T.ht T.hm
  rcases h with ⟨c, u, b, rfl, hc, e, q⟩ | ⟨tp, cs, ws, b, rfl, hT, k, e, q⟩
  · cases r with
    | cons rx rr =>
      cases rr with
      | cons rt rr =>
        cases rr
        cases rx
        have ec := hc.eq rt
        subst ec
        exact PySem.W.kia_one Z I.kIn J e (fun z => nomatch z) fun tk => ⟨.bl b, H, I.tok tk, rfl, q⟩
  · cases r with
    | cons rx rr =>
      cases rr with
      | cons rt rr =>
        cases rr
        cases rx
        cases rt
        obtain ⟨_, its, rv, o, h1, h2, n, h3⟩ := (show ObjOk X.prog X.w H s.heap tp (.tup cs) from I.hok tp _ hT)
        have e3 := ClsV.all k rv
        subst e3
        obtain ⟨oc, o2, dt, sl⟩ := o
        simp only at h2 h3
        subst h2 h3
        exact PySem.W.kia_tup Z I.kIn J h1 e (fun z => nomatch z) fun tk => ⟨.bl b, H, I.tok tk, rfl, q⟩
end MP
set_option maxHeartbeats 2000000
/-! MiniPy: defs that are called within an except suite and neither raise nor walk. -/
namespace MP
open PySem PySem.Spec PyProof.Rows L2
/-- the promise of a def wherever it is called -/
structure FnW (P : Program) (w : World) (K : PySem.W.Frag) (mg : Str → Option Value) (base : Heap) (CX : CXT) (k : Nat) (f : Addr) (fd : FuncData) (ps : List Str) (sp : Sp) : Prop where
  len : ∀ vs H Q E, sp vs H Q E → vs.length = ps.length
  run : ∀ (A : Around) (outer : List PySem.Env) (s : Shared) (H : Hp) (args : Args) (us : List Value) (vs : List V) (Q : VK) (E : XK), L2H.RoomH k A → Env0 P w K mg base A outer s H → BindsTo s fd args (ps.zip us) → Vals vs us → sp vs H Q E →
    codeAny (model P w) A (.call (.ref f) args) (CR CX outer P w H s Q E) s
/-- its body's context -/
def cxW (CX : CXT) (P : Program) (w : World) (K : PySem.W.Frag) (mg : Str → Option Value) (base : Heap) (N : List Str) (qual : Str) (scope : Scope) (f : Addr) (cd : Value) (A : Around) (outer : List PySem.Env) (s : Shared) (H : Hp) (E : XK) : Cx :=
  { cxOf CX P w K mg base N qual scope f cd A outer s H E with calm := false }
theorem ok_hot {X Z : Cx} (ok : X.Ok) (h : Z = { X with A := Z.A, calm := false, xe := Z.xe }) (hf : Z.A.frames = X.A.frames) : Z.Ok := by
  rw [h] at hf ⊢
  exact ⟨ok.mod, ok.kind, ok.glob, ok.blt, ok.above, ok.inj, ok.has, ok.cab, (fun z => absurd (show false = true from z) Bool.false_ne_true), hf.trans ok.frames, ok.stk, ok.exf, ok.bs, ok.bsz, ok.noex, ok.exfs, ok.funs, ok.frf⟩
theorem inv_hot {X Z : Cx} {pins : List (Addr × Obj)} {σ : L2.St} {H : Hp} {s : Shared} (I : Inv X pins σ H s) (h : Z = { X with A := Z.A, calm := false, xe := Z.xe }) (hf : Z.A.frames = X.A.frames) : Inv Z pins σ H s := by
  have okZ := ok_hot I.ok h hf
  rw [h] at okZ ⊢
  exact ⟨okZ, I.os, I.bare, I.base, I.loc, I.cell, I.free, I.freeC, I.pin, I.hok, I.len⟩
section
variable {P : Program} {w : World} {K : PySem.W.Frag} {mg : Str → Option Value} {base : Heap} {CX : CXT} {k : Nat} {f : Addr} {sp : Sp} {N ps : List Str}
theorem fn_ofW {name qual : Str} {params : Arguments} {body : List Stmt} {scope : Scope} {dV kV doc pm cdv ct oc : Value} {an od : Option Addr} {osl : Array (Option Value)}
    (lk : K.lookup f = some ⟨oc, od, .func (PySem.W.fnOf name qual params body scope dV kV doc pm an cdv ct), osl⟩) (hcd : PySem.W.codeIn K cdv qual = true) (S : FnScope N ps scope) (len : ∀ vs H Q E, sp vs H Q E → vs.length = ps.length)
    (hbody : ∀ (A : Around) (outer : List PySem.Env) (s : Shared) (H : Hp) (vs : List V) (Q : VK) (E : XK), L2H.RoomH k (A.deeper (envOfC qual scope s.heap.objs.size f cdv)) → sp vs H Q E →
      ∃ t, PSs (cxW CX P w K mg base N qual scope f cdv A outer s H E) body t ∧ t { nx := fun _ H' => Q .non H', rt := Q } (L2.start N vs) H) :
    FnW P w K mg base CX (k + 1) f (PySem.W.fnOf name qual params body scope dV kV doc pm an cdv ct) ps sp := by
  refine ⟨len, fun A outer s H args us vs Q E hr e0 hb r hsp => ?_⟩
  have hlen := len _ _ _ _ hsp
  have kin : K.In s.heap := e0.mod.kin.keeps fun b o e => (e0.bs b o e).1
  have nolim : s.heap.NoLimit := e0.mod.nolimit.keeps fun b o e => (e0.bs b o e).1
  have kinds : ∀ y ∈ ps.zip us, scope.names.lookup y.1 = some .local ∨ (scope.names.lookup y.1 = some .cell ∧ ((cellsFrom (s.heap.objs.size + 1) scope.names []).lookup y.1).isSome = true) := fun ⟨n, v⟩ hy =>
    (S.par n (List.of_mem_zip hy).1).elim .inl fun q => .inr ⟨q, PySem.W.cellsFrom_some _ _ _ (.inl q)⟩
  refine codeAny_call_function hr.depth (kin _ _ lk) rfl S.co S.gen rfl (PySem.W.codeRec_of kin hcd) (hb _ _ _ _ ?_)
  refine wpAny_newFunctionEnv_cells S.kind kinds fun env he s1 x => ?_
  subst he
  refine ⟨nolim.keeps x.toInCall.keep, codeAny_func ?_⟩
  obtain ⟨t, ht, hq⟩ := hbody A outer s H vs Q E (hr.deeper _) hsp
  have e1 : Env0 P w K mg base { A with handled := none } outer s H := ⟨e0.frames, e0.mod, e0.bs, e0.bsz, e0.funs, e0.frf, e0.hok, e0.bare⟩
  have I0 : Inv (cxOf CX P w K mg base N qual scope f cdv { A with handled := none } outer s H E) [] (L2.start N vs) H s1 := inv_start S rfl e1 hlen r x
  have I1 : Inv (cxW CX P w K mg base N qual scope f cdv A outer s H E) [] (L2.start N vs) H s1 := inv_hot I0 rfl rfl
  refine wpAny_mono (ht.run [] s1 (L2.start N vs) H _ I1 hq) (fun fl s' out => ?_) fun e s' out => out
  have fin : ∀ {τ : L2.St} {J : Hp} {v : V} {u : Value}, Inv (cxW CX P w K mg base N qual scope f cdv A outer s H E) [] τ J s' → RelV v u → Q v J → CE outer P w H s Q u s' := fun {τ J v u} inv rv q => ⟨v, J, inv.os, inv.bare, inv.base, inv.hok, rv, q⟩
  cases fl with
  | ret u => obtain ⟨v, τ, J, inv, rv, q⟩ := out; exact fin inv rv q
  | next => obtain ⟨τ, J, inv, q⟩ := out; exact fin (v := V.non) (u := Value.none) inv rfl q
  | brk => obtain ⟨_, _, _, q⟩ := out; exact False.elim q
  | cont => obtain ⟨_, _, _, q⟩ := out; exact False.elim q
theorem Fun.okW {x qual : Str} {st : Stmt} {fd : FuncData} (F : L2.Fun K x qual st f fd) (S : FnScope N ps (defScope st)) (len : ∀ vs H Q E, sp vs H Q E → vs.length = ps.length)
    (hbody : ∀ (cdv : Value) (A : Around) (outer : List PySem.Env) (s : Shared) (H : Hp) (vs : List V) (Q : VK) (E : XK), L2H.RoomH k (A.deeper (envOfC qual (defScope st) s.heap.objs.size f cdv)) → sp vs H Q E →
      ∃ t, PSs (cxW CX P w K mg base N qual (defScope st) f cdv A outer s H E) (defBody st) t ∧ t { nx := fun _ H' => Q .non H', rt := Q } (L2.start N vs) H) : FnW P w K mg base CX (k + 1) f fd ps sp := by
  obtain ⟨oc, od, kV, doc, pm, an, cdv, ct, osl, rfl, lk, hcd⟩ := F.ex
  exact fn_ofW lk hcd S len fun A outer s H vs Q E hr hsp => hbody cdv A outer s H vs Q E hr hsp
end
section
variable {X : Cx} {CX : CXT} {k : Nat} {f : Addr} {fd : FuncData} {ps : List Str} {sp : Sp} {E : L2.St → XK} {x : Str} {q pos : Pos} {e : Expr} {es : List Expr} {t : TA}
theorem pe_callW (F : FnW X.prog X.w X.K X.mg X.base CX k f fd ps sp) (hr : L2H.RoomH k X.A) (hg : Gl X x) (hm : X.mg x = some (.ref f)) (hk : PySem.W.keepIn X.K (.ref f) = true) (hb : Binds X.K fd ps []) (hx : ∀ σ, PassesAt CX X σ (E σ))
    (ha : PA X (e :: es) t) (hdb : (x == ("__debug__" : Str)) = false) (he : starEach (e :: es) X.env = (false, eval e X.env) :: starEach es X.env) (hpl : (backTo pos (starEach es X.env)).any (·.1) = false) :
    PE X (.Call (.Name x q) (e :: es) [] pos) (tCallS sp E t) := by
  refine ⟨fun pins s σ H Q I h => wpAny_Call_Name_kw (ld_glob I hg hm ?_ hdb)⟩
  refine PySem.W.callWith_K (h₀ := X.base) I.ok.mod.kin hk (thn (ha.run pos pins s σ H _ I h) fun us s1 ⟨vs, H1, I1, r, hs⟩ => ⟨I1.kIn, ?_⟩) he hpl
  have hs : sp vs H1 Q (E σ) := hs
  have hl : (us ++ []).length = ps.length := by rw [List.append_nil, ← r.length]; exact F.len _ _ _ _ hs
  have bd := hb s1 us I1.kIn hl
  rw [List.append_nil] at bd
  refine wpAny_call (codeAny_mono (F.run X.A X.stack s1 H1 ⟨us, []⟩ us vs Q (E σ) hr I1.env0 bd r hs) fun res s' hq => ?_)
  cases res with
  | error er => exact hx σ pins H1 s1 er s' I1 hq
  | ok fl =>
    cases fl with
    | ret u => exact I1.after hq
    | next => exact False.elim hq
    | brk => exact False.elim hq
    | cont => exact False.elim hq
end
end MP
/-! MiniPy: expressions. -/
namespace MP
open PySem L2 PySem.Spec PyProof.Rows

/-- what a def promises: what its mirror gives -/
def spOf (Y : Fx) (ar : Nat) (m : Mir) : Sp := fun vs H Q E => vs.length = ar ∧ ∃ F μ st args, Good Y.kf F μ st H ∧ RepL Y.kf F μ st.length args vs ∧ RP Y F μ st H (m args st) (kV Y Q) E

/-- the error classes: how they are made, asked, caught -/
structure XTab (P : Program) (Y : Fx) (C : Cfg) : Prop where
  made : ∀ c ns, Y.Xn c = some ns → ∃ (Ca Da fI : Addr) (st : Stmt), Y.mg c = some (.ref Ca) ∧ SupTxt P Y.K Y.mg Ca Da fI st ns ∧ ns.length ≤ 900 ∧ ExIs Y.K Ca
  xn : ∀ c ns, Y.Xn c = some ns → (c, ns) ∈ C.xn
  nx : ∀ c ns, C.xn.lookup c = some ns → Y.Xn c = some ns
  sub : ∀ y D, C.sub.lookup y = some D → ∃ (v : V) (u : Value), ClsV v u ∧ RelV v u ∧ (Y.mg y = some u ∨ (Y.mg y = none ∧ bootBuiltins y = some u ∧ y ≠ "__name__")) ∧
    ∀ c ns cls, Y.Xn c = some ns → Y.mg c = some cls → PySem.W.exmOne Y.K cls u = some (D.contains c) ∧ PySem.W.kitOne Y.K cls u = some (D.contains c)
structure Ctx (X : Cx) (Y : Fx) (Φ : Tab) (G : Str → Option Val) (C : Cfg) (ns : Names) (k : Nat) : Prop where
  K : X.K = Y.K
  mg : X.mg = Y.mg
  N : X.N = C.N
  nd : X.N.Nodup
  sc : X.env.scope.names = ns
  kind : X.env.scope.kind = .function
  calm : C.calm = true → X.calm = true ∧ C.hot = false
  hot : Y.hot = C.hot
  nN : Y.nN = C.N.length
  hotx : C.hot = true → Y.nN = C.N.length ∧ Y.cI = C.eI ∧ Y.eD = C.eD
  suite : C.hot = true → ∃ (X0 : Cx) (oe : Obj) (pn : List (Addr × Obj)), X = X0.suite Y.cA ((Y.cA, oe) :: pn) ∧ Zc Y.cC Y.cD oe ∧ ∃ vs, oe.data = .fields vs
  tb : XTab X.prog Y C
  units : X.A.units + 64 < cLine
  depth : X.A.depth + 1 < recursionLimit
  fn : ∀ x, x ∈ C.fs → ∃ m f fd ps, Φ x = some m ∧ (∀ args st, args.length ≠ List.length ps → m args st = .stuck) ∧ X.mg x = some (.ref f) ∧ PySem.W.keepIn X.K (.ref f) = true ∧ Binds X.K fd ps [] ∧
    (C.calm = true → Room k X.A ∧ FnOk X.prog X.w X.K X.mg X.base (L2.CX X.prog X.w) k f fd ps (spOf Y ps.length m)) ∧ (C.calm = false → L2H.RoomH k X.A ∧ FnW X.prog X.w X.K X.mg X.base (L2.CX X.prog X.w) k f fd ps (spOf Y ps.length m))
  hfn : C.calm = true → ∀ x, x ∈ C.hfs → ∃ m f fd ps, Φ x = some m ∧ (∀ args st, args.length ≠ List.length ps → m args st = .stuck) ∧ X.mg x = some (.ref f) ∧ PySem.W.keepIn X.K (.ref f) = true ∧ Binds X.K fd ps [] ∧
    L2H.RoomH k X.A ∧ FnW X.prog X.w X.K X.mg X.base (L2.CX X.prog X.w) k f fd ps (spOf Y ps.length m)
  gl : ∀ x v, G x = some v → ∃ (w : V) (u : Value), X.mg x = some u ∧ RelV w u ∧ ∀ F μ n, RepV Y.kf F μ n v w
  bt : ∀ x, x ∈ C.bs → X.mg x = none
  cls : ∀ c l, C.cs.lookup c = some l → ∃ Ca, X.mg c = some (.ref Ca) ∧ Cls X.K Ca ∧ ∀ f ∈ l, NoAttr X.K Ca f
  nw : C.calm = true → ∀ c, c ∈ C.nw → ∃ m f fd ps Ca k', Φ (mName c "__init__") = some m ∧ (∀ args st, args.length ≠ List.length ps → m args st = .stuck) ∧ X.mg c = some (.ref Ca) ∧ Mk X.K Ca f ∧ Binds X.K fd ps [] ∧
    Room (k' + 1) X.A ∧ FnOk X.prog X.w X.K X.mg X.base (L2.CX X.prog X.w) k' f fd ps (spOf Y ps.length m)
  mt : C.calm = true → ∀ c n, (c, n) ∈ C.ms → ∃ m f fd ps Ca, Φ (mName c n) = some m ∧ (∀ args st, args.length ≠ List.length ps → m args st = .stuck) ∧ X.mg c = some (.ref Ca) ∧ Cls X.K Ca ∧ Meth X.K Ca n f ∧ Binds X.K fd ps [] ∧
    Room k X.A ∧ FnOk X.prog X.w X.K X.mg X.base (L2.CX X.prog X.w) k f fd ps (spOf Y ps.length m)

def at_ (W : WX) (σ : L2.St) : XK := fun c d H => W c d σ H
section
variable (Y : Fx) (Φ : Tab) (G : Str → Option Val) (W : WX)
def tE (e : E) : TE := fun σ H Q => ∃ F μ st env, Good Y.kf F μ st H ∧ EnvOk Y F μ st.length env σ ∧ RP Y F μ st H ((ev Φ G e).v env st) (kV Y Q) (at_ W σ)
def tT (e : E) : TT := fun σ H Q => ∃ F μ st env, Good Y.kf F μ st H ∧ EnvOk Y F μ st.length env σ ∧ RP Y F μ st H ((ev Φ G e).t env st) (kT Q) (at_ W σ)
def tA (es : Es) : TA := fun σ H Q => ∃ F μ st env, Good Y.kf F μ st H ∧ EnvOk Y F μ st.length env σ ∧ RP Y F μ st H (evs Φ G es env st) (kA Y Q) (at_ W σ)
def tBo (k : Bool) (es : Es) : TE := fun σ H Q => ∃ F μ st env, Good Y.kf F μ st H ∧ EnvOk Y F μ st.length env σ ∧ RP Y F μ st H (evBo Φ G k es env st) (kV Y Q) (at_ W σ)
def tBoT (k : Bool) (es : Es) : TT := fun σ H Q => ∃ F μ st env, Good Y.kf F μ st H ∧ EnvOk Y F μ st.length env σ ∧ RP Y F μ st H (evBoT Φ G k es env st) (kT Q) (at_ W σ)
/-- J walks the values vs while F stands -/
structure WalkJ (F : Hp) (J : It) (vs : List V) : Prop where
  go : ∀ i H, Same F H → i < vs.length → J.go i H
  yld : ∀ i H x H', Same F H → i < vs.length → J.yld i H x H' → H' = H ∧ vs[i]? = some x
  stop : ∀ i H, Same F H → i = vs.length → J.stop i H
def kI (R : It → Hp → Prop) : Hp → (Nat → Addr) → Hp → List Val → Store → Prop := fun F μ H xs st => ∀ J vs, RepL Y.kf F μ st.length xs vs → WalkJ F J vs → R J H
def tI (e : E) : TI := fun σ H R => ∃ F μ st env, Good Y.kf F μ st H ∧ EnvOk Y F μ st.length env σ ∧ RP Y F μ st H ((ev Φ G e).i env st) (kI Y R) (at_ W σ)
end

section
variable {X : Cx} {e : Expr}
theorem PEimp {t t' : TE} (h : PE X e t) (i : ∀ σ H Q, t' σ H Q → t σ H Q) : PE X e t' := ⟨fun pins s σ H Q I q => h.run pins s σ H Q I (i σ H Q q)⟩
theorem PTimp {t t' : TT} (h : PT X e t) (i : ∀ σ H Q, t' σ H Q → t σ H Q) : PT X e t' := ⟨fun pins s σ H Q I q => h.run pins s σ H Q I (i σ H Q q)⟩
theorem PWimp {t t' : TT} (h : PW X e t) (i : ∀ σ H Q, t' σ H Q → t σ H Q) : PW X e t' := ⟨fun wh pins s σ H Q I q => h.run wh pins s σ H Q I (i σ H Q q)⟩
theorem PAimp {es : List Expr} {t t' : TA} (h : PA X es t) (i : ∀ σ H Q, t' σ H Q → t σ H Q) : PA X es t' := ⟨fun pos pins s σ H Q I q => h.run pos pins s σ H Q I (i σ H Q q)⟩
theorem PIimp {tg : Expr} {t t' : TI} (h : PI X tg e t) (i : ∀ σ H R, t' σ H R → t σ H R) : PI X tg e t' := ⟨fun pins s σ H R I q => h.run pins s σ H R I (i σ H R q)⟩
end

/-! one after another -/
section
variable {α : Type} {Y : Fx} {Φ : Tab} {G : Str → Option Val} {W : WX} {F H : Hp} {μ : Nat → Addr} {st : Store} {env : Env} {σ : L2.St} {k : Hp → (Nat → Addr) → Hp → α → Store → Prop} {W' : XK}
theorem goE {a : E} {f : Val × Store → R (α × Store)} {Q : VK} (g : Good Y.kf F μ st H) (en : EnvOk Y F μ st.length env σ) (h : RP Y F μ st H (((ev Φ G a).v env st).bind f) k (at_ W σ))
    (n : ∀ F1 μ1 H1 x st1 w, Ext F μ st H F1 μ1 st1 H1 → Good Y.kf F1 μ1 st1 H1 → EnvOk Y F1 μ1 st1.length env σ → RepV Y.kf F1 μ1 st1.length x w → RP Y F1 μ1 st1 H1 (f (x, st1)) k (at_ W σ) → Q w H1) : tE Y Φ G W a σ H Q :=
  ⟨F, μ, st, env, g, en, h.bind.impE fun F1 μ1 H1 x st1 _ e1 g1 h1 w r => n F1 μ1 H1 x st1 w e1 g1 (e1.env en) r h1⟩
theorem goT {a : E} {f : Bool × Store → R (α × Store)} {Q : Bool → Hp → Prop} (g : Good Y.kf F μ st H) (en : EnvOk Y F μ st.length env σ) (h : RP Y F μ st H (((ev Φ G a).t env st).bind f) k (at_ W σ))
    (n : ∀ F1 μ1 H1 x st1, Ext F μ st H F1 μ1 st1 H1 → Good Y.kf F1 μ1 st1 H1 → EnvOk Y F1 μ1 st1.length env σ → RP Y F1 μ1 st1 H1 (f (x, st1)) k (at_ W σ) → Q x H1) : tT Y Φ G W a σ H Q :=
  ⟨F, μ, st, env, g, en, h.bind.impE fun F1 μ1 H1 x st1 _ e1 g1 h1 => n F1 μ1 H1 x st1 e1 g1 (e1.env en) h1⟩
theorem goA {es : Es} {f : List Val × Store → R (α × Store)} {Q : List V → Hp → Prop} (g : Good Y.kf F μ st H) (en : EnvOk Y F μ st.length env σ) (h : RP Y F μ st H ((evs Φ G es env st).bind f) k (at_ W σ))
    (n : ∀ F1 μ1 H1 x st1 w, Ext F μ st H F1 μ1 st1 H1 → Good Y.kf F1 μ1 st1 H1 → EnvOk Y F1 μ1 st1.length env σ → RepL Y.kf F1 μ1 st1.length x w → RP Y F1 μ1 st1 H1 (f (x, st1)) k (at_ W σ) → Q w H1) : tA Y Φ G W es σ H Q :=
  ⟨F, μ, st, env, g, en, h.bind.impE fun F1 μ1 H1 x st1 _ e1 g1 h1 w r => n F1 μ1 H1 x st1 w e1 g1 (e1.env en) r h1⟩
end

/-! ### loops over what a walk gives -/
theorem walk_list {K : PySem.W.Frag} {F : Hp} {a : Addr} {vs : List V} (h : SqL K F a vs) : WalkJ F (Itl K a) vs where
  go := fun i H sm hi => ⟨vs, vs[i], sqL_mono sm h, by simp [hi]⟩
  yld := fun i H x H' sm hi ⟨e, q⟩ => ⟨e, q vs (sqL_mono sm h)⟩
  stop := fun i H sm hi => ⟨vs, sqL_mono sm h, by omega⟩
theorem walk_tup {K : PySem.W.Frag} {F : Hp} {a : Addr} {vs : List V} (h : SqT K F a vs) : WalkJ F (Itt K a) vs where
  go := fun i H sm hi => ⟨vs, vs[i], sqT_mono sm h, by simp [hi]⟩
  yld := fun i H x H' sm hi ⟨e, q⟩ => ⟨e, q vs (sqT_mono sm h)⟩
  stop := fun i H sm hi => ⟨vs, sqT_mono sm h, by omega⟩
def rangeV (lo : Int) (n : Nat) : List V := (List.range n).map fun i => V.int (lo + (i : Nat))
theorem rangeV_len (lo : Int) (n : Nat) : (rangeV lo n).length = n := by unfold rangeV; simp
theorem rangeV_get {lo : Int} {n i : Nat} (h : i < n) : (rangeV lo n)[i]? = some (.int (lo + (i : Nat))) := by unfold rangeV; simp [h]
theorem walk_rng (F : Hp) (lo : Int) (n : Nat) : WalkJ F (Itr lo n) (rangeV lo n) where
  go := fun i H sm hi => by rw [rangeV_len] at hi; exact hi
  yld := fun i H x H' sm hi ⟨e, q⟩ => ⟨e, by rw [rangeV_len] at hi; rw [rangeV_get hi, q]⟩
  stop := fun i H sm hi => by rw [rangeV_len] at hi; exact Nat.le_of_eq hi.symm
theorem repL_range {K : Kf} {F : Hp} {μ : Nat → Addr} {m : Nat} (lo : Int) (n : Nat) : RepL K F μ m (rangeL lo n) (rangeV lo n) := by
  have : rangeL lo n = ((List.range n).map fun i => lo + (i : Nat)).map Val.int := by unfold rangeL; simp
  rw [this]
  have e : rangeV lo n = ((List.range n).map fun i => lo + (i : Nat)).map V.int := by unfold rangeV; simp
  rw [e]
  exact repL_ints _
theorem for_walk {F : Hp} {J : It} {vs : List V} (wj : WalkJ F J vs) {g : TG} {tb : TS} {D : Ends} {σ : L2.St} {H : Hp} (Pv : Nat → L2.St → Hp → Prop) (h0 : Pv 0 σ H) (sm : ∀ i σ H, Pv i σ H → Same F H)
    (hs : ∀ i x σ H, vs[i]? = some x → Pv i σ H → g x σ H fun σ2 H2 => tb { D with nx := Pv (i + 1), ct := Pv (i + 1), bk := D.nx } σ2 H2) (hd : ∀ σ H, Pv vs.length σ H → D.nx σ H) :
    ∃ W : Nat → Nat → L2.St → Hp → Prop, (∃ m, W 0 m σ H) ∧ ∀ i m σ H, W i m σ H →
      (J.stop i H ∧ D.nx σ H) ∨ (J.go i H ∧ ∃ N : L2.St → Hp → Prop, (∀ σ' H', N σ' H' → ∃ m', m' < m ∧ W (i + 1) m' σ' H') ∧ ∀ x H', J.yld i H x H' → g x σ H' fun σ2 H2 => tb { D with nx := N, ct := N, bk := D.nx } σ2 H2) := by
  refine ⟨fun i m σ H => m = vs.length - i ∧ i ≤ vs.length ∧ Pv i σ H, ⟨vs.length, by simp, Nat.zero_le _, h0⟩, ?_⟩
  rintro i m σ H ⟨rfl, hi, p⟩
  by_cases hlt : i < vs.length
  · refine .inr ⟨wj.go i H (sm _ _ _ p) hlt, Pv (i + 1), fun σ' H' p' => ⟨vs.length - (i + 1), by omega, rfl, hlt, p'⟩, fun x H' y => ?_⟩
    obtain ⟨e, y2⟩ := wj.yld i H x H' (sm _ _ _ p) hlt y
    subst e
    exact hs i x σ _ y2 p
  · have e : i = vs.length := by omega
    subst e
    exact .inl ⟨wj.stop _ H (sm _ _ _ p) rfl, hd σ H p⟩
/-- .. of a comprehension -/
theorem lc_walk {F : Hp} {J : It} {us : List V} (wj : WalkJ F J us) {g : TG} {tt : TT} {te : TE} {vs : List Nat} {σ : L2.St} {H1 : Hp} {D : Addr} {Qd : Hp → Prop} (Pv : Nat → Hp → Prop) (h0 : Pv 0 (upd H1 D (.lst []))) (sm : ∀ i H, Pv i H → Same F H)
    (hs : ∀ i x H, us[i]? = some x → Pv i H → g x (wipe σ vs) H fun σ2 H2 => wipe σ2 vs = wipe σ vs ∧ tt σ2 H2 fun b H3 =>
      if b = true then te σ2 H3 fun y H4 => ∃ acc, H4 D = some (.lst acc) ∧ acc.length < sizeLine ∧ Pv (i + 1) (upd H4 D (.lst (acc ++ [y]))) else Pv (i + 1) H3) (hd : ∀ H, Pv us.length H → Qd H) :
    ∃ W : Nat → Nat → Hp → Prop, (∃ m, W 0 m (upd H1 D (.lst []))) ∧ ∀ i m H, W i m H →
      (J.stop i H ∧ Qd H) ∨ (J.go i H ∧ ∃ Nx : Hp → Prop, (∀ H', Nx H' → ∃ m', m' < m ∧ W (i + 1) m' H') ∧ ∀ x H', J.yld i H x H' → g x (wipe σ vs) H' fun σ2 H2 => wipe σ2 vs = wipe σ vs ∧ tt σ2 H2 fun b H3 =>
        if b = true then te σ2 H3 fun y H4 => ∃ acc, H4 D = some (.lst acc) ∧ acc.length < sizeLine ∧ Nx (upd H4 D (.lst (acc ++ [y]))) else Nx H3) := by
  refine ⟨fun i m H => m = us.length - i ∧ i ≤ us.length ∧ Pv i H, ⟨us.length, by simp, Nat.zero_le _, h0⟩, ?_⟩
  rintro i m H ⟨rfl, hi, p⟩
  by_cases hlt : i < us.length
  · refine .inr ⟨wj.go i H (sm _ _ p) hlt, Pv (i + 1), fun H' p' => ⟨us.length - (i + 1), by omega, rfl, hlt, p'⟩, fun x H' y => ?_⟩
    obtain ⟨e, y2⟩ := wj.yld i H x H' (sm _ _ p) hlt y
    subst e
    exact hs i x _ y2 p
  · have e : i = us.length := by omega
    subst e
    exact .inl ⟨wj.stop _ H (sm _ _ p) rfl, hd H p⟩

/-- a list or a tuple that a value names, walked -/
theorem pi_val {X : Cx} {tg l : Expr} {tl : TE} (hl : PE X l tl) :
    PI X tg l (fun σ H R => tl σ H fun x H1 => ∃ a, x = .ref a ∧ ((∃ xs, SqL X.K H1 a xs ∧ R (Itl X.K a) H1) ∨ (∃ xs, SqT X.K H1 a xs ∧ R (Itt X.K a) H1))) := by
  refine ⟨fun pins s σ H R I h => thn (hl.run pins s σ H _ I h) fun v s1 ⟨x, H1, I1, r1, a, ex, q1⟩ => ?_⟩
  subst ex
  cases r1
  have old : ∀ (ob : Obj) b o, s1.heap.get? b = some o → (s1.heap.push ob).get? b = some o := fun ob b o e => Heap.get?_push_of_some _ e
  have fp : ∀ b ∈ [s1.heap.objs.size], FpOk X pins H1 b := fun b hb => by
    rw [List.mem_singleton.mp hb]
    exact I1.fpOk (Nat.le_refl _) (I1.hok.fresh (Nat.le_refl _))
  rcases q1 with ⟨xs, hq, q⟩ | ⟨xs, hq, q⟩
  · obtain ⟨its, rv, p, hz⟩ := I1.list hq
    exact wpAny_pyIter_list p.isList ⟨_, _, _, _, H1, rfl, I1.kept (t' := s1.toks) (old _), turn_list a _, ⟨_, Heap.get?_push_size _ rfl, rfl, rfl⟩, fp, q⟩
  · obtain ⟨its, rv, p, hz⟩ := I1.tuple hq
    exact wpAny_pyIter_tuple (show s1.heap.IsTuple a its.toArray from p) ⟨_, _, _, _, H1, rfl, I1.kept (t' := s1.toks) (old _), turn_tuple a _, ⟨_, Heap.get?_push_size _ rfl, rfl, rfl⟩, fp, q⟩
end MP
/-! MiniPy: an exception that leaves a comprehension's element or test. -/
namespace L2
open PySem PySem.Spec PyProof.Rows
/-- an exception that a call let out: in flight, or noted at the frame L -/
def XF (X : Cx) (L : Addr) (W : WX) (u : Value) (s' : Shared) : Prop :=
  ∃ (a : Addr) (B : Heap) (sI : Shared) (pins : List (Addr × Obj)) (σ : St) (H : Hp) (cls : Value) (d : Option Addr),
    u = .ref a ∧ Inv X pins σ H sI ∧ (∀ b o, sI.heap.get? b = some o → b ∉ frs X.stack → B.get? b = some o) ∧ sI.heap.UpToSlots s'.heap ∧
      (HandSPX.FlyingZ B X.stack a (Zc cls d) s'.heap ∨ HandSPX.HeldZ B X.stack a (Zc cls d) L s'.heap) ∧ H a = none ∧ s'.os = sI.os ∧ AllBare s'.gens ∧ W cls d σ H
structure Tk (X : Cx) (W : WX) : Prop where
  run : ∃ (e0 : Env) (o0 : List Env) (L : Addr), X.stack = e0 :: o0 ∧ e0.frame = some L ∧ X.env.frame = some L ∧ ∀ u s', XF X L W u s' → X.xe u s'
theorem Takes.tk {X : Cx} {W : WX} (t : Takes X W) (hs : X.stack = X.env :: X.outer) (hf : X.env.frame = some X.env.locals) : Tk X W :=
  ⟨X.env, X.outer, X.env.locals, hs, hf, hf, fun u s' ⟨a, B, sI, pins, σ, H, cls, d, e, I, nb, up, sky, na, os, ag, w⟩ => t u s' ⟨a, B, sI, pins, σ, H, cls, d, e, I, nb, up, .inr sky, na, os, ag, w⟩⟩
section
variable {X : Cx} {pins : List (Addr × Obj)} {σ : St} {H : Hp} {sI s s' : Shared} {B : Heap} {W : WX} {E : XK} {L : Addr}
theorem XF.of_call (I : Inv X pins σ H s) (hW : ∀ cls d H', E cls d H' → W cls d σ H') {u : Value} (c : CX X.prog X.w X.stack H s E u s') : XF X L W u s' := by
  obtain ⟨a, B, H', cls, d, rfl, fl, hok, ub, na, os, ag, hE⟩ := c
  obtain ⟨G, g1, g2⟩ := restrict s'.heap fun b => (B.get? b).isSome || decide (b ∈ frs X.stack)
  have inB : ∀ b o, B.get? b = some o → G.get? b = some o := fun b o e => (g1 b (by simp [e])).trans (fl.1 b o e)
  have inF : ∀ b, b ∈ frs X.stack → G.get? b = s'.heap.get? b := fun b hb => g1 b (by simp [hb])
  have back : ∀ b o, G.get? b = some o → s'.heap.get? b = some o ∧ (b ∉ frs X.stack → B.get? b = some o) := fun b o e => by
    by_cases q : ((B.get? b).isSome || decide (b ∈ frs X.stack)) = true
    · have e1 : s'.heap.get? b = some o := (g1 b q).symm.trans e
      refine ⟨e1, fun hb => ?_⟩
      have q1 : (B.get? b).isSome = true := by simpa [hb] using q
      obtain ⟨o', e2⟩ := Option.isSome_iff_exists.mp q1
      rw [fl.1 b o' e2] at e1
      rw [e2, e1]
    · rw [g2 b (by simpa using q)] at e; cases e
  have there : ∀ b o, s.heap.get? b = some o → ∃ o', G.get? b = some o' := fun b o e => by
    by_cases hb : b ∈ frs X.stack
    · obtain ⟨sl, q⟩ := ub.slot b o e hb
      exact ⟨_, (inF b hb).trans q⟩
    · obtain ⟨o', q⟩ := ub.there b o e hb
      exact ⟨o', inB b o' q⟩
  refine ⟨a, B, { s with heap := G, gens := s'.gens, drawn := s'.drawn, toks := s'.toks }, pins, σ, H', cls, d, rfl, ?_, fun b o e hb => (back b o e).2 hb, Heap.UpToSlots.of_keeps fun b o e => (back b o e).1, .inl fl, na, os, ag, hW _ _ _ hE⟩
  exact I.call (ch := []) ⟨fun b o e n hb _ => inB b o (ub.keep b o e n hb), fun b o e n hb _ => by obtain ⟨sl, q⟩ := ub.slot b o e hb; exact ⟨sl, (inF b hb).trans q⟩, fun b o e n _ => ub.free b o e n, fun b o e _ => there b o e, ub.tups, ub.frzs, ub.tbls⟩ (hok.kept inB) ag fun _ z => nomatch z
theorem Tk.pas {W : WX} (t : Tk X W) (σ : St) : PassesAt (L2.CX X.prog X.w) X σ (WE W σ) := fun _ _ _ e s' I c => by
  obtain ⟨e0, o0, L, h1, h2, h3, h4⟩ := t.run
  exact h4 e s' (XF.of_call I (fun _ _ _ h => h) c)
end
/-- in a comprehension's block -/
abbrev Cx.blkX (X : Cx) (s : Shared) (H : Hp) (scope : Scope) (cenv : Env) (fp : List Addr) : Cx := { X.blk s H scope cenv fp with xe := notedBy (model X.prog X.w) X.A cenv (CompFails (model X.prog X.w) X.A X.xe cenv) }
theorem funFrames_less {h B B' : Heap} (k : ∀ b, B.get? b = none → B'.get? b = none) : ∀ {l : List Env}, h.FunFrames B l → h.FunFrames B' l
  | [], _ => trivial
  | _ :: _, ⟨hk, ⟨L, o, hf, hn, ho, hd⟩, hr⟩ => ⟨hk, ⟨L, o, hf, k L hn, ho, hd⟩, funFrames_less k hr⟩
section
variable {X : Cx} {pins : List (Addr × Obj)} {σ : St} {H3 : Hp} {s3 : Shared} {W : WX} {scope : Scope} {ce : Env} {fp : List Addr}
theorem tk_blk (I3 : Inv X pins σ H3 s3) (f3 : ∀ b ∈ fp, FpOk X pins H3 b) (hC : s3.heap.objs.size ≤ ce.locals) (hfr : ce.frame = X.env.frame) (tk : Tk X W) : Tk (X.blkX s3 H3 scope ce fp) (fun c d _ H => W c d σ H) := by
  obtain ⟨e0, o0, L, hs, h0, hL, run⟩ := tk.run
  refine ⟨e0, o0, L, hs, h0, hfr.trans hL, fun u s' xf => ?_⟩
  obtain ⟨a, B, sI, pins', σ', H2, cls, d, rfl, I, nb, up, sky, na, os, ag, w⟩ := xf
  have hA : X.A.frames = some (e0 :: o0) := by have := I.ok.frames; rw [← hs]; exact this
  have sky : HandSPX.FlyingZ B (e0 :: o0) a (Zc cls d) s'.heap ∨ HandSPX.HeldZ B (e0 :: o0) a (Zc cls d) L s'.heap := by rw [← hs]; exact sky
  have nC : ∀ b o, s3.heap.get? b = some o → b ≠ ce.locals := fun b o e q => by have := Heap.lt_size e; rw [q] at this; exact absurd (Nat.lt_of_lt_of_le this hC) (Nat.lt_irrefl _)
  have fin : ∀ h1, HandSPX.HeldZ B (e0 :: o0) a (Zc cls d) L h1 → s'.heap.UpToSlots h1 → CompFails (model X.prog X.w) X.A X.xe ce (.ref a) { s' with heap := h1 } := by
    intro h1 ⟨b1, b0, f1, oe, vs, T, oT, ts, he, hz, hd, hv1, hnT, hTe, hT, hdT, h3⟩ up1
    obtain ⟨m, hn, _⟩ := I.loc
    have hn : sI.heap.Ns ce.locals m := hn
    have hn1 : h1.Ns ce.locals m := hn.upToSlots fun b o e hd => (up.trans up1) b o e hd
    refine ⟨m, hn1, fun h₂ m₂ hn₂ hs₂ => ?_⟩
    obtain ⟨oC, es, ep, hC1, hdC, _⟩ := hn1
    have hane : a ≠ ce.locals := fun q => by rw [q, hC1] at he; cases he; rw [hdC] at hd; cases hd
    have hTne : T ≠ ce.locals := fun q => by rw [q, hC1] at hT; cases hT; rw [hdC] at hdT; cases hdT
    have hh : ∀ {h : Heap} {b : Addr} {o : Obj}, (h.hide ce.locals).get? b = some o → b ≠ ce.locals ∧ h.get? b = some o := fun {h b o} e => ⟨(fun q => by rw [q, Heap.hide_self] at e; cases e), Heap.of_hide e⟩
    have hnone : ∀ b, B.get? b = none → (B.hide ce.locals).get? b = none := fun b q => by
      cases z : (B.hide ce.locals).get? b with
      | none => rfl
      | some o => rw [(hh z).2] at q; cases q
    have he2 : h₂.get? a = some oe := (hs₂.2 _ hane).trans he
    have b2 : (B.hide ce.locals).StaysIn h₂ := fun b o e => (hs₂.2 b (hh e).1).trans (b1 b o (hh e).2)
    have f2 : h₂.FunFrames (B.hide ce.locals) (e0 :: o0) := funFrames_less hnone (Heap.FunFrames.sameBut hs₂ hn₂ f1)
    have t2 : HandSPX.TracedZ h₂ (B.hide ce.locals) a (Zc cls d) (rawInt L) := ⟨oe, vs, T, oT, ts, he2, hz, hd, hv1, hnone _ hnT, hTe, (hs₂.2 _ hTne).trans hT, hdT, h3⟩
    unfold PySem.passOn
    refine wpAny_bind (wpAny_field he2 hd hv1 ?_)
    rw [if_neg (show ¬ ((Value.ref T == Value.none) = true) from by simp)]
    rw [hfr.trans hL]
    refine wpAny_bind (HandSPX.setFlight_anyZ (fr := some L) b2 f2 t2 fun h₃ b3 f3' t3 up3 => ?_)
    refine wpAny_throw ?_
    refine run _ _ ⟨a, B.hide ce.locals, { sI with heap := sI.heap.hide ce.locals }, pins, σ, H2, cls, d, rfl, ?_, fun b o e hb => ?_, fun b o e hnf => ?_, .inr ?_, na, os, ag, w⟩
    · have kp : ∀ b o, s3.heap.get? b = some o → ∀ o', sI.heap.get? b = some o' → (sI.heap.hide ce.locals).get? b = some o' := fun b o e o' q => (Heap.hide_ne _ (nC b o e)).trans q
      refine I3.call' (ch := fp) I.os ⟨fun b o e n hb hx => kp b o e _ (I.base.keep b o e n hb hx), fun b o e n hb hx => ?_, fun b o e n hx => I.base.free b o e n hx, fun b o e hx => ?_, I.base.tups, I.base.frzs, I.base.tbls⟩ (fun b o q => (I.hok b o q).stay (fun c u hc r => (Heap.hide_ne _ fun z => ?_).trans r) (fun _ r => r) fun _ _ r => r) I.bare fun b hb => ⟨(f3 b hb).2.2.2.1, (f3 b hb).2.1, (f3 b hb).2.2.2.2.1, (f3 b hb).2.2.2.2.2⟩
      · obtain ⟨sl, q⟩ := I.base.slot b o e n hb hx
        exact ⟨sl, kp b o e _ q⟩
      · obtain ⟨o', q⟩ := I.base.there b o e hx
        exact ⟨o', kp b o e _ q⟩
      · have z0 : H2 ce.locals = none := I.free
        rcases hc with hc | hc
        · rw [← hc, z, z0] at q; cases q
        · rw [z, z0] at hc; cases hc
    · exact (Heap.hide_ne _ (hh e).1).trans (nb b o (hh e).2 hb)
    · obtain ⟨e1, e2⟩ := hh e
      obtain ⟨sl1, q1⟩ := up b o e2 hnf
      obtain ⟨sl2, q2⟩ := up1 b _ q1 hnf
      exact up3 b _ ((hs₂.2 b e1).trans q2) hnf |>.imp fun sl q => q
    · rw [hs]; exact ⟨b3, hnone _ b0, f3', t3⟩
  show wpAny (model X.prog X.w) X.A (noteFrame (.ref a) ce) (fun _ s'' => CompFails (model X.prog X.w) X.A X.xe ce (.ref a) s'') (CompFails (model X.prog X.w) X.A X.xe ce) s'
  rw [noteFrame_env _ (show ce.frame = e0.frame by rw [hfr, hL, h0])]
  rcases sky with fl | hd
  · exact HandSPX.looks_onZ Zc.steady hA h0 fl fin
  · exact HandSPX.againZ h0 hd.2.2.2 (fin s'.heap hd fun b o e _ => ⟨o.slots, e⟩)
end
end L2

namespace L2
open PySem PySem.Spec PyProof.Rows
section
variable {X : Cx}
/-- as tLc; what the tests and the element are wished may stand on the state at the start -/
def tLcX (wi : TI) (g : TG) (tt : St → TT) (te : St → TE) (vs : List Nat) : TE := fun σ H Q => wi σ H fun J H1 => ∀ D, H1 D = none → ∃ W : Nat → Nat → Hp → Prop, (∃ m, W 0 m (upd H1 D (.lst []))) ∧ ∀ i m H, W i m H →
  (J.stop i H ∧ Q (.ref D) H) ∨ (J.go i H ∧ ∃ Nx : Hp → Prop, (∀ H', Nx H' → ∃ m', m' < m ∧ W (i + 1) m' H') ∧ ∀ x H', J.yld i H x H' → g x (wipe σ vs) H' fun σ2 H2 => wipe σ2 vs = wipe σ vs ∧ tt σ σ2 H2 fun b H3 =>
    if b = true then te σ σ2 H3 fun y H4 => ∃ acc, H4 D = some (.lst acc) ∧ acc.length < sizeLine ∧ Nx (upd H4 D (.lst (acc ++ [y]))) else Nx H3)
theorem lc_coreX {Wo : WX} {pins : List (Addr × Obj)} {s : Shared} {σ : St} {H : Hp} {Q : VK} {elt tg iter : Expr} {ifs : List Expr} {scope : Scope} {own : List (Str × Nat)} {pos pos' : Pos} {wi : TI} {g : TG} {tt : St → TT} {te : St → TE} {use : Option (Value → Sem Unit)} {Qf : Value → Shared → Prop}
    (tk : Tk X Wo) (hc : X.calm = true) (hN : X.N.Nodup) (I : Inv X pins σ H s) (hi : PI X tg iter wi) (ok : BlkOk X.N X.env.scope scope own)
    (hg : ∀ (s : Shared) (H : Hp) (C : Addr) (cl : List (Str × Addr)) (fp : List Addr), PG (X.blkX s H scope (compEnvC scope cl C X.env) fp) tg g)
    (ht : ∀ (σ : St) (s : Shared) (H : Hp) (C : Addr) (cl : List (Str × Addr)) (fp : List Addr), Tk (X.blkX s H scope (compEnvC scope cl C X.env) fp) (fun c d _ H => Wo c d σ H) → PTs (X.blkX s H scope (compEnvC scope cl C X.env) fp) ifs (tt σ))
    (he : ∀ (σ : St) (s : Shared) (H : Hp) (C : Addr) (cl : List (Str × Addr)) (fp : List Addr), Tk (X.blkX s H scope (compEnvC scope cl C X.env) fp) (fun c d _ H => Wo c d σ H) → PE (X.blkX s H scope (compEnvC scope cl C X.env) fp) elt (te σ)) (hs : ∀ x, foldedSetIterable iter X.env x = pure x)
    (h : tLcX wi g tt te (own.map (·.2)) σ H Q)
    (hRR : ∀ D (ce : Env) s' m H', Inv X pins σ H' s' → Q (.ref D) H' → s'.heap.Ns ce.locals m → FpOk X pins H' ce.locals → compEnds (model X.prog X.w) X.A X.xe use Qf (.ref D) ce (.ok .next) s') :
    wpAny (model X.prog X.w) X.A (comprehension (.ListComp elt [⟨tg, iter, ifs, 0⟩] scope pos) scope X.env pos' (newList []) false (eval iter X.env) use) Qf X.xe s := by
  have hfree : ∀ y ∈ scope.names, y.2 = .free → ∃ c, X.env.cells.lookup y.1 = some c := fun y hy e => by
    rcases ok.free y hy e with k | k
    · exact I.ok.has _ (.inl k)
    · exact I.ok.has _ (.inr k)
  refine comprehension_at (use := use) rfl hs (closure_ok hfree) ok.kind (fun y hy e => by rw [ok.uniq y hy, e])
    (thn (hi.run pins s σ H _ I h) fun xv s1 hx => thn hx fun itv s2 h2 => ?_)
  obtain ⟨it, fp, tn, J, H2, e, I2, T, st2, f2, q⟩ := h2
  subst e
  refine wpAny_newObj_type (newEnv_comp ?_) (by show 0 ≤ sizeLine; decide)
  generalize hD : s2.heap.objs.size = D
  have hDn : H2 D = none := I2.hok.fresh (Nat.le_of_eq hD)
  obtain ⟨W, ⟨m0, w0⟩, turn⟩ := q D hDn
  generalize hs3 : ({ s2 with heap := s2.heap.push { cls := .type "list", data := .seq ([] : List Value).toArray } } : Shared) = s3
  have I3 : Inv X pins σ (upd H2 D (.lst [])) s3 := by
    rw [← hs3]
    refine I2.laid (t' := s2.toks) (fun b o e => Heap.get?_push_of_some _ e) (Nat.le_of_eq hD) ⟨Nat.zero_le _, [], 0, .nil, ?_⟩
    rw [← hD]
    exact Heap.get?_push_size _ rfl
  have h3 : s3.heap = s2.heap.push { cls := .type "list", data := .seq ([] : List Value).toArray } := by rw [← hs3]
  have f3 : ∀ b ∈ fp, FpOk X pins (upd H2 D (.lst [])) b ∧ b < s3.heap.objs.size := fun b hb => by
    obtain ⟨o, e, _⟩ := T.obj _ _ st2 b hb
    have hlt := Heap.lt_size e
    refine ⟨⟨?_, (f2 b hb).2⟩, by rw [h3, Heap.size_push]; exact Nat.lt_succ_of_lt hlt⟩
    rw [upd_ne (by rw [← hD]; exact Nat.ne_of_lt hlt)]
    exact (f2 b hb).1
  have st3 : tn 0 s3.heap := T.keep _ _ _ st2 fun b _ o e => by rw [h3]; exact Heap.get?_push_of_some _ e
  have I4 := block_start I3 ok hN f3
  show codeAny _ _ (.compStart (.ListComp elt [⟨tg, iter, ifs, 0⟩] scope pos) 0 (.ref it) (.ref D) (compEnvC scope (cellsFrom (s3.heap.objs.size + 1) scope.names (cloFrom X.env.cells scope.names [])) s3.heap.objs.size X.env)) (compEnds (model X.prog X.w) X.A X.xe use Qf (.ref D) (compEnvC scope (cellsFrom (s3.heap.objs.size + 1) scope.names (cloFrom X.env.cells scope.names [])) s3.heap.objs.size X.env)) { s3 with heap := pushCells (s3.heap.push { cls := .type "dict", data := .dict #[] }) scope.names }
  have tkb := tk_blk (scope := scope) (ce := compEnvC scope (cellsFrom (s3.heap.objs.size + 1) scope.names (cloFrom X.env.cells scope.names [])) s3.heap.objs.size X.env) (fp := fp) I3 (fun b hb => (f3 b hb).1) (Nat.le_refl _) rfl tk
  have pg := hg s3 (upd H2 D (.lst [])) s3.heap.objs.size (cellsFrom (s3.heap.objs.size + 1) scope.names (cloFrom X.env.cells scope.names [])) fp
  have pt := ht σ s3 (upd H2 D (.lst [])) s3.heap.objs.size (cellsFrom (s3.heap.objs.size + 1) scope.names (cloFrom X.env.cells scope.names [])) fp tkb
  have pe := he σ s3 (upd H2 D (.lst [])) s3.heap.objs.size (cellsFrom (s3.heap.objs.size + 1) scope.names (cloFrom X.env.cells scope.names [])) fp tkb
  have nfp : ∀ b ∈ fp, (upd H2 D (.lst [])) b = none := fun b hb => (f3 b hb).1.1
  clear tkb
  generalize hce : compEnvC scope (cellsFrom (s3.heap.objs.size + 1) scope.names (cloFrom X.env.cells scope.names [])) s3.heap.objs.size X.env = ce at I4 pg pt pe ⊢
  have cL : ce.locals = s3.heap.objs.size := by subst hce; rfl
  generalize hH3 : upd H2 D (.lst []) = H3 at I3 I4 pg pt pe w0 nfp f3
  generalize hs4 : ({ s3 with heap := pushCells (s3.heap.push { cls := .type "dict", data := .dict #[] }) scope.names } : Shared) = s4 at I4 ⊢
  have I4 : Inv (X.blkX s3 H3 scope ce fp) [] (wipe σ (own.map (·.2))) H3 s4 := ⟨⟨I4.ok.1, I4.ok.2, I4.ok.3, I4.ok.4, I4.ok.5, I4.ok.6, I4.ok.7, I4.ok.8, I4.ok.9, I4.ok.10, I4.ok.11, I4.ok.12, I4.ok.13, I4.ok.14, I4.ok.15, I4.ok.16, I4.ok.17, I4.ok.18⟩, I4.os, I4.bare, I4.base, I4.loc, I4.cell, I4.free, I4.freeC, I4.pin, I4.hok, I4.len⟩
  have st4 : tn 0 s4.heap := T.keep _ _ _ st3 fun b _ o e => by rw [← hs4]; exact pushCells_keeps _ _ _ _ (Heap.get?_push_of_some _ e)
  have stat : ∀ {σ' : St} {H' : Hp} {s' : Shared}, Inv (X.blkX s3 H3 scope ce fp) [] σ' H' s' → (∀ b ∈ fp, H' b = none) → ∀ b ∈ fp, FpOk (X.blkX s3 H3 scope ce fp) [] H' b := fun {σ' H' s'} I' hn b hb =>
    ⟨hn b hb, (I'.ok.exf b hb).1, I'.ok.exfs b hb, .inl hb, fun x c e => (I'.ok.exf b hb).2 x c e, fun p hp => absurd (show p ∈ ([] : List (Addr × Obj)) ++ [] from hp) (by simp)⟩
  have loop : codeAny (model X.prog X.w) X.A (.compLoop (.ListComp elt [⟨tg, iter, ifs, 0⟩] scope pos) 0 (.ref it) (.ref D) ce) (compEnds (model X.prog X.w) X.A X.xe use Qf (.ref D) ce) s4 := by
    refine compLoop_any (fun n s' => ∃ i H', Inv (X.blkX s3 H3 scope ce fp) [] (wipe σ (own.map (·.2))) H' s' ∧ tn i s'.heap ∧ (∀ b ∈ fp, H' b = none) ∧ W i n H') ?_ m0 ⟨0, H3, I4, st4, nfp, w0⟩
    rintro n s5 ⟨i, H5, I5, st5, n5, w5⟩
    rcases turn i n H5 w5 with ⟨stop, qq⟩ | ⟨go, Nx, hNx, step⟩
    · have td := T.done (X.blkX s3 H3 scope ce fp) rfl rfl rfl hc i [] s5 _ H5 (fun _ _ => False) I5 (stat I5 n5) st5 stop
      refine thnF td fun r s6 ⟨hr, I6⟩ => ?_
      subst hr
      have I7 : Inv X pins σ H5 s6 := I3.call' (ch := fp) I6.os I6.base I6.hok I6.bare fun b hb => ⟨(f3 b hb).1.2.2.2.1, (f3 b hb).1.2.1, (f3 b hb).1.2.2.2.2.1, (f3 b hb).1.2.2.2.2.2⟩
      have nC : H5 ce.locals = none := I6.free
      obtain ⟨m, hn, _⟩ := I6.loc
      exact hRR D ce s6 m H5 I7 qq hn (by rw [cL] at nC ⊢; exact I3.fpOk (Nat.le_refl _) nC)
    · have ti := T.item (X.blkX s3 H3 scope ce fp) rfl rfl rfl hc i [] s5 _ H5 (fun _ _ => False) I5 (stat I5 n5) st5 go
      refine thnF ti fun r s6 ⟨u, hr, h6⟩ => ?_
      subst hr
      refine thnF h6 fun _ s7 ⟨x, H7, I7, r7, y7, st7, n7⟩ => ?_
      have I7' := I7.pinned (stat I7 n7) (T.obj _ _ st7)
      refine thn (pg.run _ s7 _ H7 x u _ I7' r7 (step x H7 y7)) fun _ s8 ⟨σ8, H8, I8, hw8, q8⟩ => ?_
      refine thn (pt.run _ s8 σ8 H8 _ I8 q8) fun b s9 ⟨H9, I9, q9⟩ => ?_
      have fin : ∀ {s' : Shared} {H' : Hp}, Inv (X.blkX s3 H3 scope ce fp) ([] ++ pinsAt fp s7.heap) σ8 H' s' → Nx H' → ∃ m, m < n ∧ ∃ i H', Inv (X.blkX s3 H3 scope ce fp) [] (wipe σ (own.map (·.2))) H' s' ∧ tn i s'.heap ∧ (∀ b ∈ fp, H' b = none) ∧ W i m H' := fun {s' H'} I' nx => by
        obtain ⟨m', hm, w'⟩ := hNx H' nx
        have pin' : ∀ b ∈ fp, ∀ o, s7.heap.get? b = some o → s'.heap.get? b = some o ∧ H' b = none := fun b hb o e =>
          let z := I'.pin (b, o) (List.mem_append_right _ (List.mem_append_right _ (mem_pinsAt hb e)))
          ⟨z.1, z.2.1⟩
        have hl : (wipe σ (own.map (·.2))).length = σ8.length := by rw [← hw8, wipe_length]
        refine ⟨m', hm, i + 1, H', (I'.unpinned (pins := [])).weak hl (fun j v e => ?_), T.keep _ _ _ st7 fun b hb o e => (pin' b hb o e).1, fun b hb => ?_, w'⟩
        · rw [← hw8] at e
          exact (wipe_some e).1
        · obtain ⟨o, e, _⟩ := T.obj _ _ st7 b hb
          exact (pin' b hb o e).2
      cases b with
      | false =>
        simp only [Bool.false_eq_true, if_false] at q9 ⊢
        exact fin I9 q9
      | true =>
        simp only [if_true] at q9 ⊢
        refine thn (pe.run _ s9 σ8 H9 _ I9 q9) fun z s10 ⟨yv, H10, I10, r10, acc, hD10, hz10, nx⟩ => ?_
        exact app_ok (X := X.blkX s3 H3 scope ce fp) I10 hD10 hz10 r10 fun s11 I11 => fin I11 nx
  exact codeAny_compStart_list loop (T.self X.A 0 _ _ _ st4 loop)
theorem pe_lcX {Wo : WX} {elt tg iter : Expr} {ifs : List Expr} {scope : Scope} {own : List (Str × Nat)} {pos : Pos} {wi : TI} {g : TG} {tt : St → TT} {te : St → TE} (tk : Tk X Wo) (hc : X.calm = true) (hN : X.N.Nodup) (hi : PI X tg iter wi) (ok : BlkOk X.N X.env.scope scope own)
    (hg : ∀ (s : Shared) (H : Hp) (C : Addr) (cl : List (Str × Addr)) (fp : List Addr), PG (X.blkX s H scope (compEnvC scope cl C X.env) fp) tg g)
    (ht : ∀ (σ : St) (s : Shared) (H : Hp) (C : Addr) (cl : List (Str × Addr)) (fp : List Addr), Tk (X.blkX s H scope (compEnvC scope cl C X.env) fp) (fun c d _ H => Wo c d σ H) → PTs (X.blkX s H scope (compEnvC scope cl C X.env) fp) ifs (tt σ))
    (he : ∀ (σ : St) (s : Shared) (H : Hp) (C : Addr) (cl : List (Str × Addr)) (fp : List Addr), Tk (X.blkX s H scope (compEnvC scope cl C X.env) fp) (fun c d _ H => Wo c d σ H) → PE (X.blkX s H scope (compEnvC scope cl C X.env) fp) elt (te σ)) (hs : ∀ x, foldedSetIterable iter X.env x = pure x) :
    PE X (.ListComp elt [⟨tg, iter, ifs, 0⟩] scope pos) (tLcX wi g tt te (own.map (·.2))) := by
  refine ⟨fun pins s σ H Q I h => ?_⟩
  rw [eval_ListComp]
  refine lc_coreX tk hc hN I hi ok hg ht he hs h fun D ce s' m H' I' q hn f => ⟨m, hn, fun h'' sb => ?_⟩
  obtain ⟨f0, f1, f2, f3, f4, f5⟩ := f
  exact ⟨.ref D, H', I'.turned (t' := s'.toks) (fun b o hb e => (sb.2 b hb).trans e) f0 f1 f3 f4 f5, rfl, q⟩
theorem ps_setLcX {Wo : WX} {i : Nat} {y : Str} {py : Pos} {elt tg iter : Expr} {ifs : List Expr} {scope : Scope} {own : List (Str × Nat)} {pos spos : Pos} {wi : TI} {g : TG} {tt : St → TT} {te : St → TE} (tk : Tk X Wo) (hc : X.calm = true) (hN : X.N.Nodup) (hy : X.N[i]? = some y) (hyl : X.env.scope.names.lookup y = some .local)
    (hsw : swapsWith (.ListComp elt [⟨tg, iter, ifs, 0⟩] scope pos) (some (.Name y py)) spos.line X.env = pure true) (hi : PI X tg iter wi) (ok : BlkOk X.N X.env.scope scope own)
    (hg : ∀ (s : Shared) (H : Hp) (C : Addr) (cl : List (Str × Addr)) (fp : List Addr), PG (X.blkX s H scope (compEnvC scope cl C X.env) fp) tg g)
    (ht : ∀ (σ : St) (s : Shared) (H : Hp) (C : Addr) (cl : List (Str × Addr)) (fp : List Addr), Tk (X.blkX s H scope (compEnvC scope cl C X.env) fp) (fun c d _ H => Wo c d σ H) → PTs (X.blkX s H scope (compEnvC scope cl C X.env) fp) ifs (tt σ))
    (he : ∀ (σ : St) (s : Shared) (H : Hp) (C : Addr) (cl : List (Str × Addr)) (fp : List Addr), Tk (X.blkX s H scope (compEnvC scope cl C X.env) fp) (fun c d _ H => Wo c d σ H) → PE (X.blkX s H scope (compEnvC scope cl C X.env) fp) elt (te σ)) (hs : ∀ x, foldedSetIterable iter X.env x = pure x) :
    PS X (.Assign [.Name y py] (.ListComp elt [⟨tg, iter, ifs, 0⟩] scope pos) spos) (tAsg (tLcX wi g tt te (own.map (·.2))) (gName i)) := by
  refine ⟨fun pins s σ H D I h => ?_⟩
  rw [exec_Assign_Name_used _ _ _ _ hsw]
  refine wpAny_bind (wpAny_standAt (wpAny_bind ?_))
  show wpAny _ X.A (do let _ ← comprehension (.ListComp elt [⟨tg, iter, ifs, 0⟩] scope pos) scope X.env (firstIterPos [⟨tg, iter, ifs, 0⟩] pos) (newList []) false (eval iter X.env) (some (assign (.Name y py) X.env))) _ _ s
  have h : tLcX wi g tt te (own.map (·.2)) σ H (fun x H1 => gName i x σ H1 D.nx) := h
  refine wpAny_bind (thn (lc_coreX (Qf := fun _ s' => SP X pins D .next s') tk hc hN I hi ok hg ht he hs h fun L ce s' m H' I' q hn f => ?_) fun _ s' hq => wpAny_pure (wpAny_pure hq))
  show wpAny _ _ (assign (.Name y py) X.env (.ref L)) _ _ _
  refine wpAny_assign_Name (store_ok2 (v := V.ref L) I' hN hy (.inl hyl) rfl (fun s2 I2 ⟨a, sb, ha⟩ => ?_) (.inr hyl))
  obtain ⟨f0, f1, f2, f3, f4, f5⟩ := f
  have haC : ce.locals ≠ a := by
    rcases ha with z | z
    · rw [z]; exact f1
    · exact fun e => f4 y a z e.symm
  refine ⟨m, hn.sameBut sb haC, fun h3 sb3 => ?_⟩
  exact ⟨_, H', I2.turned (t' := s2.toks) (fun b o hb e => (sb3.2 b hb).trans e) f0 f1 f3 f4 f5, q⟩
end
end L2
/-! MiniPy: every expression that the checker passes does what its meaning says. -/
namespace MP
open PySem L2 PySem.Spec PyProof.Rows

def W0 : WX := fun _ _ _ _ => False
section
variable {Y : Fx} {Φ : Tab} {G : Str → Option Val} {C : Cfg} {k : Nat} {X : Cx} {ns : Names} {W : WX}
theorem Ctx.hu (c : Ctx X Y Φ G C ns k) : X.A.units + 64 < cLine := c.units
theorem Ctx.cold (c : Ctx X Y Φ G C ns k) (h : C.calm = true) : Y.hot = true → ∀ {P : Prop}, P := fun z => by rw [c.hot, (c.calm h).2] at z; cases z
theorem ctx_blk (c : Ctx X Y Φ G C ns k) {s : Shared} {H : Hp} {sc : Scope} {Cl : Addr} {cl : List (Str × Addr)} {fp : List Addr} (hk : sc.kind = .function) (hcalm : C.calm = true) :
    Ctx (X.blkX s H sc (compEnvC sc cl Cl X.env) fp) Y Φ G C (blkNames ns sc) k where
  K := c.K
  mg := c.mg
  N := c.N
  nd := c.nd
  sc := by
    have e : (compEnvC sc cl Cl X.env).scope.names = sc.names.map fun (n, k) => if (k == .free && X.env.scope.kind == .function && X.env.scope.names.lookup n == some .cell) then (n, .cell) else (n, k) := rfl
    show (compEnvC sc cl Cl X.env).scope.names = _
    rw [e, c.kind, c.sc]
    rfl
  kind := hk
  calm := c.calm
  hot := c.hot
  nN := c.nN
  hotx := c.hotx
  hfn := c.hfn
  suite := fun h => by rw [(c.calm hcalm).2] at h; cases h
  tb := c.tb
  units := c.units
  depth := c.depth
  fn := fun x hx => by
    obtain ⟨m, f, fd, ps, h1, h2, h3, h4, h5, h6, h7⟩ := c.fn x hx
    exact ⟨m, f, fd, ps, h1, h2, h3, h4, h5, h6, fun z => by rw [hcalm] at z; cases z⟩
  gl := c.gl
  bt := c.bt
  cls := c.cls
  nw := c.nw
  mt := c.mt
theorem vis_ok (c : Ctx X Y Φ G C ns k) {x : Str} (h : visB ns x = true) : Vis X.env.scope x := by
  unfold visB at h
  unfold Vis
  rw [c.sc]
  split at h
  · rename_i e; exact .inl e
  · rename_i e; exact .inr (.inl e)
  · rename_i e; exact .inr (.inr e)
  · cases h
theorem gl_ok (c : Ctx X Y Φ G C ns k) {x : Str} (h : glB ns x = true) : Gl X x := by
  unfold glB at h
  show X.env.scope.names.lookup x = some .globalImplicit
  rw [c.sc]
  split at h
  · rename_i e; exact e
  · cases h
theorem okName_1 {x : Str} (h : okName x = true) : (x == ("__debug__" : Str)) = false := by
  unfold okName at h; rw [Bool.and_eq_true] at h
  simpa using h.1
theorem okName_2 {x : Str} (h : okName x = true) : (x == ("__classdict__" : Str)) = false := by
  unfold okName at h; rw [Bool.and_eq_true, Bool.and_eq_true] at h
  simpa using h.2.1
theorem Ctx.lt (c : Ctx X Y Φ G C ns k) {F : Hp} {μ : Nat → Addr} {n i : Nat} {x : Str} {env : Env} {σ : L2.St} {v : Option Val} (hi : C.N[i]? = some x) (en : EnvOk Y F μ n env σ) (hv : env[i]? = some v) : i < σ.length := by
  cases h : Y.hot with
  | false => rw [← en.cold h]; exact (List.getElem?_eq_some_iff.mp hv).1
  | true =>
    rw [(en.warm h).1, (c.hotx (by rw [← c.hot]; exact h)).1]
    exact (List.getElem?_eq_some_iff.mp hi).1
theorem Ctx.not (c : Ctx X Y Φ G C ns k) {i : Nat} {x : Str} (hi : C.N[i]? = some x) (hn : (!C.hot || decide (C.eI ≠ some i)) = true) : Y.hot = true → i < Y.nN ∧ Y.cI ≠ some i := fun h => by
  have h' : C.hot = true := by rw [← c.hot]; exact h
  obtain ⟨h1, h2, _⟩ := c.hotx h'
  rw [h', Bool.not_true, Bool.false_or] at hn
  exact ⟨by rw [h1]; exact (List.getElem?_eq_some_iff.mp hi).1, by rw [h2]; exact of_decide_eq_true hn⟩
theorem mem_of {l : List Str} {x : Str} (h : l.contains x = true) : x ∈ l := by simpa using h

structure Snd (Y : Fx) (Φ : Tab) (G : Str → Option Val) (C : Cfg) (k : Nat) (e : E) : Prop where
  pe : ∀ {X : Cx} {ns : Names} {W : WX} {p : Expr}, Ctx X Y Φ G C ns k → Tk X W → chkE C ns e p = true → PE X p (tE Y Φ G W e)
  pt : ∀ {X : Cx} {ns : Names} {W : WX} {p : Expr}, Ctx X Y Φ G C ns k → Tk X W → chkE C ns e p = true → PT X p (tT Y Φ G W e)
  pi : ∀ {X : Cx} {ns : Names} {W : WX} {p : Expr} (tg : Expr), Ctx X Y Φ G C ns k → Tk X W → chkE C ns e p = true → PI X tg p (tI Y Φ G W e)
structure Snds (Y : Fx) (Φ : Tab) (G : Str → Option Val) (C : Cfg) (k : Nat) (es : Es) : Prop where
  pa : ∀ {X : Cx} {ns : Names} {W : WX} {ps : List Expr}, Ctx X Y Φ G C ns k → Tk X W → chkEs C ns es ps = true → PA X ps (tA Y Φ G W es)
  bo : ∀ {X : Cx} {ns : Names} {W : WX} {ps : List Expr} {pos : Pos} (b : Bool), Ctx X Y Φ G C ns k → Tk X W → chkEs C ns es ps = true → es ≠ .nil → PE X (.BoolOp (if b then .And else .Or) ps pos) (tBo Y Φ G W b es)
  bt : ∀ {X : Cx} {ns : Names} {W : WX} {ps : List Expr} {pos : Pos} (b : Bool), Ctx X Y Φ G C ns k → Tk X W → chkEs C ns es ps = true → es ≠ .nil → PW X (.BoolOp (if b then .And else .Or) ps pos) (tBoT Y Φ G W b es)

theorem truth_noexn {st : Store} {x : Val} : ∀ c fs s, truth st x ≠ .exn c fs s := by
  intro c fs s h
  unfold truth at h
  repeat' (first | (cases h; done) | split at h)
theorem cmp_noexn {op : COp} {a b : Val} {st : Store} : ∀ c fs s, cmpV op a b st ≠ .exn c fs s := by
  intro c fs s h
  cases op <;> simp only [cmpV] at h
  all_goals repeat' (first | (cases h; done) | split at h)
/-- a test by its value -/
theorem pt_of {e : E} {p : Expr} (c : Ctx X Y Φ G C ns k) (hp : plainT p = true) (ht : (ev Φ G e).t = tOf (ev Φ G e).v) (h : PE X p (tE Y Φ G W e)) : PT X p (tT Y Φ G W e) := by
  refine PTimp (pt_truth h (true_id hp)) fun σ H Q ⟨F, μ, st, env, g, en, q⟩ => ?_
  rw [ht] at q
  refine goE g en q fun F1 μ1 H1 x st1 w e1 g1 en1 r q1 => ?_
  obtain ⟨b, hb, q2⟩ := RP.bindP truth_noexn q1
  exact ⟨b, truth_rep c.K g1 r hb, q2 F1 μ1 H1 Ext.refl g1⟩
theorem pi_of {e : E} {p : Expr} (tg : Expr) (c : Ctx X Y Φ G C ns k) (hi : (ev Φ G e).i = iOf (ev Φ G e).v) (h : PE X p (tE Y Φ G W e)) : PI X tg p (tI Y Φ G W e) := by
  refine PIimp (pi_val h) fun σ H R ⟨F, μ, st, env, g, en, q⟩ => ?_
  rw [hi] at q
  refine goE g en q fun F1 μ1 H1 x st1 w e1 g1 en1 r q1 => ?_
  cases x with
  | tup xs =>
    obtain ⟨a, vs, h1, h2, h3⟩ := r
    have q2 := q1 F1 μ1 H1 Ext.refl g1 (Itt X.K a) vs h3 (by rw [c.K]; exact walk_tup h2)
    exact ⟨a, h1, .inr ⟨vs, by rw [c.K]; exact sqT_mono g1.same h2, q2⟩⟩
  | lst xs =>
    obtain ⟨a, vs, h1, h2, h3⟩ := r
    have q2 := q1 F1 μ1 H1 Ext.refl g1 (Itl X.K a) vs h3 (walk_list (SqL.of h2))
    exact ⟨a, h1, .inl ⟨vs, SqL.of (g1.same _ _ h2), q2⟩⟩
  | scr xs =>
    obtain ⟨a, vs, h1, h2, h3⟩ := r
    have q2 := q1 F1 μ1 H1 Ext.refl g1 (Itl X.K a) vs h3 (by rw [c.K]; exact walk_list h2)
    exact ⟨a, h1, .inl ⟨vs, by rw [c.K]; exact sqL_mono g1.same h2, q2⟩⟩
  | _ => exact False.elim q1
theorem mkSnd {e : E} {v : Env → Store → RV} (he : ev Φ G e = mk v) (plain : ∀ ns p, chkE C ns e p = true → plainT p = true)
    (h : ∀ {X : Cx} {ns : Names} {W : WX} {p : Expr}, Ctx X Y Φ G C ns k → Tk X W → chkE C ns e p = true → PE X p (tE Y Φ G W e)) : Snd Y Φ G C k e where
  pe := h
  pt := fun c tk q => pt_of c (plain _ _ q) (by rw [he]; rfl) (h c tk q)
  pi := fun tg c tk q => pi_of tg c (by rw [he]; rfl) (h c tk q)

/-! ### the single forms -/
theorem snd_var (i : Nat) : Snd Y Φ G C k (.var i) := by
  refine mkSnd (v := vVar i) rfl (fun ns p q => ?_) fun {X ns W p} c tk q => ?_
  · unfold chkE at q
    split at q
    · rename_i x hx; obtain ⟨pp, rfl⟩ := isName_eq hx; rfl
    · cases q
  · unfold chkE at q
    split at q
    · rename_i x hx
      obtain ⟨pp, rfl⟩ := isName_eq hx
      rw [Bool.and_eq_true, Bool.and_eq_true] at q
      obtain ⟨q1, q2, q3⟩ := q
      refine PEimp (pe_var (i := i) (by rw [c.N]; exact of_decide_eq_true q1) (vis_ok c q2) (okName_1 q3) (okName_2 q3)) fun σ H Q ⟨F, μ, st, env, g, en, h⟩ => ?_
      change RP Y F μ st H (match env[i]? with | some (some v) => .ok (v, st) | _ => .stuck) (kV Y Q) (at_ W σ) at h
      split at h
      · rename_i v hv
        obtain ⟨w, h1, h2⟩ := en.val i v (c.lt (of_decide_eq_true q1) en hv) hv
        exact ⟨w, h1, h F μ H Ext.refl g w h2⟩
      · exact False.elim h
    · cases q
theorem leaf {e : E} {x : Val} {w : V} (he : ev Φ G e = mk fun _ st => .ok (x, st)) (r : ∀ F μ n, RepV Y.kf F μ n x w) {σ : L2.St} {H : Hp} {Q : VK} (h : tE Y Φ G W e σ H Q) : Q w H := by
  obtain ⟨F, μ, st, env, g, en, h⟩ := h
  rw [he] at h
  exact h F μ H Ext.refl g w (r F μ _)
theorem snd_int (i : Int) : Snd Y Φ G C k (.int i) := by
  refine mkSnd rfl (fun ns p q => ?_) fun {X ns W p} c tk q => ?_
  all_goals
    unfold chkE at q
    split at q
    · rename_i j hx; obtain ⟨a, pp, rfl⟩ := isInt_eq hx
      first
        | rfl
        | (have e := of_decide_eq_true q
           subst e
           exact PEimp pe_int fun σ H Q h => leaf (x := .int i) (w := .int i) rfl (fun _ _ _ => rfl) h)
    · cases q
theorem snd_bl (i : Bool) : Snd Y Φ G C k (.bl i) := by
  refine mkSnd rfl (fun ns p q => ?_) fun {X ns W p} c tk q => ?_
  all_goals
    unfold chkE at q
    split at q
    · rename_i j hx; obtain ⟨a, pp, rfl⟩ := isBl_eq hx
      first
        | rfl
        | (have e := of_decide_eq_true q
           subst e
           exact PEimp pe_bl fun σ H Q h => leaf (x := .bl i) (w := .bl i) rfl (fun _ _ _ => rfl) h)
    · cases q
theorem snd_str (i : Str) : Snd Y Φ G C k (.str i) := by
  refine mkSnd rfl (fun ns p q => ?_) fun {X ns W p} c tk q => ?_
  all_goals
    unfold chkE at q
    split at q
    · rename_i j hx; obtain ⟨a, pp, rfl⟩ := isStr_eq hx
      first
        | rfl
        | (have e := of_decide_eq_true q
           subst e
           exact PEimp pe_str fun σ H Q h => leaf (x := .str i) (w := .str i) rfl (fun _ _ _ => rfl) h)
    · cases q
theorem snd_non : Snd Y Φ G C k .non := by
  refine mkSnd rfl (fun ns p q => ?_) fun {X ns W p} c tk q => ?_
  · obtain ⟨a, pp, rfl⟩ := isNon_eq q; rfl
  · obtain ⟨a, pp, rfl⟩ := isNon_eq q
    exact PEimp pe_non fun σ H Q h => leaf (x := .non) (w := .non) rfl (fun _ _ _ => rfl) h
theorem snd_glob (g : Str) : Snd Y Φ G C k (.glob g) := by
  refine mkSnd rfl (fun ns p q => ?_) fun {X ns W p} c tk q => ?_
  · unfold chkE at q
    split at q
    · rename_i x hx; obtain ⟨pp, rfl⟩ := isName_eq hx; rfl
    · cases q
  · unfold chkE at q
    split at q
    · rename_i x hx
      obtain ⟨pp, rfl⟩ := isName_eq hx
      rw [Bool.and_eq_true, Bool.and_eq_true] at q
      obtain ⟨q1, q2, q3⟩ := q
      have e := of_decide_eq_true q1
      subst e
      cases hv : G g with
      | none =>
        refine ⟨fun pins s σ H Q I h => ?_⟩
        obtain ⟨F, μ, st, env, gd, en, h⟩ := h
        change RP Y F μ st H (match G g with | some v => .ok (v, st) | none => .stuck) (kV Y Q) (at_ W σ) at h
        rw [hv] at h
        exact False.elim h
      | some v =>
        obtain ⟨w, u, h1, h2, h3⟩ := c.gl g v hv
        refine PEimp (pe_glob (gl_ok c q2) h1 h2 (okName_1 q3)) fun σ H Q ⟨F, μ, st, env, gd, en, h⟩ => ?_
        change RP Y F μ st H (match G g with | some v => .ok (v, st) | none => .stuck) (kV Y Q) (at_ W σ) at h
        rw [hv] at h
        exact h F μ H Ext.refl gd w (h3 F μ _)
    · cases q

theorem snd_nil : Snds Y Φ G C k .nil where
  pa := fun {X ns W ps} c tk q => by
    cases ps with
    | nil => exact PAimp pa_nil fun σ H Q ⟨F, μ, st, env, g, en, h⟩ => h F μ H Ext.refl g [] rfl
    | cons p ps => cases q
  bo := fun b c tk q h => absurd rfl h
  bt := fun b c tk q h => absurd rfl h
theorem chkEs_cons {e : E} {r : Es} {ps : List Expr} (q : chkEs C ns (.cons e r) ps = true) : ∃ p qs, ps = p :: qs ∧ notStar p = true ∧ chkE C ns e p = true ∧ chkEs C ns r qs = true := by
  cases ps with
  | nil => cases q
  | cons p qs =>
    have q' : (notStar p && (chkE C ns e p && chkEs C ns r qs)) = true := q
    rw [Bool.and_eq_true, Bool.and_eq_true] at q'
    exact ⟨p, qs, rfl, q'.1, q'.2.1, q'.2.2⟩
theorem snd_cons {e : E} {r : Es} (s : Snd Y Φ G C k e) (ss : Snds Y Φ G C k r) : Snds Y Φ G C k (.cons e r) where
  pa := fun {X ns W ps} c tk q => by
    obtain ⟨p, qs, rfl, h1, h2, h3⟩ := chkEs_cons q
    refine PAimp (pa_cons (s.pe c tk h2) (ss.pa c tk h3) (star_cons h1)) fun σ H Q ⟨F, μ, st, env, g, en, h⟩ => ?_
    refine goE g en h fun F1 μ1 H1 x st1 w e1 g1 en1 r1 hh => ?_
    refine goA g1 en1 hh fun F2 μ2 H2 xs st2 ws e2 g2 en2 r2 hh2 => ?_
    exact hh2 F2 μ2 H2 Ext.refl g2 (w :: ws) ⟨w, ws, rfl, e2.v r1, r2⟩
  bo := fun {X ns W ps pos} b c tk q _ => by
    obtain ⟨p, qs, rfl, h1, h2, h3⟩ := chkEs_cons q
    cases r with
    | nil =>
      cases qs with
      | nil =>
        refine PEimp (pe_one (s.pe c tk h2)) fun σ H Q ⟨F, μ, st, env, g, en, h⟩ => ⟨F, μ, st, env, g, en, ?_⟩
        simpa only [evBo] using h
      | cons _ _ => cases h3
    | cons e2 r2 =>
      have hb := ss.bo (pos := pos) b c tk h3 (fun z => by cases z)
      obtain ⟨p2, qs2, rfl, _, _, _⟩ := chkEs_cons h3
      cases b with
      | true =>
        rw [if_pos rfl] at hb ⊢
        refine PEimp (pe_and (s.pe c tk h2) hb) fun σ H Q ⟨F, μ, st, env, g, en, h⟩ => ?_
        simp only [evBo] at h
        refine goE g en h fun F1 μ1 H1 x st1 w e1 g1 en1 r1 hh => ?_
        cases x with
        | bl d =>
          have ew : w = .bl d := r1
          refine ⟨d, ew, ?_⟩
          cases d with
          | true => rw [if_pos rfl]; exact ⟨F1, μ1, st1, env, g1, en1, hh⟩
          | false => rw [if_neg Bool.false_ne_true]; exact hh F1 μ1 H1 Ext.refl g1 _ rfl
        | _ => exact False.elim hh
      | false =>
        rw [if_neg Bool.false_ne_true] at hb ⊢
        refine PEimp (pe_or (s.pe c tk h2) hb) fun σ H Q ⟨F, μ, st, env, g, en, h⟩ => ?_
        simp only [evBo] at h
        refine goE g en h fun F1 μ1 H1 x st1 w e1 g1 en1 r1 hh => ?_
        cases x with
        | bl d =>
          have ew : w = .bl d := r1
          refine ⟨d, ew, ?_⟩
          cases d with
          | true => rw [if_pos rfl]; exact hh F1 μ1 H1 Ext.refl g1 _ rfl
          | false => rw [if_neg Bool.false_ne_true]; exact ⟨F1, μ1, st1, env, g1, en1, hh⟩
        | _ => exact False.elim hh
  bt := fun {X ns W ps pos} b c tk q _ => by
    obtain ⟨p, qs, rfl, h1, h2, h3⟩ := chkEs_cons q
    cases r with
    | nil =>
      cases qs with
      | nil =>
        have hp : PW X (.BoolOp (if b then .And else .Or) [p] pos) (tT Y Φ G W e) := by
          cases b with
          | true => exact pw_and1 (s.pt c tk h2)
          | false => exact pw_or1 (s.pt c tk h2)
        refine PWimp hp fun σ H Q ⟨F, μ, st, env, g, en, h⟩ => ⟨F, μ, st, env, g, en, ?_⟩
        simpa only [evBoT] using h
      | cons _ _ => cases h3
    | cons e2 r2 =>
      have hb := ss.bt (pos := pos) b c tk h3 (fun z => by cases z)
      obtain ⟨p2, qs2, rfl, _, _, _⟩ := chkEs_cons h3
      cases b with
      | true =>
        rw [if_pos rfl] at hb ⊢
        refine PWimp (pw_and (s.pt c tk h2) hb) fun σ H Q ⟨F, μ, st, env, g, en, h⟩ => ?_
        simp only [evBoT] at h
        refine goT g en h fun F1 μ1 H1 d st1 e1 g1 en1 hh => ?_
        cases d with
        | true => rw [if_pos rfl]; exact ⟨F1, μ1, st1, env, g1, en1, hh⟩
        | false => rw [if_neg Bool.false_ne_true]; exact hh F1 μ1 H1 Ext.refl g1
      | false =>
        rw [if_neg Bool.false_ne_true] at hb ⊢
        refine PWimp (pw_or (s.pt c tk h2) hb) fun σ H Q ⟨F, μ, st, env, g, en, h⟩ => ?_
        simp only [evBoT] at h
        refine goT g en h fun F1 μ1 H1 d st1 e1 g1 en1 hh => ?_
        cases d with
        | true => rw [if_pos rfl]; exact hh F1 μ1 H1 Ext.refl g1
        | false => rw [if_neg Bool.false_ne_true]; exact ⟨F1, μ1, st1, env, g1, en1, hh⟩
end
end MP
/-! MiniPy: the composite expressions. -/
namespace MP
open PySem L2 PySem.Spec PyProof.Rows

section
variable {Y : Fx} {Φ : Tab} {G : Str → Option Val} {C : Cfg} {k : Nat} {X : Cx} {ns : Names} {W : WX}
theorem pt_stuck {e : E} {p : Expr} (ht : (ev Φ G e).t = fun _ _ => .stuck) : PT X p (tT Y Φ G W e) :=
  ⟨fun pins s σ H Q I ⟨F, μ, st, env, g, en, q⟩ => by rw [ht] at q; exact False.elim q⟩
theorem pi_stuck {e : E} {p : Expr} {tg : Expr} (ht : (ev Φ G e).i = fun _ _ => .stuck) : PI X tg p (tI Y Φ G W e) :=
  ⟨fun pins s σ H Q I ⟨F, μ, st, env, g, en, q⟩ => by rw [ht] at q; exact False.elim q⟩
theorem mkNSnd {e : E} {v : Env → Store → RV} (he : ev Φ G e = mkN v)
    (h : ∀ {X : Cx} {ns : Names} {W : WX} {p : Expr}, Ctx X Y Φ G C ns k → Tk X W → chkE C ns e p = true → PE X p (tE Y Φ G W e)) : Snd Y Φ G C k e where
  pe := h
  pt := fun c tk q => pt_stuck (by rw [he]; rfl)
  pi := fun tg c tk q => pi_of tg c (by rw [he]; rfl) (h c tk q)

theorem snd_tup {es : Es} (ss : Snds Y Φ G C k es) : Snd Y Φ G C k (.tup es) := by
  refine mkSnd rfl (fun ns p q => ?_) fun {X ns W p} c tk q => ?_
  · unfold chkE at q
    split at q
    · rename_i ps hx; obtain ⟨a, b, rfl⟩ := isTup_eq hx; rfl
    · cases q
  · unfold chkE at q
    split at q
    · rename_i ps hx
      obtain ⟨a, b, rfl⟩ := isTup_eq hx
      refine PEimp (pe_tup (ss.pa c tk q)) fun σ H Q ⟨F, μ, st, env, g, en, h⟩ => ?_
      refine goA g en h fun F1 μ1 H1 xs st1 w e1 g1 en1 r1 hh => ?_
      exact newT_ok g1 hh r1
    · cases q
theorem snd_lst {m : Bool} {es : Es} (ss : Snds Y Φ G C k es) : Snd Y Φ G C k (.lst m es) := by
  refine mkSnd rfl (fun ns p q => ?_) fun {X ns W p} c tk q => ?_
  · unfold chkE at q
    split at q
    · rename_i ps hx; obtain ⟨a, rfl⟩ := isLst_eq hx; rfl
    · cases q
  · unfold chkE at q
    split at q
    · rename_i ps hx
      obtain ⟨a, rfl⟩ := isLst_eq hx
      refine PEimp (pe_lst (ss.pa c tk q)) fun σ H Q ⟨F, μ, st, env, g, en, h⟩ => ?_
      refine goA g en h fun F1 μ1 H1 xs st1 w e1 g1 en1 r1 hh => ?_
      exact newL_ok g1 hh r1
    · cases q
theorem snd_bin {m : Bool} {op : BOp} {a b : E} (sa : Snd Y Φ G C k a) (sb : Snd Y Φ G C k b) : Snd Y Φ G C k (.bin m op a b) := by
  refine mkSnd rfl (fun ns p q => ?_) fun {X ns W p} c tk q => ?_
  · unfold chkE at q
    split at q
    · rename_i x o y hx; obtain ⟨pp, rfl⟩ := isBin_eq hx; rfl
    · cases q
  · unfold chkE at q
    split at q
    · rename_i x o y hx
      obtain ⟨pp, rfl⟩ := isBin_eq hx
      rw [Bool.and_eq_true, Bool.and_eq_true] at q
      obtain ⟨q1, q2, q3⟩ := q
      have eo := opEq_eq q1
      subst eo
      refine ⟨fun pins s σ H Q I ⟨F, μ, st, env, g, en, h⟩ => ?_⟩
      refine (pe_op (op_bin (Y := Y) (W := at_ W σ) (m := m) c.K op) (sa.pe c tk q2) (sb.pe c tk q3)).run pins s σ H Q I ?_
      refine goE g en h fun F1 μ1 H1 x st1 w e1 g1 en1 r1 hh => ?_
      refine goE g1 en1 hh fun F2 μ2 H2 y st2 u e2 g2 en2 r2 hh2 => ?_
      exact ⟨F2, μ2, st2, x, y, g2, e2.v r1, r2, hh2⟩
    · cases q
theorem snd_neg_pe {a : E} (sa : Snd Y Φ G C k a) {X : Cx} {ns : Names} {W : WX} {p : Expr} (c : Ctx X Y Φ G C ns k) (tk : Tk X W) (q : chkE C ns (.neg a) p = true) : PE X p (tE Y Φ G W (.neg a)) := by
    unfold chkE at q
    split at q
    · rename_i x hx
      obtain ⟨pp, rfl⟩ := isUn_eq hx
      refine PEimp (pe_un un_neg (sa.pe c tk q)) fun σ H Q ⟨F, μ, st, env, g, en, h⟩ => ?_
      refine goE g en h fun F1 μ1 H1 x st1 w e1 g1 en1 r1 hh => ?_
      cases x with
      | int i =>
        have ew : w = .int i := r1
        exact ⟨i, ew, hh F1 μ1 H1 Ext.refl g1 _ rfl⟩
      | _ => exact False.elim hh
    · cases q
theorem snd_neg {a : E} (sa : Snd Y Φ G C k a) : Snd Y Φ G C k (.neg a) where
  pe := fun c tk q => snd_neg_pe sa c tk q
  pt := fun {X ns W p} c tk q => by
    have hp := snd_neg_pe sa c tk q
    unfold chkE at q
    split at q
    · rename_i x hx
      obtain ⟨pp, rfl⟩ := isUn_eq hx
      refine PTimp (pt_truth hp (by intro _; rfl)) fun σ H Q ⟨F, μ, st, env, g, en, q⟩ => ?_
      refine goE g en q fun F1 μ1 H1 x st1 w e1 g1 en1 r q1 => ?_
      obtain ⟨b, hb, q2⟩ := RP.bindP truth_noexn q1
      exact ⟨b, truth_rep c.K g1 r hb, q2 F1 μ1 H1 Ext.refl g1⟩
    · cases q
  pi := fun {X ns W p} tg c tk q => pi_of tg c rfl (snd_neg_pe sa c tk q)
end
end MP
/-! MiniPy: the composite expressions, further. -/
namespace MP
open PySem L2 PySem.Spec PyProof.Rows

section
variable {Y : Fx} {Φ : Tab} {G : Str → Option Val} {C : Cfg} {k : Nat} {X : Cx} {ns : Names} {W : WX}
theorem snd_not {a : E} (sa : Snd Y Φ G C k a) : Snd Y Φ G C k (.not a) where
  pe := fun {X ns W p} c tk q => by
    unfold chkE at q
    split at q
    · rename_i x hx
      obtain ⟨pp, rfl⟩ := isUn_eq hx
      refine PEimp (pe_not (sa.pe c tk q)) fun σ H Q ⟨F, μ, st, env, g, en, h⟩ => ?_
      refine goE g en h fun F1 μ1 H1 x st1 w e1 g1 en1 r1 hh => ?_
      cases x with
      | bl i =>
        have ew : w = .bl i := r1
        exact ⟨i, ew, hh F1 μ1 H1 Ext.refl g1 _ rfl⟩
      | _ => exact False.elim hh
    · cases q
  pt := fun {X ns W p} c tk q => by
    unfold chkE at q
    split at q
    · rename_i x hx
      obtain ⟨pp, rfl⟩ := isUn_eq hx
      refine PTimp (pt_not (sa.pt c tk q)) fun σ H Q ⟨F, μ, st, env, g, en, h⟩ => ?_
      exact goT g en h fun F1 μ1 H1 d st1 e1 g1 en1 hh => hh F1 μ1 H1 Ext.refl g1
    · cases q
  pi := fun tg c tk q => pi_stuck rfl
/-- the reading of a comparison -/
theorem cmp_red {α : Type} {op : COp} {a b : E} {f : Bool × Store → R (α × Store)} {kk : Hp → (Nat → Addr) → Hp → α → Store → Prop} {F H : Hp} {μ : Nat → Addr} {st : Store} {env : Env} {σ : L2.St} {Q : VK}
    (g : Good Y.kf F μ st H) (en : EnvOk Y F μ st.length env σ)
    (h : RP Y F μ st H (((ev Φ G a).v env st).bind fun p => ((ev Φ G b).v env p.2).bind fun q => (cmpV op p.1 q.1 q.2).bind fun d => f (d, q.2)) kk (at_ W σ))
    (n : ∀ F2 μ2 H2 d st2, Ext F μ st H F2 μ2 st2 H2 → Good Y.kf F2 μ2 st2 H2 → EnvOk Y F2 μ2 st2.length env σ → RP Y F2 μ2 st2 H2 (f (d, st2)) kk (at_ W σ) → Q (.bl d) H2) :
    tOp (rC Y op) (tE Y Φ G W a) (tE Y Φ G W b) σ H Q := by
  refine goE g en h fun F1 μ1 H1 x st1 w e1 g1 en1 r1 hh => ?_
  refine goE g1 en1 hh fun F2 μ2 H2 y st2 u e2 g2 en2 r2 hh2 => ?_
  obtain ⟨d, hd, q2⟩ := RP.bindP cmp_noexn hh2
  exact ⟨F2, μ2, st2, x, y, d, g2, e2.v r1, r2, hd, n F2 μ2 H2 d st2 (e1.trans e2) g2 en2 q2⟩
theorem snd_cmp {op : COp} {a b : E} (sa : Snd Y Φ G C k a) (sb : Snd Y Φ G C k b) : Snd Y Φ G C k (.cmp op a b) where
  pe := fun {X ns W p} c tk q => by
    unfold chkE at q
    split at q
    · rename_i x o y hx
      obtain ⟨pp, rfl⟩ := isCmp_eq hx
      rw [Bool.and_eq_true, Bool.and_eq_true, Bool.and_eq_true] at q
      obtain ⟨q1, q2, q3, q4⟩ := q
      have eo := cEq_eq q1
      subst eo
      refine PEimp (pe_cmpR (op_cmp (Y := Y) c.K c.hu op) (sa.pe c tk q3) (sb.pe c tk q4) (marks_not q2)) fun σ H Q ⟨F, μ, st, env, g, en, h⟩ => ?_
      exact cmp_red (f := fun p => R.ok (Val.bl p.1, p.2)) g en h fun F2 μ2 H2 d st2 _ g2 _ hh => hh F2 μ2 H2 Ext.refl g2 _ rfl
    · cases q
  pt := fun {X ns W p} c tk q => by
    unfold chkE at q
    split at q
    · rename_i x o y hx
      obtain ⟨pp, rfl⟩ := isCmp_eq hx
      rw [Bool.and_eq_true, Bool.and_eq_true, Bool.and_eq_true] at q
      obtain ⟨q1, q2, q3, q4⟩ := q
      have eo := cEq_eq q1
      subst eo
      refine PTimp (pt_cmpR (op_cmp (Y := Y) c.K c.hu op) (sa.pe c tk q3) (sb.pe c tk q4) (marks_not q2)) fun σ H Q ⟨F, μ, st, env, g, en, h⟩ => ?_
      have h' : RP Y F μ st H (((ev Φ G a).v env st).bind fun p => ((ev Φ G b).v env p.2).bind fun q => (cmpV op p.1 q.1 q.2).bind fun d => .ok (d, q.2)) (kT Q) (at_ W σ) := by
        have e : (ev Φ G (.cmp op a b)).t env st = (((ev Φ G a).v env st).bind fun p => ((ev Φ G b).v env p.2).bind fun q => (cmpV op p.1 q.1 q.2).bind fun d => .ok (d, q.2)) := by
          show R.bind (((ev Φ G a).v env st).bind fun p => ((ev Φ G b).v env p.2).bind fun q => (cmpV op p.1 q.1 q.2).bind fun d => R.ok (Val.bl d, q.2)) _ = _
          cases (ev Φ G a).v env st with
          | ok p =>
            simp only [R.bind_ok]
            cases (ev Φ G b).v env p.2 with
            | ok q =>
              simp only [R.bind_ok]
              cases cmpV op p.1 q.1 q.2 <;> rfl
            | _ => rfl
          | _ => rfl
        rw [← e]; exact h
      exact cmp_red (f := fun p => R.ok (p.1, p.2)) g en h' fun F2 μ2 H2 d st2 _ g2 _ hh => ⟨d, rfl, hh F2 μ2 H2 Ext.refl g2⟩
    · cases q
  pi := fun {X ns W p} tg c tk q => by
    unfold chkE at q
    split at q
    · rename_i x o y hx
      obtain ⟨pp, rfl⟩ := isCmp_eq hx
      rw [Bool.and_eq_true, Bool.and_eq_true, Bool.and_eq_true] at q
      obtain ⟨q1, q2, q3, q4⟩ := q
      have eo := cEq_eq q1
      subst eo
      refine pi_of tg c rfl (PEimp (pe_cmpR (op_cmp (Y := Y) c.K c.hu op) (sa.pe c tk q3) (sb.pe c tk q4) (marks_not q2)) fun σ H Q ⟨F, μ, st, env, g, en, h⟩ => ?_)
      exact cmp_red (f := fun p => R.ok (Val.bl p.1, p.2)) g en h fun F2 μ2 H2 d st2 _ g2 _ hh => hh F2 μ2 H2 Ext.refl g2 _ rfl
    · cases q
theorem last2 {op op' : CmpOp} {b c : Expr} (h : notSet c = true) : lastMarks [op, op'] [b, c] = false := marks_not h
theorem snd_chain_red {op op' : COp} {a b e : E} {F H : Hp} {μ : Nat → Addr} {st : Store} {env : Env} {σ : L2.St} {Q : VK}
    (g : Good Y.kf F μ st H) (en : EnvOk Y F μ st.length env σ) (h : RP Y F μ st H ((ev Φ G (.chain op op' a b e)).v env st) (kV Y Q) (at_ W σ)) :
    tChain (rC Y op) (rC Y op') (tE Y Φ G W a) (tE Y Φ G W b) (tE Y Φ G W e) σ H Q := by
  have h' : RP Y F μ st H (((ev Φ G a).v env st).bind fun p => ((ev Φ G b).v env p.2).bind fun q => (cmpV op p.1 q.1 q.2).bind fun k =>
      if k then ((ev Φ G e).v env q.2).bind fun r => (cmpV op' q.1 r.1 r.2).bind fun k' => .ok (.bl k', r.2) else .ok (.bl false, q.2)) (kV Y Q) (at_ W σ) := h
  refine goE g en h' fun F1 μ1 H1 x st1 w e1 g1 en1 r1 hh => ?_
  refine goE g1 en1 hh fun F2 μ2 H2 y st2 u e2 g2 en2 r2 hh2 => ?_
  obtain ⟨d, hd, q2⟩ := RP.bindP cmp_noexn hh2
  refine ⟨F2, μ2, st2, x, y, d, g2, e2.v r1, r2, hd, d, rfl, ?_⟩
  cases d with
  | true =>
    rw [if_pos rfl] at q2 ⊢
    refine goE g2 en2 q2 fun F3 μ3 H3 z st3 t e3 g3 en3 r3 hh3 => ?_
    obtain ⟨d', hd', q3⟩ := RP.bindP cmp_noexn hh3
    exact ⟨F3, μ3, st3, y, z, d', g3, e3.v r2, r3, hd', q3 F3 μ3 H3 Ext.refl g3 _ rfl⟩
  | false =>
    rw [if_neg Bool.false_ne_true] at q2 ⊢
    exact q2 F2 μ2 H2 Ext.refl g2 _ rfl
theorem chain_bl {op op' : COp} {a b e : E} {env : Env} {st : Store} {p : Val × Store} (h : (ev Φ G (.chain op op' a b e)).v env st = .ok p) : ∃ d, p.1 = .bl d := by
  have h' : (((ev Φ G a).v env st).bind fun p => ((ev Φ G b).v env p.2).bind fun q => (cmpV op p.1 q.1 q.2).bind fun k =>
      if k then ((ev Φ G e).v env q.2).bind fun r => (cmpV op' q.1 r.1 r.2).bind fun k' => R.ok (Val.bl k', r.2) else .ok (.bl false, q.2)) = .ok p := h
  cases ha : (ev Φ G a).v env st with
  | ok x =>
    rw [ha] at h'; simp only [R.bind_ok] at h'
    cases hb : (ev Φ G b).v env x.2 with
    | ok y =>
      rw [hb] at h'; simp only [R.bind_ok] at h'
      cases hc : cmpV op x.1 y.1 y.2 with
      | ok d =>
        rw [hc] at h'; simp only [R.bind_ok] at h'
        cases d with
        | true =>
          rw [if_pos rfl] at h'
          cases he : (ev Φ G e).v env y.2 with
          | ok z =>
            rw [he] at h'; simp only [R.bind_ok] at h'
            cases hd : cmpV op' y.1 z.1 z.2 with
            | ok d' => rw [hd] at h'; cases h'; exact ⟨_, rfl⟩
            | _ => rw [hd] at h'; cases h'
          | _ => rw [he] at h'; cases h'
        | false => rw [if_neg Bool.false_ne_true] at h'; cases h'; exact ⟨_, rfl⟩
      | _ => rw [hc] at h'; cases h'
    | _ => rw [hb] at h'; cases h'
  | _ => rw [ha] at h'; cases h'
theorem snd_chain {op op' : COp} {a b e : E} (sa : Snd Y Φ G C k a) (sb : Snd Y Φ G C k b) (se : Snd Y Φ G C k e) : Snd Y Φ G C k (.chain op op' a b e) where
  pe := fun {X ns W p} c tk q => by
    unfold chkE at q
    split at q
    · rename_i x o y o' z hx
      obtain ⟨pp, rfl⟩ := isChain_eq hx
      simp only [Bool.and_eq_true] at q
      obtain ⟨q1, q2, q3, q4, q5, q6⟩ := q
      have eo := cEq_eq q1
      have eo' := cEq_eq q2
      subst eo eo'
      exact PEimp (pe_chain (op_cmp (Y := Y) c.K c.hu op) (op_cmp (Y := Y) c.K c.hu op') (sa.pe c tk q4) (sb.pe c tk q5) (se.pe c tk q6) (last2 q3)) fun σ H Q ⟨F, μ, st, env, g, en, h⟩ => snd_chain_red g en h
    · cases q
  pt := fun {X ns W p} c tk q => by
    unfold chkE at q
    split at q
    · rename_i x o y o' z hx
      obtain ⟨pp, rfl⟩ := isChain_eq hx
      simp only [Bool.and_eq_true] at q
      obtain ⟨q1, q2, q3, q4, q5, q6⟩ := q
      have eo := cEq_eq q1
      have eo' := cEq_eq q2
      subst eo eo'
      refine PTimp (pt_chain (op_cmp (Y := Y) c.K c.hu op) (op_cmp (Y := Y) c.K c.hu op') (sa.pe c tk q4) (sb.pe c tk q5) (se.pe c tk q6) (last2 q3)) fun σ H Q ⟨F, μ, st, env, g, en, h⟩ => snd_chain_red g en ?_
      refine (show RP Y F μ st H (((ev Φ G (.chain op op' a b e)).v env st).bind fun p => (truth p.2 p.1).bind fun d => .ok (d, p.2)) (kT Q) (at_ W σ) from h).bind.impE fun F1 μ1 H1 v st1 er e1 g1 h1 w r => ?_
      obtain ⟨d, hd⟩ := chain_bl er
      have hd' : v = .bl d := hd
      subst hd'
      have ew : w = .bl d := r
      exact ⟨d, ew, h1 F1 μ1 H1 Ext.refl g1⟩
    · cases q
  pi := fun {X ns W p} tg c tk q => by
    unfold chkE at q
    split at q
    · rename_i x o y o' z hx
      obtain ⟨pp, rfl⟩ := isChain_eq hx
      simp only [Bool.and_eq_true] at q
      obtain ⟨q1, q2, q3, q4, q5, q6⟩ := q
      have eo := cEq_eq q1
      have eo' := cEq_eq q2
      subst eo eo'
      exact pi_of tg c rfl (PEimp (pe_chain (op_cmp (Y := Y) c.K c.hu op) (op_cmp (Y := Y) c.K c.hu op') (sa.pe c tk q4) (sb.pe c tk q5) (se.pe c tk q6) (last2 q3)) fun σ H Q ⟨F, μ, st, env, g, en, h⟩ => snd_chain_red g en h)
    · cases q
theorem snd_bo {b : Bool} {es : Es} (ss : Snds Y Φ G C k es) : Snd Y Φ G C k (.bo b es) where
  pe := fun {X ns W p} c tk q => by
    unfold chkE at q
    split at q
    · rename_i ps hx
      obtain ⟨pp, rfl⟩ := isBo_eq hx
      rw [Bool.and_eq_true] at q
      have eb : b = true := q.1
      subst eb
      cases es with
      | nil => exact ⟨fun pins s σ H Q I ⟨F, μ, st, env, g, en, h⟩ => False.elim h⟩
      | cons e r => exact ss.bo (pos := pp) true c tk q.2 (fun z => by cases z)
    · rename_i ps hx
      obtain ⟨pp, rfl⟩ := isBo_eq hx
      rw [Bool.and_eq_true] at q
      have eb : b = false := by simpa using q.1
      subst eb
      cases es with
      | nil => exact ⟨fun pins s σ H Q I ⟨F, μ, st, env, g, en, h⟩ => False.elim h⟩
      | cons e r => exact ss.bo (pos := pp) false c tk q.2 (fun z => by cases z)
    · cases q
  pt := fun {X ns W p} c tk q => by
    unfold chkE at q
    split at q
    · rename_i ps hx
      obtain ⟨pp, rfl⟩ := isBo_eq hx
      rw [Bool.and_eq_true] at q
      have eb : b = true := q.1
      subst eb
      cases es with
      | nil => exact ⟨fun pins s σ H Q I ⟨F, μ, st, env, g, en, h⟩ => False.elim h⟩
      | cons e r => exact (ss.bt (pos := pp) true c tk q.2 (fun z => by cases z)).pt
    · rename_i ps hx
      obtain ⟨pp, rfl⟩ := isBo_eq hx
      rw [Bool.and_eq_true] at q
      have eb : b = false := by simpa using q.1
      subst eb
      cases es with
      | nil => exact ⟨fun pins s σ H Q I ⟨F, μ, st, env, g, en, h⟩ => False.elim h⟩
      | cons e r => exact (ss.bt (pos := pp) false c tk q.2 (fun z => by cases z)).pt
    · cases q
  pi := fun tg c tk q => pi_stuck rfl
theorem snd_ifx {d a b : E} (sd : Snd Y Φ G C k d) (sa : Snd Y Φ G C k a) (sb : Snd Y Φ G C k b) : Snd Y Φ G C k (.ifx d a b) := by
  refine mkNSnd rfl fun {X ns W p} c tk q => ?_
  unfold chkE at q
  split at q
  · rename_i x y z hx
    obtain ⟨pp, rfl⟩ := isIfx_eq hx
    simp only [Bool.and_eq_true] at q
    obtain ⟨q1, q2, q3⟩ := q
    refine PEimp (pe_ifExp (sd.pt c tk q1) (sa.pe c tk q2) (sb.pe c tk q3)) fun σ H Q ⟨F, μ, st, env, g, en, h⟩ => ?_
    refine goT g en h fun F1 μ1 H1 t st1 e1 g1 en1 hh => ?_
    cases t with
    | true => rw [if_pos rfl]; exact ⟨F1, μ1, st1, env, g1, en1, hh⟩
    | false => rw [if_neg Bool.false_ne_true]; exact ⟨F1, μ1, st1, env, g1, en1, hh⟩
  · cases q
theorem chkEs_len : ∀ {es : Es} {ps : List Expr}, chkEs C ns es ps = true → ∀ {vs : List Val} {env : Env} {st st' : Store}, evs Φ G es env st = .ok (vs, st') → vs.length = ps.length
  | .nil, [], _, vs, env, st, st', h => by cases h; rfl
  | .nil, _ :: _, q, _, _, _, _, _ => by cases q
  | .cons e r, ps, q, vs, env, st, st', h => by
    obtain ⟨p, qs, rfl, h1, h2, h3⟩ := chkEs_cons q
    simp only [evs] at h
    cases hx : (ev Φ G e).v env st with
    | ok x =>
      rw [hx] at h; simp only [R.bind_ok] at h
      cases hy : evs Φ G r env x.2 with
      | ok y =>
        rw [hy] at h; cases h
        simp [chkEs_len h3 hy]
      | _ => rw [hy] at h; cases h
    | _ => rw [hx] at h; cases h
theorem snd_call {f : Str} {es : Es} (ss : Snds Y Φ G C k es) : Snd Y Φ G C k (.call f es) := by
  refine mkSnd rfl (fun ns p q => ?_) fun {X ns W p} c tk q => ?_
  · unfold chkE at q
    split at q
    · rename_i x ps hx; obtain ⟨pp, pq, rfl⟩ := isCall_eq hx; rfl
    · cases q
  · unfold chkE at q
    split at q
    · rename_i x ps hx
      obtain ⟨pp, pq, rfl⟩ := isCall_eq hx
      simp only [Bool.and_eq_true] at q
      obtain ⟨q1, q2, q3, q4, q5, q6, q7⟩ := q
      have ef := of_decide_eq_true q1
      subst ef
      obtain ⟨m, fa, fd, qs, hm, har, hmg, hkp, hb, hF⟩ := c.fn f (mem_of q3)
      cases ps with
      | nil => cases q2
      | cons p ps =>
        have n1 : notStar p = true ∧ noStars ps = true := by
          have z : (notStar p && noStars ps) = true := q6
          rwa [Bool.and_eq_true] at z
        have hcall : PE X (.Call (.Name f pp) (p :: ps) [] pq) (tCallS (spOf Y qs.length m) (WE W) (tA Y Φ G W es)) := by
          cases hcalm : C.calm with
          | true => exact pe_callS (hF.1 hcalm).2 (hF.1 hcalm).1 (gl_ok c q4) hmg hkp hb (fun σ => tk.pas σ) (ss.pa c tk q7) (okName_1 q5) (star_cons n1.1) (star_any n1.2)
          | false =>
            obtain ⟨r1, r3⟩ := hF.2 hcalm
            exact pe_callW r3 r1 (gl_ok c q4) hmg hkp hb (fun σ => tk.pas σ) (ss.pa c tk q7) (okName_1 q5) (star_cons n1.1) (star_any n1.2)
        refine PEimp hcall fun σ H Q ⟨F, μ, st, env, g, en, h⟩ => ?_
        refine goA g en h fun F1 μ1 H1 vs st1 ws e1 g1 en1 r1 hh => ?_
        have hh' : RP Y F1 μ1 st1 H1 (m vs st1) (kV Y Q) (at_ W σ) := by
          change RP Y F1 μ1 st1 H1 (match Φ f with | some m => m vs st1 | none => .stuck) (kV Y Q) (at_ W σ) at hh
          rw [hm] at hh; exact hh
        refine ⟨?_, F1, μ1, st1, vs, g1, r1, hh'⟩
        rw [r1.len]
        by_cases hl : vs.length = qs.length
        · exact hl
        · rw [har vs st1 hl] at hh'; exact False.elim hh'
    · cases q
theorem bt_ty (t : Ty) : bootBuiltins (tyStr t) = some (.type (tyName t)) := by cases t <;> decide +kernel
theorem ty_ok1 (t : Ty) : (tyStr t == ("__debug__" : Str)) = false := by cases t <;> decide +kernel
theorem ty_ok2 (t : Ty) : tyStr t ≠ ("__name__" : Str) := by cases t <;> decide +kernel
theorem pe_ty {t : Ty} {p : Pos} (c : Ctx X Y Φ G C ns k) (hg : glB ns (tyStr t) = true) (hb : C.bs.contains (tyStr t) = true) : PE X (.Name (tyStr t) p) (tC (.ty (tyName t))) :=
  pe_bltn (gl_ok c hg) (c.bt _ (mem_of hb)) (bt_ty t) rfl (ty_ok2 t) (ty_ok1 t)
theorem snd_isi {a : E} {t : Ty} (sa : Snd Y Φ G C k a) : Snd Y Φ G C k (.isi a t) := by
  have key : ∀ {ns : Names} {p : Expr}, chkE C ns (.isi a t) p = true → ∃ px p1 p2 pq y, p = .Call (.Name "isinstance" px) [p1, .Name y p2] [] pq ∧ glB ns "isinstance" = true ∧ notStar p1 = true ∧ chkE C ns a p1 = true ∧ y = tyStr t ∧ glB ns y = true ∧ C.bs.contains y = true ∧ C.bs.contains "isinstance" = true := by
    intro ns p q
    unfold chkE at q
    split at q
    · rename_i x p1 p2 hx
      obtain ⟨pp, pq, rfl⟩ := isCall_eq hx
      simp only [Bool.and_eq_true] at q
      obtain ⟨⟨q1, q2, q3, q4, q5⟩, q6⟩ := q
      have ex := of_decide_eq_true q1
      subst ex
      split at q5
      · rename_i y hy
        obtain ⟨py, rfl⟩ := isName_eq hy
        simp only [Bool.and_eq_true] at q5
        exact ⟨_, _, _, _, y, rfl, q2, q3, q4, of_decide_eq_true q5.1, q5.2.1, q5.2.2, q6⟩
      · cases q5
    · cases q
  refine mkSnd rfl (fun ns p q => ?_) fun {X ns W p} c tk q => ?_
  · obtain ⟨_, _, _, _, _, rfl, _⟩ := key q; rfl
  · obtain ⟨px, p1, p2, pq, y, rfl, q2, q3, q4, ey, q5, q6, q7⟩ := key q
    subst ey
    refine PEimp (pe_callB call_isi (gl_ok c q2) (c.bt _ (mem_of q7)) (by decide +kernel) (pa_cons (sa.pe c tk q4) (pa_cons (pe_ty c q5 q6) pa_nil) (star_cons q3)) (by decide +kernel) (by decide +kernel) (star_cons q3) rfl) fun σ H Q ⟨F, μ, st, env, g, en, h⟩ => ?_
    refine goE g en h fun F1 μ1 H1 x st1 w e1 g1 en1 r1 hh => ?_
    split at hh
    · rename_i b hb
      exact ⟨w, .ty (tyName t), _, _, b, rfl, .ty _, tyX_rep c.K g1 r1 hb, kit_ty (kit_tab hb), hh F1 μ1 H1 Ext.refl g1 _ rfl⟩
    · exact False.elim hh
theorem snd_isi2 {a : E} {t u : Ty} (sa : Snd Y Φ G C k a) : Snd Y Φ G C k (.isi2 a t u) := by
  have key : ∀ {ns : Names} {p : Expr}, chkE C ns (.isi2 a t u) p = true → ∃ px p1 py pz kk pt pq, p = .Call (.Name "isinstance" px) [p1, .Tuple [.Name (tyStr t) py, .Name (tyStr u) pz] kk pt] [] pq ∧ glB ns "isinstance" = true ∧ notStar p1 = true ∧ chkE C ns a p1 = true ∧
      glB ns (tyStr t) = true ∧ C.bs.contains (tyStr t) = true ∧ glB ns (tyStr u) = true ∧ C.bs.contains (tyStr u) = true ∧ C.bs.contains "isinstance" = true := by
    intro ns p q
    unfold chkE at q
    split at q
    · rename_i x p1 p2 hx
      obtain ⟨pp, pq, rfl⟩ := isCall_eq hx
      simp only [Bool.and_eq_true] at q
      obtain ⟨⟨q1, q2, q3, q4, q5⟩, q6⟩ := q
      have ex := of_decide_eq_true q1
      subst ex
      split at q5
      · rename_i c1 c2 hc
        obtain ⟨kk, pt, rfl⟩ := isTup_eq hc
        split at q5
        · rename_i y z hy hz
          obtain ⟨py, rfl⟩ := isName_eq hy
          obtain ⟨pz, rfl⟩ := isName_eq hz
          simp only [Bool.and_eq_true] at q5
          obtain ⟨a1, a2, a3, a4, a5, a6⟩ := q5
          have e1 := of_decide_eq_true a1
          have e2 := of_decide_eq_true a4
          subst e1 e2
          exact ⟨_, _, _, _, _, _, _, rfl, q2, q3, q4, a2, a3, a5, a6, q6⟩
        · cases q5
      · cases q5
    · cases q
  refine mkSnd rfl (fun ns p q => ?_) fun {X ns W p} c tk q => ?_
  · obtain ⟨_, _, _, _, _, _, _, rfl, _⟩ := key q; rfl
  · obtain ⟨px, p1, py, pz, kk, pt, pq, rfl, q2, q3, q4, a2, a3, a5, a6, q7⟩ := key q
    refine PEimp (pe_callB call_isiT (gl_ok c q2) (c.bt _ (mem_of q7)) (by decide +kernel) (pa_cons (sa.pe c tk q4) (pa_cons (pe_tup (pa_cons (pe_ty c a2 a3) (pa_cons (pe_ty c a5 a6) pa_nil))) pa_nil) (star_cons q3)) (by decide +kernel) (by decide +kernel) (star_cons q3) rfl) fun σ H Q ⟨F, μ, st, env, g, en, h⟩ => ?_
    refine goE g en h fun F1 μ1 H1 x st1 w e1 g1 en1 r1 hh => ?_
    split at hh
    · rename_i b b' hb hb'
      refine ⟨by show 2 ≤ sizeLine; rw [sizeLine_eq]; decide, fun tp htp => ?_⟩
      obtain ⟨g2, e2⟩ := g1.frozen (o := .tup [.ty (tyName t), .ty (tyName u)]) htp
      refine ⟨w, tp, _, _, _, b || b', rfl, upd_same, .cons (.ty _) (.cons (.ty _) .nil), tyX_rep c.K g2 (e2.v r1) hb, kitAny_cons (kit_ty (kit_tab hb)) (fun eb => ?_) (fun eb => by rw [eb]; rfl), hh _ _ _ e2 g2 _ rfl⟩
      refine kitAny_cons (kit_ty (kit_tab hb')) (fun eb' => ?_) (fun eb' => by rw [eb']; cases b <;> rfl)
      rw [eb, eb']
      exact kitAny_nil
    · exact False.elim hh
end
end MP
/-! MiniPy: the rest of the expressions; all of them. -/
namespace MP
open PySem L2 PySem.Spec PyProof.Rows

section
variable {Y : Fx} {Φ : Tab} {G : Str → Option Val} {C : Cfg} {k : Nat} {X : Cx} {ns : Names} {W : WX}
theorem f1_noexn {f : F1} {x : Val} {st : Store} : ∀ c fs s, f1V f x st ≠ .exn c fs s := by
  intro c fs s h
  cases f <;> simp only [f1V] at h
  all_goals repeat' (first | (cases h; done) | split at h)
theorem mm_noexn {b : Bool} {x y : Val} : ∀ c fs s, mmV b x y ≠ .exn c fs s := by
  intro c fs s h
  unfold mmV at h
  repeat' (first | (cases h; done) | split at h)
theorem ix_noexn {st : Store} {x y : Val} : ∀ c fs s, ixV st x y ≠ .exn c fs s := by
  intro c fs s h
  unfold ixV at h
  repeat' (first | (cases h; done) | split at h)
theorem part_noexn {b : Bool} {x : Val} : ∀ c fs s, partV b x ≠ .exn c fs s := by
  intro c fs s h
  unfold partV at h
  repeat' (first | (cases h; done) | split at h)
theorem rng_noexn {xs : List Val} : ∀ c fs s, rngV xs ≠ .exn c fs s := by
  intro c fs s h
  unfold rngV at h
  repeat' (first | (cases h; done) | split at h)
theorem boot_f1 (f : F1) : bootBuiltins (f1Str f) = some (f1Val f) := by cases f <;> decide +kernel
theorem f1_key {f : F1} (hf : f ≠ .lenset) {a : E} {ns : Names} {p : Expr} (q : chkE C ns (.f1 f a) p = true) : ∃ px p1 pq, p = .Call (.Name (f1Str f) px) [p1] [] pq ∧ glB ns (f1Str f) = true ∧ notStar p1 = true ∧ f1Str f ∈ C.bs ∧ chkE C ns a p1 = true ∧ (C.calm || noIter f) = true := by
  have q' : (match isCall p with
    | some (x, [p]) => decide (x = f1Str f) && (glB ns x && (notStar p && (C.bs.contains x && (chkE C ns a p && (C.calm || noIter f)))))
    | _ => false) = true := by
    cases f <;> first | exact absurd rfl hf | (unfold chkE at q; exact q)
  split at q'
  · rename_i x p1 hx
    obtain ⟨pp, pq, rfl⟩ := isCall_eq hx
    simp only [Bool.and_eq_true] at q'
    obtain ⟨q1, q2, q3, q4, q5⟩ := q'
    have ex := of_decide_eq_true q1
    subst ex
    exact ⟨_, _, _, rfl, q2, q3, mem_of q4, q5.1, q5.2⟩
  · cases q'
theorem snd_f1' {f : F1} (hf : f ≠ .lenset) {a : E} (sa : Snd Y Φ G C k a) : Snd Y Φ G C k (.f1 f a) := by
  refine mkSnd rfl (fun ns p q => ?_) fun {X ns W p} c tk q => ?_
  · obtain ⟨_, _, _, rfl, _⟩ := f1_key hf q; rfl
  · obtain ⟨px, p1, pq, rfl, q2, q3, q4, q5, q6⟩ := f1_key hf q
    have hp : ∀ {r : List V → Hp → VK → Prop}, CallR X (f1Val f) r → PE X (.Call (.Name (f1Str f) px) [p1] [] pq) (tCB r (tCons (tE Y Φ G W a) tNil)) := fun {r} hr => by
      have hb := boot_f1 f
      have hm := c.bt _ q4
      have hg := gl_ok c q2
      have hA := pa_cons (sa.pe c tk q5) (pa_nil (X := X)) (star_cons q3)
      cases f <;> first
        | exact absurd rfl hf
        | exact pe_callB hr hg hm hb hA (by decide +kernel) (by decide +kernel) (star_cons q3) rfl
        | exact pe_callTy hr hg hm hb hA (by decide +kernel) (by decide +kernel) (star_cons q3) rfl
    refine PEimp (hp (call_f1 (Y := Y) c.K f hf fun z => by
      rw [z, Bool.or_false] at q6; exact (c.calm q6).1)) fun σ H Q ⟨F, μ, st, env, g, en, h⟩ => ?_
    refine goE g en h fun F1 μ1 H1 x st1 w e1 g1 en1 r1 hh => ?_
    obtain ⟨d, hd, q6⟩ := RP.bindP f1_noexn hh
    exact ⟨F1, μ1, st1, x, w, d, rfl, g1, r1, hd, fun z hz => q6 F1 μ1 H1 Ext.refl g1 z hz⟩
theorem snd_mm {b : Bool} {a d : E} (sa : Snd Y Φ G C k a) (sd : Snd Y Φ G C k d) : Snd Y Φ G C k (.mm b a d) := by
  have key : ∀ {ns : Names} {p : Expr}, chkE C ns (.mm b a d) p = true → ∃ px p1 p2 pq, p = .Call (.Name (Str.ofString (if b then "max" else "min")) px) [p1, p2] [] pq ∧ glB ns (Str.ofString (if b then "max" else "min")) = true ∧ notStar p1 = true ∧ notStar p2 = true ∧ (Str.ofString (if b then "max" else "min")) ∈ C.bs ∧ chkE C ns a p1 = true ∧ chkE C ns d p2 = true ∧ C.calm = true := by
    intro ns p q
    unfold chkE at q
    split at q
    · rename_i x p1 p2 hx
      obtain ⟨pp, pq, rfl⟩ := isCall_eq hx
      simp only [Bool.and_eq_true] at q
      obtain ⟨q0, q1, q2, q3, q4, q5, q6, q7⟩ := q
      have ex := of_decide_eq_true q1
      subst ex
      exact ⟨_, _, _, _, rfl, q2, q3, q4, mem_of q5, q6, q7, q0⟩
    · cases q
  refine mkSnd rfl (fun ns p q => ?_) fun {X ns W p} c tk q => ?_
  · obtain ⟨_, _, _, _, rfl, _⟩ := key q; rfl
  · obtain ⟨px, p1, p2, pq, rfl, q2, q3, q4, q5, q6, q7, q8⟩ := key q
    have hp : PE X (.Call (.Name (Str.ofString (if b then "max" else "min")) px) [p1, p2] [] pq) (tCB (rMm Y b) (tCons (tE Y Φ G W a) (tCons (tE Y Φ G W d) tNil))) := by
      have hA := pa_cons (sa.pe c tk q6) (pa_cons (sd.pe c tk q7) (pa_nil (X := X)) (star_cons q4)) (star_cons q3)
      have ha : noStars [p2] = true := by show (notStar p2 && true) = true; rw [q4]; rfl
      cases b with
      | true => exact pe_callB (call_mm (c.calm q8).1 true) (gl_ok c q2) (c.bt _ q5) (by decide +kernel) hA (by decide +kernel) (by decide +kernel) (star_cons q3) (star_any ha)
      | false => exact pe_callB (call_mm (c.calm q8).1 false) (gl_ok c q2) (c.bt _ q5) (by decide +kernel) hA (by decide +kernel) (by decide +kernel) (star_cons q3) (star_any ha)
    refine PEimp hp fun σ H Q ⟨F, μ, st, env, g, en, h⟩ => ?_
    refine goE g en h fun F1 μ1 H1 x st1 w e1 g1 en1 r1 hh => ?_
    refine goE g1 en1 hh fun F2 μ2 H2 y st2 u e2 g2 en2 r2 hh2 => ?_
    obtain ⟨t, ht, q8⟩ := RP.bindP mm_noexn hh2
    exact ⟨F2, μ2, st2, x, y, w, u, t, rfl, g2, e2.v r1, r2, ht, fun z hz => q8 F2 μ2 H2 Ext.refl g2 z hz⟩
theorem set_read {m : Bool} {a : E} (hK : X.K = Y.K) {F H : Hp} {μ : Nat → Addr} {st : Store} {x : Val} {w : V} {Q : VK} {W' : XK} (g : Good Y.kf F μ st H) (r : RepV Y.kf F μ st.length x w) (h : RP Y F μ st H (g1V m .sortset x st) (kV Y Q) W') :
    rMkSet Y X.w [w] H (fun v H1 => rSortedSet X.w [v] H1 Q) := by
  change RP Y F μ st H (match seqOf st x with | some (true, xs) => (match asInts xs with | some ns => if ns.length < 64 then newL m ((sortS ns).map .int) st else .stuck | none => .stuck) | _ => .stuck) (kV Y Q) W' at h
  split at h
  · rename_i xs hq
    split at h
    · rename_i ns hn
      by_cases h64 : ns.length < 64
      · rw [if_pos h64] at h
        refine ⟨F, μ, st, x, w, xs, ns, rfl, g, r, hq, hn, h64, fun p n hp hn' => ?_⟩
        refine ⟨p, _, n, rfl, upd_same, hn', fun ns' l up mem _ hl => ?_⟩
        have en : ns' = sortS ns := up_only up (sortS_up ns) fun j => by rw [mem j, sortS_mem, decide_eq_true_eq]
        have hlp : l ≠ p := fun e => by rw [e, upd_same] at hl; cases hl
        have hl0 : H l = none := by rw [upd_ne hlp] at hl; exact hl
        have g2 : Good Y.kf F μ st (upd H p (SetO X.w p (fun j => decide (j ∈ ns)) n)) := g.beside hp
        have e2 : Ext F μ st H F μ st (upd H p (SetO X.w p (fun j => decide (j ∈ ns)) n)) :=
          ⟨Same.refl _, fun _ _ => rfl, Nat.le_refl _, fun b u hb _ => by rw [upd_ne (ne_of_none hb hp)]; exact hb, fun i d hd ld => .inl ⟨d, hd, ld⟩, fun b u hb => ⟨u, by rw [upd_ne (ne_of_none hb hp)]; exact hb⟩, fun _ _ h => .inl h⟩
        obtain ⟨_, kk⟩ := newL_ok g2 (h.ext e2) (repL_ints (sortS ns))
        rw [en]
        exact kk l hl
      · rw [if_neg h64] at h; exact False.elim h
    · exact False.elim h
  · exact False.elim h
theorem snd_sortset {m : Bool} {a : E} (sa : Snd Y Φ G C k a) : Snd Y Φ G C k (.g1 m .sortset a) := by
  have key : ∀ {ns : Names} {p : Expr}, chkE C ns (.g1 m .sortset a) p = true → ∃ px py p1 pq pr, p = .Call (.Name "sorted" px) [.Call (.Name "set" py) [p1] [] pq] [] pr ∧ glB ns "sorted" = true ∧ ("sorted" : Str) ∈ C.bs ∧ glB ns "set" = true ∧ ("set" : Str) ∈ C.bs ∧ notStar p1 = true ∧ chkE C ns a p1 = true ∧ C.calm = true := by
    intro ns p q
    unfold chkE at q
    split at q
    · rename_i x p1 hx
      obtain ⟨pp, pq, rfl⟩ := isCall_eq hx
      simp only [Bool.and_eq_true] at q
      obtain ⟨q0, q1, q2, q3, q4⟩ := q
      have ex := of_decide_eq_true q1
      subst ex
      split at q4
      · rename_i y p2 hy
        obtain ⟨py, pr, rfl⟩ := isCall_eq hy
        simp only [Bool.and_eq_true] at q4
        obtain ⟨a1, a2, a3, a4, a5⟩ := q4
        have ey := of_decide_eq_true a1
        subst ey
        exact ⟨_, _, _, _, _, rfl, q2, mem_of q3, a2, mem_of a3, a4, a5, q0⟩
      · cases q4
    · cases q
  refine mkSnd rfl (fun ns p q => ?_) fun {X ns W p} c tk q => ?_
  · obtain ⟨_, _, _, _, _, rfl, _⟩ := key q; rfl
  · obtain ⟨px, py, p1, pq, pr, rfl, q1, q2, q3, q4, q5, q6, q7⟩ := key q
    have hs : PE X (.Call (.Name "set" py) [p1] [] pq) (tCB (rMkSet Y X.w) (tCons (tE Y Φ G W a) tNil)) :=
      pe_callTy (call_mkset c.K (c.calm q7).1) (gl_ok c q3) (c.bt _ q4) (by decide +kernel) (pa_cons (sa.pe c tk q6) pa_nil (star_cons q5)) (by decide +kernel) (by decide +kernel) (star_cons q5) rfl
    refine PEimp (pe_callB (cr_sortedSet (c.calm q7).1) (gl_ok c q1) (c.bt _ q2) (by decide +kernel) (pa_cons hs pa_nil) (by decide +kernel) (by decide +kernel) rfl rfl) fun σ H Q ⟨F, μ, st, env, g, en, h⟩ => ?_
    refine goE g en h fun F1 μ1 H1 x st1 w e1 g1 en1 r1 hh => ?_
    exact set_read (a := a) c.K g1 r1 hh
theorem set_read1 {ns0 : List Int} {xs : List Val} (hK : X.K = Y.K) {F H : Hp} {μ : Nat → Addr} {st : Store} {x : Val} {w : V} {Q : VK} (g : Good Y.kf F μ st H) (r : RepV Y.kf F μ st.length x w) (hq : seqOf st x = some (true, xs)) (hn : asInts xs = some ns0) (h64 : ns0.length < 64) (q : ∀ H', (∀ b o, H b = some o → H' b = some o) → Good Y.kf F μ st H' → Ext F μ st H F μ st H' → Q (.int (sortS ns0).length) H') :
    rMkSet Y X.w [w] H (fun v H1 => ∃ (p : Addr) (ns : List Int) (n : Nat), [v] = [V.ref p] ∧ H1 p = some (SetO X.w p (fun j => decide (j ∈ ns)) n) ∧ n < 64 ∧ Q (.int (sortS ns).length) H1) := by
  refine ⟨F, μ, st, x, w, xs, ns0, rfl, g, r, hq, hn, h64, fun p n hp hn' => ⟨p, ns0, n, rfl, upd_same, hn', q _ (fun b o e => by rw [upd_ne (ne_of_none e hp)]; exact e) (g.beside hp) ?_⟩⟩
  exact ⟨Same.refl _, fun _ _ => rfl, Nat.le_refl _, fun b u hb _ => by rw [upd_ne (ne_of_none hb hp)]; exact hb, fun i d hd ld => .inl ⟨d, hd, ld⟩, fun b u hb => ⟨u, by rw [upd_ne (ne_of_none hb hp)]; exact hb⟩, fun _ _ h => .inl h⟩
theorem snd_lenset {a : E} (sa : Snd Y Φ G C k a) : Snd Y Φ G C k (.f1 .lenset a) := by
  have key : ∀ {ns : Names} {p : Expr}, chkE C ns (.f1 .lenset a) p = true → ∃ px py p1 pq pr, p = .Call (.Name "len" px) [.Call (.Name "set" py) [p1] [] pq] [] pr ∧ glB ns "len" = true ∧ ("len" : Str) ∈ C.bs ∧ glB ns "set" = true ∧ ("set" : Str) ∈ C.bs ∧ notStar p1 = true ∧ chkE C ns a p1 = true ∧ C.calm = true := by
    intro ns p q
    unfold chkE at q
    split at q
    · rename_i x p1 hx
      obtain ⟨pp, pq, rfl⟩ := isCall_eq hx
      simp only [Bool.and_eq_true] at q
      obtain ⟨q0, q1, q2, q3, q4⟩ := q
      have ex := of_decide_eq_true q1
      subst ex
      split at q4
      · rename_i y p2 hy
        obtain ⟨py, pr, rfl⟩ := isCall_eq hy
        simp only [Bool.and_eq_true] at q4
        obtain ⟨a1, a2, a3, a4, a5⟩ := q4
        have ey := of_decide_eq_true a1
        subst ey
        exact ⟨_, _, _, _, _, rfl, q2, mem_of q3, a2, mem_of a3, a4, a5, q0⟩
      · cases q4
    · cases q
  refine mkSnd rfl (fun ns p q => ?_) fun {X ns W p} c tk q => ?_
  · obtain ⟨_, _, _, _, _, rfl, _⟩ := key q; rfl
  · obtain ⟨px, py, p1, pq, pr, rfl, q1, q2, q3, q4, q5, q6, q7⟩ := key q
    have hs : PE X (.Call (.Name "set" py) [p1] [] pq) (tCB (rMkSet Y X.w) (tCons (tE Y Φ G W a) tNil)) :=
      pe_callTy (call_mkset c.K (c.calm q7).1) (gl_ok c q3) (c.bt _ q4) (by decide +kernel) (pa_cons (sa.pe c tk q6) pa_nil (star_cons q5)) (by decide +kernel) (by decide +kernel) (star_cons q5) rfl
    refine PEimp (pe_callB call_lenset (gl_ok c q1) (c.bt _ q2) (by decide +kernel) (pa_cons hs pa_nil) (by decide +kernel) (by decide +kernel) rfl rfl) fun σ H Q ⟨F, μ, st, env, g, en, h⟩ => ?_
    refine goE g en h fun F1 μ1 H1 x st1 w e1 g1 en1 r1 hh => ?_
    change RP Y F1 μ1 st1 H1 ((match seqOf st1 x with | some (true, xs) => (match asInts xs with | some ns => if ns.length < 64 then R.ok (Val.int (sortS ns).length) else .stuck | none => .stuck) | _ => .stuck).bind fun y => .ok (y, st1)) (kV Y Q) (at_ W σ) at hh
    split at hh
    · rename_i xs hq
      split at hh
      · rename_i ns hn
        by_cases h64 : ns.length < 64
        · rw [if_pos h64] at hh
          exact set_read1 c.K g1 r1 hq hn h64 fun H' _ g' e' => hh F1 μ1 H' e' g' _ rfl
        · rw [if_neg h64] at hh; exact False.elim hh
      · exact False.elim hh
    · exact False.elim hh
theorem snd_f1 {f : F1} {a : E} (sa : Snd Y Φ G C k a) : Snd Y Φ G C k (.f1 f a) := by
  by_cases hf : f = .lenset
  · subst hf; exact snd_lenset sa
  · exact snd_f1' hf sa
theorem g1_key {f : G1} {m : Bool} {a : E} {ns : Names} {p : Expr} (hf : f ≠ .sortset) (q : chkE C ns (.g1 m f a) p = true) : ∃ px p1 pq, p = .Call (.Name (g1Str f) px) [p1] [] pq ∧ glB ns (g1Str f) = true ∧ notStar p1 = true ∧ g1Str f ∈ C.bs ∧ chkE C ns a p1 = true := by
  have q' : (match isCall p with
    | some (x, [p]) => decide (x = g1Str f) && (glB ns x && (notStar p && (C.bs.contains x && chkE C ns a p)))
    | _ => false) = true := by
    cases f <;> first | exact absurd rfl hf | (unfold chkE at q; exact q)
  split at q'
  · rename_i x p1 hx
    obtain ⟨pp, pq, rfl⟩ := isCall_eq hx
    simp only [Bool.and_eq_true] at q'
    obtain ⟨q1, q2, q3, q4, q5⟩ := q'
    have ex := of_decide_eq_true q1
    subst ex
    exact ⟨_, _, _, rfl, q2, q3, mem_of q4, q5⟩
  · cases q'
theorem snd_g1 {m : Bool} {f : G1} {a : E} (sa : Snd Y Φ G C k a) : Snd Y Φ G C k (.g1 m f a) := by
  by_cases hf : f = .sortset
  · subst hf; exact snd_sortset sa
  · refine mkSnd rfl (fun ns p q => ?_) fun {X ns W p} c tk q => ?_
    · obtain ⟨_, _, _, rfl, _⟩ := g1_key hf q; rfl
    · obtain ⟨px, p1, pq, rfl, q2, q3, q4, q5⟩ := g1_key hf q
      refine ⟨fun pins s σ H Q I ⟨F, μ, st, env, g, en, h⟩ => ?_⟩
      have hA := pa_cons (sa.pe c tk q5) (pa_nil (X := X)) (star_cons q3)
      have red : tCB (rG1 Y (at_ W σ) m f) (tCons (tE Y Φ G W a) tNil) σ H Q := by
        refine goE g en h fun F1 μ1 H1 x st1 w e1 g1 en1 r1 hh => ?_
        exact ⟨F1, μ1, st1, x, w, rfl, g1, r1, hh⟩
      cases f with
      | list => exact (pe_callTy (call_g_list c.K) (gl_ok c q2) (c.bt _ q4) (by decide +kernel) hA (by decide +kernel) (by decide +kernel) (star_cons q3) rfl).run pins s σ H Q I red
      | tuple => exact (pe_callTy (call_g_tuple c.K) (gl_ok c q2) (c.bt _ q4) (by decide +kernel) hA (by decide +kernel) (by decide +kernel) (star_cons q3) rfl).run pins s σ H Q I red
      | sorted => exact (pe_callB (call_g_sorted c.K c.units) (gl_ok c q2) (c.bt _ q4) (by decide +kernel) hA (by decide +kernel) (by decide +kernel) (star_cons q3) rfl).run pins s σ H Q I red
      | sortset => exact absurd rfl hf
theorem snd_sub {a i : E} (sa : Snd Y Φ G C k a) (si : Snd Y Φ G C k i) : Snd Y Φ G C k (.sub a i) := by
  have key : ∀ {ns : Names} {p : Expr}, chkE C ns (.sub a i) p = true → ∃ p1 p2 pq, p = .Subscript p1 p2 pq ∧ notSlice p2 = true ∧ chkE C ns a p1 = true ∧ chkE C ns i p2 = true := by
    intro ns p q
    unfold chkE at q
    split at q
    · rename_i x y hx
      obtain ⟨pp, rfl⟩ := isSub_eq hx
      simp only [Bool.and_eq_true] at q
      exact ⟨_, _, _, rfl, q.1, q.2.1, q.2.2⟩
    · cases q
  refine mkSnd rfl (fun ns p q => ?_) fun {X ns W p} c tk q => ?_
  · obtain ⟨_, _, _, rfl, _⟩ := key q; rfl
  · obtain ⟨p1, p2, pq, rfl, q1, q2, q3⟩ := key q
    refine PEimp (pe_ix (ix_all (Y := Y) c.K) (sa.pe c tk q2) (si.pe c tk q3) (plain_ix q1)) fun σ H Q ⟨F, μ, st, env, g, en, h⟩ => ?_
    refine goE g en h fun F1 μ1 H1 x st1 w e1 g1 en1 r1 hh => ?_
    refine goE g1 en1 hh fun F2 μ2 H2 y st2 u e2 g2 en2 r2 hh2 => ?_
    obtain ⟨t, ht, q8⟩ := RP.bindP ix_noexn hh2
    exact ⟨F2, μ2, st2, x, y, t, g2, e2.v r1, r2, ht, fun z hz => q8 F2 μ2 H2 Ext.refl g2 z hz⟩
/-- a slice's part -/
def tP (Y : Fx) (Φ : Tab) (G : Str → Option Val) (W : WX) (lo : E) : TO := fun σ H Q => ∃ F μ st env, Good Y.kf F μ st H ∧ EnvOk Y F μ st.length env σ ∧
  RP Y F μ st H (((ev Φ G lo).v env st).bind fun q => (partV (isNo lo) q.1).bind fun l => .ok (l, q.2)) (fun _ _ H o _ => Q o H) (at_ W σ)
theorem part_ok {lo : E} (sl : Snd Y Φ G C k lo) {l : Option Expr} (c : Ctx X Y Φ G C ns k) (tk : Tk X W) (q : (match l with | none => isNo lo | some l => !isNo lo && chkE C ns lo l) = true) : PO X l (tP Y Φ G W lo) := by
  cases l with
  | none =>
    cases lo with
    | no => exact ⟨fun pins s σ H Q I ⟨F, μ, st, env, g, en, h⟩ => po_none.run pins s σ H Q I (h F μ H Ext.refl g)⟩
    | _ => cases q
  | some l =>
    simp only [Bool.and_eq_true] at q
    have hn : isNo lo = false := by simpa using q.1
    refine ⟨fun pins s σ H Q I ⟨F, μ, st, env, g, en, h⟩ => (po_some (sl.pe c tk q.2)).run pins s σ H Q I ?_⟩
    refine goE g en h fun F1 μ1 H1 x st1 w e1 g1 en1 r1 hh => ?_
    rw [hn] at hh
    cases x with
    | int i => exact ⟨i, r1, hh F1 μ1 H1 Ext.refl g1⟩
    | _ => exact False.elim hh
theorem snd_slc {m : Bool} {a lo hi : E} (sa : Snd Y Φ G C k a) (sl : Snd Y Φ G C k lo) (sh : Snd Y Φ G C k hi) : Snd Y Φ G C k (.slc m a lo hi) := by
  have key : ∀ {ns : Names} {p : Expr}, chkE C ns (.slc m a lo hi) p = true → ∃ p1 l h ps pq, p = .Subscript p1 (.Slice l h none ps) pq ∧ chkE C ns a p1 = true ∧ (match l with | none => isNo lo | some l => !isNo lo && chkE C ns lo l) = true ∧ (match h with | none => isNo hi | some l => !isNo hi && chkE C ns hi l) = true := by
    intro ns p q
    unfold chkE at q
    split at q
    · rename_i x y hx
      obtain ⟨pp, rfl⟩ := isSub_eq hx
      rw [Bool.and_eq_true] at q
      obtain ⟨q1, q2⟩ := q
      split at q2
      · rename_i l h hs
        obtain ⟨ps, rfl⟩ := isSlice_eq hs
        rw [Bool.and_eq_true] at q2
        exact ⟨_, _, _, _, _, rfl, q1, q2.1, q2.2⟩
      · cases q2
    · cases q
  refine mkSnd rfl (fun ns p q => ?_) fun {X ns W p} c tk q => ?_
  · obtain ⟨_, _, _, _, _, rfl, _⟩ := key q; rfl
  · obtain ⟨p1, l, hh, ps, pq, rfl, q1, q2, q3⟩ := key q
    refine ⟨fun pins s σ H Q I ⟨F, μ, st, env, g, en, h⟩ => ?_⟩
    refine (pe_slice (sl_all (Y := Y) (W := at_ W σ) (m := m) c.K) (sa.pe c tk q1) (part_ok sl c tk q2) (part_ok sh c tk q3)).run pins s σ H Q I ?_
    refine goE g en h fun F1 μ1 H1 x st1 w e1 g1 en1 r1 h1 => ?_
    refine ⟨F1, μ1, st1, env, g1, en1, ?_⟩
    have h1' : RP Y F1 μ1 st1 H1 ((((ev Φ G lo).v env st1).bind fun q => (partV (isNo lo) q.1).bind fun l => R.ok (l, q.2)).bind fun lq => (((ev Φ G hi).v env lq.2).bind fun r => (partV (isNo hi) r.1).bind fun h' => R.ok (h', r.2)).bind fun hq => slcV m hq.2 x lq.1 hq.1) (kV Y Q) (at_ W σ) := by
      have ee : ((((ev Φ G lo).v env st1).bind fun q => (partV (isNo lo) q.1).bind fun l => R.ok (l, q.2)).bind fun lq => (((ev Φ G hi).v env lq.2).bind fun r => (partV (isNo hi) r.1).bind fun h' => R.ok (h', r.2)).bind fun hq => slcV m hq.2 x lq.1 hq.1) =
          (((ev Φ G lo).v env st1).bind fun q => (partV (isNo lo) q.1).bind fun l' => ((ev Φ G hi).v env q.2).bind fun r => (partV (isNo hi) r.1).bind fun h' => slcV m r.2 x l' h') := by
        cases (ev Φ G lo).v env st1 with
        | ok q0 =>
          simp only [R.bind_ok]
          cases partV (isNo lo) q0.1 with
          | ok l0 =>
            simp only [R.bind_ok]
            cases (ev Φ G hi).v env q0.2 with
            | ok r0 =>
              simp only [R.bind_ok]
              cases partV (isNo hi) r0.1 <;> rfl
            | _ => rfl
          | _ => rfl
        | _ => rfl
      rw [ee]; exact h1
    refine h1'.bind.impE fun F2 μ2 H2 l0 st2 _ e2 g2 h2 => ?_
    refine ⟨F2, μ2, st2, env, g2, e2.env en1, ?_⟩
    refine h2.bind.impE fun F3 μ3 H3 u0 st3 _ e3 g3 h3 => ?_
    exact ⟨F3, μ3, st3, x, g3, e3.v (e2.v r1), h3⟩
theorem snd_no : Snd Y Φ G C k .no where
  pe := fun c tk q => by cases q
  pt := fun c tk q => by cases q
  pi := fun tg c tk q => by cases q
theorem rng_key {es : Es} {ns : Names} {p : Expr} (q : chkE C ns (.rng es) p = true) : ∃ px ps pq, p = .Call (.Name "range" px) ps [] pq ∧ glB ns "range" = true ∧ ("range" : Str) ∈ C.bs ∧ (ps.length = 1 ∨ ps.length = 2) ∧ noStars ps = true ∧ chkEs C ns es ps = true := by
  unfold chkE at q
  split at q
  · rename_i x ps hx
    obtain ⟨pp, pq, rfl⟩ := isCall_eq hx
    simp only [Bool.and_eq_true, Bool.or_eq_true, decide_eq_true_eq] at q
    obtain ⟨q1, q2, q3, q4, q5, q6⟩ := q
    subst q1
    exact ⟨_, _, _, rfl, q2, mem_of q3, q4, q5, q6⟩
  · cases q
theorem snd_rng {es : Es} (ss : Snds Y Φ G C k es) : Snd Y Φ G C k (.rng es) where
  pe := fun c tk q => ⟨fun pins s σ H Q I ⟨F, μ, st, env, g, en, h⟩ => False.elim h⟩
  pt := fun c tk q => pt_stuck rfl
  pi := fun {X ns W p} tg c tk q => by
    obtain ⟨px, ps, pq, rfl, q2, q3, q4, q5, q6⟩ := rng_key q
    have red : ∀ {σ : L2.St} {H : Hp} {R : It → Hp → Prop}, tI Y Φ G W (.rng es) σ H R → tA Y Φ G W es σ H fun vs H1 => (∃ j : Int, vs = [.int j] ∧ -1000000 ≤ j ∧ j ≤ 1000000 ∧ R (Itr 0 j.toNat) H1) ∨ (∃ i j : Int, vs = [.int i, .int j] ∧ (-1000000 ≤ i ∧ i ≤ 1000000 ∧ -1000000 ≤ j ∧ j ≤ 1000000) ∧ R (Itr i (j - i).toNat) H1) := fun {σ H R} ⟨F, μ, st, env, g, en, h⟩ => by
      refine goA g en h fun F1 μ1 H1 xs st1 ws e1 g1 en1 r1 hh => ?_
      obtain ⟨t, ht, q8⟩ := RP.bindP rng_noexn hh
      unfold rngV at ht
      split at ht
      · rename_i j hj0
        have hx0 : xs = [.int j] := hj0
        subst hx0
        by_cases hj : rngOk j = true
        · rw [if_pos hj] at ht
          cases ht
          obtain ⟨v, r, rfl, hv, hr⟩ := r1
          cases hr
          have ev' : v = .int j := hv
          subst ev'
          have b := of_decide_eq_true hj
          exact .inl ⟨j, rfl, b.1, b.2, q8 F1 μ1 H1 Ext.refl g1 _ _ (repL_range 0 j.toNat) (walk_rng F1 0 j.toNat)⟩
        · rw [if_neg hj] at ht; cases ht
      · rename_i i j hj0
        have hx0 : xs = [.int i, .int j] := hj0
        subst hx0
        by_cases hj : (rngOk i && rngOk j) = true
        · rw [if_pos hj] at ht
          cases ht
          obtain ⟨v, r, rfl, hv, v2, r2, rfl, hv2, hr⟩ := r1
          cases hr
          have ev' : v = .int i := hv
          have ev2 : v2 = .int j := hv2
          subst ev' ev2
          rw [Bool.and_eq_true] at hj
          have b := of_decide_eq_true hj.1
          have b' := of_decide_eq_true hj.2
          exact .inr ⟨i, j, rfl, ⟨b.1, b.2, b'.1, b'.2⟩, q8 F1 μ1 H1 Ext.refl g1 _ _ (repL_range i (j - i).toNat) (walk_rng F1 i (j - i).toNat)⟩
        · rw [if_neg hj] at ht; cases ht
      · cases ht
    have lenA : ∀ {σ : L2.St} {H : Hp} {Q : List V → Hp → Prop}, tA Y Φ G W es σ H Q → tA Y Φ G W es σ H fun vs H1 => vs.length = ps.length ∧ Q vs H1 := fun {σ H Q} ⟨F, μ, st, env, g, en, h⟩ =>
      ⟨F, μ, st, env, g, en, h.impE fun F1 μ1 H1 xs st1 ex e1 g1 hh ws r => ⟨by rw [r.len]; exact chkEs_len q6 ex, hh ws r⟩⟩
    have hA := ss.pa c tk q6
    rcases q4 with q4 | q4
    · match ps, q4 with
      | [p1], _ =>
        have n1 : notStar p1 = true := by
          have z : (notStar p1 && true) = true := q5
          rwa [Bool.and_true] at z
        refine PIimp (pi_range1 (gl_ok c q2) (c.bt _ q3) hA (star_cons n1)) fun σ H R h => ?_
        obtain ⟨F, μ, st, env, g, en, h2⟩ := lenA (red h)
        refine ⟨F, μ, st, env, g, en, h2.impE fun F1 μ1 H1 xs st1 ex e1 g1 hh ws r => ?_⟩
        obtain ⟨hl, hq⟩ := hh ws r
        rcases hq with ⟨j, rfl, b1, b2, hR⟩ | ⟨i, j, rfl, _⟩
        · exact ⟨j, rfl, by omega, by omega, hR⟩
        · cases hl
    · match ps, q4 with
      | [p1, p2], _ =>
        have n1 : notStar p1 = true ∧ notStar p2 = true := by
          have z : (notStar p1 && (notStar p2 && true)) = true := q5
          rwa [Bool.and_true, Bool.and_eq_true] at z
        refine PIimp (pi_range2 (gl_ok c q2) (c.bt _ q3) hA (by rw [star_cons n1.1, star_cons n1.2]; rfl) (by rw [star_cons n1.2]; rfl)) fun σ H R h => ?_
        obtain ⟨F, μ, st, env, g, en, h2⟩ := lenA (red h)
        refine ⟨F, μ, st, env, g, en, h2.impE fun F1 μ1 H1 xs st1 ex e1 g1 hh ws r => ?_⟩
        obtain ⟨hl, hq⟩ := hh ws r
        rcases hq with ⟨j, rfl, _⟩ | ⟨i, j, rfl, b, hR⟩
        · cases hl
        · exact ⟨i, j, rfl, ⟨by omega, by omega, by omega, by omega⟩, hR⟩
theorem snd_frz {a : E} (sa : Snd Y Φ G C k a) : Snd Y Φ G C k (.frz a) := by
  refine mkNSnd rfl fun {X ns W p} c tk q => ?_
  refine PEimp (sa.pe c tk (by unfold chkE at q; exact q)) fun σ H Q ⟨F, μ, st, env, g, en, h⟩ => ?_
  refine goE g en h fun F1 μ1 H1 x st1 w e1 g1 en1 r1 hh => ?_
  have plain : ∀ {v : Val}, RepV Y.kf F1 μ1 st1.length v w → RP Y F1 μ1 st1 H1 (.ok (v, st1)) (kV Y Q) (at_ W σ) → Q w H1 := fun r h => h F1 μ1 H1 Ext.refl g1 w r
  cases x with
  | loc n =>
    change RP Y F1 μ1 st1 H1 (match st1[n]? with | some (.lst xs) => .ok (.lst xs, st1.set n (.frz xs)) | some (.frz xs) => .ok (.lst xs, st1) | some (.obj c ns xs) => .ok (.obj c ns xs, st1.set n (.fob c ns xs)) | some (.fob c ns xs) => .ok (.obj c ns xs, st1) | _ => .stuck) (kV Y Q) (at_ W σ) at hh
    obtain ⟨hw, hn⟩ := r1
    split at hh
    · rename_i xs hc
      obtain ⟨F2, g2, e2, r2⟩ := g1.freeze hc
      rw [hw]
      exact hh F2 μ1 H1 e2 g2 _ r2
    · rename_i xs hc
      obtain ⟨vs, h1, h2⟩ := g1.st.cell n _ hc
      rw [hw]
      exact hh F1 μ1 H1 Ext.refl g1 _ ⟨_, vs, rfl, h1, h2⟩
    · rename_i cc ns xs hc
      obtain ⟨F2, g2, e2, r2⟩ := g1.freezeO hc
      rw [hw]
      exact hh F2 μ1 H1 e2 g2 _ r2
    · rename_i cc ns xs hc
      have r2 := g1.st.cell n _ hc
      rw [hw]
      exact hh F1 μ1 H1 Ext.refl g1 _ r2
    · exact False.elim hh
  | non => exact plain r1 hh
  | bl _ => exact plain r1 hh
  | int _ => exact plain r1 hh
  | str _ => exact plain r1 hh
  | tup _ => exact plain r1 hh
  | lst _ => exact plain r1 hh
  | scr _ => exact plain r1 hh
  | obj _ _ _ => exact plain r1 hh
theorem snd_app {o a : E} (so : Snd Y Φ G C k o) (sa : Snd Y Φ G C k a) : Snd Y Φ G C k (.app o a) := by
  refine mkNSnd rfl fun {X ns W p} c tk q => ?_
  unfold chkE at q
  split at q
  · rename_i po m p1 kk hx
    obtain ⟨pp, pq, rfl, hkk⟩ := isMeth_eq hx
    simp only [Bool.and_eq_true] at q
    obtain ⟨q1, q2, q3, q4, q5, q6⟩ := q
    have em := of_decide_eq_true q1
    subst em
    rw [hkk] at q2
    have hst : noStars [p1] = true := by show (notStar p1 && true) = true; rw [q4]; rfl
    refine PEimp (pe_bm PySem.F.plainAttrs_list PySem.F.slot_list_append PySem.F.type_list_append mt_append (so.pe c tk q5) (pa_cons (sa.pe c tk q6) pa_nil (star_cons q4)) (base_id q3) (by rw [star_all hst]; rfl) q2 (star_cons q4) rfl) fun σ H Q ⟨F, μ, st, env, g, en, h⟩ => ?_
    refine goE g en h fun F1 μ1 H1 x st1 w e1 g1 en1 r1 hh => ?_
    by_cases hc : isCell st1 x = true
    · rw [if_pos hc] at hh
      cases x with
      | loc n =>
        obtain ⟨hw, hn⟩ := r1
        have hc' : (match st1[n]? with | some (.lst _) => true | _ => false) = true := hc
        split at hc'
        · rename_i xs hcell
          obtain ⟨_, vs, h3, _⟩ := g1.st.cell n _ hcell
          refine ⟨by rw [hw]; exact .inl ⟨rfl, vs, SqL.of h3⟩, ?_⟩
          refine goE g1 en1 hh fun F2 μ2 H2 y st2 u e2 g2 en2 r2 hh2 => ?_
          change RP Y F2 μ2 st2 H2 (match st2[n]? with | some (.lst xs) => if xs.length < szMax then .ok (.non, st2.set n (.lst (xs ++ [y]))) else .stuck | _ => .stuck) (kV Y Q) (at_ W σ) at hh2
          split at hh2
          · rename_i ys hy
            by_cases hl : ys.length < szMax
            · rw [if_pos hl] at hh2
              obtain ⟨hF, ws, h4, h5⟩ := g2.st.cell n _ hy
              have hn2 : μ2 n = μ1 n := e2.mu n hn
              refine ⟨μ2 n, ws, u, by rw [hw, hn2], rfl, h4, by rw [h5.len]; exact Nat.lt_of_lt_of_le hl (by rw [sizeLine_eq]; decide), ?_⟩
              obtain ⟨g3, e3⟩ := g2.write hy rfl (c' := .lst (ys ++ [y])) rfl (o := .lst (ws ++ [u])) ⟨hF, _, upd_same, h5.append ⟨u, [], rfl, r2, rfl⟩⟩
              exact hh2 _ _ _ e3 g3 _ rfl
            · rw [if_neg hl] at hh2; exact False.elim hh2
          · exact False.elim hh2
        · cases hc'
      | _ => cases hc
    · rw [if_neg hc] at hh; exact False.elim hh
  · cases q
end
end MP
/-! MiniPy: in an except suite: a field of the caught error, isinstance of it. -/
namespace MP
open PySem L2 PySem.Spec PyProof.Rows

section
variable {Y : Fx} {Φ : Tab} {G : Str → Option Val} {C : Cfg} {k : Nat} {X : Cx} {ns : Names} {W : WX}
theorem idxF_get : ∀ {ns : List Str} {f : Str} {j : Nat} {vs : List V} {v : V}, idxF f ns = some j → vs[j]? = some v → ns.length = vs.length → (ns.zip vs).lookup f = some v ∧ f ∈ ns
  | [], _, _, _, _, h, _, _ => by cases h
  | n :: ns, f, j, vs, v, h, hv, hl => by
    cases vs with
    | nil => cases hl
    | cons u vs =>
      rw [List.zip_cons_cons, lk_put]
      unfold idxF at h
      by_cases hf : f = n
      · rw [if_pos hf] at h ⊢
        cases h
        exact ⟨by simpa using hv, by rw [hf]; exact List.mem_cons_self ..⟩
      · rw [if_neg hf] at h ⊢
        cases hi : idxF f ns with
        | none => rw [hi] at h; cases h
        | some i =>
          rw [hi] at h; cases h
          obtain ⟨h1, h2⟩ := idxF_get hi (by simpa using hv) (by simpa using hl)
          exact ⟨h1, List.mem_cons_of_mem _ h2⟩
/-- the name of the caught error -/
theorem err_ok (c : Ctx X Y Φ G C ns k) {p : Expr} (h : errB C ns p = true) : ∃ y pos i, p = .Name y pos ∧ C.hot = true ∧ C.eI = some i ∧ PE X p (tVar i) ∧ notSet p = true := by
  unfold errB at h
  split at h
  · rename_i y hy
    obtain ⟨pos, rfl⟩ := isName_eq hy
    simp only [Bool.and_eq_true] at h
    obtain ⟨⟨h1, h2⟩, h3, h4⟩ := h
    split at h2
    · rename_i i hi
      have hN := of_decide_eq_true h2
      exact ⟨y, pos, i, rfl, h1, hi, pe_var (i := i) (by rw [c.N]; exact hN) (vis_ok c h3) (okName_1 h4) (okName_2 h4), rfl⟩
    · cases h2
  · cases h
/-- what stands in the hidden names -/
structure Caught (X : Cx) (Y : Fx) (C : Cfg) (F : Hp) (μ : Nat → Addr) (n : Nat) (env : Env) (σ : L2.St) (c : Str) (fs : List Val) : Prop where
  cls : env[C.N.length]? = some (some (.str c))
  fld : env[C.N.length + 1]? = some (some (.tup fs))
  mem : c ∈ C.eD
  made : ∃ (Ca : Addr) (nsx : List Str) (dd : Addr) (vs : List V), Y.cC = .ref Ca ∧ Y.Xn c = some nsx ∧ Y.mg c = some (.ref Ca) ∧ Y.cD = some dd ∧ nsx.length = vs.length ∧ F dd = some (.xd (nsx.zip vs)) ∧ RepL Y.kf F μ n fs vs ∧ ExIs Y.K Ca ∧ (∀ m ∈ nsx, PySem.W.findIn Y.K (.ref Ca) m = some none) ∧ (c, nsx) ∈ C.xn
  slot : ∀ i, C.eI = some i → σ[i]? = some (some (.ref Y.cA))
theorem caught (c : Ctx X Y Φ G C ns k) (hh : C.hot = true) {F : Hp} {μ : Nat → Addr} {n : Nat} {env : Env} {σ : L2.St} (en : EnvOk Y F μ n env σ) : ∃ cn fs, Caught X Y C F μ n env σ cn fs := by
  obtain ⟨h0, cn, fs, dd, nsx, vs, h1, h2, hd, h3, h4, h5, h6, h7, h8, h9⟩ := en.warm (by rw [c.hot]; exact hh)
  obtain ⟨e1, e2, e3⟩ := c.hotx hh
  have el : σ.length = C.N.length := h0.trans e1
  rw [el] at h1 h2
  obtain ⟨Ca, Da, fI, st, m1, m2, _, m4⟩ := c.tb.made cn nsx h4
  have eC : Y.cC = .ref Ca := Option.some.inj (h3.symm.trans m1)
  exact ⟨cn, fs, h1, h2, by rw [← e3]; exact hd, ⟨Ca, nsx, dd, vs, eC, h4, m1, h5, h6, h7, h8, m4, m2.no, c.tb.xn cn nsx h4⟩, fun i hi => h9 i (by rw [e2]; exact hi)⟩
theorem snd_xfld (h j : Nat) : Snd Y Φ G C k (.xfld h j) := by
  refine mkSnd rfl (fun ns p q => ?_) fun {X ns W p} c tk q => ?_
  · unfold chkE at q
    split at q
    · rename_i p f hx; obtain ⟨pp, rfl⟩ := isAttr_eq hx; rfl
    · cases q
  · unfold chkE at q
    split at q
    · rename_i p f hx
      obtain ⟨pp, rfl⟩ := isAttr_eq hx
      simp only [Bool.and_eq_true, List.all_eq_true] at q
      obtain ⟨q1, q2, q3⟩ := q
      have eh := of_decide_eq_true q1
      subst eh
      obtain ⟨y, pos, i, rfl, hhot, hI, hpe, _⟩ := err_ok c q2
      refine ⟨fun pins s σ H Q I ⟨F, μ, st, env, g, en, h⟩ => ?_⟩
      obtain ⟨cn, fs, hc⟩ := caught c hhot en
      obtain ⟨Ca, nsx, dd, vs, eC, eX, em, eD, el, hF, rl, T, hno, hxn⟩ := hc.made
      change RP Y F μ st H (match env[C.N.length + 1]? with | some (some (.tup fs)) => (match fs[j]? with | some v => .ok (v, st) | none => .stuck) | _ => .stuck) (kV Y Q) (at_ W σ) at h
      rw [hc.fld] at h
      have hj := q3 (cn, nsx) hxn
      have hmem : C.eD.contains cn = true := by simpa using hc.mem
      rw [hmem, Bool.not_true, Bool.false_or] at hj
      have hidx := of_decide_eq_true hj
      simp only at h
      split at h
      · rename_i x hx
        obtain ⟨v, hv, rv⟩ := rl.get hx
        obtain ⟨hlook, hin⟩ := idxF_get hidx hv el
        obtain ⟨X0, oe, pn, rfl, hz, hf⟩ := c.suite hhot
        have hTX : XfC X0.K Ca := by have e := c.K; rw [show X0.K = Y.K from e]; exact ⟨T.ga, T.gt, T.sub, T.hd⟩
        have hnoX : PySem.W.findIn X0.K (.ref Ca) f = some none := by have e := c.K; rw [show X0.K = Y.K from e]; exact hno f hin
        refine (pe_xf (X := X0) (a := Y.cA) (C := Ca) (cls := Y.cC) (d := Y.cD) hTX hnoX hz hf hpe rfl).run pins s σ H Q I ?_
        exact ⟨.ref Y.cA, hc.slot i hI, rfl, eC, dd, _, v, eD, g.same _ _ hF, hlook, h F μ H Ext.refl g v rv⟩
      · exact False.elim h
    · cases q
theorem cls_ok (c : Ctx X Y Φ G C ns k) {y : Str × List Str} {p : Expr} (h : clsB C ns y p = true) : ∃ v u, PE X p (tC v) ∧ ClsV v u ∧ ∀ cn nsx cls, Y.Xn cn = some nsx → Y.mg cn = some cls → PySem.W.kitOne Y.K cls u = some (y.2.contains cn) := by
  unfold clsB at h
  split at h
  · rename_i x hx
    obtain ⟨pos, rfl⟩ := isName_eq hx
    simp only [Bool.and_eq_true] at h
    obtain ⟨h1, h2, h3, h4⟩ := h
    have e := of_decide_eq_true h1
    obtain ⟨v, u, a1, a2, a3, a4⟩ := c.tb.sub x y.2 (of_decide_eq_true h4)
    refine ⟨v, u, ?_, a1, fun cn nsx cls b1 b2 => (a4 cn nsx cls b1 b2).2⟩
    rcases a3 with a3 | ⟨a3, a5, a6⟩
    · exact pe_glob (gl_ok c h2) (by rw [c.mg]; exact a3) a2 (okName_1 h3)
    · exact pe_bltn (gl_ok c h2) (by rw [c.mg]; exact a3) a5 a2 a6 (okName_1 h3)
  · cases h
theorem clss_ok (c : Ctx X Y Φ G C ns k) : ∀ {ys : List (Str × List Str)} {ps : List Expr}, clssB C ns ys ps = true → ∃ vs us, PA X ps (fun _ H Q => Q vs H) ∧ Paired ClsV vs us ∧ vs.length = ys.length ∧
    ∀ cn nsx cls, Y.Xn cn = some nsx → Y.mg cn = some cls → PySem.W.kitAny Y.K cls us = some (ys.any fun p => p.2.contains cn)
  | [], [], _ => ⟨[], [], pa_nil, .nil, rfl, fun _ _ _ _ _ => rfl⟩
  | y :: ys, p :: ps, h => by
    have h' : (notStar p && (clsB C ns y p && clssB C ns ys ps)) = true := h
    simp only [Bool.and_eq_true] at h'
    obtain ⟨h1, h2, h3⟩ := h'
    obtain ⟨v, u, a1, a2, a3⟩ := cls_ok c h2
    obtain ⟨vs, us, b1, b2, b3, b4⟩ := clss_ok c h3
    refine ⟨v :: vs, u :: us, PAimp (pa_cons a1 b1 (star_cons h1)) fun σ H Q q => q, .cons a2 b2, by simp [b3], fun cn nsx cls e1 e2 => ?_⟩
    have k1 := a3 cn nsx cls e1 e2
    have k2 := b4 cn nsx cls e1 e2
    unfold PySem.W.kitAny
    rw [k1]
    cases hb : y.2.contains cn with
    | true => simp only [List.any_cons, hb, Bool.true_or]
    | false => simp only [List.any_cons, hb, Bool.false_or]; exact k2
  | [], _ :: _, h => by cases h
  | _ :: _, [], h => by cases h
theorem snd_xis (h : Nat) (ys : List (Str × List Str)) : Snd Y Φ G C k (.xis h ys) := by
  refine mkSnd rfl (fun ns p q => ?_) fun {X ns W p} c tk q => ?_
  · unfold chkE at q
    split at q
    · rename_i x p1 p2 hx; obtain ⟨pp, pq, rfl⟩ := isCall_eq hx; rfl
    · cases q
  · unfold chkE at q
    split at q
    · rename_i x p1 p2 hx
      obtain ⟨pp, pq, rfl⟩ := isCall_eq hx
      simp only [Bool.and_eq_true] at q
      obtain ⟨q1, q2, q3, q4, q5, q6, q7, q8⟩ := q
      have ex := of_decide_eq_true q1
      have eh := of_decide_eq_true q2
      subst ex eh
      obtain ⟨y, pos, i, rfl, hhot, hI, hpe, _⟩ := err_ok c q3
      refine ⟨fun pins s σ H Q I ⟨F, μ, st, env, g, en, h⟩ => ?_⟩
      obtain ⟨cn, fs, hc⟩ := caught c hhot en
      obtain ⟨Ca, nsx, dd, vs, eC, eX, em, eD, el, hF, rl, T, hno, hxn⟩ := hc.made
      change RP Y F μ st H (match env[C.N.length]? with | some (some (.str c)) => .ok (.bl (ys.any fun p => p.2.contains c), st) | _ => .stuck) (kV Y Q) (at_ W σ) at h
      rw [hc.cls] at h
      have hslot := hc.slot i hI
      obtain ⟨X0, oe, pn, rfl, hz, hf⟩ := c.suite hhot
      have hTX : ExIs X0.K Ca := by have e := c.K; rw [show X0.K = Y.K from e]; exact T
      have eK : X0.K = Y.K := c.K
      have hz' : Zc (.ref Ca) (some dd) oe := by rw [← eC, ← eD]; exact hz
      have hgl := gl_ok c q4
      have hbt := c.bt _ (mem_of q5)
      split at q8
      · rename_i qs hqs
        obtain ⟨kk, pt, rfl⟩ := isTup_eq hqs
        rw [Bool.and_eq_true] at q8
        have hlen := of_decide_eq_true q8.1
        obtain ⟨ws, us, a1, a2, a3, a4⟩ := clss_ok c q8.2
        refine (pe_callB (call_isX hTX hz' hf) hgl hbt (by decide +kernel) (pa_cons hpe (pa_cons (pe_tup a1) pa_nil (star_cons q7)) (star_cons q6)) (by decide +kernel) (by decide +kernel) (star_cons q6) (star_any (by show (notStar _ && true) = true; rw [q7]; rfl))).run pins s σ H Q I ?_
        refine ⟨.ref Y.cA, hslot, ?_⟩
        refine ⟨by rw [a3, sizeLine_eq]; omega, fun tp htp => ?_⟩
        obtain ⟨g2, e2⟩ := g.frozen (o := .tup ws) htp
        refine ⟨⟨_, g2.same _ _ (e2.same _ _ hF)⟩, .inr ⟨tp, ws, us, _, rfl, upd_same, a2, by rw [eK]; exact a4 cn nsx _ eX em, ?_⟩⟩
        exact h _ _ _ e2 g2 _ (by simp [RepV])
      · rename_i hqs
        split at q8
        · rename_i y1
          obtain ⟨v, u, a1, a2, a3⟩ := cls_ok c q8
          refine (pe_callB (call_isX hTX hz' hf) hgl hbt (by decide +kernel) (pa_cons hpe (pa_cons a1 pa_nil (star_cons q7)) (star_cons q6)) (by decide +kernel) (by decide +kernel) (star_cons q6) (star_any (by show (notStar _ && true) = true; rw [q7]; rfl))).run pins s σ H Q I ?_
          refine ⟨.ref Y.cA, hslot, ⟨_, g.same _ _ hF⟩, .inl ⟨v, u, _, rfl, a2, by rw [eK]; exact a3 cn nsx _ eX em, ?_⟩⟩
          exact h F μ H Ext.refl g _ (by simp [RepV])
        · cases q8
    · cases q
end
end MP
/-! MiniPy: objects: fields, making, methods. -/
namespace L2
open PySem PySem.Spec PyProof.Rows
section
variable {X : Cx} {CX : CXT} {k : Nat} {f C : Addr} {fd : FuncData} {ps : List Str} {sp : Sp} {E : St → XK} {x m : Str} {p pos apos : Pos} {e o : Expr} {es : List Expr} {ta : TE} {t : TA}
theorem meth_ht {o : Expr} {m : Str} {apos pos : Pos} {args : List Expr} {env : Env} (hbase : attributeBase o m env (eval o env) = eval o env)
    (hfew : ((backTo pos (starEach args env)).all (fun x => !x.1) && (backToKw pos (keywordEach [] env)).all (fun x => x.1.isSome) && decide (args.length + ([] : List Keyword).length + (if ([] : List Keyword).isEmpty then 0 else 1) < 30)) = true) (hline : (apos.endLine == pos.line) = true) :
    eval (.Call (.Attribute o m apos) args [] pos) env = (do
      let ov ← eval o env
      standAt apos.atName
      let (f, first) ← holding [ov] (getMethod ov m (do return (← importBound o env).getD true))
      callWith pos f first (backTo pos (starEach args env)) (backToKw pos (keywordEach [] env))) := by
  have hform : methodCallForm (args.length + ([] : List Keyword).length) (backTo pos (starEach args env)) (backToKw pos (keywordEach [] env)) = true := hfew
  have hpos : methodCallPos true o env apos pos = pure pos := by unfold methodCallPos; simp [hline]
  rw [arm_eval_Call, hbase]
  unfold methodCall
  rw [hform, hpos]
  unfold calleeOf
  simp only [if_true, pure_bind]
def tMethZ (C : Addr) (m : Str) (sp : Sp) (E : St → XK) (ta : TE) (t : TA) : TE := fun σ H Q => ta σ H fun x H1 => ∃ a dx fs, x = .ref a ∧ H1 a = some (.ins C dx fs) ∧ fs.lookup m = none ∧ t σ H1 fun vs H2 => sp (x :: vs) H2 Q (E σ)
theorem pe_methZ (he : PE X o ta) (c : Cls X.K C) (hm : Meth X.K C m f) (F : FnOk X.prog X.w X.K X.mg X.base CX k f fd ps sp) (hr : Room k X.A) (hb : Binds X.K fd ps []) (hx : ∀ σ, PassesAt CX X σ (E σ)) (ha : PA X (e :: es) t)
    (hst : starEach (e :: es) X.env = (false, eval e X.env) :: starEach es X.env) (hpl : (backTo pos (starEach es X.env)).any (·.1) = false) (hbase : attributeBase o m X.env (eval o X.env) = eval o X.env)
    (hfew : ((backTo pos (starEach (e :: es) X.env)).all (fun x => !x.1) && (backToKw pos (keywordEach [] X.env)).all (fun x => x.1.isSome) && decide ((e :: es).length + ([] : List Keyword).length + (if ([] : List Keyword).isEmpty then 0 else 1) < 30)) = true) (hline : (apos.endLine == pos.line) = true) :
    PE X (.Call (.Attribute o m apos) (e :: es) [] pos) (tMethZ C m sp E ta t) := by
  refine ⟨fun pins s σ H Q I h => ?_⟩
  refine PySem.W.methodCall_KW (thn (he.run pins s σ H _ I h) fun u s1 ⟨x, H1, I1, rx, a, dx, fs, ex, ea, l, q⟩ => ?_) (meth_ht hbase hfew hline)
  subst ex
  obtain rfl : u = Value.ref a := rx
  refine getmeth_ok I1 ea c hm l ?_
  refine PySem.W.callWith_K (first := [.ref a]) (h₀ := X.base) I.ok.mod.kin hm.kp (thn (ha.run pos pins s1 σ H1 _ I1 q) fun us s2 ⟨vs, H2, I2, r, q2⟩ => ⟨I2.kIn, ?_⟩) hst hpl
  exact run_fnSD (us := .ref a :: us) (vs := .ref a :: vs) (dvs := []) F hr hb .nil (hx σ) I2 (.cons rfl r) (by rw [List.append_nil]; exact q2)
theorem pe_methZ0 (he : PE X o ta) (c : Cls X.K C) (hm : Meth X.K C m f) (F : FnOk X.prog X.w X.K X.mg X.base CX k f fd ps sp) (hr : Room k X.A) (hb : Binds X.K fd ps []) (hx : ∀ σ, PassesAt CX X σ (E σ)) (hbase : attributeBase o m X.env (eval o X.env) = eval o X.env) (hline : (apos.endLine == pos.line) = true) :
    PE X (.Call (.Attribute o m apos) [] [] pos) (tMethZ C m sp E ta tNil) := by
  refine ⟨fun pins s σ H Q I h => ?_⟩
  refine PySem.W.methodCall_KW (thn (he.run pins s σ H _ I h) fun u s1 ⟨x, H1, I1, rx, a, dx, fs, ex, ea, l, q⟩ => ?_) (meth_ht hbase rfl hline)
  subst ex
  obtain rfl : u = Value.ref a := rx
  refine getmeth_ok I1 ea c hm l ?_
  exact PySem.W.callWith_K0 (first := [.ref a]) I1.kIn hm.kp (run_fnSD (us := [.ref a]) (vs := [.ref a]) (dvs := []) F hr hb .nil (hx σ) I1 (.cons rfl .nil) q)
/-- C(..) -/
def tMakeZ (C : Addr) (sp : Sp) (E : St → XK) (t : TA) : TE := fun σ H Q => t σ H fun vs H1 => ∀ x dx, H1 x = none → H1 dx = none → dx ≠ x →
  sp (.ref x :: vs) (upd (upd H1 dx (.own x)) x (.ins C dx [])) (fun v H2 => v = .non ∧ Q (.ref x) H2) (E σ)
theorem run_makeZ {pins : List (Addr × Obj)} {σ : St} {H : Hp} {s : Shared} {Q : VK} {us : List Value} {vs : List V} (M : Mk X.K C f) (F : FnOk X.prog X.w X.K X.mg X.base CX k f fd ps sp) (hr : Room (k + 1) X.A) (hb : Binds X.K fd ps [])
    (hx : PassesAt CX X σ (E σ)) (I : Inv X pins σ H s) (r : Vals vs us)
    (h : ∀ x dx, H x = none → H dx = none → dx ≠ x → sp (.ref x :: vs) (upd (upd H dx (.own x)) x (.ins C dx [])) (fun v H2 => v = .non ∧ Q (.ref x) H2) (E σ)) :
    wpAny (model X.prog X.w) X.A (call (.ref C) us) (EP X pins σ Q) X.xe s := by
  have hq := h (s.heap.objs.size + 1) s.heap.objs.size (I.hok.fresh (Nat.le_succ _)) (I.hok.fresh (Nat.le_refl _)) (Nat.ne_of_lt (Nat.lt_succ_self _))
  have I2 := Inv.made (C := C) I
  have r2 : Vals (V.ref (s.heap.objs.size + 1) :: vs) (Value.ref (s.heap.objs.size + 1) :: us) := .cons rfl r
  have hl : (Value.ref (s.heap.objs.size + 1) :: us).length = ps.length := by
    have e := r2.length
    rw [F.len _ _ _ _ hq] at e
    exact e.symm
  refine wpAny_call (make_map (f := f) I.kIn M.makes M.init (beq_iff_eq.mp M.fn) (codeAny_mono (F.run _ X.stack _ _ ⟨Value.ref (s.heap.objs.size + 1) :: us, []⟩ (Value.ref (s.heap.objs.size + 1) :: us) _ _ (E σ) (hr.make C us [])
    (I2.env0.make C us []) (by have := hb _ (Value.ref (s.heap.objs.size + 1) :: us) I2.kIn (by rw [List.append_nil]; exact hl); rwa [List.append_nil] at this) r2 hq) fun r s' hq' => ?_))
  cases r with
  | error e => exact hx pins _ _ e s' I2 hq'
  | ok fl =>
    cases fl with
    | ret u =>
      obtain ⟨v, H', I3, rv, ev, q3⟩ := I2.after hq'
      subst ev
      exact ⟨rv, ⟨V.ref (s.heap.objs.size + 1), H', I3, rfl, q3⟩⟩
    | next => exact False.elim hq'
    | brk => exact False.elim hq'
    | cont => exact False.elim hq'
theorem pe_makeZ (M : Mk X.K C f) (F : FnOk X.prog X.w X.K X.mg X.base CX k f fd ps sp) (hr : Room (k + 1) X.A) (hg : Gl X x) (hm : X.mg x = some (.ref C)) (hb : Binds X.K fd ps []) (hx : ∀ σ, PassesAt CX X σ (E σ))
    (ha : PA X (e :: es) t) (hdb : (x == ("__debug__" : Str)) = false) (he : starEach (e :: es) X.env = (false, eval e X.env) :: starEach es X.env) (hpl : (backTo pos (starEach es X.env)).any (·.1) = false) :
    PE X (.Call (.Name x p) (e :: es) [] pos) (tMakeZ C sp E t) := by
  refine ⟨fun pins s σ H Q I h => ?_⟩
  refine wpAny_Call_Name_kw (ld_glob I hg hm ?_ hdb)
  refine PySem.W.callWith_K (h₀ := X.base) I.ok.mod.kin M.kp (thn (ha.run pos pins s σ H _ I h) fun us s1 ⟨vs, H1, I1, r, q⟩ => ⟨I1.kIn, ?_⟩) he hpl
  exact run_makeZ M F hr hb (hx σ) I1 r q
end
end L2
namespace MP
open PySem L2 PySem.Spec PyProof.Rows
theorem zip_look {K : Kf} {F : Hp} {μ : Nat → Addr} {n : Nat} {f : Str} {y : Val} : ∀ {ns : List Str} {xs : List Val} {vs : List V}, RepL K F μ n xs vs → (ns.zip xs).lookup f = some y → ∃ w, (ns.zip vs).lookup f = some w ∧ RepV K F μ n y w
  | [], xs, vs, _, h => by cases h
  | m :: ns, [], vs, _, h => by cases h
  | m :: ns, x :: xs, _, ⟨v, r, h1, h2, h3⟩, h => by
    subst h1
    rw [List.zip_cons_cons, List.lookup_cons] at h ⊢
    split at h
    · cases h; exact ⟨v, rfl, h2⟩
    · exact zip_look h3 h
theorem zip_none {f : Str} : ∀ {ns : List Str} {vs : List V}, f ∉ ns → (ns.zip vs).lookup f = none
  | [], _, _ => rfl
  | m :: ns, [], _ => rfl
  | m :: ns, v :: vs, h => by
    have h1 : f ≠ m := fun e => h (e ▸ List.mem_cons_self ..)
    rw [List.zip_cons_cons, List.lookup_cons]
    have : (f == m) = false := by simpa using h1
    rw [this]; exact zip_none fun z => h (List.mem_cons_of_mem _ z)
theorem put_some {f : Str} {v : V} : ∀ {ns : List Str} {vs : List V} {i : Nat}, ns.length = vs.length → ixF f ns = some i → putF f v (ns.zip vs) = ns.zip (vs.set i v)
  | [], _, _, _, h => by cases h
  | m :: ns, [], _, h, _ => by cases h
  | m :: ns, u :: vs, i, hl, h => by
    unfold ixF at h
    rw [List.zip_cons_cons]
    by_cases hf : f = m
    · rw [if_pos hf] at h; cases h
      subst hf
      simp only [putF, List.set_cons_zero, List.zip_cons_cons, if_true]
    · rw [if_neg hf] at h
      cases e : ixF f ns with
      | none => rw [e] at h; cases h
      | some j =>
        rw [e] at h; cases h
        have hf2 : ¬ m = f := fun z => hf z.symm
        simp only [putF, hf2, if_false, List.set_cons_succ, List.zip_cons_cons]
        rw [put_some (by simpa using hl) e]
theorem put_none {f : Str} {v : V} : ∀ {ns : List Str} {vs : List V}, ns.length = vs.length → ixF f ns = none → putF f v (ns.zip vs) = (ns ++ [f]).zip (vs ++ [v])
  | [], [], _, _ => rfl
  | [], _ :: _, h, _ => by cases h
  | m :: ns, [], h, _ => by cases h
  | m :: ns, u :: vs, hl, h => by
    unfold ixF at h
    rw [List.zip_cons_cons]
    by_cases hf : f = m
    · rw [if_pos hf] at h; cases h
    · rw [if_neg hf] at h
      cases e : ixF f ns with
      | some j => rw [e] at h; cases h
      | none =>
        have hf2 : ¬ m = f := fun z => hf z.symm
        simp only [putF, hf2, if_false, List.cons_append, List.zip_cons_cons]
        rw [put_none (by simpa using hl) e]
section
variable {Y : Fx} {Φ : Tab} {G : Str → Option Val} {C : Cfg} {k : Nat} {X : Cx} {ns : Names} {W : WX}
theorem fld_noexn {cl f : Str} {x : Val} {st : Store} : ∀ c fs s, vFld cl f x st ≠ .exn c fs s := by
  intro c fs s h
  unfold vFld at h
  repeat' (first | (cases h; done) | split at h)
theorem fld_rep {F H : Hp} {μ : Nat → Addr} {st : Store} {cl f : Str} {x y : Val} {w : V} (g : Good Y.kf F μ st H) (r : RepV Y.kf F μ st.length x w) (h : vFld cl f x st = .ok y) :
    ∃ a dx Ca fs u, w = .ref a ∧ Y.mg cl = some (.ref Ca) ∧ H a = some (.ins Ca dx fs) ∧ fs.lookup f = some u ∧ RepV Y.kf F μ st.length y u := by
  unfold vFld at h
  split at h
  · rename_i d ms xs
    by_cases hc : cl = d
    · rw [if_pos hc] at h
      subst hc
      obtain ⟨a, dx, Ca, vs, h1, h2, h3, h4, h5, h6⟩ := r
      split at h
      · rename_i v hv
        cases h
        obtain ⟨u, q1, q2⟩ := zip_look h6 hv
        exact ⟨a, dx, Ca, _, u, h1, h2, g.same _ _ h3, q1, q2⟩
      · cases h
    · rw [if_neg hc] at h; cases h
  · rename_i n
    obtain ⟨hw, hn⟩ := r
    split at h
    · rename_i d ms xs hm
      by_cases hc : cl = d
      · rw [if_pos hc] at h
        subst hc
        obtain ⟨_, dx, Ca, vs, h2, h3, h4, h5, h6⟩ := g.st.cell n _ hm
        split at h
        · rename_i v hv
          cases h
          obtain ⟨u, q1, q2⟩ := zip_look h6 hv
          exact ⟨_, dx, Ca, _, u, hw, h2, h3, q1, q2⟩
        · cases h
      · rw [if_neg hc] at h; cases h
    · rename_i d ms xs hm
      by_cases hc : cl = d
      · rw [if_pos hc] at h
        subst hc
        obtain ⟨a, dx, Ca, vs, h1, h2, h3, h4, h5, h6⟩ := g.st.cell n _ hm
        split at h
        · rename_i v hv
          cases h
          obtain ⟨u, q1, q2⟩ := zip_look h6 hv
          exact ⟨a, dx, Ca, _, u, hw.trans h1, h2, g.same _ _ h3, q1, q2⟩
        · cases h
      · rw [if_neg hc] at h; cases h
    · cases h
  · cases h
theorem snd_fld {cl f : Str} {a : E} (sa : Snd Y Φ G C k a) : Snd Y Φ G C k (.fld cl f a) := by
  have key : ∀ {ns : Names} {p : Expr}, chkE C ns (.fld cl f a) p = true → ∃ p1 pq l, p = .Attribute p1 f pq ∧ plainBase p1 = true ∧ C.cs.lookup cl = some l ∧ f ∈ l ∧ chkE C ns a p1 = true := by
    intro ns p q
    unfold chkE at q
    split at q
    · rename_i x y hx
      obtain ⟨pp, rfl⟩ := isAttr_eq hx
      simp only [Bool.and_eq_true] at q
      obtain ⟨q1, q2, q3, q4⟩ := q
      have ef := of_decide_eq_true q1
      subst ef
      split at q3
      · rename_i l hl
        exact ⟨_, _, l, rfl, q2, hl, mem_of q3, q4⟩
      · cases q3
    · cases q
  refine mkSnd rfl (fun ns p q => ?_) fun {X ns W p} c tk q => ?_
  · obtain ⟨_, _, _, rfl, _⟩ := key q; rfl
  · obtain ⟨p1, pq, l, rfl, q1, q2, q3, q4⟩ := key q
    obtain ⟨Ca, hm, hC, hN⟩ := c.cls cl l q2
    refine PEimp (pe_fld (sa.pe c tk q4) (base_id q1)) fun σ H Q ⟨F, μ, st, env, g, en, h⟩ => ?_
    refine goE g en h fun F1 μ1 H1 x st1 w e1 g1 en1 r1 hh => ?_
    obtain ⟨y, hy, q5⟩ := RP.bindP fld_noexn hh
    obtain ⟨a, dx, Ca', fs, u, h1, h2, h3, h4, h5⟩ := fld_rep g1 r1 hy
    have : Ca' = Ca := by rw [← c.mg, hm] at h2; cases h2; rfl
    subst this
    exact ⟨a, Ca', dx, fs, u, h1, h3, hC, hN f q3, h4, q5 F1 μ1 H1 Ext.refl g1 u h5⟩
/-- an object at a place -/
theorem obj_rep {F H : Hp} {μ : Nat → Addr} {st : Store} {cl m : Str} {x : Val} {w : V} (g : Good Y.kf F μ st H) (r : RepV Y.kf F μ st.length x w) (h : isObj cl m st x = true) :
    ∃ a dx Ca ms vs, w = .ref a ∧ Y.mg cl = some (.ref Ca) ∧ H a = some (.ins Ca dx (List.zip ms vs)) ∧ (List.zip ms vs).lookup m = none := by
  have key : ∀ {d : Str} {ms : List Str} {vs : List V}, (decide (cl = d) && !ms.contains m) = true → cl = d ∧ (List.zip ms vs).lookup m = none := fun {d ms vs} h => by
    rw [Bool.and_eq_true] at h
    refine ⟨of_decide_eq_true h.1, zip_none fun z => ?_⟩
    have := h.2
    rw [List.contains_iff_mem.mpr z] at this
    cases this
  unfold isObj at h
  split at h
  · rename_i d ms xs
    obtain ⟨a, dx, Ca, vs, h1, h2, h3, h4, h5, h6⟩ := r
    obtain ⟨e, l⟩ := key (vs := vs) h
    subst e
    exact ⟨a, dx, Ca, ms, vs, h1, h2, g.same _ _ h3, l⟩
  · rename_i n
    obtain ⟨hw, hn⟩ := r
    split at h
    · rename_i d ms xs hm
      obtain ⟨_, dx, Ca, vs, h2, h3, h4, h5, h6⟩ := g.st.cell n _ hm
      obtain ⟨e, l⟩ := key (vs := vs) h
      subst e
      exact ⟨_, dx, Ca, ms, vs, hw, h2, h3, l⟩
    · rename_i d ms xs hm
      obtain ⟨a, dx, Ca, vs, h1, h2, h3, h4, h5, h6⟩ := g.st.cell n _ hm
      obtain ⟨e, l⟩ := key (vs := vs) h
      subst e
      exact ⟨a, dx, Ca, ms, vs, hw.trans h1, h2, g.same _ _ h3, l⟩
    · cases h
  · cases h
theorem few_ok {p : Expr} {ps : List Expr} {pos : Pos} {env : PySem.Env} (h1 : notStar p = true) (h2 : noStars ps = true) (hl : (p :: ps).length < 29) :
    ((backTo pos (starEach (p :: ps) env)).all (fun x => !x.1) && (backToKw pos (keywordEach [] env)).all (fun x => x.1.isSome) && decide ((p :: ps).length + ([] : List Keyword).length + (if ([] : List Keyword).isEmpty then 0 else 1) < 30)) = true := by
  have e : ∀ l : List (Bool × Sem Value), l.any (·.1) = false → l.all (fun x => !x.1) = true := fun l h => by
    rw [List.all_eq_true]; intro x hx
    rw [List.any_eq_false] at h
    simpa using h x hx
  have hl2 : (p :: ps).length + 0 + 0 < 30 := by omega
  have a1 : (backTo pos (starEach (p :: ps) env)).all (fun x => !x.1) = true := by
    rw [star_cons h1]
    show (!false && (backTo pos (starEach ps env)).all (fun x => !x.1)) = true
    rw [e _ (star_any h2)]; rfl
  rw [a1]
  exact decide_eq_true hl2
theorem snd_meth {cl m : Str} {o : E} {es : Es} (so : Snd Y Φ G C k o) (ss : Snds Y Φ G C k es) : Snd Y Φ G C k (.meth cl m o es) := by
  have key : ∀ {ns : Names} {p : Expr}, chkE C ns (.meth cl m o es) p = true → ∃ po ps p1 p2, p = .Call (.Attribute po m p1) ps [] p2 ∧ C.calm = true ∧ (p1.endLine == p2.line) = true ∧ plainBase po = true ∧ (cl, m) ∈ C.ms ∧ chkE C ns o po = true ∧ noStars ps = true ∧ ps.length < 29 ∧ chkEs C ns es ps = true := by
    intro ns p q
    unfold chkE at q
    split at q
    · rename_i po m' ps kk hx
      obtain ⟨pp, pq, rfl, rfl⟩ := isMeth_eq hx
      simp only [Bool.and_eq_true] at q
      obtain ⟨q0, q1, q2, q3, q4, q5, q6, q7, q8⟩ := q
      have := of_decide_eq_true q1
      subst this
      exact ⟨_, _, _, _, rfl, q0, q2, q3, List.contains_iff_mem.mp q4, q5, q6, of_decide_eq_true q7, q8⟩
    · cases q
  refine mkSnd rfl (fun ns p q => ?_) fun {X ns W p} c tk q => ?_
  · obtain ⟨_, _, _, _, rfl, _⟩ := key q; rfl
  · obtain ⟨po, ps, p1, p2, rfl, hcalm, q2, q3, q4, q5, q6, q7, q8⟩ := key q
    obtain ⟨mi, fa, fd, qs, Ca, hmi, har, hmg, hC, hM, hb, hr, hF⟩ := c.mt hcalm cl m q4
    have fin : ∀ (σ : L2.St) (Q : VK) (F1 : Hp) (μ1 : Nat → Addr) (H1 : Hp) (x : Val) (w : V) (vs : List Val) (ws : List V) (st1 : Store), Good Y.kf F1 μ1 st1 H1 → RepV Y.kf F1 μ1 st1.length x w → RepL Y.kf F1 μ1 st1.length vs ws →
        RP Y F1 μ1 st1 H1 (match Φ (mName cl m) with | some f => f (x :: vs) st1 | none => .stuck) (kV Y Q) (at_ W σ) → spOf Y qs.length mi (w :: ws) H1 Q (WE W σ) := by
      intro σ Q F1 μ1 H1 x w vs ws st1 g1 rx rs hh
      rw [hmi] at hh
      have r1 : RepL Y.kf F1 μ1 st1.length (x :: vs) (w :: ws) := ⟨w, ws, rfl, rx, rs⟩
      refine ⟨?_, F1, μ1, st1, x :: vs, g1, r1, hh⟩
      rw [r1.len]
      by_cases hl : (x :: vs).length = qs.length
      · exact hl
      · have hh' : RP Y F1 μ1 st1 H1 (mi (x :: vs) st1) (kV Y Q) (at_ W σ) := hh
        rw [har _ st1 hl] at hh'; exact False.elim hh'
    have start : ∀ (σ : L2.St) (H : Hp) (Q : VK), tE Y Φ G W (.meth cl m o es) σ H Q → tE Y Φ G W o σ H fun w H1 => ∃ a dx fs, w = .ref a ∧ H1 a = some (.ins Ca dx fs) ∧ fs.lookup m = none ∧
        tA Y Φ G W es σ H1 fun ws H2 => spOf Y qs.length mi (w :: ws) H2 Q (WE W σ) := by
      intro σ H Q ⟨F, μ, st, env, g, en, h⟩
      refine goE g en h fun F1 μ1 H1 x st1 w e1 g1 en1 r1 hh => ?_
      cases ho : isObj cl m st1 x with
      | false =>
        have hh' : RP Y F1 μ1 st1 H1 (if isObj cl m st1 x then (evs Φ G es env st1).bind fun q => (match Φ (mName cl m) with | some f => f (x :: q.1) q.2 | none => .stuck) else .stuck) (kV Y Q) (at_ W σ) := hh
        rw [ho] at hh'; exact False.elim hh'
      | true =>
        have hh' : RP Y F1 μ1 st1 H1 (if isObj cl m st1 x then (evs Φ G es env st1).bind fun q => (match Φ (mName cl m) with | some f => f (x :: q.1) q.2 | none => .stuck) else .stuck) (kV Y Q) (at_ W σ) := hh
        rw [ho, if_pos rfl] at hh'
        obtain ⟨a, dx, Ca', ms, vs, h1, h2, h3, h4⟩ := obj_rep g1 r1 ho
        have : Ca' = Ca := by rw [← c.mg, hmg] at h2; cases h2; rfl
        subst this
        refine ⟨a, dx, _, h1, h3, h4, ?_⟩
        refine goA g1 en1 hh' fun F2 μ2 H2 vs2 st2 ws2 e2 g2 en2 r2 hh2 => ?_
        exact fin σ Q F2 μ2 H2 x w vs2 ws2 st2 g2 (e2.v r1) r2 hh2
    cases ps with
    | nil =>
      cases es with
      | cons e r => unfold chkEs at q8; cases q8
      | nil =>
        refine PEimp (pe_methZ0 (sp := spOf Y qs.length mi) (E := WE W) (so.pe c tk q5) hC hM hF hr hb (fun σ => tk.pas σ) (base_id q3) q2) fun σ H Q h => ?_
        obtain ⟨F, μ, st, env, g, en, h'⟩ := start σ H Q h
        refine ⟨F, μ, st, env, g, en, h'.impE fun F1 μ1 H1 x st1 _ e1 g1 hk w rw => ?_⟩
        obtain ⟨a, dx, fs, h1, h2, h3, F2, μ2, st2, env2, g2, en2, h4⟩ := hk w rw
        exact ⟨a, dx, fs, h1, h2, h3, h4 F2 μ2 H1 Ext.refl g2 [] rfl⟩
    | cons p ps =>
      have n1 : notStar p = true ∧ noStars ps = true := by
        have z : (notStar p && noStars ps) = true := q6
        rwa [Bool.and_eq_true] at z
      refine PEimp (pe_methZ (sp := spOf Y qs.length mi) (E := WE W) (so.pe c tk q5) hC hM hF hr hb (fun σ => tk.pas σ) (ss.pa c tk q8) (star_cons n1.1) (star_any n1.2) (base_id q3) (few_ok n1.1 n1.2 q7) q2) fun σ H Q h => ?_
      obtain ⟨F, μ, st, env, g, en, h'⟩ := start σ H Q h
      refine ⟨F, μ, st, env, g, en, h'.impE fun F1 μ1 H1 x st1 _ e1 g1 hk w rw => ?_⟩
      obtain ⟨a, dx, fs, h1, h2, h3, h4⟩ := hk w rw
      exact ⟨a, dx, fs, h1, h2, h3, h4⟩
theorem snd_new {cl : Str} {es : Es} (ss : Snds Y Φ G C k es) : Snd Y Φ G C k (.new cl es) := by
  have key : ∀ {ns : Names} {p : Expr}, chkE C ns (.new cl es) p = true → ∃ pp ps p0 p2, p = .Call (.Name cl p2) (pp :: ps) [] p0 ∧ C.calm = true ∧ cl ∈ C.nw ∧ glB ns cl = true ∧ okName cl = true ∧ notStar pp = true ∧ noStars ps = true ∧ chkEs C ns es (pp :: ps) = true := by
    intro ns p q
    unfold chkE at q
    split at q
    · rename_i x ps hx
      obtain ⟨p2, p0, rfl⟩ := isCall_eq hx
      simp only [Bool.and_eq_true] at q
      obtain ⟨q0, q1, q2, q3, q4, q5, q6, q7⟩ := q
      have := of_decide_eq_true q1
      subst this
      cases ps with
      | nil => cases q2
      | cons pp ps =>
        have z : (notStar pp && noStars ps) = true := q6
        rw [Bool.and_eq_true] at z
        exact ⟨_, _, _, _, rfl, q0, mem_of q3, q4, q5, z.1, z.2, q7⟩
    · cases q
  refine mkSnd rfl (fun ns p q => ?_) fun {X ns W p} c tk q => ?_
  · obtain ⟨_, _, _, _, rfl, _⟩ := key q; rfl
  · obtain ⟨pp, ps, p0, p2, rfl, hcalm, q3, q4, q5, n1, n2, q7⟩ := key q
    obtain ⟨mi, fa, fd, qs, Ca, k', hmi, har, hmg, hM, hb, hr, hF⟩ := c.nw hcalm cl q3
    refine PEimp (pe_makeZ (sp := spOf Y qs.length mi) (E := WE W) hM hF hr (gl_ok c q4) hmg hb (fun σ => tk.pas σ) (ss.pa c tk q7) (okName_1 q5) (star_cons n1) (star_any n2)) fun σ H Q ⟨F, μ, st, env, g, en, h⟩ => ?_
    refine goA g en h fun F1 μ1 H1 vs st1 ws e1 g1 en1 r1 hh => ?_
    intro x dx hx hdx hne
    have hh' : RP Y F1 μ1 st1 H1 ((mi (Val.loc st1.length :: vs) (st1 ++ [Cell.obj cl [] []])).bind fun q => (match q.1 with | .non => .ok (.loc st1.length, q.2) | _ => .stuck)) (kV Y Q) (at_ W σ) := by
      change RP Y F1 μ1 st1 H1 (match Φ (mName cl "__init__") with | some m => (m (Val.loc st1.length :: vs) (st1 ++ [Cell.obj cl [] []])).bind fun q => (match q.1 with | .non => .ok (.loc st1.length, q.2) | _ => .stuck) | none => .stuck) (kV Y Q) (at_ W σ) at hh
      rw [hmi] at hh; exact hh
    obtain ⟨g2, e2⟩ := g1.frozen (p := dx) (o := .own x) hdx
    have hx2 : upd H1 dx (.own x) x = none := by rw [upd_ne (Ne.symm hne)]; exact hx
    have hFx : upd F1 dx (.own x) x = none := g2.same.free hx2
    have hmgY : Y.mg cl = some (.ref Ca) := by rw [← c.mg]; exact hmg
    have hcell : CellOk Y.kf (upd F1 dx (.own x)) μ1 st1.length (upd (upd H1 dx (.own x)) x (.ins Ca dx [])) x (.obj cl [] []) :=
      ⟨hFx, dx, Ca, [], hmgY, upd_same, upd_same, rfl, rfl⟩
    obtain ⟨g3, e3, r3⟩ := g2.celled hx2 rfl hcell
    have r1' : RepL Y.kf (upd F1 dx (.own x)) (muSet μ1 st1.length x) (st1 ++ [Cell.obj cl [] []]).length vs ws := (e2.trans e3).l r1
    have h3 := (hh'.ext (e2.trans e3)).bind
    have rL : RepL Y.kf (upd F1 dx (.own x)) (muSet μ1 st1.length x) (st1 ++ [Cell.obj cl [] []]).length (.loc st1.length :: vs) (.ref x :: ws) := ⟨_, _, rfl, r3, r1'⟩
    refine ⟨?_, _, _, _, .loc st1.length :: vs, g3, rL, h3.impE fun F4 μ4 H4 y st4 _ e4 g4 h4 w rw => ?_⟩
    · rw [rL.len]
      by_cases hl : (Val.loc st1.length :: vs).length = qs.length
      · exact hl
      · rw [har _ _ hl] at h3; exact False.elim h3
    · cases y with
      | non =>
        have ew : w = .non := rw
        exact ⟨ew, h4 F4 μ4 H4 Ext.refl g4 _ (e4.v r3)⟩
      | _ => exact False.elim h4
end
end MP
/-! MiniPy: list comprehensions; all expressions. -/
namespace MP
open PySem L2 PySem.Spec PyProof.Rows

theorem R.assoc {α β γ : Type} (r : R α) (f : α → R β) (h : β → R γ) : (r.bind f).bind h = r.bind fun a => (f a).bind h := by cases r <;> rfl
section
variable {α β : Type} {Y : Fx} {F Hg : Hp} {μ : Nat → Addr} {st : Store} {W : XK}
theorem Ext.less {F F' Hg H' : Hp} {μ μ' : Nat → Addr} {st st' : Store} {D : Addr} {o : HO} (e : Ext F μ st (upd Hg D o) F' μ' st' H') (hD : Hg D = none) : Ext F μ st Hg F' μ' st' H' := by
  have k : ∀ a u, Hg a = some u → upd Hg D o a = some u := fun a u h => by rw [upd_ne (ne_of_none h hD)]; exact h
  have k2 : ∀ a, upd Hg D o a = none → Hg a = none := fun a h => by
    cases q : Hg a with
    | none => rfl
    | some u => rw [k a u q] at h; cases h
  exact ⟨e.same, e.mu, e.len, fun a u h q => e.frm a u (k a u h) q, fun i c h l => (e.new i c h l).imp_right (k2 _), fun a u h => e.dom a u (k a u h), fun a u h => (e.fz a u h).imp_right fun z => z.imp_left (k2 _)⟩
/-- a piece beside an object D -/
theorem RP.ghost {r : R (α × Store)} {f : α × Store → R (β × Store)} {k : Hp → (Nat → Addr) → Hp → α → Store → Prop} {kb : Hp → (Nat → Addr) → Hp → β → Store → Prop} {D : Addr} {o : HO}
    (g : Good Y.kf F μ st Hg) (hD : Hg D = none) (h : RP Y F μ st Hg (r.bind f) kb W)
    (n : ∀ F' μ' H' a st', Ext F μ st Hg F' μ' st' (era H' D) → Good Y.kf F' μ' st' (era H' D) → Ext F μ st (upd Hg D o) F' μ' st' H' → Good Y.kf F' μ' st' H' → H' D = some o → RP Y F' μ' st' (era H' D) (f (a, st')) kb W → k F' μ' H' a st') :
    RP Y F μ st (upd Hg D o) r k W := by
  cases r with
  | ok p =>
    intro F' μ' H' e g'
    obtain ⟨h1, h2, h3⟩ := e.ghost g hD g'
    exact n F' μ' H' p.1 p.2 h2 h3 e g' h1 (RP.ext h2 h)
  | exn c fs s => exact fun F' μ' H' cls d e g' x => h F' μ' H' cls d (e.less hD) g' x
  | stuck => exact False.elim h
end

section
variable {Y : Fx} {Φ : Tab} {G : Str → Option Val} {C : Cfg} {k : Nat} {X : Cx} {ns : Names} {W : WX}
theorem comp_key {m : Bool} {x : Nat} {it c elt : E} {ns : Names} {p : Expr} (q : chkE C ns (.comp m x it c elt) p = true) : ∃ pelt y py pit ifs sc pp, p = .ListComp pelt [⟨.Name y py, pit, ifs, 0⟩] sc pp ∧
    C.calm = true ∧ C.N[x]? = some y ∧ locB sc.names y = true ∧ blkC' C ns sc y x = true ∧ notSet pit = true ∧ chkE C ns it pit = true ∧ chkE C (blkNames ns sc) elt pelt = true ∧ (match ifs with | [] => isNo c | [pc] => !isNo c && chkE C (blkNames ns sc) c pc | _ => false) = true := by
  unfold chkE at q
  split at q
  · rename_i pelt tg pit ifs sc hx
    obtain ⟨pp, rfl⟩ := isComp_eq hx
    simp only [Bool.and_eq_true] at q
    obtain ⟨⟨q0, q1⟩, q2, q3, q4, q5⟩ := q
    split at q1
    · rename_i y hy
      obtain ⟨py, rfl⟩ := isName_eq hy
      simp only [Bool.and_eq_true] at q1
      exact ⟨_, _, _, _, _, _, _, rfl, q0, of_decide_eq_true q1.1, q1.2.1, q1.2.2, q2, q3, q4, q5⟩
    · cases q1
  · cases q
theorem blkC_key {sc : Scope} {y : Str} {x : Nat} (h : blkC' C ns sc y x = true) : blkC C.N { kind := .function, names := ns, isGenerator := false, isCoroutine := false } sc [(y, x)] = true ∧ sc.kind = .function := by
  unfold blkC' at h
  rw [Bool.and_eq_true] at h
  refine ⟨h.1, ?_⟩
  have h2 := h.2
  split at h2
  · assumption
  · cases h2
theorem blk_ok (c : Ctx X Y Φ G C ns k) {sc : Scope} {y : Str} {x : Nat} (h : blkC' C ns sc y x = true) : BlkOk X.N X.env.scope sc [(y, x)] := by
  have b := blkOk_by (blkC_key h).1
  rw [c.N]
  refine ⟨b.kind, b.uniq, b.ix, fun z hz e => ?_, b.own⟩
  rw [c.sc]; exact b.free z hz e
theorem comp_step {m : Bool} {acc : List Val} {y : Val} {r : R (List Val × Store)} :
    ((r.bind fun q => R.ok (y :: q.1, q.2)).bind fun q => newL m (acc ++ q.1) q.2) = r.bind fun q => newL m ((acc ++ [y]) ++ q.1) q.2 := by
  cases r with
  | ok p => show newL m (acc ++ (y :: p.1)) p.2 = newL m ((acc ++ [y]) ++ p.1) p.2; rw [List.append_assoc]; rfl
  | _ => rfl
theorem snd_comp_red {m : Bool} {x : Nat} {it cc elt : E} (hK : X.K = Y.K) (hcold : Y.hot = false) {σ : L2.St} {H : Hp} {Q : VK} (h : tE Y Φ G W (.comp m x it cc elt) σ H Q) :
    tLcX (tI Y Φ G W it) (gName x) (fun σ => tT Y Φ G (fun c d _ H => W c d σ H) cc) (fun σ => tE Y Φ G (fun c d _ H => W c d σ H) elt) [x] σ H Q := by
  obtain ⟨F, μ, st, env, g, en, h⟩ := h
  have h : RP Y F μ st H (((ev Φ G it).i env st).bind fun p => if p.1.length ≤ szMax then ((compL (ev Φ G cc).t (ev Φ G elt).v x p.1 env p.2).bind fun q => newL m q.1 q.2) else .stuck) (kV Y Q) (at_ W σ) := h
  refine ⟨F, μ, st, env, g, en, h.bind.impE fun F1 μ1 H1 xs st1 _ e1 g1 h1 J us rL wj D hD => ?_⟩
  by_cases hl : xs.length ≤ szMax
  · rw [if_pos hl] at h1
    have en1 := e1.env en
    refine lc_walk wj (fun i H => ∃ Fi μi sti Hg acc accV, Hg D = none ∧ H = upd Hg D (.lst accV) ∧ Good Y.kf Fi μi sti Hg ∧ Ext F1 μ1 st1 H1 Fi μi sti Hg ∧ RepL Y.kf Fi μi sti.length acc accV ∧ acc.length ≤ i ∧
      RP Y Fi μi sti Hg (((compL (ev Φ G cc).t (ev Φ G elt).v x (xs.drop i) env sti).bind fun q => newL m (acc ++ q.1) q.2)) (kV Y Q) (at_ W σ)) ?_ ?_ ?_ ?_
    · exact ⟨F1, μ1, st1, H1, [], [], hD, rfl, g1, Ext.refl, rfl, Nat.le_refl _, h1⟩
    · rintro i H ⟨Fi, μi, sti, Hg, acc, accV, hd, rfl, gi, ei, _⟩
      exact ei.same.trans (gi.beside hd).same
    · rintro i w H hw ⟨Fi, μi, sti, Hg, acc, accV, hd, rfl, gi, ei, ra, hai, hh⟩
      obtain ⟨v, hv, rv⟩ := rL.getV hw
      obtain ⟨hi, hvi⟩ := List.getElem?_eq_some_iff.mp hv
      rw [List.drop_eq_getElem_cons hi, hvi] at hh
      have hwipe : wipe ((wipe σ [x]).set x (some w)) [x] = wipe σ [x] := by
        show ((σ.set x none).set x (some w)).set x none = σ.set x none
        rw [List.set_set, List.set_set]
      have eni : EnvOk Y Fi μi sti.length (env.set x (some v)) ((wipe σ [x]).set x (some w)) := by
        have := (ei.env en1).set (ei.v rv) x (fun z => by rw [hcold] at z; cases z)
        rw [show (wipe σ [x]).set x (some w) = σ.set x (some w) from by show (σ.set x none).set x (some w) = _; rw [List.set_set]]
        exact this
      refine ⟨hwipe, ?_⟩
      have hh1 : RP Y Fi μi sti Hg ((((ev Φ G cc).t (env.set x (some v)) sti).bind fun p => (if p.1 = true then ((ev Φ G elt).v (env.set x (some v)) p.2).bind fun r => (compL (ev Φ G cc).t (ev Φ G elt).v x (xs.drop (i + 1)) env r.2).bind fun q => R.ok (r.1 :: q.1, q.2)
          else compL (ev Φ G cc).t (ev Φ G elt).v x (xs.drop (i + 1)) env p.2).bind fun q => newL m (acc ++ q.1) q.2)) (kV Y Q) (at_ W σ) := by
        rw [← R.assoc]; exact hh
      refine ⟨Fi, μi, sti, _, gi.beside hd, eni, ?_⟩
      refine RP.ghost gi hd hh1 fun F2 μ2 H2 b st2 e2 g2 e2' g2' hD2 h2 => ?_
      show if b = true then _ else _
      have hup : H2 = upd (era H2 D) D (.lst accV) := by
        rw [upd_era]; funext a
        by_cases ha : a = D
        · subst ha; rw [upd_same]; exact hD2
        · rw [upd_ne ha]
      cases b with
      | true =>
        rw [if_pos rfl]
        have h2' : RP Y F2 μ2 st2 (era H2 D) ((((ev Φ G elt).v (env.set x (some v)) st2).bind fun r => ((compL (ev Φ G cc).t (ev Φ G elt).v x (xs.drop (i + 1)) env r.2).bind fun q => R.ok (r.1 :: q.1, q.2)).bind fun q => newL m (acc ++ q.1) q.2)) (kV Y Q) (at_ W σ) := by
          rw [← R.assoc]; exact h2
        refine ⟨F2, μ2, st2, _, g2', e2'.env eni, ?_⟩
        rw [hup]
        refine RP.ghost g2 era_same h2' fun F3 μ3 H3 y st3 e3 g3 e3' g3' hD3 h3 u ru => ?_
        refine ⟨accV, hD3, by rw [ra.len]; exact Nat.lt_of_le_of_lt hai (Nat.lt_of_lt_of_le hi (szMax_le hl)), ?_⟩
        refine ⟨F3, μ3, st3, era H3 D, acc ++ [y], accV ++ [u], era_same, upd_era.symm, g3, (ei.trans e2).trans e3, (e3.l (e2.l ra)).append ⟨u, [], rfl, ru, rfl⟩, by simp; exact hai, ?_⟩
        rw [comp_step] at h3
        exact h3
      | false =>
        rw [if_neg Bool.false_ne_true]
        exact ⟨F2, μ2, st2, era H2 D, acc, accV, era_same, hup, g2, ei.trans e2, e2.l ra, Nat.le_succ_of_le hai, h2⟩
    · rintro H ⟨Fi, μi, sti, Hg, acc, accV, hd, rfl, gi, ei, ra, hai, hh⟩
      rw [rL.len, List.drop_length] at hh
      have hh' : RP Y Fi μi sti Hg (newL m acc sti) (kV Y Q) (at_ W σ) := by
        have hh2 : RP Y Fi μi sti Hg (newL m (acc ++ []) sti) (kV Y Q) (at_ W σ) := hh
        rw [List.append_nil] at hh2
        exact hh2
      exact (newL_ok gi hh' ra).2 D hd
  · rw [if_neg hl] at h1; exact False.elim h1
theorem lc_rules {x : Nat} {it cc elt : E} (si : Snd Y Φ G C k it) (sc : Snd Y Φ G C k cc) (se : Snd Y Φ G C k elt) (c : Ctx X Y Φ G C ns k) (hcalm : C.calm = true) (tk : Tk X W) {y : Str} {py : Pos} {pit pelt : Expr} {ifs : List Expr} {scp : Scope}
    (q1 : C.N[x]? = some y) (q2 : locB scp.names y = true) (q3 : blkC' C ns scp y x = true) (q5 : chkE C ns it pit = true) (q6 : chkE C (blkNames ns scp) elt pelt = true) (q7 : (match ifs with | [] => isNo cc | [pc] => !isNo cc && chkE C (blkNames ns scp) cc pc | _ => false) = true) :
    PI X (.Name y py) pit (tI Y Φ G W it) ∧ (∀ (s : Shared) (H : Hp) (Cl : Addr) (cl : List (Str × Addr)) (fp : List Addr), PG (X.blkX s H scp (compEnvC scp cl Cl X.env) fp) (.Name y py) (gName x)) ∧
      (∀ (σ : L2.St) (s : Shared) (H : Hp) (Cl : Addr) (cl : List (Str × Addr)) (fp : List Addr), Tk (X.blkX s H scp (compEnvC scp cl Cl X.env) fp) (fun c d _ H => W c d σ H) → PTs (X.blkX s H scp (compEnvC scp cl Cl X.env) fp) ifs (tT Y Φ G (fun c d _ H => W c d σ H) cc)) ∧
      (∀ (σ : L2.St) (s : Shared) (H : Hp) (Cl : Addr) (cl : List (Str × Addr)) (fp : List Addr), Tk (X.blkX s H scp (compEnvC scp cl Cl X.env) fp) (fun c d _ H => W c d σ H) → PE (X.blkX s H scp (compEnvC scp cl Cl X.env) fp) pelt (tE Y Φ G (fun c d _ H => W c d σ H) elt)) := by
  obtain ⟨b1, b2⟩ := blkC_key q3
  have bc := fun (s : Shared) (H : Hp) (Cl : Addr) (cl : List (Str × Addr)) (fp : List Addr) => ctx_blk c (s := s) (H := H) (Cl := Cl) (cl := cl) (fp := fp) b2 hcalm
  refine ⟨si.pi (.Name y py) c tk q5, fun s H Cl cl fp => ?_, fun σ s H Cl cl fp tb => ?_, fun σ s H Cl cl fp tb => se.pe (bc s H Cl cl fp) tb q6⟩
  · refine pg_name c.nd (show X.N[x]? = some y by rw [c.N]; exact q1) ?_ ?_
    · unfold locB at q2
      split at q2
      · rename_i e; exact .inl (lookup_relS_keep (by decide) e)
      · rename_i e; exact .inr (lookup_relS_keep (by decide) e)
      · cases q2
    · unfold locB at q2
      split at q2
      · rename_i e; exact .inr (lookup_relS_keep (by decide) e)
      · rename_i e; refine .inl ?_; show (scp.names.lookup y == some NameKind.cell) = true; rw [e]; rfl
      · cases q2
  · split at q7
    · have hc : cc = .no := by cases cc <;> first | rfl | cases q7
      subst hc
      exact ⟨fun pins s σ H Q I ⟨F, μ, st, env, g, en, h⟩ => pts_nil.run pins s σ H Q I (h F μ H Ext.refl g)⟩
    · rw [Bool.and_eq_true] at q7
      exact pts_one (sc.pt (bc s H Cl cl fp) tb q7.2)
    · cases q7
theorem snd_comp {m : Bool} {x : Nat} {it cc elt : E} (si : Snd Y Φ G C k it) (sc : Snd Y Φ G C k cc) (se : Snd Y Φ G C k elt) : Snd Y Φ G C k (.comp m x it cc elt) := by
  refine mkSnd rfl (fun ns p q => ?_) fun {X ns W p} c tk q => ?_
  · obtain ⟨_, _, _, _, _, _, _, rfl, _⟩ := comp_key q; rfl
  · obtain ⟨pelt, y, py, pit, ifs, scp, pp, rfl, q0, q1, q2, q3, q4, q5, q6, q7⟩ := comp_key q
    obtain ⟨r1, r2, r3, r4⟩ := lc_rules si sc se c q0 tk q1 q2 q3 q5 q6 q7 (py := py)
    exact PEimp (pe_lcX tk (c.calm q0).1 c.nd r1 (blk_ok c q3) r2 r3 r4 (folded_id q4)) fun σ H Q h => snd_comp_red c.K (by rw [c.hot]; exact (c.calm q0).2) h
mutual
theorem sAll : ∀ e : E, Snd Y Φ G C k e
  | .var i => snd_var i
  | .int i => snd_int i
  | .bl b => snd_bl b
  | .non => snd_non
  | .str s => snd_str s
  | .glob x => snd_glob x
  | .tup es => snd_tup (sAlls es)
  | .lst m es => snd_lst (sAlls es)
  | .bin m op a b => snd_bin (sAll a) (sAll b)
  | .neg a => snd_neg (sAll a)
  | .not a => snd_not (sAll a)
  | .cmp op a b => snd_cmp (sAll a) (sAll b)
  | .chain op op' a b c => snd_chain (sAll a) (sAll b) (sAll c)
  | .bo k es => snd_bo (sAlls es)
  | .ifx c a b => snd_ifx (sAll c) (sAll a) (sAll b)
  | .call f es => snd_call (sAlls es)
  | .isi a t => snd_isi (sAll a)
  | .isi2 a t u => snd_isi2 (sAll a)
  | .f1 f a => snd_f1 (sAll a)
  | .mm k a b => snd_mm (sAll a) (sAll b)
  | .g1 m f a => snd_g1 (sAll a)
  | .sub a i => snd_sub (sAll a) (sAll i)
  | .slc m a lo hi => snd_slc (sAll a) (sAll lo) (sAll hi)
  | .no => snd_no
  | .rng es => snd_rng (sAlls es)
  | .comp m x it c elt => snd_comp (sAll it) (sAll c) (sAll elt)
  | .frz a => snd_frz (sAll a)
  | .app o a => snd_app (sAll o) (sAll a)
  | .xfld h j => snd_xfld h j
  | .xis h ys => snd_xis h ys
  | .fld c f a => snd_fld (sAll a)
  | .new c es => snd_new (sAlls es)
  | .meth c m o es => snd_meth (sAll o) (sAlls es)
theorem sAlls : ∀ es : Es, Snds Y Φ G C k es
  | .nil => snd_nil
  | .cons e r => snd_cons (sAll e) (sAlls r)
end
end
end MP
set_option maxHeartbeats 4000000
/-! MiniPy: try with any number of except clauses, with a name or without. -/
namespace MP
open PySem L2 PySem.Spec PyProof.Rows
abbrev SuiteT := Addr → Value → Option Addr → TS
/-- the names behind a clause -/
def endD (sl : Option Nat) (D : Ends) : Ends := match sl with
  | none => D
  | some i => { nx := fun τ J => D.nx (τ.set i none) J, rt := D.rt, bk := fun τ J => D.bk (τ.set i none) J, ct := fun τ J => D.ct (τ.set i none) J }
def inD (sl : Option Nat) (ad : Addr) (σ : L2.St) : L2.St := match sl with
  | none => σ
  | some i => σ.set i (some (.ref ad))
/-- what the clauses wish, one after the other -/
def wX (K : PySem.W.Frag) (Wout : WX) (D : Ends) : List (Value × Option Nat × SuiteT) → WX
  | [] => Wout
  | (c, sl, ts) :: r => fun cls d τ J => ∃ y, PySem.W.exmOne K cls c = some y ∧ (y = true → ∀ ad, J ad = none → ts ad cls d (endD sl D) (inD sl ad τ) J) ∧ (y = false → wX K Wout D r cls d τ J)
def SlOk (X : Cx) : Option Str → Option Nat → Prop
  | none, none => True
  | some n, some i => X.N[i]? = some n ∧ X.env.kindOf n = some .local
  | _, _ => False
inductive HdsX (X : Cx) : List ExceptHandler → List (Value × Option Nat × SuiteT) → Prop
  | nil : HdsX X [] []
  | cons {y : Str} {c : Value} {sl : Option Nat} {ts : SuiteT} {nm : Option Str} {b : Stmt} {bs : List Stmt} {p1 p2 : Pos} {hds : List ExceptHandler} {l : List (Value × Option Nat × SuiteT)} (nmc : L2.Names X y c)
      (hsl : SlOk X nm sl)
      (run : ∀ (ad : Addr) (ob : Obj) (cls : Value) (d : Option Addr) (pn : List (Addr × Obj)), Zc cls d ob → (∃ vs, ob.data = .fields vs) → PSs (X.suite ad ((ad, ob) :: pn)) (b :: bs) (ts ad cls d)) (rest : HdsX X hds l) :
      HdsX X (.ExceptHandler (some (.Name y p1)) nm (b :: bs) p2 :: hds) ((c, sl, ts) :: l)
section
variable {X : Cx} {body : List Stmt} {h₀ : ExceptHandler} {hds : List ExceptHandler} {l : List (Value × Option Nat × SuiteT)} {pos : Pos} {tb : WX → TS} {Wout : WX}
theorem sp_of_try {pins : List (Addr × Obj)} {D : Ends} {xe : Value → Shared → Prop} {f : Flow} {s' : Shared} (okX : X.Ok) (h : SP (X.tr (X.pn ++ pins) xe) [] D f s') : SP X pins D f s' := by
  cases f with
  | next => obtain ⟨τ, J, inv, q⟩ := h; exact ⟨τ, J, inv.ofTry okX, q⟩
  | brk => obtain ⟨τ, J, inv, q⟩ := h; exact ⟨τ, J, inv.ofTry okX, q⟩
  | cont => obtain ⟨τ, J, inv, q⟩ := h; exact ⟨τ, J, inv.ofTry okX, q⟩
  | ret u => obtain ⟨v, τ, J, inv, rv, q⟩ := h; exact ⟨v, τ, J, inv.ofTry okX, rv, q⟩
theorem ps_tryX (hstk : X.stack = X.env :: X.outer) (hfm : X.env.frame = some X.env.locals) (hN : X.N.Nodup) (tk : Takes X Wout)
    (hb : ∀ (W : WX) (pn : List (Addr × Obj)) (xe : Value → Shared → Prop), Takes (X.tr pn xe) W → PassesOwn (model X.prog X.w) X.A X.env xe → PSs (X.tr pn xe) body (tb W))
    (hh : HdsX X (h₀ :: hds) l) : PS X (.Try body (h₀ :: hds) [] [] pos) (fun D σ H => tb (wX X.K Wout D l) D σ H) := by
  refine ⟨fun pins s σ H D I hw => ?_⟩
  have okX := I.ok
  have hfrs : X.A.frames = some (X.env :: X.outer) := by rw [okX.frames, hstk]
  refine wpAny_Try_except ?_
  let wish : Value → Shared → Prop := fun e s₁ => wpAny (model X.prog X.w) X.A (noteFrame e X.env) (fun _ s₂ => wpAny (model X.prog X.w) X.A (setFlight e none)
    (fun _ s₃ => wpAny (model X.prog X.w) X.A (handleBy e X.env (h₀ :: hds)) (SP X pins D) X.xe s₃) X.xe s₂) X.xe s₁
  refine wpAny_mono ((hb (wX X.K Wout D l) (X.pn ++ pins) wish (fun ex st' out => ?_) PassesOwn.looking).run [] s σ H D (I.toTry _) hw) (fun f s1 hsp => ?_) (fun e s1 he => he)
  · obtain ⟨ad, B, sI, pins', τ, J, cls, d, rfl, inv', nb, up, sky, nad, eos, agn, w⟩ := out
    have inv : Inv X pins τ J sI := inv'.ofTry okX
    have sky2 : Sky B (X.env :: X.outer) ad (Zc cls d) X.env.locals st'.heap := by rw [← hstk]; exact sky
    show wpAny (model X.prog X.w) X.A (noteFrame (.ref ad) X.env) _ _ _
    refine Sky.land Zc.steady hfrs hfm sky2 fun hL fly upL => ?_
    have invL : Inv X pins τ J { st' with heap := hL } := inv.landed nb fly.1 (up.trans upL) eos agn
    obtain ⟨ob, fv, hob, hzc, hfd⟩ := fly.there
    have away : ad ∉ frs (X.env :: X.outer) := fun hm => by
      obtain ⟨_, o2, e2, no⟩ := fly.2.2.1.mem hm
      rw [hob] at e2; cases e2
      exact no _ hfd
    have adL : ad ≠ X.env.locals := fun z => away (List.mem_filterMap.mpr ⟨X.env, List.mem_cons_self .., by rw [hfm, z]⟩)
    have adF : ad ∉ X.fs := fun hm => by
      obtain ⟨e2, m2, q2⟩ := List.mem_filterMap.mp hm
      exact away (List.mem_filterMap.mpr ⟨e2, List.mem_cons_of_mem _ m2, q2⟩)
    have invS := invL.suite hob hfd nad adL adF
    have go : ∀ {hs2 : List ExceptHandler} {l2 : List (Value × Option Nat × SuiteT)}, HdsX X hs2 l2 → wX X.K Wout D l2 cls d τ J → wpAny (model X.prog X.w) X.A (handleBy (.ref ad) X.env hs2) (SP X pins D) X.xe { st' with heap := hL } := by
      intro hs2 l2 hk
      induction hk with
      | nil =>
        intro wn
        refine wpAny_handleBy_nil ?_
        obtain ⟨z1, z2, z3, ob2, fv2, T, oT, ts2, hob2, hzc2, hfd2, h1, hr⟩ := id fly
        unfold PySem.passOn
        refine wpAny_bind (wpAny_field hob2 hfd2 h1 ?_)
        rw [if_neg (by simp : ¬ ((Value.ref T == Value.none) = true))]
        have last : wpAny (model X.prog X.w) X.A (setFlight (.ref ad) X.env.frame) (fun _ s4 => wpAny (model X.prog X.w) X.A (throw (.ref ad) : Sem Flow) (SP X pins D) X.xe s4) X.xe { st' with heap := hL } := by
          rw [hfm]
          refine HandSPX.setFlight_upZ fly fun h4 held up4 => wpAny_throw (tk _ _ ?_)
          exact ⟨ad, B, sI, pins, τ, J, cls, d, rfl, inv, nb, (up.trans upL).trans up4, .inr (.inr (by rw [hstk]; exact held)), nad, eos, agn, wn⟩
        first
          | exact wpAny_bind (wpAny_pure (wpAny_bind last))
          | exact wpAny_bind last
      | @cons y c sl ts nm b bs p1 p2 hs3 l3 nmc hsl run rest ih =>
        intro wn
        obtain ⟨yes, hyes, won, lost⟩ := wn
        refine wpAny_handleBy_cons (codeAny_handlers_test ?_) (by intro z; cases z)
        have look : PySem.W.Looks (model X.prog X.w) hL (typeOf (.ref ad)) cls := fun A Q E s k q => wpAny_typeOf_ref (k _ _ hob) (by rw [hzc.1]; exact q)
        have ask := PySem.W.exm_one (M := model X.prog X.w) (invL.kIn) look hyes
        have name : ∀ {Q : Value → Shared → Prop} {E : Value → Shared → Prop}, Q c { st' with heap := hL } → wpAny (model X.prog X.w) (X.A.mark (some (.ref ad))) (eval (.Name y p1) X.env) Q E { st' with heap := hL } := fun {Q E} q => by
          obtain ⟨hgl, hdb, hm | ⟨hm, hv, hnn⟩⟩ := nmc
          · exact ld_glob (X := X.suite ad ((ad, ob) :: (X.pn ++ pins))) invS hgl hm q hdb
          · exact ld_blt (X := X.suite ad ((ad, ob) :: (X.pn ++ pins))) invS hgl hm hv q hnn hdb
        refine name (ask.here ?_)
        cases yes with
        | false => exact ih (lost rfl)
        | true =>
          have w2 := won rfl ad nad
          cases nm with
          | none =>
            cases sl with
            | some _ => exact False.elim hsl
            | none =>
              refine codeAny_handlers_suite ?_
              refine HandSPX.lands_againZ fly fun h4 fly4 up4 => ?_
              have inv4 : Inv X pins τ J { st' with heap := h4 } := inv.landed nb fly4.1 ((up.trans upL).trans up4) eos agn
              obtain ⟨ob4, fv4, hob4, hzc4, hfd4⟩ := fly4.there
              refine wpAny_mono ((run ad ob4 cls d (X.pn ++ pins) hzc4 ⟨_, hfd4⟩).run [] _ _ J _ (inv4.suite hob4 hfd4 nad adL adF) w2) (fun f s6 out6 => ?_) (fun _ _ z => False.elim z)
              cases f with
              | next => obtain ⟨τ6, J6, inv6, q6⟩ := out6; exact ⟨_, _, inv6.unsuite okX, q6⟩
              | brk => obtain ⟨τ6, J6, inv6, q6⟩ := out6; exact ⟨_, _, inv6.unsuite okX, q6⟩
              | cont => obtain ⟨τ6, J6, inv6, q6⟩ := out6; exact ⟨_, _, inv6.unsuite okX, q6⟩
              | ret u => obtain ⟨v6, τ6, J6, inv6, rv6, q6⟩ := out6; exact ⟨_, _, _, inv6.unsuite okX, rv6, q6⟩
          | some n =>
            cases sl with
            | none => exact False.elim hsl
            | some i =>
              obtain ⟨hi, hln⟩ := hsl
              refine codeAny_handlers_suite_as ?_
              refine HandSPX.lands_againZ fly fun h4 fly4 up4 => ?_
              have inv4 : Inv X pins τ J { st' with heap := h4 } := inv.landed nb fly4.1 ((up.trans upL).trans up4) eos agn
              obtain ⟨ob4, fv4, hob4, hzc4, hfd4⟩ := fly4.there
              refine store_ok (X := X.suite ad ((ad, ob4) :: (X.pn ++ pins))) (v := .ref ad) (inv4.suite hob4 hfd4 nad adL adF) hN hi (.inl hln) rfl (fun s5 inv5 => ?_) (.inr hln)
              refine wpAny_mono ((run ad ob4 cls d (X.pn ++ pins) hzc4 ⟨_, hfd4⟩).run [] s5 _ J _ inv5 w2) (fun f s6 out6 => ?_) (fun _ _ z => False.elim z)
              have gone : ∀ {τ6 : L2.St} {J6 : Hp} {Q : Shared → Prop}, Inv (X.suite ad ((ad, ob4) :: (X.pn ++ pins))) [] τ6 J6 s6 → (∀ s7, Inv X pins (τ6.set i none) J6 s7 → Q s7) →
                  wpAny (model X.prog X.w) X.A (do bindName X.env n .none; unbindBehindTheSuite X.env n p2) (fun _ s7 => Q s7) X.xe s6 := fun {τ6 J6 Q} inv6 hq => gone_ok (inv6.unsuite okX) hN hi hln hq
              cases f with
              | next => obtain ⟨τ6, J6, inv6, q6⟩ := out6; exact gone inv6 fun s7 inv7 => ⟨_, _, inv7, q6⟩
              | brk => obtain ⟨τ6, J6, inv6, q6⟩ := out6; exact gone inv6 fun s7 inv7 => ⟨_, _, inv7, q6⟩
              | cont => obtain ⟨τ6, J6, inv6, q6⟩ := out6; exact gone inv6 fun s7 inv7 => ⟨_, _, inv7, q6⟩
              | ret u => obtain ⟨v6, τ6, J6, inv6, rv6, q6⟩ := out6; exact gone inv6 fun s7 inv7 => ⟨_, _, _, inv7, rv6, q6⟩
    exact go hh w
  · have hsp' := sp_of_try okX hsp
    cases f with
    | next => exact wpAny_execs_nil hsp'
    | brk => exact hsp'
    | cont => exact hsp'
    | ret u => exact hsp'
end
end MP
/-! MiniPy: statements. -/
namespace MP
open PySem L2 PySem.Spec PyProof.Rows

/-! ### the checker -/
def isAsg : Stmt → Option (Expr × Expr) | .Assign [t] e _ => some (t, e) | _ => none
def isExprS : Stmt → Option Expr | .Expr e _ => some e | _ => none
def isIf : Stmt → Option (Expr × List Stmt × List Stmt) | .If c a b _ => some (c, a, b) | _ => none
def isFor : Stmt → Option (Expr × Expr × List Stmt) | .For t it b [] _ => some (t, it, b) | _ => none
def isWhile : Stmt → Option (Expr × List Stmt) | .While c b [] _ => some (c, b) | _ => none
def isRet : Stmt → Option Expr | .Return (some e) _ => some e | _ => none
def isRetN : Stmt → Bool | .Return none _ => true | _ => false
def isPass : Stmt → Bool | .Pass _ => true | _ => false
def isBrk : Stmt → Bool | .Break _ => true | _ => false
def isCnt : Stmt → Bool | .Continue _ => true | _ => false
section
variable {s : Stmt}
theorem isAsg_eq {t e : Expr} (h : isAsg s = some (t, e)) : ∃ p, s = .Assign [t] e p := by unfold isAsg at h; split at h <;> first | (cases h; exact ⟨_, rfl⟩) | cases h
theorem isExprS_eq {e : Expr} (h : isExprS s = some e) : ∃ p, s = .Expr e p := by unfold isExprS at h; split at h <;> first | (cases h; exact ⟨_, rfl⟩) | cases h
theorem isIf_eq {c : Expr} {a b : List Stmt} (h : isIf s = some (c, a, b)) : ∃ p, s = .If c a b p := by unfold isIf at h; split at h <;> first | (cases h; exact ⟨_, rfl⟩) | cases h
theorem isFor_eq {t it : Expr} {b : List Stmt} (h : isFor s = some (t, it, b)) : ∃ p, s = .For t it b [] p := by unfold isFor at h; split at h <;> first | (cases h; exact ⟨_, rfl⟩) | cases h
theorem isWhile_eq {c : Expr} {b : List Stmt} (h : isWhile s = some (c, b)) : ∃ p, s = .While c b [] p := by unfold isWhile at h; split at h <;> first | (cases h; exact ⟨_, rfl⟩) | cases h
theorem isRet_eq {e : Expr} (h : isRet s = some e) : ∃ p, s = .Return (some e) p := by unfold isRet at h; split at h <;> first | (cases h; exact ⟨_, rfl⟩) | cases h
theorem isRetN_eq (h : isRetN s = true) : ∃ p, s = .Return none p := by unfold isRetN at h; split at h <;> first | exact ⟨_, rfl⟩ | cases h
theorem isPass_eq (h : isPass s = true) : ∃ p, s = .Pass p := by unfold isPass at h; split at h <;> first | exact ⟨_, rfl⟩ | cases h
theorem isBrk_eq (h : isBrk s = true) : ∃ p, s = .Break p := by unfold isBrk at h; split at h <;> first | exact ⟨_, rfl⟩ | cases h
theorem isCnt_eq (h : isCnt s = true) : ∃ p, s = .Continue p := by unfold isCnt at h; split at h <;> first | exact ⟨_, rfl⟩ | cases h
end
def isRaise : Stmt → Option (Str × List Expr) | .Raise (some (.Call (.Name x _) es [] _)) none _ => some (x, es) | _ => none
def isTry : Stmt → Option (List Stmt × List ExceptHandler) | .Try b (h :: hs) [] [] _ => some (b, h :: hs) | _ => none
def isHd : ExceptHandler → Option (Str × Option Str × List Stmt) | .ExceptHandler (some (.Name y _)) nm (b :: bs) _ => some (y, nm, b :: bs) | _ => none
theorem isRaise_eq {s : Stmt} {x : Str} {es : List Expr} (h : isRaise s = some (x, es)) : ∃ p q r, s = .Raise (some (.Call (.Name x p) es [] q)) none r := by
  unfold isRaise at h; split at h <;> first | (cases h; exact ⟨_, _, _, rfl⟩) | cases h
theorem isTry_eq {s : Stmt} {b : List Stmt} {hs : List ExceptHandler} (h : isTry s = some (b, hs)) : ∃ a r p, hs = a :: r ∧ s = .Try b (a :: r) [] [] p := by
  unfold isTry at h; split at h <;> first | (cases h; exact ⟨_, _, _, rfl, rfl⟩) | cases h
theorem isHd_eq {h : ExceptHandler} {y : Str} {nm : Option Str} {b : List Stmt} (e : isHd h = some (y, nm, b)) : ∃ p q a r, b = a :: r ∧ h = .ExceptHandler (some (.Name y p)) nm (a :: r) q := by
  unfold isHd at e; split at e <;> first | (cases e; exact ⟨_, _, _, _, rfl, rfl⟩) | cases e
/-- the checks within an except suite -/
def Cfg.suite (C : Cfg) (sl : Option Nat) (D : List Str) : Cfg := { C with calm := false, hot := true, eI := sl, eD := D, fs := C.hfs }
def slB (C : Cfg) (ns : Names) : Option Str → Option Nat → Bool
  | none, none => true
  | some n, some i => decide (C.N[i]? = some n) && decide (ns.lookup n = some .local)
  | _, _ => false
def isC : E → Bool | .comp .. => true | _ => false
def chkT (C : Cfg) (ns : Names) : List Nat → List Expr → Bool
  | [], [] => true
  | i :: is, t :: ts => (match isName t with | some x => decide (C.N[i]? = some x) && locB ns x | none => false) && chkT C ns is ts
  | _, _ => false
def notTup : Expr → Bool | .Tuple .. => false | _ => true
mutual
def chkS (C : Cfg) (ns : Names) : S → Stmt → Bool
  | .asg i e, st => match isAsg st with
    | some (t, pe) => (match isName t with | some x => decide (C.N[i]? = some x) && (locB ns x && (!C.hot || decide (C.eI ≠ some i))) | none => false) && ((notLc pe || isC e) && chkE C ns e pe)
    | none => false
  | .sto o i e, st => match isAsg st with
    | some (t, pe) => (match isSub t with | some (p, q) => notSlice q && (chkE C ns o p && chkE C ns i q) | none => false) && (notLc pe && chkE C ns e pe)
    | none => false
  | .stf cl f o e, st => match isAsg st with
    | some (t, pe) => (match isAttr t with | some (p, g) => decide (f = g) && ((match C.cs.lookup cl with | some l => l.contains f | none => false) && chkE C ns o p) | none => false) && (notLc pe && chkE C ns e pe)
    | none => false
  | .expr e, st => match isExprS st with | some pe => notLc pe && chkE C ns e pe | none => false
  | .ite c a b, st => match isIf st with | some (pc, pa, pb) => chkE C ns c pc && (chkSs C ns a pa && chkSs C ns b pb) | none => false
  | .forr i it b, st => match isFor st with
    | some (t, pit, pb) => C.calm && (match isName t with | some x => decide (C.N[i]? = some x) && locB ns x | none => false) && (notSet pit && (chkE C ns it pit && chkSs C ns b pb))
    | none => false
  | .asgt is e, st => match isAsg st with
    | some (t, pe) => C.calm && ((match isTup t with | some ts => chkT C ns is ts | none => false) && (notTup pe && (notLc pe && chkE C ns e pe)))
    | none => false
  | .fort is it b, st => match isFor st with
    | some (t, pit, pb) => C.calm && ((match isTup t with | some ts => chkT C ns is ts | none => false) && (notSet pit && (chkE C ns it pit && chkSs C ns b pb)))
    | none => false
  | .whil _ c b, st => match isWhile st with | some (pc, pb) => C.calm && (chkE C ns c pc && chkSs C ns b pb) | none => false
  | .ret e, st => match isRet st with | some pe => chkE C ns e pe | none => false
  | .retn, st => isRetN st
  | .pass, st => isPass st
  | .brk, st => isBrk st
  | .cnt, st => isCnt st
  | .never, _ => true
  | .raise c es, st => match isRaise st with
    | some (x, ps) => C.calm && (decide (c = x) && (glB ns x && (okName x && (!ps.isEmpty && (noStars ps && (chkEs C ns es ps && (match C.xn.lookup x with | some m => decide (ps.length = m.length) | none => false)))))))
    | none => false
  | .tryx b hs, st => match isTry st with
    | some (pb, hds) => C.calm && (chkSs C ns b pb && chkHs C ns hs hds)
    | none => false
def chkHs (C : Cfg) (ns : Names) : Hs → List ExceptHandler → Bool
  | .nil, [] => true
  | .cons x D sl b r, h :: hs => (match isHd h with
      | some (y, nm, pb) => decide (x = y) && (glB ns y && (okName y && (decide (C.sub.lookup y = some D) && (slB C ns nm sl && chkSs (C.suite sl D) ns b pb))))
      | none => false) && chkHs C ns r hs
  | _, _ => false
def chkSs (C : Cfg) (ns : Names) : Ss → List Stmt → Bool
  | .nil, [] => true
  | .cons s r, p :: ps => chkS C ns s p && chkSs C ns r ps
  | _, _ => false
end

/-! ### what is wanted behind a statement -/
def RPS (Y : Fx) (F : Hp) (μ : Nat → Addr) (st : Store) (H : Hp) (r : RS) (D : Ends) (W : WX) : Prop := match r with
  | .next env' st' => ∀ F' μ' H' σ', Ext F μ st H F' μ' st' H' → Good Y.kf F' μ' st' H' → EnvOk Y F' μ' st'.length env' σ' → D.nx σ' H'
  | .brk env' st' => ∀ F' μ' H' σ', Ext F μ st H F' μ' st' H' → Good Y.kf F' μ' st' H' → EnvOk Y F' μ' st'.length env' σ' → D.bk σ' H'
  | .cnt env' st' => ∀ F' μ' H' σ', Ext F μ st H F' μ' st' H' → Good Y.kf F' μ' st' H' → EnvOk Y F' μ' st'.length env' σ' → D.ct σ' H'
  | .ret v st' => ∀ F' μ' H' w, Ext F μ st H F' μ' st' H' → Good Y.kf F' μ' st' H' → RepV Y.kf F' μ' st'.length v w → D.rt w H'
  | .exn c fs env' st' => ∀ F' μ' H' σ' cls d, Ext F μ st H F' μ' st' H' → Good Y.kf F' μ' st' H' → EnvOk Y F' μ' st'.length env' σ' → ExnOk Y F' μ' st'.length c fs cls d → W cls d σ' H'
  | .stuck => False
section
variable {Y : Fx} {F F1 H H1 : Hp} {μ μ1 : Nat → Addr} {st st1 : Store} {r : RS} {D D' : Ends} {W : WX} {env : Env} {σ : L2.St}
theorem RPS.ext (e : Ext F μ st H F1 μ1 st1 H1) (h : RPS Y F μ st H r D W) : RPS Y F1 μ1 st1 H1 r D W := by
  cases r with
  | next env' st' => exact fun F' μ' H' σ' e' g n => h F' μ' H' σ' (e.trans e') g n
  | brk env' st' => exact fun F' μ' H' σ' e' g n => h F' μ' H' σ' (e.trans e') g n
  | cnt env' st' => exact fun F' μ' H' σ' e' g n => h F' μ' H' σ' (e.trans e') g n
  | ret v st' => exact fun F' μ' H' w e' g n => h F' μ' H' w (e.trans e') g n
  | exn c fs env' st' => exact fun F' μ' H' σ' cls d e' g n x => h F' μ' H' σ' cls d (e.trans e') g n x
  | stuck => exact h
/-- an expression in a statement -/
theorem RPS.go {α : Type} {r : R (α × Store)} {f : α × Store → RS} (en : EnvOk Y F μ st.length env σ) (h : RPS Y F μ st H (r.st env f) D W) :
    RP Y F μ st H r (fun F' μ' H' a st' => EnvOk Y F' μ' st'.length env σ ∧ RPS Y F' μ' st' H' (f (a, st')) D W) (at_ W σ) := by
  cases r with
  | ok p => exact fun F' μ' H' e' g => ⟨e'.env en, RPS.ext e' h⟩
  | exn c fs s => exact fun F' μ' H' cls d e g x => h F' μ' H' σ cls d e g (e.env en) x
  | stuck => exact h
def tS (Y : Fx) (Φ : Tab) (G : Str → Option Val) (W : WX) (s : S) : TS := fun D σ H => ∃ F μ st env, Good Y.kf F μ st H ∧ EnvOk Y F μ st.length env σ ∧ RPS Y F μ st H (evS Φ G s env st) D W
def tSs (Y : Fx) (Φ : Tab) (G : Str → Option Val) (W : WX) (s : Ss) : TS := fun D σ H => ∃ F μ st env, Good Y.kf F μ st H ∧ EnvOk Y F μ st.length env σ ∧ RPS Y F μ st H (evSs Φ G s env st) D W
end
section
variable {X : Cx}
theorem PSimp {s : Stmt} {t t' : TS} (h : PS X s t) (i : ∀ D σ H, t' D σ H → t D σ H) : PS X s t' := ⟨fun pins s σ H D I q => h.run pins s σ H D I (i D σ H q)⟩
theorem PSsimp {s : List Stmt} {t t' : TS} (h : PSs X s t) (i : ∀ D σ H, t' D σ H → t D σ H) : PSs X s t' := ⟨fun pins s σ H D I q => h.run pins s σ H D I (i D σ H q)⟩
end
/-- the frame of a body -/
structure SCtx (X : Cx) (C : Cfg) : Prop where
  fnt : ∀ x, X.fn x = true
  pass : C.calm = true → PassesOwn (model X.prog X.w) X.A X.env X.xe
  stk : X.stack = X.env :: X.outer
  frm : X.env.frame = some X.env.locals

section
variable {Y : Fx} {Φ : Tab} {G : Str → Option Val} {C : Cfg} {k : Nat} {X : Cx} {ns : Names} {W : WX}
/-- each piece, in a statement -/
theorem goSE {a : E} {f : Val × Store → RS} {F H : Hp} {μ : Nat → Addr} {st : Store} {env : Env} {σ : L2.St} {D : Ends} {Q : VK} (g : Good Y.kf F μ st H) (en : EnvOk Y F μ st.length env σ) (h : RPS Y F μ st H (((ev Φ G a).v env st).st env f) D W)
    (n : ∀ F1 μ1 H1 x st1 w, Ext F μ st H F1 μ1 st1 H1 → Good Y.kf F1 μ1 st1 H1 → EnvOk Y F1 μ1 st1.length env σ → RepV Y.kf F1 μ1 st1.length x w → RPS Y F1 μ1 st1 H1 (f (x, st1)) D W → Q w H1) : tE Y Φ G W a σ H Q :=
  ⟨F, μ, st, env, g, en, (RPS.go en h).impE fun F1 μ1 H1 x st1 _ e1 g1 h1 w r => n F1 μ1 H1 x st1 w e1 g1 h1.1 r h1.2⟩
theorem goST {a : E} {f : Bool × Store → RS} {F H : Hp} {μ : Nat → Addr} {st : Store} {env : Env} {σ : L2.St} {D : Ends} {Q : Bool → Hp → Prop} (g : Good Y.kf F μ st H) (en : EnvOk Y F μ st.length env σ) (h : RPS Y F μ st H (((ev Φ G a).t env st).st env f) D W)
    (n : ∀ F1 μ1 H1 x st1, Ext F μ st H F1 μ1 st1 H1 → Good Y.kf F1 μ1 st1 H1 → EnvOk Y F1 μ1 st1.length env σ → RPS Y F1 μ1 st1 H1 (f (x, st1)) D W → Q x H1) : tT Y Φ G W a σ H Q :=
  ⟨F, μ, st, env, g, en, (RPS.go en h).impE fun F1 μ1 H1 x st1 _ e1 g1 h1 => n F1 μ1 H1 x st1 e1 g1 h1.1 h1.2⟩
structure SndS (Y : Fx) (Φ : Tab) (G : Str → Option Val) (C : Cfg) (k : Nat) (s : S) : Prop where
  ps : ∀ {X : Cx} {ns : Names} {W : WX} {p : Stmt}, Ctx X Y Φ G C ns k → SCtx X C → Takes X W → chkS C ns s p = true → PS X p (tS Y Φ G W s)
structure SndSs (Y : Fx) (Φ : Tab) (G : Str → Option Val) (C : Cfg) (k : Nat) (s : Ss) : Prop where
  ps : ∀ {X : Cx} {ns : Names} {W : WX} {p : List Stmt}, Ctx X Y Φ G C ns k → SCtx X C → Takes X W → chkSs C ns s p = true → PSs X p (tSs Y Φ G W s)

theorem loc_ok (c : Ctx X Y Φ G C ns k) {x : Str} (h : locB ns x = true) : L2.Loc X.env.scope x := by
  unfold locB at h
  unfold L2.Loc
  rw [c.sc]
  split at h
  · rename_i e; exact .inl e
  · rename_i e; exact .inr e
  · cases h
theorem sw_some (pe : Expr) (x : Str) (p : Pos) (l : Nat) (env : PySem.Env) : ∃ b, swapsWith pe (some (.Name x p)) l env = pure b ∧ (b = true → env.kindOf x = some .local) := by
  have key : ∀ (z w : Bool), (z && (env.kindOf x == some .local) && w) = true → env.kindOf x = some .local := fun z w h => by
    simp only [Bool.and_eq_true, beq_iff_eq] at h; exact h.1.2
  cases pe <;> first
    | exact ⟨false, rfl, fun h => by cases h⟩
    | (refine ⟨_, rfl, fun h => ?_⟩
       simp only [Bool.and_eq_true, beq_iff_eq] at h
       exact h.1.1.2)
theorem asg_red {i : Nat} {e : E} {D : Ends} {σ : L2.St} {H : Hp} (hc : Y.hot = true → i < Y.nN ∧ Y.cI ≠ some i) (h : tS Y Φ G W (.asg i e) D σ H) : tAsg (tE Y Φ G W e) (gName i) D σ H := by
  obtain ⟨F, μ, st, env, g, en, h⟩ := h
  exact goSE g en h fun F1 μ1 H1 x st1 w e1 g1 en1 r1 hh => hh F1 μ1 H1 _ Ext.refl g1 (en1.set r1 i hc)
theorem snd_asg (i : Nat) (e : E) : SndS Y Φ G C k (.asg i e) where
  ps := fun {X ns W p} c sc tk q => by
    have tkx := tk.tk sc.stk sc.frm
    unfold chkS at q
    split at q
    · rename_i t pe hx
      obtain ⟨pp, rfl⟩ := isAsg_eq hx
      rw [Bool.and_eq_true] at q
      obtain ⟨q1, q2⟩ := q
      split at q1
      · rename_i x hn
        obtain ⟨pn, rfl⟩ := isName_eq hn
        rw [Bool.and_eq_true, Bool.and_eq_true] at q1
        rw [Bool.and_eq_true] at q2
        have hi : X.N[i]? = some x := by rw [c.N]; exact of_decide_eq_true q1.1
        have hloc := loc_ok c q1.2.1
        have hnot := c.not (of_decide_eq_true q1.1) q1.2.2
        obtain ⟨b, hb, hbl⟩ := sw_some pe x pn pp.line X.env
        cases b with
        | false => exact PSimp (ps_set c.nd hi hloc ((sAll e).pe c tkx q2.2) hb (.inl (sc.fnt x))) fun D σ H h => asg_red hnot h
        | true =>
          by_cases hlc : notLc pe = true
          · rw [sw_false hlc] at hb
            exact PSimp (ps_set c.nd hi hloc ((sAll e).pe c tkx q2.2) (sw_false hlc) (.inl (sc.fnt x))) fun D σ H h => asg_red hnot h
          · have he : isC e = true := by
              have := q2.1
              rw [Bool.or_eq_true] at this
              exact this.resolve_left hlc
            cases e with
            | comp m y it cc elt =>
              obtain ⟨pelt, yn, py, pit, ifs, scp, pp2, rfl, k0, k1, k2, k3, k4, k5, k6, k7⟩ := comp_key q2.2
              have rules := lc_rules (sAll it) (sAll cc) (sAll elt) c k0 tkx k1 k2 k3 k5 k6 k7 (py := py)
              exact PSimp (ps_setLcX tkx (c.calm k0).1 c.nd hi (hbl rfl) hb rules.1 (blk_ok c k3) rules.2.1 rules.2.2.1 rules.2.2.2 (folded_id k4)) fun D σ H h => by
                have h2 := asg_red hnot h
                exact snd_comp_red c.K (by rw [c.hot]; exact (c.calm k0).2) h2
            | _ => cases he
      · cases q1
    · cases q
end
end MP
/-! MiniPy: statements, the rest; all of them. -/
namespace MP
open PySem L2 PySem.Spec PyProof.Rows

section
variable {Y : Fx} {Φ : Tab} {G : Str → Option Val} {C : Cfg} {k : Nat} {X : Cx} {ns : Names} {W : WX}
theorem sto_noexn {x k y : Val} {st : Store} : ∀ c fs s, vSto x k y st ≠ .exn c fs s := by
  intro c fs s h
  unfold vSto at h
  repeat' (first | (cases h; done) | split at h)
theorem snd_sto (o i e : E) : SndS Y Φ G C k (.sto o i e) where
  ps := fun {X ns W p} c sc tk q => by
    have tkx := tk.tk sc.stk sc.frm
    unfold chkS at q
    split at q
    · rename_i t pe hx
      obtain ⟨pp, rfl⟩ := isAsg_eq hx
      rw [Bool.and_eq_true] at q
      obtain ⟨q1, q2⟩ := q
      split at q1
      · rename_i po pi hs
        obtain ⟨pn, rfl⟩ := isSub_eq hs
        simp only [Bool.and_eq_true] at q1 q2
        obtain ⟨k1, k2, k3⟩ := q1
        refine PSimp (ps_asg ((sAll e).pe c tkx q2.2) (pg_sub ((sAll o).pe c tkx k2) ((sAll i).pe c tkx k3) set_list (sub_assign k1)) (show swapsWith pe (some (.Subscript po pi pn)) pp.line X.env = pure false from sw_false q2.1) rfl rfl) fun D σ H ⟨F, μ, st, env, g, en, h⟩ => ?_
        refine goSE g en h fun F1 μ1 H1 x st1 w e1 g1 en1 r1 hh => ?_
        refine goSE g1 en1 hh fun F2 μ2 H2 y st2 u e2 g2 en2 r2 hh2 => ?_
        refine goSE g2 en2 hh2 fun F3 μ3 H3 z st3 t e3 g3 en3 r3 hh3 => ?_
        change RPS Y F3 μ3 st3 H3 ((vSto y z x st3).st env fun st' => .next env st') D W at hh3
        have r1' := e3.v (e2.v r1)
        have r2' := e3.v r2
        cases y with
        | loc n =>
          cases z with
          | int j =>
            obtain ⟨hw, hn⟩ := r2'
            have et : t = .int j := r3
            change RPS Y F3 μ3 st3 H3 (R.st (match st3[n]? with | some (.lst xs) => (match ixN xs.length j with | some m => .ok (st3.set n (.lst (xs.set m x))) | none => .stuck) | _ => .stuck) env fun st' => .next env st') D W at hh3
            split at hh3
            · rename_i xs hy
              split at hh3
              · rename_i m hm
                obtain ⟨hF, ws, h4, h5⟩ := g3.st.cell n _ hy
                refine ⟨μ3 n, ws, j, m, hw, et, h4, by rw [h5.len]; exact hm, ?_⟩
                obtain ⟨g4, e4⟩ := g3.write hy rfl (c' := .lst (xs.set m x)) rfl (o := .lst (ws.set m w)) ⟨hF, _, upd_same, h5.set r1' m⟩
                exact hh3 _ _ _ σ e4 g4 (e4.env en3)
              · exact False.elim hh3
            · exact False.elim hh3
          | _ => exact False.elim hh3
        | _ => exact False.elim hh3
      · cases q1
    · cases q
theorem stf_noexn {c f : Str} {x y : Val} {st : Store} : ∀ c' fs s, vStf c f x y st ≠ .exn c' fs s := by
  intro c' fs s h
  unfold vStf at h
  repeat' (first | (cases h; done) | split at h)
theorem zip_len {α : Type} {β : Type} {a : List α} {b : List β} (h : a.length = b.length) : (a.zip b).length = a.length := by rw [List.length_zip]; omega
theorem snd_stf (cl f : Str) (o e : E) : SndS Y Φ G C k (.stf cl f o e) where
  ps := fun {X ns W p} c sc tk q => by
    have tkx := tk.tk sc.stk sc.frm
    unfold chkS at q
    split at q
    · rename_i t pe hx
      obtain ⟨pp, rfl⟩ := isAsg_eq hx
      rw [Bool.and_eq_true] at q
      obtain ⟨q1, q2⟩ := q
      split at q1
      · rename_i po g0 hs
        obtain ⟨pn, rfl⟩ := isAttr_eq hs
        simp only [Bool.and_eq_true] at q1 q2
        obtain ⟨k1, k2, k3⟩ := q1
        have ef := of_decide_eq_true k1
        subst ef
        obtain ⟨l, hl, hfl⟩ : ∃ l, C.cs.lookup cl = some l ∧ f ∈ l := by
          split at k2
          · rename_i l hl; exact ⟨l, hl, mem_of k2⟩
          · cases k2
        obtain ⟨Ca, hm, hC, hN⟩ := c.cls cl l hl
        refine PSimp (ps_fld ((sAll o).pe c tkx k3) ((sAll e).pe c tkx q2.2) (show swapsWith pe (some (.Attribute po f pn)) pp.line X.env = pure false from sw_false q2.1)) fun D σ H ⟨F, μ, st, env, g, en, h⟩ => ?_
        refine goSE g en h fun F1 μ1 H1 x st1 w e1 g1 en1 r1 hh => ?_
        refine goSE g1 en1 hh fun F2 μ2 H2 y st2 u e2 g2 en2 r2 hh2 => ?_
        change RPS Y F2 μ2 st2 H2 ((vStf cl f y x st2).st env fun st' => .next env st') D W at hh2
        have r1' := e2.v r1
        cases y with
        | loc n =>
          obtain ⟨hw, hn⟩ := r2
          change RPS Y F2 μ2 st2 H2 (R.st (match st2[n]? with
            | some (.obj d ns xs) => if cl = d ∧ ns.length = xs.length ∧ ns.length < 100 then (match ixF f ns with
              | some i => .ok (st2.set n (.obj cl ns (xs.set i x)))
              | none => .ok (st2.set n (.obj cl (ns ++ [f]) (xs ++ [x])))) else .stuck
            | _ => .stuck) env fun st' => .next env st') D W at hh2
          split at hh2
          · rename_i d ms xs hy
            by_cases hc : cl = d ∧ ms.length = xs.length ∧ ms.length < 100
            · rw [if_pos hc] at hh2
              obtain ⟨ed, el, ll⟩ := hc
              subst ed
              obtain ⟨hF, dx, Ca', ws, h2, h3, h4, h5, h6⟩ := g2.st.cell n _ hy
              have h2' : Y.mg cl = some (.ref Ca') := h2
              have : Ca' = Ca := by rw [← c.mg, hm] at h2'; cases h2'; rfl
              subst this
              have elw : ms.length = ws.length := by rw [h6.len]; exact h5
              refine ⟨μ2 n, _, dx, ms.zip ws, hw, h3, hC, hN f hfl, by rw [zip_len elw]; omega, ?_⟩
              cases hix : ixF f ms with
              | some i =>
                rw [hix] at hh2
                rw [put_some elw hix]
                obtain ⟨g4, e4⟩ := g2.write hy rfl (c' := .obj cl ms (xs.set i x)) rfl (o := .ins Ca' dx (ms.zip (ws.set i w))) ⟨hF, dx, Ca', _, h2, upd_same, h4, by simpa using h5, h6.set r1' i⟩
                exact hh2 _ _ _ σ e4 g4 (e4.env en2)
              | none =>
                rw [hix] at hh2
                rw [put_none elw hix]
                obtain ⟨g4, e4⟩ := g2.write hy rfl (c' := .obj cl (ms ++ [f]) (xs ++ [x])) rfl (o := .ins Ca' dx ((ms ++ [f]).zip (ws ++ [w]))) ⟨hF, dx, Ca', _, h2, upd_same, h4, by simpa using h5, h6.append ⟨w, [], rfl, r1', rfl⟩⟩
                exact hh2 _ _ _ σ e4 g4 (e4.env en2)
            · rw [if_neg hc] at hh2; exact False.elim hh2
          · exact False.elim hh2
        | _ => exact False.elim hh2
      · cases q1
    · cases q
theorem snd_expr (e : E) : SndS Y Φ G C k (.expr e) where
  ps := fun {X ns W p} c sc tk q => by
    have tkx := tk.tk sc.stk sc.frm
    unfold chkS at q
    split at q
    · rename_i pe hx
      obtain ⟨pp, rfl⟩ := isExprS_eq hx
      rw [Bool.and_eq_true] at q
      refine PSimp (ps_expr ((sAll e).pe c tkx q.2) (sw_false q.1)) fun D σ H ⟨F, μ, st, env, g, en, h⟩ => ?_
      exact goSE g en h fun F1 μ1 H1 x st1 w e1 g1 en1 r1 hh => hh _ _ _ σ Ext.refl g1 en1
    · cases q
theorem snd_ret (e : E) : SndS Y Φ G C k (.ret e) where
  ps := fun {X ns W p} c sc tk q => by
    have tkx := tk.tk sc.stk sc.frm
    unfold chkS at q
    split at q
    · rename_i pe hx
      obtain ⟨pp, rfl⟩ := isRet_eq hx
      refine PSimp (ps_ret ((sAll e).pe c tkx q)) fun D σ H ⟨F, μ, st, env, g, en, h⟩ => ?_
      exact goSE g en h fun F1 μ1 H1 x st1 w e1 g1 en1 r1 hh => hh _ _ _ w Ext.refl g1 r1
    · cases q
theorem snd_retn : SndS Y Φ G C k .retn where
  ps := fun {X ns W p} c sc tk q => by
    have tkx := tk.tk sc.stk sc.frm
    obtain ⟨pp, rfl⟩ := isRetN_eq q
    exact PSimp ps_retN fun D σ H ⟨F, μ, st, env, g, en, h⟩ => h _ _ _ .non Ext.refl g rfl
theorem snd_pass : SndS Y Φ G C k .pass where
  ps := fun {X ns W p} c sc tk q => by
    have tkx := tk.tk sc.stk sc.frm
    obtain ⟨pp, rfl⟩ := isPass_eq q
    exact PSimp ps_pass fun D σ H ⟨F, μ, st, env, g, en, h⟩ => h _ _ _ σ Ext.refl g en
theorem snd_brk : SndS Y Φ G C k .brk where
  ps := fun {X ns W p} c sc tk q => by
    have tkx := tk.tk sc.stk sc.frm
    obtain ⟨pp, rfl⟩ := isBrk_eq q
    exact PSimp ps_break fun D σ H ⟨F, μ, st, env, g, en, h⟩ => h _ _ _ σ Ext.refl g en
theorem snd_cnt : SndS Y Φ G C k .cnt where
  ps := fun {X ns W p} c sc tk q => by
    have tkx := tk.tk sc.stk sc.frm
    obtain ⟨pp, rfl⟩ := isCnt_eq q
    exact PSimp ps_continue fun D σ H ⟨F, μ, st, env, g, en, h⟩ => h _ _ _ σ Ext.refl g en
theorem snd_never : SndS Y Φ G C k .never where
  ps := fun {X ns W p} c sc tk q => ⟨fun pins s σ H D I ⟨F, μ, st, env, g, en, h⟩ => False.elim h⟩
theorem snd_ite {d : E} {a b : Ss} (sa : SndSs Y Φ G C k a) (sb : SndSs Y Φ G C k b) : SndS Y Φ G C k (.ite d a b) where
  ps := fun {X ns W p} c sc tk q => by
    have tkx := tk.tk sc.stk sc.frm
    unfold chkS at q
    split at q
    · rename_i pc pa pb hx
      obtain ⟨pp, rfl⟩ := isIf_eq hx
      simp only [Bool.and_eq_true] at q
      obtain ⟨q1, q2, q3⟩ := q
      refine PSimp (ps_if ((sAll d).pt c tkx q1) (sa.ps c sc tk q2) (sb.ps c sc tk q3)) fun D σ H ⟨F, μ, st, env, g, en, h⟩ => ?_
      have h : RPS Y F μ st H (((ev Φ G d).t env st).st env fun p => if p.1 then evSs Φ G a env p.2 else evSs Φ G b env p.2) D W := by simpa only [evS] using h
      refine goST g en h fun F1 μ1 H1 x st1 e1 g1 en1 hh => ?_
      cases x with
      | true => rw [if_pos rfl]; exact ⟨F1, μ1, st1, env, g1, en1, hh⟩
      | false => rw [if_neg Bool.false_ne_true]; exact ⟨F1, μ1, st1, env, g1, en1, hh⟩
    · cases q
theorem snd_for {i : Nat} {it : E} {b : Ss} (sb : SndSs Y Φ G C k b) : SndS Y Φ G C k (.forr i it b) where
  ps := fun {X ns W p} c sc tk q => by
    have tkx := tk.tk sc.stk sc.frm
    unfold chkS at q
    split at q
    · rename_i t pit pb hx
      obtain ⟨pp, rfl⟩ := isFor_eq hx
      simp only [Bool.and_eq_true] at q
      obtain ⟨⟨q0, q1⟩, q2, q3, q4⟩ := q
      split at q1
      · rename_i x hn
        obtain ⟨pn, rfl⟩ := isName_eq hn
        rw [Bool.and_eq_true] at q1
        have hi : X.N[i]? = some x := by rw [c.N]; exact of_decide_eq_true q1.1
        have hloc := loc_ok c q1.2
        refine PSimp (ps_for (sc.pass q0) (c.calm q0).1 ((sAll it).pi (.Name x pn) c tkx q3) (pg_name c.nd hi hloc (.inl (sc.fnt x))) (sb.ps c sc tk q4) (folded_id q2)) fun D σ H ⟨F, μ, st, env, g, en, h⟩ => ?_
        have h : RPS Y F μ st H (((ev Φ G it).i env st).st env fun p => forL i (evSs Φ G b) p.1 env p.2) D W := by simpa only [evS] using h
        refine ⟨F, μ, st, env, g, en, (RPS.go en h).impE fun F1 μ1 H1 xs st1 er e1 g1 ⟨en1, h1⟩ J us rL wj => ?_⟩
        refine for_walk wj (fun j σ' H' => ∃ Fj μj stj envj, Ext F1 μ1 st1 H1 Fj μj stj H' ∧ Good Y.kf Fj μj stj H' ∧ EnvOk Y Fj μj stj.length envj σ' ∧ RPS Y Fj μj stj H' (forL i (evSs Φ G b) (xs.drop j) envj stj) D W) ?_ ?_ ?_ ?_
        · exact ⟨F1, μ1, st1, env, Ext.refl, g1, en1, h1⟩
        · rintro j σ' H' ⟨Fj, μj, stj, envj, ej, gj, _, _⟩
          exact ej.same.trans gj.same
        · rintro j w σ' H' hw ⟨Fj, μj, stj, envj, ej, gj, enj, hj⟩
          obtain ⟨v, hv, rv⟩ := rL.getV hw
          obtain ⟨hlt, hvi⟩ := List.getElem?_eq_some_iff.mp hv
          rw [List.drop_eq_getElem_cons hlt, hvi] at hj
          refine ⟨Fj, μj, stj, envj.set i (some v), gj, enj.set (ej.v rv) i (fun z => c.cold q0 z), ?_⟩
          simp only [forL] at hj
          cases hr : evSs Φ G b (envj.set i (some v)) stj with
          | next env' st' => rw [hr] at hj; exact fun F2 μ2 H2 σ2 e2 g2 en2 => ⟨F2, μ2, st', env', ej.trans e2, g2, en2, RPS.ext e2 hj⟩
          | cnt env' st' => rw [hr] at hj; exact fun F2 μ2 H2 σ2 e2 g2 en2 => ⟨F2, μ2, st', env', ej.trans e2, g2, en2, RPS.ext e2 hj⟩
          | brk env' st' => rw [hr] at hj; exact hj
          | ret v' st' => rw [hr] at hj; exact hj
          | exn c' fs env' st' => rw [hr] at hj; exact hj
          | stuck => rw [hr] at hj; exact False.elim hj
        · rintro σ' H' ⟨Fj, μj, stj, envj, ej, gj, enj, hj⟩
          rw [rL.len, List.drop_length] at hj
          exact hj _ _ _ σ' Ext.refl gj enj
      · cases q1
    · cases q
/-! several names at once -/
def setNV : List Nat → List V → L2.St → L2.St
  | i :: is, v :: vs, σ => setNV is vs (σ.set i (some v))
  | _, _, σ => σ
def gSetN (is : List Nat) : TGs := fun vs σ H Q => vs.length = is.length ∧ Q (setNV is vs σ) H
theorem pgs_names (c : Ctx X Y Φ G C ns k) (sc : SCtx X C) : ∀ (is : List Nat) (ts : List Expr), chkT C ns is ts = true → PGs X ts (gSetN is) ∧ (assignEach ts X.env).length = is.length ∧ (assignEach ts X.env).findIdx? (·.1) = none
  | [], [], _ => ⟨⟨fun pins s σ H vs us Q I r h => pgs_nil.run pins s σ H vs us Q I r ⟨List.eq_nil_of_length_eq_zero h.1, by have := List.eq_nil_of_length_eq_zero h.1; subst this; exact h.2⟩⟩, rfl, rfl⟩
  | i :: is, t :: ts, h => by
    unfold chkT at h
    rw [Bool.and_eq_true] at h
    obtain ⟨h1, h2⟩ := h
    obtain ⟨a1, a2, a3⟩ := pgs_names c sc is ts h2
    split at h1
    · rename_i x hn
      obtain ⟨pn, rfl⟩ := isName_eq hn
      rw [Bool.and_eq_true] at h1
      have hi : X.N[i]? = some x := by rw [c.N]; exact of_decide_eq_true h1.1
      have hloc := loc_ok c h1.2
      have hp : PGs X (.Name x pn :: ts) (gCons (gName i) (gSetN is)) := pgs_cons (pg_name c.nd hi hloc (.inl (sc.fnt x))) a1
      refine ⟨⟨fun pins s σ H vs us Q I r h => hp.run pins s σ H vs us Q I r ?_⟩, ?_, ?_⟩
      · obtain ⟨hl, hq⟩ := h
        cases vs with
        | nil => cases hl
        | cons v vs => exact ⟨v, vs, rfl, by simpa using hl, hq⟩
      · show (assignEach ts X.env).length + 1 = _; rw [a2]; rfl
      · have e : assignEach (.Name x pn :: ts) X.env = (false, assign (.Name x pn) X.env) :: assignEach ts X.env := rfl
        rw [e, List.findIdx?_cons]
        show (if false = true then _ else _) = _
        rw [if_neg Bool.false_ne_true, a3]; rfl
    · cases h1
  | [], _ :: _, h => by cases h
  | _ :: _, [], h => by cases h
def gSeqN (K : PySem.W.Frag) (is : List Nat) : TG := fun v σ H Q => ∃ a xs, v = .ref a ∧ (SqL K H a xs ∨ SqT K H a xs) ∧ xs.length = is.length ∧ Q (setNV is xs σ) H
theorem pg_seq (c : Ctx X Y Φ G C ns k) (sc : SCtx X C) (hc : X.calm = true) {is : List Nat} {ts : List Expr} {kk : Nat} {pos : Pos} (h : chkT C ns is ts = true) : PG X (.Tuple ts kk pos) (gSeqN X.K is) := by
  obtain ⟨h1, h2, h3⟩ := pgs_names c sc is ts h
  have g1 := pg_tup (k := kk) (pos := pos) hc h1 h2 h3
  have g2 := pg_lst (k := kk) (pos := pos) hc h1 h2 h3
  refine ⟨fun pins s σ H v u Q I r ⟨a, xs, e, hq, hl, q⟩ => ?_⟩
  rcases hq with hq | hq
  · exact g2.run pins s σ H v u Q I r ⟨a, xs, e, hq, hl, hl, q⟩
  · exact g1.run pins s σ H v u Q I r ⟨a, xs, e, hq, hl, hl, q⟩
theorem EnvOk.setN {F : Hp} {μ : Nat → Addr} {n : Nat} (hc : Y.hot = false) : ∀ {is : List Nat} {xs : List Val} {vs : List V} {env : Env} {σ : L2.St}, EnvOk Y F μ n env σ → RepL Y.kf F μ n xs vs → EnvOk Y F μ n (setN is xs env) (setNV is vs σ)
  | [], _, _, _, _, h, _ => h
  | i :: is, [], vs, _, _, h, r => by have e : vs = [] := r; subst e; exact h
  | i :: is, x :: xs, _, _, _, h, ⟨v, r, e, h1, h2⟩ => by
    subst e
    exact EnvOk.setN hc (is := is) (h.set h1 i fun z => by rw [hc] at z; cases z) h2
theorem seqN_rep {F H : Hp} {μ : Nat → Addr} {st : Store} {is : List Nat} {x : Val} {w : V} {env env' : Env} {σ : L2.St} (hK : X.K = Y.K) (hc : Y.hot = false) (g : Good Y.kf F μ st H) (en : EnvOk Y F μ st.length env σ) (r : RepV Y.kf F μ st.length x w) (e : seqN is x env st = some env') :
    ∃ a vs, w = .ref a ∧ (SqL X.K H a vs ∨ SqT X.K H a vs) ∧ vs.length = is.length ∧ EnvOk Y F μ st.length env' (setNV is vs σ) := by
  unfold seqN at e
  split at e
  · rename_i k xs hs
    by_cases hl : xs.length = is.length
    · rw [if_pos hl] at e
      cases e
      obtain ⟨a, vs, h1, h2, h3⟩ := seqOf_rep g r hs
      refine ⟨a, vs, h1, ?_, by rw [h2.len]; exact hl, en.setN hc h2⟩
      rw [hK]
      cases k with
      | true => exact .inl h3
      | false => exact .inr h3
    · rw [if_neg hl] at e; cases e
  · cases e
theorem snd_asgt (is : List Nat) (e : E) : SndS Y Φ G C k (.asgt is e) where
  ps := fun {X ns W p} c sc tk q => by
    have tkx := tk.tk sc.stk sc.frm
    unfold chkS at q
    split at q
    · rename_i t pe hx
      obtain ⟨pp, rfl⟩ := isAsg_eq hx
      simp only [Bool.and_eq_true] at q
      obtain ⟨q0, q1, q2, q3, q4⟩ := q
      split at q1
      · rename_i ts hn
        obtain ⟨kk, pn, rfl⟩ := isTup_eq hn
        have hot : Y.hot = false := by rw [c.hot]; exact (c.calm q0).2
        refine PSimp (ps_asg ((sAll e).pe c tkx q4) (pg_seq c sc (c.calm q0).1 q1) (show swapsWith pe (some (.Tuple ts kk pn)) pp.line X.env = pure false from sw_false q3) (by cases pe <;> first | rfl | cases q2)) fun D σ H ⟨F, μ, st, env, g, en, h⟩ => ?_
        refine goSE g en h fun F1 μ1 H1 x st1 w e1 g1 en1 r1 hh => ?_
        change RPS Y F1 μ1 st1 H1 (match seqN is x env st1 with | some env' => .next env' st1 | none => .stuck) D W at hh
        split at hh
        · rename_i env' he
          obtain ⟨a, vs, h1, h2, h3, h4⟩ := seqN_rep (X := X) c.K hot g1 en1 r1 he
          exact ⟨a, vs, h1, h2, h3, hh _ _ _ _ Ext.refl g1 h4⟩
        · exact False.elim hh
      · cases q1
    · cases q
theorem snd_fort {is : List Nat} {it : E} {b : Ss} (sb : SndSs Y Φ G C k b) : SndS Y Φ G C k (.fort is it b) where
  ps := fun {X ns W p} c sc tk q => by
    have tkx := tk.tk sc.stk sc.frm
    unfold chkS at q
    split at q
    · rename_i t pit pb hx
      obtain ⟨pp, rfl⟩ := isFor_eq hx
      simp only [Bool.and_eq_true] at q
      obtain ⟨q0, q1, q2, q3, q4⟩ := q
      split at q1
      · rename_i ts hn
        obtain ⟨kk, pn, rfl⟩ := isTup_eq hn
        have hot : Y.hot = false := by rw [c.hot]; exact (c.calm q0).2
        refine PSimp (ps_for (sc.pass q0) (c.calm q0).1 ((sAll it).pi (.Tuple ts kk pn) c tkx q3) (pg_seq c sc (c.calm q0).1 q1) (sb.ps c sc tk q4) (folded_id q2)) fun D σ H ⟨F, μ, st, env, g, en, h⟩ => ?_
        have h : RPS Y F μ st H (((ev Φ G it).i env st).st env fun p => forT is (evSs Φ G b) p.1 env p.2) D W := by simpa only [evS] using h
        refine ⟨F, μ, st, env, g, en, (RPS.go en h).impE fun F1 μ1 H1 xs st1 er e1 g1 ⟨en1, h1⟩ J us rL wj => ?_⟩
        refine for_walk wj (fun j σ' H' => ∃ Fj μj stj envj, Ext F1 μ1 st1 H1 Fj μj stj H' ∧ Good Y.kf Fj μj stj H' ∧ EnvOk Y Fj μj stj.length envj σ' ∧ RPS Y Fj μj stj H' (forT is (evSs Φ G b) (xs.drop j) envj stj) D W) ?_ ?_ ?_ ?_
        · exact ⟨F1, μ1, st1, env, Ext.refl, g1, en1, h1⟩
        · rintro j σ' H' ⟨Fj, μj, stj, envj, ej, gj, _, _⟩
          exact ej.same.trans gj.same
        · rintro j w σ' H' hw ⟨Fj, μj, stj, envj, ej, gj, enj, hj⟩
          obtain ⟨v, hv, rv⟩ := rL.getV hw
          obtain ⟨hlt, hvi⟩ := List.getElem?_eq_some_iff.mp hv
          rw [List.drop_eq_getElem_cons hlt, hvi] at hj
          simp only [forT] at hj
          split at hj
          · rename_i env1 he
            obtain ⟨a, vs, h1, h2, h3, h4⟩ := seqN_rep (X := X) c.K hot gj enj (ej.v rv) he
            refine ⟨a, vs, h1, h2, h3, Fj, μj, stj, env1, gj, h4, ?_⟩
            cases hr : evSs Φ G b env1 stj with
            | next env' st' => rw [hr] at hj; exact fun F2 μ2 H2 σ2 e2 g2 en2 => ⟨F2, μ2, st', env', ej.trans e2, g2, en2, RPS.ext e2 hj⟩
            | cnt env' st' => rw [hr] at hj; exact fun F2 μ2 H2 σ2 e2 g2 en2 => ⟨F2, μ2, st', env', ej.trans e2, g2, en2, RPS.ext e2 hj⟩
            | brk env' st' => rw [hr] at hj; exact hj
            | ret v' st' => rw [hr] at hj; exact hj
            | exn c' fs env' st' => rw [hr] at hj; exact hj
            | stuck => rw [hr] at hj; exact False.elim hj
          · exact False.elim hj
        · rintro σ' H' ⟨Fj, μj, stj, envj, ej, gj, enj, hj⟩
          rw [rL.len, List.drop_length] at hj
          exact hj _ _ _ σ' Ext.refl gj enj
      · cases q1
    · cases q
theorem snd_while {n : Nat} {d : E} {b : Ss} (sb : SndSs Y Φ G C k b) : SndS Y Φ G C k (.whil n d b) where
  ps := fun {X ns W p} c sc tk q => by
    have tkx := tk.tk sc.stk sc.frm
    unfold chkS at q
    split at q
    · rename_i pc pb hx
      obtain ⟨pp, rfl⟩ := isWhile_eq hx
      simp only [Bool.and_eq_true] at q
      obtain ⟨q0, q1, q2⟩ := q
      refine PSimp (ps_while (sc.pass q0) ((sAll d).pt c tkx q1) (sb.ps c sc tk q2)) fun D σ H ⟨F, μ, st, env, g, en, h⟩ => ?_
      have h : RPS Y F μ st H (whileL (ev Φ G d).t (evSs Φ G b) n env st) D W := by simpa only [evS] using h
      refine ⟨fun m σ' H' => ∃ Fj μj stj envj, Good Y.kf Fj μj stj H' ∧ EnvOk Y Fj μj stj.length envj σ' ∧ RPS Y Fj μj stj H' (whileL (ev Φ G d).t (evSs Φ G b) m envj stj) D W, ⟨n, F, μ, st, env, g, en, h⟩, ?_⟩
      rintro m σ' H' ⟨Fj, μj, stj, envj, gj, enj, hj⟩
      cases m with
      | zero => exact False.elim hj
      | succ m =>
        simp only [whileL] at hj
        refine goST gj enj hj fun F1 μ1 H1 x st1 e1 g1 en1 hh => ?_
        cases x with
        | true =>
          rw [if_pos rfl] at hh ⊢
          refine ⟨fun σ2 H2 => ∃ Fj μj stj envj, Good Y.kf Fj μj stj H2 ∧ EnvOk Y Fj μj stj.length envj σ2 ∧ RPS Y Fj μj stj H2 (whileL (ev Φ G d).t (evSs Φ G b) m envj stj) D W, fun σ2 H2 h2 => ⟨m, Nat.lt_succ_self m, h2⟩, F1, μ1, st1, envj, g1, en1, ?_⟩
          cases hr : evSs Φ G b envj st1 with
          | next env' st' => rw [hr] at hh; exact fun F2 μ2 H2 σ2 e2 g2 en2 => ⟨F2, μ2, st', env', g2, en2, RPS.ext e2 hh⟩
          | cnt env' st' => rw [hr] at hh; exact fun F2 μ2 H2 σ2 e2 g2 en2 => ⟨F2, μ2, st', env', g2, en2, RPS.ext e2 hh⟩
          | brk env' st' => rw [hr] at hh; exact hh
          | ret v' st' => rw [hr] at hh; exact hh
          | exn c' fs env' st' => rw [hr] at hh; exact hh
          | stuck => rw [hr] at hh; exact False.elim hh
        | false =>
          rw [if_neg Bool.false_ne_true] at hh ⊢
          exact hh _ _ _ σ' Ext.refl g1 en1
    · cases q
theorem sndS_nil : SndSs Y Φ G C k .nil where
  ps := fun {X ns W p} c sc tk q => by
    have tkx := tk.tk sc.stk sc.frm
    cases p with
    | nil =>
      refine PSsimp pss_nil fun D σ H ⟨F, μ, st, env, g, en, h⟩ => ?_
      have h : RPS Y F μ st H (.next env st) D W := by simpa only [evSs] using h
      exact h _ _ _ σ Ext.refl g en
    | cons a b => cases q
theorem sndS_cons {s : S} {r : Ss} (h1 : SndS Y Φ G C k s) (h2 : SndSs Y Φ G C k r) : SndSs Y Φ G C k (.cons s r) where
  ps := fun {X ns W p} c sc tk q => by
    have tkx := tk.tk sc.stk sc.frm
    cases p with
    | nil => cases q
    | cons a b =>
      have q' : (chkS C ns s a && chkSs C ns r b) = true := q
      rw [Bool.and_eq_true] at q'
      refine PSsimp (pss_cons (h1.ps c sc tk q'.1) (h2.ps c sc tk q'.2)) fun D σ H ⟨F, μ, st, env, g, en, h⟩ => ?_
      have h : RPS Y F μ st H ((evS Φ G s env st).bind (evSs Φ G r)) D W := by simpa only [evSs] using h
      refine ⟨F, μ, st, env, g, en, ?_⟩
      cases hr : evS Φ G s env st with
      | next env' st' => rw [hr] at h; exact fun F2 μ2 H2 σ2 e2 g2 en2 => ⟨F2, μ2, st', env', g2, en2, RPS.ext e2 h⟩
      | cnt env' st' => rw [hr] at h; exact h
      | brk env' st' => rw [hr] at h; exact h
      | ret v' st' => rw [hr] at h; exact h
      | exn c' fs env' st' => rw [hr] at h; exact h
      | stuck => rw [hr] at h; exact False.elim h
theorem snd_raise (cn : Str) (es : Es) : SndS Y Φ G C k (.raise cn es) where
  ps := fun {X ns W p} c sc tk q => by
    have tkx := tk.tk sc.stk sc.frm
    unfold chkS at q
    split at q
    · rename_i x ps hx
      obtain ⟨p1, p2, p3, rfl⟩ := isRaise_eq hx
      simp only [Bool.and_eq_true] at q
      obtain ⟨q0, q1, q2, q3, q4, q5, q6, q7⟩ := q
      have ex := of_decide_eq_true q1
      subst ex
      split at q7
      · rename_i m hm
        have hlen := of_decide_eq_true q7
        have hXn := c.tb.nx _ _ hm
        obtain ⟨Ca, Da, fI, stc, a1, a2, a3, a4⟩ := c.tb.made _ _ hXn
        cases ps with
        | nil => cases q4
        | cons pa ps =>
          have n1 : notStar pa = true ∧ noStars ps = true := by
            have z : (notStar pa && noStars ps) = true := q5
            rwa [Bool.and_eq_true] at z
          have T : SupTxt X.prog X.K X.mg Ca Da fI stc m := by rw [c.K, c.mg]; exact a2
          refine PSimp (ps_raise (c.calm q0).1 tk (pmk_sup T a3 c.depth (gl_ok c q2) (by rw [c.mg]; exact a1) ((sAlls es).pa c tkx q6) (okName_1 q3) (star_cons n1.1) (star_any n1.2))) fun D σ H ⟨F, μ, st, env, g, en, h⟩ => ?_
          change RPS Y F μ st H ((evs Φ G es env st).st env fun p => .exn cn p.1 env p.2) D W at h
          refine ⟨F, μ, st, env, g, en, (RPS.go en h).impE fun F1 μ1 H1 xs st1 er e1 g1 ⟨en1, h1⟩ ws rw1 => ⟨?_, fun d hd => ?_⟩⟩
          · rw [rw1.len, ← hlen]; exact chkEs_len q6 er
          · obtain ⟨g2, e2⟩ := g1.frozen (o := .xd (m.zip ws)) hd
            exact h1 _ _ _ σ _ _ e2 g2 (e2.env en1) ⟨a1, d, m, ws, rfl, hXn, by rw [rw1.len, ← hlen]; exact (chkEs_len q6 er).symm, upd_same, e2.l rw1⟩
      · cases q7
    · cases q
/-- the suite's frame, from the one around it -/
def Fx.caught (Y : Fx) (ad : Addr) (cls : Value) (d : Option Addr) (sl : Option Nat) (D : List Str) : Fx := { Y with hot := true, cA := ad, cC := cls, cD := d, cI := sl, eD := D }
theorem ctx_suite (c : Ctx X Y Φ G C ns k) (hcalm : C.calm = true) {ad : Addr} {ob : Obj} {cls : Value} {d : Option Addr} {pn : List (Addr × Obj)} {sl : Option Nat} {D : List Str} (hz : Zc cls d ob) (hf : ∃ vs, ob.data = .fields vs) :
    Ctx (X.suite ad ((ad, ob) :: pn)) (Y.caught ad cls d sl D) Φ G (C.suite sl D) ns k where
  K := c.K
  mg := c.mg
  N := c.N
  nd := c.nd
  sc := c.sc
  kind := c.kind
  calm := fun z => by cases z
  hot := rfl
  nN := c.nN
  hotx := fun _ => ⟨c.nN, rfl, rfl⟩
  suite := fun _ => ⟨X, ob, pn, rfl, hz, hf⟩
  tb := ⟨c.tb.made, c.tb.xn, c.tb.nx, c.tb.sub⟩
  units := c.units
  depth := c.depth
  fn := fun x hx => by
    obtain ⟨m, f, fd, ps, h1, h2, h3, h4, h5, h6, h7⟩ := c.hfn hcalm x hx
    refine ⟨m, f, fd, ps, h1, h2, h3, h4, h5, (fun z => by cases z), fun _ => ⟨⟨h6.dp, h6.un⟩, h7⟩⟩
  hfn := fun z => by cases z
  gl := c.gl
  bt := c.bt
  cls := c.cls
  nw := fun z => by cases z
  mt := fun z => by cases z
theorem sctx_suite (sc : SCtx X C) {ad : Addr} {ob : Obj} {pn : List (Addr × Obj)} {sl : Option Nat} {D : List Str} : SCtx (X.suite ad ((ad, ob) :: pn)) (C.suite sl D) := ⟨sc.fnt, (fun z => by cases z), sc.stk, sc.frm⟩
theorem clrS_len (sl : Option Nat) (env : Env) : (clrS sl env).length = env.length := by
  cases sl with
  | none => rfl
  | some i => exact List.length_set ..
theorem clrS_get {sl : Option Nat} {env : Env} {i : Nat} {x : Val} (h : (clrS sl env)[i]? = some (some x)) : env[i]? = some (some x) ∧ sl ≠ some i := by
  cases sl with
  | none => exact ⟨h, fun z => by cases z⟩
  | some j =>
    have h : (env.set j none)[i]? = some (some x) := h
    by_cases hj : j = i
    · subst hj
      by_cases hl : j < env.length
      · rw [List.getElem?_set_self hl] at h; cases h
      · rw [List.getElem?_eq_none (by simpa using hl)] at h; cases h
    · rw [List.getElem?_set_ne hj] at h
      exact ⟨h, fun z => hj (Option.some.inj z)⟩
/-- into the suite -/
theorem env_in {F : Hp} {μ : Nat → Addr} {n : Nat} {env : Env} {σ : L2.St} (cold : Y.hot = false) (en : EnvOk Y F μ n env σ) {ad : Addr} {cls : Value} {d : Option Addr} {sl : Option Nat} {D : List Str} {cn : Str} {fs : List Val}
    (hx : ExnOk Y F μ n cn fs cls d) (hD : cn ∈ D) (hsl : ∀ i, sl = some i → i < Y.nN) : EnvOk (Y.caught ad cls d sl D) F μ n (clrS sl env ++ [some (.str cn), some (.tup fs)]) (inD sl ad σ) := by
  have el := en.cold cold
  have il : (inD sl ad σ).length = σ.length := by cases sl with | none => rfl | some i => exact List.length_set ..
  obtain ⟨hm, dd, ns, vs, hd, hX, hn, hF, rl⟩ := hx
  refine ⟨by rw [il, List.length_append, clrS_len]; omega, by rw [il]; exact en.sz, fun i x hi h => ?_, (fun z => by cases z), fun _ => ⟨by rw [il]; exact en.sz, cn, fs, dd, ns, vs, ?_, ?_, hD, hm, hX, hd, hn, hF, rl, fun i hi => ?_⟩⟩
  · rw [il] at hi
    rw [List.getElem?_append_left (by rw [clrS_len]; omega)] at h
    obtain ⟨h1, h2⟩ := clrS_get h
    obtain ⟨v, h3, h4⟩ := en.val i x hi h1
    refine ⟨v, ?_, h4⟩
    cases sl with
    | none => exact h3
    | some j =>
      show (σ.set j (some (.ref ad)))[i]? = _
      rw [List.getElem?_set_ne (fun z => h2 (by rw [z]))]; exact h3
  · rw [il, List.getElem?_append_right (by rw [clrS_len]; omega), clrS_len, el]; simp
  · rw [il, List.getElem?_append_right (by rw [clrS_len]; omega), clrS_len, el]; simp
  · have hi' : sl = some i := hi
    subst hi'
    show (σ.set i (some (.ref ad)))[i]? = _
    rw [List.getElem?_set_self (by rw [en.sz]; exact hsl i rfl)]
    rfl
/-- out of the suite -/
def outD (sl : Option Nat) (σ : L2.St) : L2.St := match sl with | none => σ | some i => σ.set i none
theorem env_out {F : Hp} {μ : Nat → Addr} {n m : Nat} {env : Env} {σ : L2.St} {ad : Addr} {cls : Value} {d : Option Addr} {sl : Option Nat} {D : List Str} (cold : Y.hot = false) (hm : m = Y.nN) (en : EnvOk (Y.caught ad cls d sl D) F μ n env σ) : EnvOk Y F μ n (clrS sl (env.take m)) (outD sl σ) := by
  have sz : σ.length = Y.nN := en.sz
  have tl : (env.take m).length = σ.length := by rw [List.length_take]; have := en.len; omega
  have ol : (outD sl σ).length = σ.length := by cases sl with | none => rfl | some i => exact List.length_set ..
  refine ⟨by rw [clrS_len, tl, ol]; exact Nat.le_refl _, by rw [ol]; exact sz, fun i x hi h => ?_, fun _ => by rw [clrS_len, tl, ol], fun z => by rw [cold] at z; cases z⟩
  obtain ⟨h1, h2⟩ := clrS_get h
  rw [ol] at hi
  rw [List.getElem?_take_of_lt (by omega)] at h1
  obtain ⟨v, h3, h4⟩ := en.val i x hi h1
  refine ⟨v, ?_, h4⟩
  cases sl with
  | none => exact h3
  | some j =>
    show (σ.set j none)[i]? = _
    rw [List.getElem?_set_ne (fun z => h2 (by rw [z]))]; exact h3
theorem endD_nx {sl : Option Nat} {D : Ends} {τ : L2.St} {J : Hp} (h : D.nx (outD sl τ) J) : (endD sl D).nx τ J := by cases sl <;> exact h
theorem endD_bk {sl : Option Nat} {D : Ends} {τ : L2.St} {J : Hp} (h : D.bk (outD sl τ) J) : (endD sl D).bk τ J := by cases sl <;> exact h
theorem endD_ct {sl : Option Nat} {D : Ends} {τ : L2.St} {J : Hp} (h : D.ct (outD sl τ) J) : (endD sl D).ct τ J := by cases sl <;> exact h
theorem endD_rt {sl : Option Nat} {D : Ends} {v : V} {J : Hp} (h : D.rt v J) : (endD sl D).rt v J := by cases sl <;> exact h
theorem suite_end {F H : Hp} {μ : Nat → Addr} {st : Store} {r : RS} {D0 : Ends} {m : Nat} {ad : Addr} {cls : Value} {d : Option Addr} {sl : Option Nat} {D : List Str} (cold : Y.hot = false) (hm : m = Y.nN) (h : RPS Y F μ st H (endH sl m r) D0 W) : RPS (Y.caught ad cls d sl D) F μ st H r (endD sl D0) W0 := by
  cases r with
  | next env st' => exact fun F' μ' H' σ' e g en => endD_nx (h F' μ' H' _ e g (env_out cold hm en))
  | brk env st' => exact fun F' μ' H' σ' e g en => endD_bk (h F' μ' H' _ e g (env_out cold hm en))
  | cnt env st' => exact fun F' μ' H' σ' e g en => endD_ct (h F' μ' H' _ e g (env_out cold hm en))
  | ret v st' => exact fun F' μ' H' w e g r => endD_rt (h F' μ' H' w e g r)
  | exn c fs env st' => exact False.elim h
  | stuck => exact False.elim h
structure SndHs (Φ : Tab) (G : Str → Option Val) (k : Nat) (hs : Hs) : Prop where
  ps : ∀ {Y : Fx} {C : Cfg} {X : Cx} {ns : Names} {W : WX} {hds : List ExceptHandler}, Ctx X Y Φ G C ns k → SCtx X C → C.calm = true → chkHs C ns hs hds = true → ∃ l, HdsX X hds l ∧
    ∀ (D : Ends) (cn : Str) (fs : List Val) (env : Env) (F H : Hp) (μ : Nat → Addr) (st : Store) (σ : L2.St) (cls : Value) (d : Option Addr), RPS Y F μ st H (evHs Φ G hs cn fs env st) D W → Good Y.kf F μ st H → EnvOk Y F μ st.length env σ → ExnOk Y F μ st.length cn fs cls d → wX Y.K W D l cls d σ H
theorem sndH_nil : SndHs Φ G k .nil where
  ps := fun {Y C X ns W hds} c sc hcalm q => by
    cases hds with
    | cons a b => cases q
    | nil =>
      refine ⟨[], .nil, fun D cn fs env F H μ st σ cls d h g en hx => ?_⟩
      have h : RPS Y F μ st H (.exn cn fs env st) D W := by simpa only [evHs] using h
      exact h F μ H σ cls d Ext.refl g en hx
theorem slB_ok (c : Ctx X Y Φ G C ns k) {nm : Option Str} {sl : Option Nat} (h : slB C ns nm sl = true) : SlOk X nm sl ∧ ∀ i, sl = some i → i < C.N.length := by
  unfold slB at h
  split at h
  · exact ⟨trivial, fun i z => by cases z⟩
  · rename_i n i
    rw [Bool.and_eq_true] at h
    have h1 := of_decide_eq_true h.1
    refine ⟨⟨by rw [c.N]; exact h1, ?_⟩, fun j z => by cases z; exact (List.getElem?_eq_some_iff.mp h1).1⟩
    show X.env.scope.names.lookup n = _
    rw [c.sc]; exact of_decide_eq_true h.2
  · cases h
theorem sndH_cons {x : Str} {D : List Str} {sl : Option Nat} {b : Ss} {r : Hs} (sb : ∀ {Y : Fx} {C : Cfg}, SndSs Y Φ G C k b) (sr : SndHs Φ G k r) : SndHs Φ G k (.cons x D sl b r) where
  ps := fun {Y C X ns W hds} c sc hcalm q => by
    cases hds with
    | nil => cases q
    | cons h hds =>
      unfold chkHs at q
      rw [Bool.and_eq_true] at q
      obtain ⟨q, q0⟩ := q
      split at q
      · rename_i y nm pb he
        obtain ⟨p1, p2, b0, bs, rfl, rfl⟩ := isHd_eq he
        simp only [Bool.and_eq_true] at q
        obtain ⟨q1, q2, q3, q4, q5, q6⟩ := q
        have ex := of_decide_eq_true q1
        subst ex
        obtain ⟨v, u, a1, a2, a3, a4⟩ := c.tb.sub x D (of_decide_eq_true q4)
        have nmc : L2.Names X x u := ⟨gl_ok c q2, okName_1 q3, by rw [c.mg]; exact a3⟩
        obtain ⟨s1, s2⟩ := slB_ok c q5
        obtain ⟨l, hl, hrest⟩ := sr.ps (W := W) c sc hcalm q0
        have cold : Y.hot = false := by rw [c.hot]; exact (c.calm hcalm).2
        refine ⟨(u, sl, fun ad cls d => tSs (Y.caught ad cls d sl D) Φ G W0 b) :: l, .cons nmc s1 (fun ad ob cls d pn hz hf => sb.ps (ctx_suite c hcalm hz hf) (sctx_suite sc) takes0 q6) hl, fun D0 cn fs env F H μ st σ cls d h g en hx => ?_⟩
        obtain ⟨hm, dd, nsx, vs, hd, hX, hrest2⟩ := id hx
        refine ⟨D.contains cn, (a4 cn nsx cls hX hm).1, fun hc ad had => ?_, fun hc => ?_⟩
        · simp only [evHs] at h
          rw [if_pos hc] at h
          have hmem : cn ∈ D := by simpa using hc
          exact ⟨F, μ, st, _, g, env_in cold en hx hmem (fun i hi => by rw [c.nN]; exact s2 i hi), suite_end cold (by rw [en.cold cold]; exact en.sz) h⟩
        · simp only [evHs] at h
          rw [if_neg (by rw [hc]; exact Bool.false_ne_true)] at h
          exact hrest D0 cn fs env F H μ st σ cls d h g en hx
      · cases q
theorem ctx_tr (c : Ctx X Y Φ G C ns k) (hcalm : C.calm = true) (pn : List (Addr × Obj)) (xe : Value → Shared → Prop) : Ctx (X.tr pn xe) Y Φ G C ns k where
  K := c.K
  mg := c.mg
  N := c.N
  nd := c.nd
  sc := c.sc
  kind := c.kind
  calm := c.calm
  hot := c.hot
  nN := c.nN
  hotx := c.hotx
  suite := fun h => by rw [(c.calm hcalm).2] at h; cases h
  tb := c.tb
  units := c.units
  depth := c.depth
  fn := fun x hx => by
    obtain ⟨m, f, fd, ps, h1, h2, h3, h4, h5, h6, h7⟩ := c.fn x hx
    exact ⟨m, f, fd, ps, h1, h2, h3, h4, h5, h6, fun z => by rw [hcalm] at z; cases z⟩
  hfn := c.hfn
  gl := c.gl
  bt := c.bt
  cls := c.cls
  nw := c.nw
  mt := c.mt
theorem snd_try {b : Ss} {hs : Hs} (sb : SndSs Y Φ G C k b) (sh : SndHs Φ G k hs) : SndS Y Φ G C k (.tryx b hs) where
  ps := fun {X ns W p} c sc tk q => by
    have tkx := tk.tk sc.stk sc.frm
    unfold chkS at q
    split at q
    · rename_i pb hds hx
      obtain ⟨h0, hr, pp, rfl, rfl⟩ := isTry_eq hx
      simp only [Bool.and_eq_true] at q
      obtain ⟨q0, q1, q2⟩ := q
      obtain ⟨l, hl, hw⟩ := sh.ps (W := W) c sc q0 q2
      refine PSimp (ps_tryX (tb := fun W' => tSs Y Φ G W' b) sc.stk sc.frm c.nd tk (fun W' pn xe tk' pass => sb.ps (ctx_tr c q0 pn xe) ⟨sc.fnt, fun _ => pass, sc.stk, sc.frm⟩ tk' q1) hl) fun D σ H ⟨F, μ, st, env, g, en, h⟩ => ?_
      refine ⟨F, μ, st, env, g, en, ?_⟩
      simp only [evS] at h
      cases hr : evSs Φ G b env st with
      | exn cn fs env' st' =>
        rw [hr] at h
        intro F1 μ1 H1 σ1 cls d e1 g1 en1 hx1
        rw [c.K]
        exact hw D cn fs env' F1 H1 μ1 st' σ1 cls d (RPS.ext e1 h) g1 en1 hx1
      | next env' st' => rw [hr] at h; exact h
      | cnt env' st' => rw [hr] at h; exact h
      | brk env' st' => rw [hr] at h; exact h
      | ret v' st' => rw [hr] at h; exact h
      | stuck => rw [hr] at h; exact False.elim h
    · cases q
mutual
theorem tAll : ∀ (s : S) {Y : Fx} {C : Cfg}, SndS Y Φ G C k s
  | .asg i e, _, _ => snd_asg i e
  | .sto o i e, _, _ => snd_sto o i e
  | .expr e, _, _ => snd_expr e
  | .stf c f o e, _, _ => snd_stf c f o e
  | .ite c a b, _, _ => snd_ite (tAlls a) (tAlls b)
  | .forr i it b, _, _ => snd_for (tAlls b)
  | .asgt is e, _, _ => snd_asgt is e
  | .fort is it b, _, _ => snd_fort (tAlls b)
  | .whil n c b, _, _ => snd_while (tAlls b)
  | .ret e, _, _ => snd_ret e
  | .retn, _, _ => snd_retn
  | .pass, _, _ => snd_pass
  | .brk, _, _ => snd_brk
  | .cnt, _, _ => snd_cnt
  | .never, _, _ => snd_never
  | .raise c es, _, _ => snd_raise c es
  | .tryx b hs, _, _ => snd_try (tAlls b) (tHds hs)
theorem tAlls : ∀ (s : Ss) {Y : Fx} {C : Cfg}, SndSs Y Φ G C k s
  | .nil, _, _ => sndS_nil
  | .cons s r, _, _ => sndS_cons (tAll s) (tAlls r)
theorem tHds : ∀ (hs : Hs), SndHs Φ G k hs
  | .nil => sndH_nil
  | .cons x D sl b r => sndH_cons (tAlls b) (tHds r)
end
end
end MP
/-! MiniPy: defs. -/
namespace MP
open PySem L2 PySem.Spec PyProof.Rows

/-- the store behind, cut off where st ends, is fit -/
def CutOk (st s1 : Store) : Prop := st.length ≤ s1.length ∧ ∀ i c, i < st.length → s1[i]? = some c → st[i]? = some c ∨ closedC st.length c = true
open Classical in
/-- what a def leaves behind is forgotten -/
noncomputable def gcR (st : Store) (r : RV) : RV := match r with
  | .ok (v, s1) => if closed st.length v = true ∧ CutOk st s1 then .ok (v, s1.take st.length) else .ok (v, s1)
  | .exn c fs s1 => if closedL st.length fs = true ∧ CutOk st s1 then .exn c fs (s1.take st.length) else .exn c fs s1
  | .stuck => .stuck
noncomputable def mkM (Φ : Tab) (G : Str → Option Val) (np n : Nat) (body : Ss) : Mir := fun args st => if args.length = np then gcR st (runB Φ G n body args st) else .stuck
structure Def where
  x : Str
  st : Stmt
  ps : List Str
  N : List Str
  lv : Nat
  fs : List Str
  body : Ss
  Φ : Tab
  G : Str → Option Val
  hfs : List Str := []
  hot : Bool := false
  nm : Str := x
  cl : Option Str := none
  cs : List (Str × List Str) := []
  nw : List Str := []
  ms : List (Str × Str) := []
noncomputable def Def.m (d : Def) : Mir := mkM d.Φ d.G d.ps.length d.N.length d.body
theorem Def.arity (d : Def) (args : List Val) (st : Store) (h : args.length ≠ d.ps.length) : d.m args st = .stuck := by unfold Def.m mkM; rw [if_neg h]
def scopeB (N ps : List Str) (sc : Scope) : Bool :=
  (match sc.kind with | .function => true | _ => false) && (!sc.isCoroutine && (!sc.isGenerator && (decide N.Nodup && (decide (N.take ps.length = ps) && ((ps.all fun x => match sc.names.lookup x with | some .local => true | some .cell => true | _ => false) && (sc.names.all fun y => match y.2 with | .free => false | _ => true))))))
theorem scope_ok {N ps : List Str} {sc : Scope} (h : scopeB N ps sc = true) : FnScope N ps sc := by
  unfold scopeB at h
  simp only [Bool.and_eq_true, decide_eq_true_eq, List.all_eq_true] at h
  obtain ⟨h1, h2, h3, h4, h5, h6, h7⟩ := h
  refine ⟨?_, by simpa using h2, by simpa using h3, h4, h5, fun x hx => ?_, fun y hy e => ?_⟩
  · split at h1
    · assumption
    · cases h1
  · have q := h6 x hx
    split at q
    · rename_i e; exact .inl e
    · rename_i e; exact .inr e
    · cases q
  · have q := h7 y hy
    rw [e] at q; cases q
def cfgOf (bs : List Str) (xn sub : List (Str × List Str)) (cm : Bool) (d : Def) : Cfg := { N := d.N, fs := d.fs, bs := bs, hfs := d.hfs, calm := cm, xn := xn, sub := sub, cs := d.cs, nw := d.nw, ms := d.ms }
/-- the check of one def, by the kernel -/
def defB (bs : List Str) (xn sub : List (Str × List Str)) (d : Def) : Bool :=
  scopeB d.N d.ps (defScope d.st) && (chkSs (cfgOf bs xn sub true d) (defScope d.st).names d.body (defBody d.st) && (!d.hot || chkSs (cfgOf bs xn sub false d) (defScope d.st).names d.body (defBody d.st)))

/-- what the top has made of a def -/
def AtP (K : PySem.W.Frag) (mg : Str → Option Value) (d : Def) (f : Addr) : Prop := match d.cl with
  | none => mg d.x = some (.ref f)
  | some c => ∃ Ca, mg c = some (.ref Ca) ∧ Cls K Ca ∧ (d.nm = "__init__" → Mk K Ca f) ∧ (d.nm ≠ "__init__" → Meth K Ca d.nm f)
def Stands (K : PySem.W.Frag) (mg : Str → Option Value) (d : Def) : Prop := ∃ f fd, Fun K d.nm d.x d.st f fd ∧ Binds K fd d.ps [] ∧ AtP K mg d f

theorem runB_ps {Y : Fx} {Φ : Tab} {G : Str → Option Val} {n : Nat} {body : Ss} {F : Hp} {μ : Nat → Addr} {st : Store} {H : Hp} {args : List Val} {Q : VK} {E : XK} (h : RP Y F μ st H (runB Φ G n body args st) (kV Y Q) E) :
    RPS Y F μ st H (evSs Φ G body (args.map some ++ List.replicate (n - args.length) none) st) { nx := fun _ H' => Q .non H', rt := Q } (fun c d _ H => E c d H) := by
  unfold runB at h
  cases hr : evSs Φ G body (args.map some ++ List.replicate (n - args.length) none) st with
  | next env' st' => rw [hr] at h; exact fun F' μ' H' σ' e g n => h F' μ' H' e g _ rfl
  | ret v st' => rw [hr] at h; exact fun F' μ' H' w e g r => h F' μ' H' e g w r
  | exn c fs env' st' => rw [hr] at h; exact fun F' μ' H' σ' cls d e g n x => h F' μ' H' cls d e g x
  | brk _ _ => rw [hr] at h; exact False.elim h
  | cnt _ _ => rw [hr] at h; exact False.elim h
  | stuck => rw [hr] at h; exact False.elim h
theorem env_start {Y : Fx} {F : Hp} {μ : Nat → Addr} {m : Nat} {args : List Val} {vs : List V} {N : List Str} (hY : Y.nN = N.length) (hc : Y.hot = false) (hl0 : vs.length ≤ N.length) (r : RepL Y.kf F μ m args vs) :
    EnvOk Y F μ m (args.map some ++ List.replicate (N.length - args.length) none) (L2.start N vs) := by
  unfold L2.start
  have hl := r.len
  refine ⟨by simp [hl], by simp [hY]; omega, fun i x _ e => ?_, fun _ => by simp [hl], fun z => by rw [hc] at z; cases z⟩
  by_cases hi : i < args.length
  · rw [List.getElem?_append_left (by simpa using hi), List.getElem?_map] at e
    rw [List.getElem?_append_left (by simpa [hl] using hi), List.getElem?_map]
    cases q : args[i]? with
    | none => rw [q] at e; cases e
    | some y =>
      rw [q] at e
      have ey : y = x := by simpa using e
      subst ey
      obtain ⟨v, h1, h2⟩ := r.get q
      exact ⟨v, by rw [h1]; rfl, h2⟩
  · rw [List.getElem?_append_right (by simpa using hi)] at e
    have := List.getElem?_eq_some_iff.mp e
    obtain ⟨h1, h2⟩ := this
    rw [List.getElem_replicate] at h2
    cases h2
section
variable {P : Program} {w : World} {K : PySem.W.Frag} {mg : Str → Option Value} {base : Heap} {Y : Fx}
/-- the program's defs, all of them -/
structure Prg (P : Program) (Y : Fx) (T : Def → Prop) (bs : List Str) (xn sub : List (Str × List Str)) : Prop where
  chk : ∀ d, T d → defB bs xn sub d = true
  callee : ∀ d, T d → ∀ f ∈ d.fs, ∃ d', T d' ∧ d'.x = f ∧ d'.lv < d.lv ∧ d.Φ f = some d'.m ∧ (d.hot = true → d'.hot = true) ∧ d'.cl = none
  hcallee : ∀ d, T d → ∀ f ∈ d.hfs, ∃ d', T d' ∧ d'.x = f ∧ d'.lv < d.lv ∧ d.Φ f = some d'.m ∧ d'.hot = true ∧ d'.cl = none
  stands : ∀ d, T d → Stands Y.K Y.mg d
  cls : ∀ d, T d → ∀ c l, d.cs.lookup c = some l → ∃ Ca, Y.mg c = some (.ref Ca) ∧ Cls Y.K Ca ∧ ∀ f ∈ l, NoAttr Y.K Ca f
  newc : ∀ d, T d → ∀ c ∈ d.nw, ∃ d', T d' ∧ d'.cl = some c ∧ d'.nm = "__init__" ∧ d'.lv + 1 < d.lv ∧ d.Φ (mName c "__init__") = some d'.m
  meths : ∀ d, T d → ∀ p ∈ d.ms, ∃ d', T d' ∧ d'.cl = some p.1 ∧ d'.nm = p.2 ∧ p.2 ≠ "__init__" ∧ d'.lv < d.lv ∧ d.Φ (mName p.1 p.2) = some d'.m
  gl : ∀ d, T d → ∀ x v, d.G x = some v → ∃ (w : V) (u : Value), Y.mg x = some u ∧ RelV w u ∧ ∀ F μ n, RepV Y.kf F μ n v w
  bt : ∀ x, x ∈ bs → Y.mg x = none
  cold : Y.hot = false
  tb : ∀ C : Cfg, C.xn = xn → C.sub = sub → XTab P Y C
/-- the frame's own fix -/
def Fx.at_ (Y : Fx) (n : Nat) : Fx := { Y with nN := n }
theorem tb_at {P : Program} {Y : Fx} {C : Cfg} {n : Nat} (t : XTab P Y C) : XTab P (Y.at_ n) C := ⟨t.made, t.xn, t.nx, t.sub⟩
theorem good_cut {K : Kf} {F H : Hp} {μ : Nat → Addr} {s1 s2 : Store} (e : s1 = s2.take s1.length) (hc : s1.all (closedC s1.length) = true) (g : Good K F μ s2 H) : Good K F μ s1 H := by
  have hl : s1.length ≤ s2.length := by have := congrArg List.length e; rw [List.length_take] at this; omega
  have get : ∀ i c, s1[i]? = some c → s2[i]? = some c := fun i c h => by
    have hi := (List.getElem?_eq_some_iff.mp h).1
    rw [e, List.getElem?_take_of_lt hi] at h; exact h
  refine ⟨g.same, ⟨fun i c h => ?_, fun i j c d h1 h2 l1 l2 q => g.st.inj i j c d (get i c h1) (get j d h2) l1 l2 q⟩⟩
  have ck := g.st.cell i c (get i c h)
  have cc : closedC s1.length c = true := by
    rw [List.all_eq_true] at hc
    exact hc c (List.mem_of_getElem? h)
  cases c with
  | lst xs => obtain ⟨h1, vs, h2, h3⟩ := ck; exact ⟨h1, vs, h2, h3.shut cc⟩
  | frz xs => obtain ⟨vs, h2, h3⟩ := ck; exact ⟨vs, h2, h3.shut cc⟩
  | dk kvs => obtain ⟨h1, vs, h2, h3⟩ := ck; exact ⟨h1, vs, h2, h3.shut cc⟩
  | dead => trivial
  | obj c ns xs => obtain ⟨h1, dx, Ca, vs, h2, h3, h4, h5, h6⟩ := ck; exact ⟨h1, dx, Ca, vs, h2, h3, h4, h5, h6.shut cc⟩
  | fob c ns xs => obtain ⟨a, dx, Ca, vs, h1, h2, h3, h4, h5, h6⟩ := ck; exact ⟨a, dx, Ca, vs, h1, h2, h3, h4, h5, h6.shut cc⟩
theorem ext_cut {F F' H H' : Hp} {μ μ' : Nat → Addr} {st s1 s2 : Store} (e : s1 = s2.take s1.length) (hl : st.length ≤ s1.length) (x : Ext F μ st H F' μ' s2 H') : Ext F μ st H F' μ' s1 H' := by
  refine ⟨x.same, x.mu, hl, x.frm, fun i c h l => ?_, x.dom, x.fz⟩
  have hi := (List.getElem?_eq_some_iff.mp h).1
  rw [e, List.getElem?_take_of_lt hi] at h
  exact x.new i c h l
theorem gc_closed {K : Kf} {F H : Hp} {μ : Nat → Addr} {st s1 : Store} (g : Good K F μ st H) (h : CutOk st s1) : (s1.take st.length).all (closedC (s1.take st.length).length) = true := by
  have hl : (s1.take st.length).length = st.length := by rw [List.length_take]; have := h.1; omega
  rw [hl, List.all_eq_true]
  intro c hc
  obtain ⟨i, hi⟩ := List.getElem?_of_mem hc
  have hlt : i < st.length := by rw [← hl]; exact (List.getElem?_eq_some_iff.mp hi).1
  rw [List.getElem?_take_of_lt hlt] at hi
  rcases h.2 i c hlt hi with h1 | h1
  · have ck := g.st.cell i c h1
    cases c with
    | lst xs => obtain ⟨h1, vs, h2, h3⟩ := ck; exact h3.closed
    | frz xs => obtain ⟨vs, h2, h3⟩ := ck; exact h3.closed
    | dk kvs => obtain ⟨h1, vs, h2, h3⟩ := ck; exact h3.closed
    | dead => rfl
    | obj c ns xs => obtain ⟨h1, dx, Ca, vs, h2, h3, h4, h5, h6⟩ := ck; exact h6.closed
    | fob c ns xs => obtain ⟨a, dx, Ca, vs, h1, h2, h3, h4, h5, h6⟩ := ck; exact h6.closed
  · exact h1
theorem RP.gc {Y : Fx} {F H : Hp} {μ : Nat → Addr} {st : Store} {r : RV} {Q : VK} {E : XK} (g : Good Y.kf F μ st H) (h : RP Y F μ st H (gcR st r) (kV Y Q) E) : RP Y F μ st H r (kV Y Q) E := by
  cases r with
  | ok p =>
    obtain ⟨v, s1⟩ := p
    unfold gcR at h
    dsimp only at h
    split at h
    · rename_i hc
      have hl : (s1.take st.length).length = st.length := by rw [List.length_take]; have := hc.2.1; omega
      have e3 : s1.take st.length = s1.take (s1.take st.length).length := by rw [hl]
      exact fun F' μ' H' ex g' w rw' => h F' μ' H' (ext_cut e3 (Nat.le_of_eq hl.symm) ex) (good_cut e3 (gc_closed g hc.2) g') w (rw'.shut (by rw [hl]; exact hc.1))
    · exact h
  | exn c fs s1 =>
    unfold gcR at h
    dsimp only at h
    split at h
    · rename_i hc
      have hl : (s1.take st.length).length = st.length := by rw [List.length_take]; have := hc.2.1; omega
      have e3 : s1.take st.length = s1.take (s1.take st.length).length := by rw [hl]
      exact fun F' μ' H' cls d ex g' ⟨x1, dd, ns, vs, x2, x3, xl, x4, x5⟩ => h F' μ' H' cls d (ext_cut e3 (Nat.le_of_eq hl.symm) ex) (good_cut e3 (gc_closed g hc.2) g') ⟨x1, dd, ns, vs, x2, x3, xl, x4, x5.shut (by rw [hl]; exact hc.1)⟩
    · exact h
  | stuck => exact h
theorem real_of {d : Def} {F H : Hp} {μ : Nat → Addr} {st : Store} {args : List Val} {vs : List V} {Q : VK} {E : XK} (hl : vs.length = d.ps.length) (g : Good Y.kf F μ st H) (r : RepL Y.kf F μ st.length args vs)
    (h : RP Y F μ st H (d.m args st) (kV Y Q) E) : RP (Y.at_ d.N.length) F μ st H (runB d.Φ d.G d.N.length d.body args st) (kV (Y.at_ d.N.length) Q) E := by
  unfold Def.m mkM at h
  rw [if_pos (by rw [← r.len]; exact hl)] at h
  exact RP.gc g h
theorem prg_okW {T : Def → Prop} {bs : List Str} {xn sub : List (Str × List Str)} (p : Prg P Y T bs xn sub) : ∀ k : Nat, ∀ d, T d → d.lv ≤ k → d.hot = true →
    ∀ f fd, Fun Y.K d.nm d.x d.st f fd → FnW P w Y.K Y.mg base (L2.CX P w) (k + 1) f fd d.ps (spOf Y d.ps.length d.m) := by
  intro k
  induction k using Nat.strongRecOn with
  | _ k ih =>
    intro d hd hk hh f fd hF
    have hc := p.chk d hd
    unfold defB at hc
    simp only [Bool.and_eq_true] at hc
    obtain ⟨hc1, hc2, hc5⟩ := hc
    rw [hh] at hc5
    have hc6 : chkSs (cfgOf bs xn sub false d) (defScope d.st).names d.body (defBody d.st) = true := hc5
    have S := scope_ok hc1
    refine Fun.okW hF S (fun vs H Q E h => h.1) fun cdv A outer s H vs Q E hr ⟨hl, F, μ, st, args, g, r, h⟩ => ?_
    have hm := real_of hl g r h
    have c : Ctx (cxW (L2.CX P w) P w Y.K Y.mg base d.N d.x (defScope d.st) f cdv A outer s H E) (Y.at_ d.N.length) d.Φ d.G (cfgOf bs xn sub false d) (defScope d.st).names k :=
      { K := rfl, mg := rfl, N := rfl, nd := S.nd, sc := rfl, kind := S.kind, calm := fun z => by cases z
        hot := p.cold, nN := rfl, hotx := fun z => by cases z
        suite := fun z => by cases z
        tb := tb_at (p.tb _ rfl rfl)
        units := by have := hr.un; show (A.deeper _).units + 64 < cLine; omega
        depth := by have := hr.dp; show (A.deeper _).depth + 1 < recursionLimit; omega
        fn := fun x hx => by
          obtain ⟨d', h1, h2, hlt, he, hho, hcl⟩ := p.callee d hd x hx
          obtain ⟨f', fd', hF', hB', hG'⟩ := p.stands d' h1
          unfold AtP at hG'
          rw [hcl] at hG'
          refine ⟨d'.m, f', fd', d'.ps, he, d'.arity, by rw [← h2]; exact hG', hF'.kp, hB', (fun z => by cases z), fun _ => ⟨hr, ?_⟩⟩
          have hk0 : 0 < k := Nat.lt_of_lt_of_le (Nat.lt_of_le_of_lt (Nat.zero_le _) hlt) hk
          have := ih (k - 1) (by omega) d' h1 (by omega) (hho hh) f' fd' hF'
          rw [Nat.sub_add_cancel hk0] at this
          exact this
        hfn := fun z => by cases z
        gl := p.gl d hd
        bt := p.bt
        cls := p.cls d hd
        nw := fun z => by cases z
        mt := fun z => by cases z }
    have sc : SCtx (cxW (L2.CX P w) P w Y.K Y.mg base d.N d.x (defScope d.st) f cdv A outer s H E) (cfgOf bs xn sub false d) := ⟨fun _ => rfl, (fun z => by cases z), rfl, rfl⟩
    have tk := takes_of (X := cxW (L2.CX P w) P w Y.K Y.mg base d.N d.x (defScope d.st) f cdv A outer s H E) (E := E) rfl rfl rfl rfl
    have hpl : d.ps.length ≤ d.N.length := by have := congrArg List.length S.pre; rw [List.length_take] at this; omega
    exact ⟨_, (tAlls d.body).ps c sc tk hc6, F, μ, st, _, g, env_start (Y := Y.at_ d.N.length) rfl p.cold (by omega) r, runB_ps hm⟩
theorem prg_ok {T : Def → Prop} {bs : List Str} {xn sub : List (Str × List Str)} (p : Prg P Y T bs xn sub) : ∀ k : Nat, ∀ d, T d → d.lv ≤ k →
    ∀ f fd, Fun Y.K d.nm d.x d.st f fd → FnOk P w Y.K Y.mg base (L2.CX P w) (k + 1) f fd d.ps (spOf Y d.ps.length d.m) := by
  intro k
  induction k using Nat.strongRecOn with
  | _ k ih =>
    intro d hd hk f fd hF
    have hc := p.chk d hd
    unfold defB at hc
    simp only [Bool.and_eq_true] at hc
    obtain ⟨hc1, hc2, hc5⟩ := hc
    have S := scope_ok hc1
    refine hF.okX S (fun vs H Q E h => h.1) fun cdv A outer s H vs Q E hr ⟨hl, F, μ, st, args, g, r, h⟩ => ?_
    have hm := real_of hl g r h
    have c : Ctx (cxOf (L2.CX P w) P w Y.K Y.mg base d.N d.x (defScope d.st) f cdv A outer s H E) (Y.at_ d.N.length) d.Φ d.G (cfgOf bs xn sub true d) (defScope d.st).names k :=
      { K := rfl, mg := rfl, N := rfl, nd := S.nd, sc := rfl, kind := S.kind, calm := fun _ => ⟨rfl, rfl⟩
        hot := p.cold, nN := rfl, hotx := fun z => by cases z
        suite := fun z => by cases z
        tb := tb_at (p.tb _ rfl rfl)
        units := by have := hr.un; show (A.deeper _).units + 64 < cLine; omega
        depth := by have := hr.dp; show (A.deeper _).depth + 1 < recursionLimit; omega
        fn := fun x hx => by
          obtain ⟨d', h1, h2, hlt, he, hho, hcl⟩ := p.callee d hd x hx
          obtain ⟨f', fd', hF', hB', hG'⟩ := p.stands d' h1
          unfold AtP at hG'
          rw [hcl] at hG'
          refine ⟨d'.m, f', fd', d'.ps, he, d'.arity, by rw [← h2]; exact hG', hF'.kp, hB', (fun _ => ⟨hr, ?_⟩), fun z => by cases z⟩
          have hk0 : 0 < k := Nat.lt_of_lt_of_le (Nat.lt_of_le_of_lt (Nat.zero_le _) hlt) hk
          have := ih (k - 1) (by omega) d' h1 (by omega) f' fd' hF'
          rw [Nat.sub_add_cancel hk0] at this
          exact this
        hfn := fun _ x hx => by
          obtain ⟨d', h1, h2, hlt, he, hho, hcl⟩ := p.hcallee d hd x hx
          obtain ⟨f', fd', hF', hB', hG'⟩ := p.stands d' h1
          unfold AtP at hG'
          rw [hcl] at hG'
          refine ⟨d'.m, f', fd', d'.ps, he, d'.arity, by rw [← h2]; exact hG', hF'.kp, hB', ⟨hr.dp, hr.un⟩, ?_⟩
          have hk0 : 0 < k := Nat.lt_of_lt_of_le (Nat.lt_of_le_of_lt (Nat.zero_le _) hlt) hk
          have := prg_okW (P := P) (w := w) (base := base) p (k - 1) d' h1 (by omega) hho f' fd' hF'
          rw [Nat.sub_add_cancel hk0] at this
          exact this
        gl := p.gl d hd
        bt := p.bt
        cls := p.cls d hd
        nw := fun _ c hc => by
          obtain ⟨d', h1, h2, h3, hlt, he⟩ := p.newc d hd c hc
          obtain ⟨f', fd', hF', hB', hG'⟩ := p.stands d' h1
          unfold AtP at hG'
          rw [h2] at hG'
          obtain ⟨Ca, hm', hC', hMk, _⟩ := hG'
          have := ih (k - 2) (by omega) d' h1 (by omega) f' fd' hF'
          have e2 : k - 2 + 1 + 1 = k := by omega
          exact ⟨d'.m, f', fd', d'.ps, Ca, k - 2 + 1, he, d'.arity, hm', hMk h3, hB', by rw [e2]; exact hr, this⟩
        mt := fun _ c n hc => by
          obtain ⟨d', h1, h2, h3, h4, hlt, he⟩ := p.meths d hd (c, n) hc
          obtain ⟨f', fd', hF', hB', hG'⟩ := p.stands d' h1
          unfold AtP at hG'
          rw [h2] at hG'
          obtain ⟨Ca, hm', hC', _, hMt⟩ := hG'
          have hk0 : 0 < k := by omega
          have := ih (k - 1) (by omega) d' h1 (by omega) f' fd' hF'
          rw [Nat.sub_add_cancel hk0] at this
          have e3 : d'.nm = n := h3
          exact ⟨d'.m, f', fd', d'.ps, Ca, he, d'.arity, hm', hC', by have z := hMt (by rw [e3]; exact h4); rw [e3] at z; exact z, hB', hr, this⟩ }
    have sc : SCtx (cxOf (L2.CX P w) P w Y.K Y.mg base d.N d.x (defScope d.st) f cdv A outer s H E) (cfgOf bs xn sub true d) := ⟨fun _ => rfl, (fun _ => passes_of rfl), rfl, rfl⟩
    have tk := takes_of (X := cxOf (L2.CX P w) P w Y.K Y.mg base d.N d.x (defScope d.st) f cdv A outer s H E) (E := E) rfl rfl rfl rfl
    have hpl : d.ps.length ≤ d.N.length := by have := congrArg List.length S.pre; rw [List.length_take] at this; omega
    exact ⟨_, (tAlls d.body).ps c sc tk hc2, F, μ, st, _, g, env_start (Y := Y.at_ d.N.length) rfl p.cold (by omega) r, runB_ps hm⟩
end
end MP
/-! MiniPy: from the table to the law. -/
namespace MP
open PySem L2 PySem.Spec PyProof.Rows

theorem stand_mk {K : PySem.W.Frag} {h : Heap} {mg : Str → Option Value} (X : K.In h) (G : h.Ns mainGlobals mg) (d : Def) {f : Addr} {oc : Value} {od an : Option Addr} {osl : Array (Option Value)} {kV doc pm cdv ct : Value}
    (a : PySem.W.nsIn K mainGlobals d.x = some (some (.ref f)))
    (l : K.lookup f = some ⟨oc, od, .func (PySem.W.fnOf d.x d.x (defArgs d.st) (defBody d.st) (defScope d.st) .none kV doc pm an cdv ct), osl⟩)
    (c : PySem.W.codeIn K cdv d.x = true) (k : PySem.W.keepIn K (.ref f) = true)
    (hcl : d.cl = none) (hnm : d.nm = d.x) (hb : ∀ (kV doc pm : Value) (an : Option Addr) (cdv ct : Value) (us : List Value), us.length = d.ps.length → bindArgs (PySem.W.fnOf d.x d.x (defArgs d.st) (defBody d.st) (defScope d.st) .none kV doc pm an cdv ct) ⟨us, []⟩ = pure (d.ps.zip us)) : Stands K mg d :=
  ⟨f, _, by rw [hnm]; exact fun_mk l c k, (fun_mk (x := d.x) l c k).binds hb, by unfold AtP; rw [hcl]; exact PySem.W.mg_of X G a⟩
theorem stand_mt {K : PySem.W.Frag} {h : Heap} {mg : Str → Option Value} (X : K.In h) (G : h.Ns mainGlobals mg) (d : Def) {cn : Str} {Ca f : Addr} {oc : Value} {od an : Option Addr} {osl : Array (Option Value)} {kV doc pm cdv ct : Value}
    (hcl : d.cl = some cn) (hn : (d.nm == "__init__") = false) (a : PySem.W.nsIn K mainGlobals cn = some (some (.ref Ca))) (hC : Cls K Ca) (hM : Meth K Ca d.nm f)
    (l : K.lookup f = some ⟨oc, od, .func (PySem.W.fnOf d.nm d.x (defArgs d.st) (defBody d.st) (defScope d.st) .none kV doc pm an cdv ct), osl⟩)
    (c : PySem.W.codeIn K cdv d.x = true)
    (hb : ∀ (kV doc pm : Value) (an : Option Addr) (cdv ct : Value) (us : List Value), us.length = d.ps.length → bindArgs (PySem.W.fnOf d.nm d.x (defArgs d.st) (defBody d.st) (defScope d.st) .none kV doc pm an cdv ct) ⟨us, []⟩ = pure (d.ps.zip us)) : Stands K mg d :=
  ⟨f, _, fun_mk l c hM.kp, (fun_mk l c hM.kp).binds hb, by unfold AtP; rw [hcl]; exact ⟨Ca, PySem.W.mg_of X G a, hC, (fun z => by rw [z] at hn; cases hn), fun _ => hM⟩⟩
theorem stand_in {K : PySem.W.Frag} {h : Heap} {mg : Str → Option Value} (X : K.In h) (G : h.Ns mainGlobals mg) (d : Def) {cn : Str} {Ca f : Addr} {oc : Value} {od an : Option Addr} {osl : Array (Option Value)} {kV doc pm cdv ct : Value}
    (hcl : d.cl = some cn) (hn : (d.nm == "__init__") = true) (a : PySem.W.nsIn K mainGlobals cn = some (some (.ref Ca))) (hC : Cls K Ca) (hM : Mk K Ca f)
    (l : K.lookup f = some ⟨oc, od, .func (PySem.W.fnOf d.nm d.x (defArgs d.st) (defBody d.st) (defScope d.st) .none kV doc pm an cdv ct), osl⟩)
    (c : PySem.W.codeIn K cdv d.x = true) (k : PySem.W.keepIn K (.ref f) = true)
    (hb : ∀ (kV doc pm : Value) (an : Option Addr) (cdv ct : Value) (us : List Value), us.length = d.ps.length → bindArgs (PySem.W.fnOf d.nm d.x (defArgs d.st) (defBody d.st) (defScope d.st) .none kV doc pm an cdv ct) ⟨us, []⟩ = pure (d.ps.zip us)) : Stands K mg d :=
  ⟨f, _, fun_mk l c k, (fun_mk l c k).binds hb, by unfold AtP; rw [hcl]; exact ⟨Ca, PySem.W.mg_of X G a, hC, (fun _ => hM), fun z => absurd (beq_iff_eq.mp hn) z⟩⟩

/-- a table of names -/
def lk {α : Type} (l : List (Str × α)) : Str → Option α := fun x => l.lookup x
theorem lk_all {α : Type} {l : List (Str × α)} {P : Str → α → Prop} (h : ∀ x v, (x, v) ∈ l → P x v) : ∀ x v, lk l x = some v → P x v := fun x v e => h x v (PySem.mem_of_lookup e)
theorem gl_int {K : Kf} {mg : Str → Option Value} {x : Str} {i : Int} {t : Tok} (h : mg x = some (.int i t)) : ∃ (w : V) (u : Value), mg x = some u ∧ RelV w u ∧ ∀ F μ n, RepV K F μ n (.int i) w := ⟨.int i, _, h, ⟨_, rfl⟩, fun _ _ _ => rfl⟩
theorem gl_str {K : Kf} {mg : Str → Option Value} {x : Str} {i : Str} {t : Tok} (h : mg x = some (.str i t)) : ∃ (w : V) (u : Value), mg x = some u ∧ RelV w u ∧ ∀ F μ n, RepV K F μ n (.str i) w := ⟨.str i, _, h, ⟨_, rfl⟩, fun _ _ _ => rfl⟩
/-- a constant tuple of whole numbers -/
def tupInts : List Value → List Int → Bool
  | [], [] => true
  | .int j _ :: us, i :: is => decide (j = i) && tupInts us is
  | _, _ => false
theorem tupInts_vals : ∀ {us : List Value} {is : List Int}, tupInts us is = true → Vals (is.map V.int) us
  | [], [], _ => .nil
  | u :: us, [], h => by cases u <;> cases h
  | [], _ :: _, h => by cases h
  | u :: us, i :: is, h => by
    cases u with
    | int j t =>
      have h' : (decide (j = i) && tupInts us is) = true := h
      rw [Bool.and_eq_true] at h'
      have e := of_decide_eq_true h'.1
      subst e
      exact .cons ⟨t, rfl⟩ (tupInts_vals h'.2)
    | _ => cases h
theorem gl_tup {K : Kf} {mg : Str → Option Value} {x : Str} {a : Addr} {o : Obj} {its : Array Value} {n : Nat} {zs : List Int} (hm : mg x = some (.ref a)) (hl : K.k.lookup a = some o) (hs : o.cls = .type "tuple" ∧ o.data = .seq its n ∧ tupInts its.toList zs = true ∧ its.size ≤ sizeLine) :
    ∃ (w : V) (u : Value), mg x = some u ∧ RelV w u ∧ ∀ F μ m, RepV K F μ m (.tup (zs.map Val.int)) w :=
  ⟨.ref a, _, hm, rfl, fun F μ m => ⟨a, zs.map V.int, rfl, .inr ⟨o, its, n, hl, hs.1, hs.2.1, hs.2.2.2, tupInts_vals hs.2.2.1⟩, repL_ints zs⟩⟩
/-- the promise of a law -/
def spLaw (K : PySem.W.Frag) : Sp := fun vs H Q _ => ∃ (a : Addr) (ns : List Int), vs = [.ref a] ∧ SqL K H a (ns.map V.int) ∧ ns.length ≤ 63 ∧ (∀ z ∈ ns, Builtin.Int.intBits z ≤ 1048576) ∧ ∀ H', Q (.bl true) H'
theorem law_fn {P : Program} {w : World} {base : Heap} {Y : Fx} {T : Def → Prop} {bs : List Str} {xn sub : List (Str × List Str)} (p : Prg P Y T bs xn sub) {d : Def} (hd : T d) (hl : d.lv ≤ 200) (hps : d.ps = [("script" : Str)])
    (law : ∀ ns : List Int, ns.length ≤ 63 → (∀ z ∈ ns, Builtin.Int.intBits z ≤ 1048576) → ∃ st', d.m [.scr (ns.map .int)] [] = .ok (.bl true, st')) {f : Addr} {fd : FuncData} (hF : Fun Y.K d.nm d.x d.st f fd) :
    FnOk P w Y.K Y.mg base (L2.CX P w) 201 f fd [("script" : Str)] (spLaw Y.K) := by
  have h := prg_ok (P := P) (w := w) (base := base) p 200 d hd hl f fd hF
  rw [hps] at h
  refine h.imp fun vs H Q E ⟨a, ns, e, hS, h1, h2, q⟩ => ⟨by rw [e]; rfl, H, fun _ => (0 : Nat), [], [.scr (ns.map .int)], ⟨Same.refl _, ⟨fun i c hc => by simp at hc, fun i j c d' h1 => by simp at h1⟩⟩, ?_, ?_⟩
  · rw [e]
    exact ⟨_, [], rfl, ⟨a, ns.map V.int, rfl, hS, repL_ints ns⟩, rfl⟩
  · obtain ⟨st', hst⟩ := law ns h1 h2
    rw [hst]
    intro F' μ' H' _ _ v hv
    have ev : v = .bl true := hv
    rw [ev]; exact q H'
theorem walk_mp {l : PySem.W.OpenLaw} {q : Program} {loose : List Str} {XP : (Str → Option Value) → Heap → Prop} {YP : World → Heap → Prop} {d : DefRec} {K : Params → PySem.W.Frag} (hn : l.most = some 63) (hdf : d.params.defaults = [])
    (hY : ∀ (w : World) (h : Heap), YP w h → (K w.params).In h)
    (F : ∀ (w : World) (mg : Str → Option Value) (fa : Addr) (h : Heap), (K w.params).In h → h.Ns mainGlobals mg → mg d.name = some (.ref fa) →
      ∃ fd : FuncData, (∀ (s : Shared) (u : Value), BindsTo s fd ⟨[u], []⟩ [("script", u)]) ∧ ∀ base : Heap, (K w.params).In base → base.Ns mainGlobals mg → FnOk l.prog w (K w.params) mg base (L2.CX l.prog w) 201 fa fd [("script" : Str)] (spLaw (K w.params))) :
    PySem.W.WalkO q loose XP YP l.row.toRowW d [] (fun f vs => PySem.call f vs) :=
  L2.walk_ofB (n := 63) (k := 201) (x := "script") (CX := fun w => L2.CX l.prog w) (sp := fun w => spLaw (K w.params)) hn (by decide) hdf ⟨rfl, by decide, by decide⟩ hY F (fun w H a ns hl hb _ hS => ⟨a, ns, rfl, hS, hl, hb, fun _ => rfl⟩) fun _ _ _ _ _ h => by
    obtain ⟨_, _, _, _, _, _, _, _, _, _, _, _, z⟩ := h
    exact z.elim
end MP
/-! MiniPy: the error classes of a law. -/
namespace MP
open PySem PySem.W PySem.Calls PyProof.Rows PySem.HandSPX L2
theorem all1 {α : Type} {p : α → Prop} {a : α} (h : p a) : ∀ n ∈ [a], p n := fun n hn => by rw [List.mem_singleton.mp hn]; exact h
theorem all2 {α : Type} {p : α → Prop} {a b : α} (h : p a) (h2 : p b) : ∀ n ∈ [a, b], p n := fun n hn => by
  rcases List.mem_cons.mp hn with rfl | hn
  · exact h
  · exact all1 h2 n hn
theorem all3 {α : Type} {p : α → Prop} {a b c : α} (h : p a) (h2 : p b) (h3 : p c) : ∀ n ∈ [a, b, c], p n := fun n hn => by
  rcases List.mem_cons.mp hn with rfl | hn
  · exact h
  · exact all2 h2 h3 n hn
theorem sup_mk {P : Program} {K : Frag} {mg : Str → Option Value} {h : Heap} {C D fI : Addr} {st : Stmt} {ns : List Str} (X : K.In h) (G : h.Ns mainGlobals mg)
    {nm q : Str} {N : Addr} {bs bm : List Value} {sn sub} {ab col dd k0 k1 k2 k3 k5} (b1 : K.lookup C = some (excClassObj nm q C N bs bm true sn sub ab col dd k0 k1 k2 k3 k5 "ValueError.__new__")) (b2 : refsVE bm = true)
    (b3 : findIn K (.ref C) "__setattr__" = some (some (.builtin "object.__setattr__"))) (b4 : subIn K (.ref C) (.type "BaseException") = some true) (b5 : subIn K (.ref C) (.type "ValueError") = some true) (b6 : typeIn K (.ref C) = some (.type "type"))
    (b7 : keepIn K (.ref C) = true) (b8 : findIn K (.ref C) "__init__" = some (some (.ref fI))) (b9 : typeIn K (.ref fI) = some (.type "function")) (c0 : ∀ n ∈ ns, findIn K (.ref C) n = some none)
    {oc : Value} {od : Option Addr} {qual : Str} {kV doc pm : Value} {an : Option Addr} {cda : Addr} {ct : Value} {cc : Addr} {osl : Array (Option Value)}
    (f1 : K.lookup fI = some ⟨oc, od, .func (ksFn "__init__" qual (defArgs st) (defBody st) (defScope st) .none kV doc pm an (.ref cda) ct cc), osl⟩) (f2 : codeIn K (.ref cda) qual = true)
    {ccl : Value} {cdd : Option Addr} {vs : Array Value} {ccs : Array (Option Value)} {file : Str} {tf : Tok} (f3 : K.lookup cda = some ⟨ccl, cdd, .fields vs, ccs⟩) (f4 : vs[2]? = some (.str file tf)) (f5 : ((P.main.file : Str) == file) = true)
    {cl : Value} {cld : Option Addr} {csl : Array (Option Value)} (f6 : K.lookup cc = some ⟨cl, cld, .cell (some (.ref D)), csl⟩) {cdD} (f7 : clsIn K D = some cdD) (f8 : mroIn K C (.ref D) = some true)
    (f9 : ks_superIn K C D "__init__" = some (some (.builtin "ValueError.__init__"))) (g1 : nsIn K mainGlobals "super" = some none) (g2 : (P.main.scope.names.lookup ("super" : Str)).isSome = false) (g3 : nsIn K cStatics "thirdparty.any" = some none)
    (g4 : bodyB (defBody st) ns = true) (g5 : iscB (defScope st) ns = true) (g6 : ((defArgs st).posonlyargs ++ (defArgs st).args).head?.map (·.arg) = some "self") (g7 : ns.Nodup ∧ ("self" : Str) ∉ ns ∧ ns ≠ [])
    (g8 : ∀ (qual : Str) (kV doc pm : Value) (an : Option Addr) (cdv ct : Value) (cc : Addr) (us : List Value), us.length = ns.length + 1 → bindArgs (ksFn "__init__" qual (defArgs st) (defBody st) (defScope st) .none kV doc pm an cdv ct cc) ⟨us, []⟩ = pure ((("self" : Str) :: ns).zip us)) :
    SupTxt P K mg C D fI st ns where
  cls := ⟨_, _, _, _, _, _, _, _, _, _, _, _, _, _, _, b1, b2⟩
  sa := b3
  exC := b4
  veC := b5
  tyC := b6
  kC := b7
  iC := b8
  tI := b9
  no := c0
  fn := ⟨_, _, _, _, _, _, _, _, _, _, _, f1, f2, ⟨_, _, _, _, _, _, f3, f4, f5⟩, ⟨_, _, _, f6⟩⟩
  clD := ⟨_, f7⟩
  sub := f8
  sup := f9
  glb := mg_none_of X G g1
  top := g2
  opq := g3
  body := g4
  scope := g5
  ar := g6
  nd := g7
  bind := g8
theorem exis_mk {K : PySem.W.Frag} {C : Addr} {cd} (e1 : PySem.W.clsIn K C = some cd) (e2 : PySem.W.findIn K (.ref C) "__getattribute__" = some (some (.builtin "BaseException.__getattribute__"))) (e3 : PySem.W.findIn K (.ref C) "__getattr__" = some none) (e4 : PySem.W.subIn K (.ref C) (.type "BaseException") = some true)
    (e5 : PySem.W.findIn K (.ref C) "__class__" = some (some (.builtin "object.__class__"))) (e6 : PySem.W.specialIn K (.builtin "object.__class__") "__get__" = some (some (.builtin "getset_descriptor.__get__"))) (e7 : PySem.W.takesIn K (.builtin "object.__class__") = some true) (e8 : PySem.W.mroIn K C (.type "object") = some true) (e9 : PySem.W.hasDictIn K C = true) : MP.ExIs K C :=
  ⟨by rw [e1]; rfl, e2, e3, e4, e5, e6, e7, e8, e9⟩
theorem boot_ValueError : bootBuiltins "ValueError" = some (.type "ValueError") := by boot_by_name
theorem boot_Exception : bootBuiltins "Exception" = some (.type "Exception") := by boot_by_name
theorem boot_LookupError : bootBuiltins "LookupError" = some (.type "LookupError") := by boot_by_name
theorem boot_TypeError : bootBuiltins "TypeError" = some (.type "TypeError") := by boot_by_name
theorem xt_mk {P : Program} {Y : Fx} {xn sub : List (Str × List Str)} {hX : Y.Xn = fun c => xn.lookup c}
    (made : ∀ c ns, (c, ns) ∈ xn → ∃ (Ca Da fI : Addr) (st : Stmt), Y.mg c = some (.ref Ca) ∧ SupTxt P Y.K Y.mg Ca Da fI st ns ∧ ns.length ≤ 900 ∧ ExIs Y.K Ca)
    (sb : ∀ y D, (y, D) ∈ sub → ∃ (v : V) (u : Value), ClsV v u ∧ RelV v u ∧ (Y.mg y = some u ∨ (Y.mg y = none ∧ bootBuiltins y = some u ∧ y ≠ "__name__")) ∧
      ∀ c ns cls, (c, ns) ∈ xn → Y.mg c = some cls → PySem.W.exmOne Y.K cls u = some (D.contains c) ∧ PySem.W.kitOne Y.K cls u = some (D.contains c)) : ∀ C : Cfg, C.xn = xn → C.sub = sub → XTab P Y C := fun C h1 h2 => by
  have e : ∀ {c ns}, Y.Xn c = some ns → (c, ns) ∈ xn := fun h => by rw [hX] at h; exact PySem.mem_of_lookup h
  refine ⟨fun c ns h => made c ns (e h), fun c ns h => by rw [h1]; exact e h, fun c ns h => by rw [hX]; rw [h1] at h; exact h, fun y D h => ?_⟩
  rw [h2] at h
  obtain ⟨v, u, a1, a2, a3, a4⟩ := sb y D (PySem.mem_of_lookup h)
  exact ⟨v, u, a1, a2, a3, fun c ns cls hc hm => a4 c ns cls (e hc) hm⟩
end MP
/-! MiniPy: reading texts in plain Lean. -/
namespace MP
open PySem L2

/-! what a def gives -/
theorem cut_self {st : Store} (g : Store) : CutOk st (st ++ g) := ⟨by simp, fun i c hi h => .inl (by rwa [List.getElem?_append_left hi] at h)⟩
theorem gc_pure {st g : Store} {v : Val} (h : closed 0 v = true) : gcR st (.ok (v, st ++ g)) = .ok (v, st) := by
  unfold gcR; dsimp only
  rw [if_pos ⟨closed_mono (Nat.zero_le _) h, cut_self g⟩]
  simp
theorem gc_pure0 {st : Store} {v : Val} (h : closed 0 v = true) : gcR st (.ok (v, st)) = .ok (v, st) := by
  have := gc_pure (st := st) (g := []) h
  simpa using this
/-- the def only reads -/
theorem mk_pure {Φ : Tab} {G : Str → Option Val} {np n : Nat} {b : Ss} {args : List Val} {st g : Store} {v : Val} (hl : args.length = np) (h : runB Φ G n b args st = .ok (v, st ++ g)) (hc : closed 0 v = true) : mkM Φ G np n b args st = .ok (v, st) := by
  unfold mkM; rw [if_pos hl, h]; exact gc_pure hc
theorem mk_pure0 {Φ : Tab} {G : Str → Option Val} {np n : Nat} {b : Ss} {args : List Val} {st : Store} {v : Val} (hl : args.length = np) (h : runB Φ G n b args st = .ok (v, st)) (hc : closed 0 v = true) : mkM Φ G np n b args st = .ok (v, st) := by
  unfold mkM; rw [if_pos hl, h]; exact gc_pure0 hc
theorem gc_exn {st g : Store} {c : Str} {fs : List Val} (h : closedL 0 fs = true) : gcR st (.exn c fs (st ++ g)) = .exn c fs st := by
  unfold gcR; dsimp only
  rw [if_pos ⟨closedL_mono (Nat.zero_le _) h, cut_self g⟩]
  simp
theorem gc_exn0 {st : Store} {c : Str} {fs : List Val} (h : closedL 0 fs = true) : gcR st (.exn c fs st) = .exn c fs st := by
  have := gc_exn (st := st) (g := []) (c := c) h
  simpa using this
/-- the def raises -/
theorem mk_exn {Φ : Tab} {G : Str → Option Val} {np n : Nat} {b : Ss} {args : List Val} {st g : Store} {c : Str} {fs : List Val} (hl : args.length = np) (h : runB Φ G n b args st = .exn c fs (st ++ g)) (hc : closedL 0 fs = true) : mkM Φ G np n b args st = .exn c fs st := by
  unfold mkM; rw [if_pos hl, h]; exact gc_exn hc
theorem mk_exn0 {Φ : Tab} {G : Str → Option Val} {np n : Nat} {b : Ss} {args : List Val} {st : Store} {c : Str} {fs : List Val} (hl : args.length = np) (h : runB Φ G n b args st = .exn c fs st) (hc : closedL 0 fs = true) : mkM Φ G np n b args st = .exn c fs st := by
  unfold mkM; rw [if_pos hl, h]; exact gc_exn0 hc
/-- the def changes one cell that it was given -/
theorem mk_set {Φ : Tab} {G : Str → Option Val} {np n : Nat} {b : Ss} {args : List Val} {st g : Store} {v : Val} {i : Nat} {c : Cell} (hl : args.length = np) (h : runB Φ G n b args st = .ok (v, st.set i c ++ g)) (hc : closed 0 v = true) (hd : closedC 0 c = true) : mkM Φ G np n b args st = .ok (v, st.set i c) := by
  unfold mkM; rw [if_pos hl, h]
  unfold gcR; dsimp only
  have hcl : closedC st.length c = true := by
    cases c with
    | lst xs => exact closedL_mono (Nat.zero_le _) hd
    | frz xs => exact closedL_mono (Nat.zero_le _) hd
    | dk xs => exact closedK_mono (Nat.zero_le _) hd
    | dead => rfl
    | obj c ns xs => exact closedL_mono (Nat.zero_le _) hd
    | fob c ns xs => exact closedL_mono (Nat.zero_le _) hd
  have hk : CutOk st (st.set i c ++ g) := ⟨by simp, fun j d hj e => by
    rw [List.getElem?_append_left (by simpa using hj)] at e
    by_cases hij : i = j
    · subst hij; rw [List.getElem?_set_self hj] at e; cases e; exact .inr hcl
    · rw [List.getElem?_set_ne hij] at e; exact .inl e⟩
  rw [if_pos ⟨closed_mono (Nat.zero_le _) hc, hk⟩]
  congr 1
  rw [List.take_append_of_le_length (by simp), List.take_of_length_le (by simp)]

/-- the def gives a cell of its own -/
theorem mk_loc {Φ : Tab} {G : Str → Option Val} {np n : Nat} {b : Ss} {args : List Val} {st s1 : Store} {m : Nat} (hl : args.length = np) (h : runB Φ G n b args st = .ok (.loc m, s1)) (hm : st.length ≤ m) : mkM Φ G np n b args st = .ok (.loc m, s1) := by
  unfold mkM; rw [if_pos hl, h]
  unfold gcR; dsimp only
  rw [if_neg]
  intro z
  have := of_decide_eq_true (show decide (m < st.length) = true from z.1)
  omega
/-! operators -/
section
variable {m : Bool} {i j : Int} {st : Store}
theorem bV_add : binV m .add (.int i) (.int j) st = .ok (.int (i + j), st) := rfl
theorem bV_sub : binV m .sub (.int i) (.int j) st = .ok (.int (i - j), st) := rfl
theorem bV_mul (h : mulOk i j = true) : binV m .mul (.int i) (.int j) st = .ok (.int (i * j), st) := by unfold binV; dsimp only; rw [if_pos h]
theorem bV_mod (h : 0 < j) : binV m .mod (.int i) (.int j) st = .ok (.int (i % j), st) := by unfold binV; dsimp only; rw [if_pos h]
theorem bV_fdiv (h : 0 < j) (h2 : j.natAbs.log2 < 9000) : binV m .fdiv (.int i) (.int j) st = .ok (.int (i / j), st) := by unfold binV; dsimp only; rw [if_pos ⟨h, h2⟩]
theorem bV_pow (h : 0 ≤ j) (h2 : j ≤ 1000000) (h3 : i.natAbs < 2 ^ 64) : binV m .pow (.int i) (.int j) st = .ok (.int (i ^ j.toNat), st) := by unfold binV; dsimp only; rw [if_pos ⟨h, h2, h3⟩]
theorem bV_fdivL (h : 0 < j) (h2 : j ≤ 1000000000000) : binV m .fdiv (.int i) (.int j) st = .ok (.int (i / j), st) := bV_fdiv h (by
  by_cases h0 : j.natAbs = 0
  · rw [h0]; simp
  · refine (Nat.log2_lt h0).mpr (Nat.lt_of_lt_of_le (show j.natAbs < 2 ^ 40 by omega) (Nat.pow_le_pow_right (by decide) (by decide))))
theorem bV_powL (h : 0 ≤ j) (h2 : j ≤ 1000000) (h3 : -1000000 ≤ i) (h4 : i ≤ 1000000) : binV m .pow (.int i) (.int j) st = .ok (.int (i ^ j.toNat), st) := bV_pow h h2 (by omega)
theorem bV_tup {xs ys : List Val} : binV m .add (.tup xs) (.tup ys) st = newT (xs ++ ys) st := rfl
theorem bV_cat {x y : Val} {xs ys : List Val} (h : lstOf st x = some xs) (h2 : lstOf st y = some ys) : binV m .add x y st = newL m (xs ++ ys) st := by
  unfold binV
  cases x <;> first | (cases h; done) | (dsimp only; rw [h, h2])
theorem bV_catl {xs ys : List Val} : binV m .add (.lst xs) (.lst ys) st = newL m (xs ++ ys) st := bV_cat rfl rfl
theorem le_sz {n : Nat} (h : n ≤ 100000) : (n ≤ szMax) = True := eq_true h
theorem lt_sz {n : Nat} (h : n < 100000) : (n < szMax) = True := eq_true h
/-- a bound on a number's bits -/
def bd (n : Nat) (z : Int) : Prop := z.natAbs < 2 ^ n
theorem bd_mul {n k : Nat} {a b : Int} (h : bd n a) (q : bd k b) : bd (n + k) (a * b) := by
  unfold bd at *; rw [Int.natAbs_mul, Nat.pow_add]
  exact Nat.mul_lt_mul'' h q
theorem bd_mono {n k : Nat} {a : Int} (h : bd n a) (q : n ≤ k) : bd k a := Nat.lt_of_lt_of_le h (Nat.pow_le_pow_right (by decide) q)
theorem bd_add {n : Nat} {a b : Int} (h : bd n a) (q : bd n b) : bd (n + 1) (a + b) := by unfold bd at *; rw [Nat.pow_succ]; omega
theorem bd_sub {n : Nat} {a b : Int} (h : bd n a) (q : bd n b) : bd (n + 1) (a - b) := by unfold bd at *; rw [Nat.pow_succ]; omega
theorem log2_of {n : Nat} {a : Int} (h : bd n a) : a.natAbs.log2 ≤ n := by
  unfold bd at h
  by_cases h0 : a.natAbs = 0
  · rw [h0]; simp
  · exact Nat.le_of_lt ((Nat.log2_lt h0).mpr h)
theorem mul_ok {n k : Nat} {i j : Int} (h : bd n i) (q : bd k j) (l : n + k < 100000000) : mulOk i j = true := by
  unfold mulOk; rw [decide_eq_true_eq]
  have := log2_of h; have := log2_of q; omega
theorem bd_0 {n : Nat} : bd n 0 := Nat.pow_pos (by decide)
theorem bd_lt {n : Nat} {z : Int} (h : -2 ^ n < z) (h2 : z < 2 ^ n) : bd n z := by
  unfold bd
  have : ((2 ^ n : Nat) : Int) = 2 ^ n := by simp
  omega
/-- the largest number of bits of a script's number -/
def bits : Nat := 1048576
end

/-! loops -/
/-- a walk that may return in its midst -/
inductive Out (β : Type) where | go (b : β) | ret (v : Val) (st : Store)
def foldO {α β : Type} (f : β → α → Out β) : β → List α → Out β
  | b, [] => .go b
  | b, x :: xs => match f b x with | .go b' => foldO f b' xs | r => r
theorem foldO_go {α β : Type} {f : β → α → Out β} {b b' : β} {x : α} {xs : List α} (h : f b x = .go b') : foldO f b (x :: xs) = foldO f b' xs := by simp only [foldO, h]
theorem foldO_ret {α β : Type} {f : β → α → Out β} {b : β} {x : α} {v : Val} {s : Store} {xs : List α} (h : f b x = .ret v s) : foldO f b (x :: xs) = .ret v s := by simp only [foldO, h]
def outS {β : Type} (E : β → Env) (Sg : β → Store) : Out β → RS | .go b => .next (E b) (Sg b) | .ret v st => .ret v st
@[simp] theorem outS_go {β : Type} {E : β → Env} {Sg : β → Store} {b : β} : outS E Sg (.go b) = .next (E b) (Sg b) := rfl
@[simp] theorem outS_ret {β : Type} {E : β → Env} {Sg : β → Store} {v : Val} {st : Store} : outS E Sg (.ret v st) = .ret v st := rfl
/-- the walked name behind a walk -/
def lastV {α : Type} (g : α → Val) : Option Val → List α → Option Val
  | o, [] => o
  | _, x :: xs => lastV g (some (g x)) xs
/-- E: the names, the walked one apart; g: the values walked -/
theorem forL_fold {α β : Type} {i : Nat} {body : Env → Store → RS} (g : α → Val) (E : β → Option Val → Env) (Sg : β → Store) (f : β → α → Out β) (hset : ∀ b o x, (E b o).set i (some x) = E b (some x))
    : ∀ (xs : List α), (∀ b x, x ∈ xs → body (E b (some (g x))) (Sg b) = outS (fun b' => E b' (some (g x))) Sg (f b x)) → ∀ (b : β) (o : Option Val),
      forL i body (xs.map g) (E b o) (Sg b) = outS (fun b' => E b' (lastV g o xs)) Sg (foldO f b xs)
  | [], _, b, o => rfl
  | x :: xs, h, b, o => by
    have hx := h b x (List.mem_cons_self ..)
    simp only [List.map_cons, forL, hset, hx, foldO]
    cases hf : f b x with
    | go b' => exact forL_fold g E Sg f hset xs (fun b x m => h b x (List.mem_cons_of_mem _ m)) b' (some (g x))
    | ret v st => rfl
/-- the same, with what has been walked: P is kept -/
theorem forL_foldP {α β : Type} {i : Nat} {body : Env → Store → RS} (g : α → Val) (E : β → Option Val → Env) (Sg : β → Store) (f : β → α → Out β) (P : β → List α → Prop) (hset : ∀ b o x, (E b o).set i (some x) = E b (some x))
    : ∀ (xs : List α), (∀ b x ys, P b (x :: ys) → body (E b (some (g x))) (Sg b) = outS (fun b' => E b' (some (g x))) Sg (f b x) ∧ ∀ b', f b x = .go b' → P b' ys) → ∀ (b : β) (o : Option Val), P b xs →
      forL i body (xs.map g) (E b o) (Sg b) = outS (fun b' => E b' (lastV g o xs)) Sg (foldO f b xs)
  | [], _, b, o, _ => rfl
  | x :: xs, h, b, o, p => by
    obtain ⟨hx, hp⟩ := h b x xs p
    simp only [List.map_cons, forL, hset, hx, foldO]
    cases hf : f b x with
    | go b' => exact forL_foldP g E Sg f P hset xs h b' (some (g x)) (hp b' hf)
    | ret v st => rfl
/-- the commonest: a test of each -/
theorem foldO_all {α : Type} {p : α → Bool} {v : Val} {st : Store} : ∀ (xs : List α), foldO (fun (_ : Unit) x => if p x then Out.go () else .ret v st) () xs = if xs.all p then .go () else .ret v st
  | [] => rfl
  | x :: xs => by
    by_cases h : p x = true
    · simp [foldO, h, foldO_all xs]
    · simp [foldO, h]
def rangeN (n : Nat) : List Val := (List.range n).map fun (k : Nat) => Val.int k
theorem rangeL_r (n : Nat) : rangeL 0 n = (List.range' 0 n).map fun (k : Nat) => Val.int k := by rw [← List.range_eq_range']; unfold rangeL; simp
theorem rangeL_0 (n : Nat) : rangeL 0 n = (List.range n).map fun (k : Nat) => Val.int k := by unfold rangeL; simp
theorem compL_pure {c : Env → Store → R (Bool × Store)} {e : Env → Store → RV} {x : Nat} {p : Val → Bool} {f : Val → Val} {env : Env} {st : Store} : ∀ {xs : List Val}, (∀ v, v ∈ xs → c (env.set x (some v)) st = .ok (p v, st)) → (∀ v, v ∈ xs → p v = true → e (env.set x (some v)) st = .ok (f v, st)) →
    compL c e x xs env st = .ok ((xs.filter p).map f, st)
  | [], _, _ => rfl
  | v :: vs, hc, he => by
    have ih := compL_pure (c := c) (e := e) (x := x) (env := env) (st := st) (xs := vs) (fun v m => hc v (List.mem_cons_of_mem _ m)) (fun v m => he v (List.mem_cons_of_mem _ m))
    have h1 := hc v (List.mem_cons_self ..)
    simp only [compL, h1, R.bind_ok]
    cases hp : p v with
    | true =>
      have h2 := he v (List.mem_cons_self ..) hp
      simp only [if_true, h2, R.bind_ok, ih, List.filter_cons, hp, List.map_cons]
    | false => simp only [Bool.false_eq_true, if_false, ih, List.filter_cons, hp]

/-! lists of integers -/
def vInts (ns : List Int) : List Val := ns.map .int
theorem asInts_vInts : ∀ ns : List Int, asInts (vInts ns) = some ns
  | [] => rfl
  | n :: ns => by show (asInts (vInts ns)).map _ = _; rw [asInts_vInts ns]; rfl
theorem closed_vInts (m : Nat) : ∀ ns : List Int, closedL m (vInts ns) = true
  | [] => rfl
  | n :: ns => by show (true && closedL m (vInts ns)) = true; rw [closed_vInts m ns]; rfl

/-! comparing -/
/-- can be compared, nested at most k deep -/
def sz (k : Nat) (v : Val) : Bool := (toPD v).canLay0 && decide ((toPD v).depth ≤ k)
theorem sz_mono {j k : Nat} (h : j ≤ k) {v : Val} (q : sz j v = true) : sz k v = true := by
  unfold sz at q ⊢
  rw [Bool.and_eq_true, decide_eq_true_eq] at q ⊢
  exact ⟨q.1, Nat.le_trans q.2 h⟩
theorem sz_all {k : Nat} : ∀ {xs : List Val}, (∀ x ∈ xs, sz k x = true) → PyData.canLayAll0 (toPDs xs) = true ∧ PyData.depthAll (toPDs xs) ≤ k
  | [], _ => ⟨rfl, Nat.zero_le _⟩
  | x :: xs, h => by
    have h1 := h x (List.mem_cons_self ..)
    obtain ⟨h2, h3⟩ := sz_all (k := k) (xs := xs) fun y m => h y (List.mem_cons_of_mem _ m)
    unfold sz at h1
    rw [Bool.and_eq_true, decide_eq_true_eq] at h1
    refine ⟨?_, ?_⟩
    · show ((toPD x).canLay0 && PyData.canLayAll0 (toPDs xs)) = true
      rw [h1.1, h2]; rfl
    · show max (toPD x).depth (PyData.depthAll (toPDs xs)) ≤ k
      exact Nat.max_le.mpr ⟨h1.2, h3⟩
theorem sz_lst {k : Nat} {xs : List Val} (h : ∀ x ∈ xs, sz k x = true) : sz (k + 1) (.lst xs) = true := by
  obtain ⟨h2, h3⟩ := sz_all h
  unfold sz
  rw [Bool.and_eq_true, decide_eq_true_eq]
  exact ⟨h2, Nat.succ_le_succ h3⟩
theorem sz_scr {k : Nat} {xs : List Val} (h : ∀ x ∈ xs, sz k x = true) : sz (k + 1) (.scr xs) = true := sz_lst h
theorem sz_tup {k : Nat} {xs : List Val} (h : ∀ x ∈ xs, sz k x = true) : sz (k + 1) (.tup xs) = true := by
  obtain ⟨h2, h3⟩ := sz_all h
  unfold sz
  rw [Bool.and_eq_true, decide_eq_true_eq]
  exact ⟨h2, Nat.succ_le_succ h3⟩
theorem sz_int {k : Nat} (i : Int) : sz k (.int i) = true := by
  unfold sz; rw [Bool.and_eq_true, decide_eq_true_eq]; exact ⟨rfl, Nat.zero_le _⟩
theorem sz_bl {k : Nat} (i : Bool) : sz k (.bl i) = true := by
  unfold sz; rw [Bool.and_eq_true, decide_eq_true_eq]; exact ⟨rfl, Nat.zero_le _⟩
theorem sz_non {k : Nat} : sz k .non = true := by
  unfold sz; rw [Bool.and_eq_true, decide_eq_true_eq]; exact ⟨rfl, Nat.zero_le _⟩
theorem sz_ints {k : Nat} (ns : List Int) : ∀ x ∈ vInts ns, sz k x = true := fun x hx => by
  unfold vInts at hx
  rw [List.mem_map] at hx
  obtain ⟨i, _, rfl⟩ := hx
  exact sz_int i
theorem shaped_sz {v : Val} (h : sz 64 v = true) : SeqAt.shaped (toPD v) = true := h
theorem cmpV_eq (x y : Val) (st : Store) : cmpV .eq x y st = if SeqAt.shaped (toPD x) && SeqAt.shaped (toPD y) then .ok (PyData.eqv (toPD x) (toPD y)) else .stuck := rfl
theorem cmpV_ne (x y : Val) (st : Store) : cmpV .ne x y st = if SeqAt.shaped (toPD x) && SeqAt.shaped (toPD y) then .ok (!PyData.eqv (toPD x) (toPD y)) else .stuck := rfl
theorem shaped_int (i : Int) : SeqAt.shaped (toPD (.int i)) = true := rfl
theorem shaped_bl (i : Bool) : SeqAt.shaped (toPD (.bl i)) = true := rfl
theorem eq_self {v : Val} (h : sz 64 v = true) (st : Store) : cmpV .eq v v st = .ok true := by
  simp only [cmpV_eq, shaped_sz h, SeqAt.eqv_refl _ (SeqAt.canLay_of_shaped h), Bool.and_self, if_true]
theorem ne_self {v : Val} (h : sz 64 v = true) (st : Store) : cmpV .ne v v st = .ok false := by
  simp only [cmpV_ne, shaped_sz h, SeqAt.eqv_refl _ (SeqAt.canLay_of_shaped h), Bool.and_self, if_true, Bool.not_true]
theorem veq_int (i j : Int) (st : Store) : cmpV .eq (.int i) (.int j) st = .ok (decide (i = j)) := by
  simp only [cmpV_eq, shaped_int, Bool.and_self, if_true]
  rfl
theorem vne_int (i j : Int) (st : Store) : cmpV .ne (.int i) (.int j) st = .ok (!decide (i = j)) := by
  simp only [cmpV_ne, shaped_int, Bool.and_self, if_true]
  rfl
theorem veq_bl (i j : Bool) (st : Store) : cmpV .eq (.bl i) (.bl j) st = .ok (i == j) := by
  simp only [cmpV_eq, shaped_bl, Bool.and_self, if_true]
  rfl

/-! for simp -/
section
variable {st : Store} {env : Env}
theorem cmp_lt (i j : Int) : cmpV .lt (.int i) (.int j) st = .ok (decide (i < j)) := rfl
theorem cmp_le (i j : Int) : cmpV .le (.int i) (.int j) st = .ok (decide (i ≤ j)) := rfl
theorem cmp_gt (i j : Int) : cmpV .gt (.int i) (.int j) st = .ok (decide (j < i)) := rfl
theorem cmp_ge (i j : Int) : cmpV .ge (.int i) (.int j) st = .ok (decide (j ≤ i)) := rfl
theorem cmp_is (x : Val) : cmpV .is_ x .non st = .ok (match x with | .non => true | _ => false) := rfl
theorem cmp_isnot (x : Val) : cmpV .isnot x .non st = .ok (match x with | .non => false | _ => true) := rfl
theorem cmp_isb (x : Val) (b : Bool) : cmpV .is_ x (.bl b) st = .ok (match x with | .bl a => a == b | _ => false) := rfl
theorem cmp_isnotb (x : Val) (b : Bool) : cmpV .isnot x (.bl b) st = .ok (match x with | .bl a => !(a == b) | _ => true) := rfl
theorem ite_andv (b x : Bool) : (if b = true then R.ok (Val.bl x, st) else R.ok (Val.bl false, st)) = R.ok (Val.bl (b && x), st) := by cases b <;> rfl
theorem ite_orv (b x : Bool) : (if b = false then R.ok (Val.bl x, st) else R.ok (Val.bl b, st)) = R.ok (Val.bl (b || x), st) := by cases b <;> rfl
theorem ite_andt (b x : Bool) : (if b = true then R.ok (Val.bl x, st) else R.ok (Val.bl b, st)) = R.ok (Val.bl (b && x), st) := by cases b <;> rfl
theorem ite_ort (b x : Bool) : (if b = false then R.ok (x, st) else R.ok (b, st)) = R.ok (b || x, st) := by cases b <;> rfl
theorem ite_andq (b x : Bool) : (if b = true then R.ok (x, st) else R.ok (b, st)) = R.ok (b && x, st) := by cases b <;> rfl
theorem truth_bl (b : Bool) : truth st (.bl b) = .ok b := rfl
theorem newL_f (xs : List Val) (h : xs.length ≤ szMax) : newL false xs st = .ok (.lst xs, st) := by unfold newL; rw [if_pos h]; rfl
theorem newL_t (xs : List Val) (h : xs.length ≤ szMax) : newL true xs st = .ok (.loc st.length, st ++ [.lst xs]) := by unfold newL; rw [if_pos h]; rfl
theorem newT_f (xs : List Val) (h : xs.length ≤ szMax) : newT xs st = .ok (.tup xs, st) := by unfold newT; rw [if_pos h]
theorem repl_0 {α : Type} (a : α) : List.replicate 0 a = [] := rfl
theorem repl_1 {α : Type} (a : α) : List.replicate 1 a = [a] := rfl
theorem repl_2 {α : Type} (a : α) : List.replicate 2 a = [a, a] := rfl
theorem repl_3 {α : Type} (a : α) : List.replicate 3 a = [a, a, a] := rfl
theorem repl_4 {α : Type} (a : α) : List.replicate 4 a = [a, a, a, a] := rfl
theorem repl_5 {α : Type} (a : α) : List.replicate 5 a = [a, a, a, a, a] := rfl
theorem repl_6 {α : Type} (a : α) : List.replicate 6 a = [a, a, a, a, a, a] := rfl
theorem repl_7 {α : Type} (a : α) : List.replicate 7 a = [a, a, a, a, a, a, a] := rfl
theorem repl_8 {α : Type} (a : α) : List.replicate 8 a = [a, a, a, a, a, a, a, a] := rfl
theorem seqOf_tup (xs : List Val) : seqOf st (.tup xs) = some (false, xs) := rfl
theorem seqOf_lst (xs : List Val) : seqOf st (.lst xs) = some (true, xs) := rfl
theorem seqOf_scr (xs : List Val) : seqOf st (.scr xs) = some (true, xs) := rfl
theorem len_tup (xs : List Val) : f1V .len (.tup xs) st = .ok (.int xs.length) := rfl
theorem len_lst (xs : List Val) : f1V .len (.lst xs) st = .ok (.int xs.length) := rfl
theorem len_scr (xs : List Val) : f1V .len (.scr xs) st = .ok (.int xs.length) := rfl
theorem int_int (i : Int) : f1V .int (.int i) st = .ok (.int i) := rfl
theorem bl_ne1 : (true = false) = False := by simp
theorem bl_ne2 : (false = true) = False := by simp
theorem noExn_ok {α : Type} (a : α) : noExn (R.ok a) = R.ok a := rfl
theorem rs_go {α : Type} (f : Env → Store → RS) : (RS.next env st).bind f = f env st := rfl
theorem rs_ret (v : Val) : (match RS.ret v st with | .next _ st' => R.ok (Val.non, st') | .ret v st' => .ok (v, st') | .exn c fs _ st' => .exn c fs st' | _ => .stuck) = R.ok (v, st) := rfl
theorem rs_next : (match RS.next env st with | .next _ st' => R.ok (Val.non, st') | .ret v st' => .ok (v, st') | .exn c fs _ st' => .exn c fs st' | _ => .stuck) = R.ok (Val.non, st) := rfl
theorem atI_n {α : Type} {xs : List α} {i : Nat} {x : α} (h : xs[i]? = some x) : atI xs (i : Int) = some x := by
  obtain ⟨hi, _⟩ := List.getElem?_eq_some_iff.mp h
  unfold atI ixN
  rw [if_pos (by omega), if_pos (by omega)]
  simpa using h
theorem closedL_mem {m : Nat} : ∀ {xs : List Val}, closedL m xs = true → ∀ x ∈ xs, closed m x = true
  | [], _, x, hx => by cases hx
  | y :: ys, h, x, hx => by
    have h' : (closed m y && closedL m ys) = true := h
    rw [Bool.and_eq_true] at h'
    rcases List.mem_cons.mp hx with rfl | hx
    · exact h'.1
    · exact closedL_mem h'.2 x hx
theorem drop_cons {α : Type} {xs : List α} {j : Nat} {x : α} {ys : List α} (h : xs.drop j = x :: ys) : xs[j]? = some x ∧ ys = xs.drop (j + 1) := by
  have hj : j < xs.length := by
    cases Nat.lt_or_ge j xs.length with
    | inl h' => exact h'
    | inr h' => rw [List.drop_eq_nil_of_le h'] at h; cases h
  rw [List.drop_eq_getElem_cons hj] at h
  cases h
  exact ⟨List.getElem?_eq_getElem hj, rfl⟩
theorem range_drop {n j x : Nat} {ys : List Nat} (h : (List.range n).drop j = x :: ys) : x = j ∧ j < n ∧ ys = (List.range n).drop (j + 1) := by
  obtain ⟨h1, h2⟩ := drop_cons h
  obtain ⟨h3, h4⟩ := List.getElem?_eq_some_iff.mp h1
  rw [List.getElem_range] at h4
  rw [List.length_range] at h3
  exact ⟨h4.symm, h3, h2⟩
theorem fdl (j : Int) (h : decide (j.natAbs.log2 < 9000) = true := by decide) : (j.natAbs.log2 < 9000) = True := eq_true (of_decide_eq_true h)
/-! the last cell of a store -/
theorem st_get (c : Cell) : (st ++ [c])[st.length]? = some c := by simp
theorem st_set (c d : Cell) : (st ++ [c]).set st.length d = st ++ [d] := by simp
theorem cell_is (xs : List Val) : isCell (st ++ [.lst xs]) (.loc st.length) = true := by unfold isCell; simp
theorem cell_app (xs : List Val) (y : Val) (h : xs.length < szMax) : vApp (.loc st.length) y (st ++ [.lst xs]) = .ok (.non, st ++ [.lst (xs ++ [y])]) := by
  unfold vApp; simp only [st_get, if_pos h, st_set]
theorem cell_frz (xs : List Val) : vFrz (.loc st.length) (st ++ [.lst xs]) = .ok (.lst xs, st ++ [.frz xs]) := by
  unfold vFrz; simp only [st_get, st_set]
theorem cell_seq (xs : List Val) : seqOf (st ++ [.lst xs]) (.loc st.length) = some (true, xs) := by
  unfold seqOf; simp only [st_get]
theorem cell_lst (xs : List Val) : lstOf (st ++ [.lst xs]) (.loc st.length) = some xs := by
  unfold lstOf; simp only [st_get]
theorem cell_len (xs : List Val) : f1V .len (.loc st.length) (st ++ [.lst xs]) = .ok (.int xs.length) := by
  show (match seqOf (st ++ [.lst xs]) (.loc st.length) with | some (_, xs) => R.ok (Val.int xs.length) | none => .stuck) = _
  rw [cell_seq]
theorem cell_sto (xs : List Val) (k : Nat) (y : Val) (h : k < xs.length) : vSto (.loc st.length) (.int k) y (st ++ [.lst xs]) = .ok (st ++ [.lst (xs.set k y)]) := by
  unfold vSto
  have : ixN xs.length (k : Int) = some k := by
    unfold ixN; rw [if_pos (by omega), if_pos (by omega)]; simp
  simp only [st_get, this, st_set]
theorem vInts_get {ns : List Int} {k : Nat} {i : Int} (h : ns[k]? = some i) : (vInts ns)[k]? = some (.int i) := by unfold vInts; rw [List.getElem?_map, h]; rfl
theorem vInts_len (ns : List Int) : (vInts ns).length = ns.length := by unfold vInts; simp
theorem sortS_len (ns : List Int) : (sortS ns).length ≤ ns.length := by
  have ins : ∀ (k : Int) (l : List Int), (insS k l).length ≤ l.length + 1 := fun k l => by
    induction l with
    | nil => exact Nat.le_refl _
    | cons x xs ih =>
      unfold insS
      split
      · simp
      · split
        · simp
        · simp; omega
  induction ns with
  | nil => exact Nat.le_refl _
  | cons x xs ih =>
    have := ins x (sortS xs)
    show (insS x (sortS xs)).length ≤ xs.length + 1
    omega
theorem vInts_app (a b : List Int) : vInts a ++ vInts b = vInts (a ++ b) := by unfold vInts; rw [List.map_append]
theorem small {n : Nat} (h : n < 64) : n ≤ szMax := by unfold szMax; omega
theorem sset_of {v : Val} {ns : List Int} (h : seqOf st v = some (true, vInts ns)) (hn : ns.length < 64) : g1V false .sortset v st = .ok (.lst (vInts (sortS ns)), st) := by
  have hz : (vInts (sortS ns)).length ≤ szMax := by have := sortS_len ns; rw [vInts_len]; exact small (by omega)
  show (match seqOf st v with | some (true, xs) => (match asInts xs with | some ns => if ns.length < 64 then newL false ((sortS ns).map .int) st else .stuck | none => .stuck) | _ => .stuck) = _
  rw [h]
  simp only [asInts_vInts, hn, if_true]
  exact newL_f _ hz
theorem sset_l {ns : List Int} (hn : ns.length < 64) : g1V false .sortset (.lst (vInts ns)) st = .ok (.lst (vInts (sortS ns)), st) := sset_of rfl hn
theorem glist_of {v : Val} {k : Bool} {xs : List Val} (h : seqOf st v = some (k, xs)) (hn : xs.length ≤ szMax) : g1V false .list v st = .ok (.lst xs, st) := by
  show (match seqOf st v with | some (_, xs) => newL false xs st | none => .stuck) = _
  rw [h]; exact newL_f _ hn
theorem glist_m {v : Val} {k : Bool} {xs : List Val} (h : seqOf st v = some (k, xs)) (hn : xs.length ≤ szMax) : g1V true .list v st = .ok (.loc st.length, st ++ [.lst xs]) := by
  show (match seqOf st v with | some (_, xs) => newL true xs st | none => .stuck) = _
  rw [h]; exact newL_t _ hn
theorem gtup_of {m : Bool} {v : Val} {k : Bool} {xs : List Val} (h : seqOf st v = some (k, xs)) (hn : xs.length ≤ szMax) : g1V m .tuple v st = .ok (.tup xs, st) := by
  show (match seqOf st v with | some (_, xs) => newT xs st | none => .stuck) = _
  rw [h]; exact newT_f _ hn
theorem lstOf_lst (xs : List Val) : lstOf st (.lst xs) = some xs := rfl
theorem mm_int (k : Bool) (i j : Int) : mmV k (.int i) (.int j) = .ok (.int (if k then (if j > i then j else i) else (if j < i then j else i))) := rfl
theorem foldO_go' {α : Type} : ∀ l : List α, foldO (fun (_ : Unit) (_ : α) => Out.go ()) () l = .go ()
  | [] => rfl
  | x :: xs => foldO_go' xs
end
/-! objects in cells -/
def oFld (c f : Str) : Option Cell → R Val
  | some (.obj d ns xs) => if c = d then (match (ns.zip xs).lookup f with | some v => .ok v | none => .stuck) else .stuck
  | some (.fob d ns xs) => if c = d then (match (ns.zip xs).lookup f with | some v => .ok v | none => .stuck) else .stuck
  | _ => .stuck
theorem l_fld {c f : Str} {n : Nat} {s : Store} : vFld c f (.loc n) s = oFld c f s[n]? := by
  show (match s[n]? with | some (.obj d ns xs) => _ | some (.fob d ns xs) => _ | _ => _) = _
  unfold oFld; rfl
def oStf (c f : Str) (n : Nat) (y : Val) (st : Store) : Option Cell → R Store
  | some (.obj d ns xs) => if c = d ∧ ns.length = xs.length ∧ ns.length < 100 then (match ixF f ns with
      | some i => .ok (st.set n (.obj c ns (xs.set i y)))
      | none => .ok (st.set n (.obj c (ns ++ [f]) (xs ++ [y])))) else .stuck
  | _ => .stuck
theorem l_stf {c f : Str} {n : Nat} {y : Val} {s : Store} : vStf c f (.loc n) y s = oStf c f n y s s[n]? := by
  show (match s[n]? with | some (.obj d ns xs) => _ | _ => _) = _
  unfold oStf; rfl
def oObj (c m : Str) : Option Cell → Bool
  | some (.obj d ns _) => decide (c = d) && !ns.contains m
  | some (.fob d ns _) => decide (c = d) && !ns.contains m
  | _ => false
theorem l_obj {c m : Str} {n : Nat} {s : Store} : isObj c m s (.loc n) = oObj c m s[n]? := by
  show (match s[n]? with | some (.obj d ns xs) => _ | some (.fob d ns xs) => _ | _ => _) = _
  unfold oObj; rfl
theorem seqN_of {is : List Nat} {v : Val} {env : Env} {st : Store} {k : Bool} {xs : List Val} (h : seqOf st v = some (k, xs)) (hl : xs.length = is.length) : seqN is v env st = some (setN is xs env) := by
  unfold seqN; rw [h]; dsimp only; rw [if_pos hl]
theorem setN_c {i : Nat} {is : List Nat} {v : Val} {vs : List Val} {env : Env} : setN (i :: is) (v :: vs) env = setN is vs (env.set i (some v)) := rfl
theorem setN_n {vs : List Val} {env : Env} : setN [] vs env = env := by cases vs <;> rfl
end MP
/-! MiniPy: the meaning as rewriting rules, one step each. -/
namespace MP
open PySem L2
section
variable (Φ : Tab) (G : Str → Option Val)
def kVar (st : Store) : Option (Option Val) → RV | some (some v) => .ok (v, st) | _ => .stuck
def kTr (p : Val × Store) : R (Bool × Store) := (truth p.2 p.1).bind fun b => .ok (b, p.2)
def kTr2 (s : Store) (b : Bool) : R (Bool × Store) := .ok (b, s)
def kI1 (p : Val × Store) : R (List Val × Store) := match p.1 with | .tup xs => .ok (xs, p.2) | .lst xs => .ok (xs, p.2) | .scr xs => .ok (xs, p.2) | _ => .stuck
def kGl (st : Store) : Option Val → RV | some v => .ok (v, st) | none => .stuck
def kTup (p : List Val × Store) : RV := newT p.1 p.2
def kLst (m : Bool) (p : List Val × Store) : RV := newL m p.1 p.2
def kBin2 (m : Bool) (op : BOp) (x : Val) (q : Val × Store) : RV := binV m op x q.1 q.2
def kBin (m : Bool) (op : BOp) (b : E) (env : Env) (p : Val × Store) : RV := ((ev Φ G b).v env p.2).bind (kBin2 m op p.1)
def kNeg (p : Val × Store) : RV := match p.1 with | .int i => .ok (.int (-i), p.2) | _ => .stuck
def kNot (p : Val × Store) : RV := match p.1 with | .bl b => .ok (.bl (!b), p.2) | _ => .stuck
def kNotT (p : Bool × Store) : R (Bool × Store) := .ok (!p.1, p.2)
def kB (s : Store) (k : Bool) : RV := .ok (.bl k, s)
def kVl (s : Store) (k : Val) : RV := .ok (k, s)
def kCmp2 (op : COp) (x : Val) (q : Val × Store) : RV := (cmpV op x q.1 q.2).bind (kB q.2)
def kCmp (op : COp) (b : E) (env : Env) (p : Val × Store) : RV := ((ev Φ G b).v env p.2).bind (kCmp2 op p.1)
def kCh3 (op' : COp) (y : Val) (r : Val × Store) : RV := (cmpV op' y r.1 r.2).bind (kB r.2)
def kCh2 (op op' : COp) (c : E) (env : Env) (x : Val) (q : Val × Store) : RV := (cmpV op x q.1 q.2).bind fun k => if k then ((ev Φ G c).v env q.2).bind (kCh3 op' q.1) else .ok (.bl false, q.2)
def kCh2b (op' : COp) (c : E) (env : Env) (y : Val) (s : Store) (k : Bool) : RV := if k then ((ev Φ G c).v env s).bind (kCh3 op' y) else .ok (.bl false, s)
def kCh (op op' : COp) (b c : E) (env : Env) (p : Val × Store) : RV := ((ev Φ G b).v env p.2).bind (kCh2 Φ G op op' c env p.1)
def kIfx (a b : E) (env : Env) (p : Bool × Store) : RV := if p.1 then (ev Φ G a).v env p.2 else (ev Φ G b).v env p.2
def kCall (f : Str) (p : List Val × Store) : RV := match Φ f with | some m => m p.1 p.2 | none => .stuck
def kCal (o : Option Mir) (p : List Val × Store) : RV := match o with | some m => m p.1 p.2 | none => .stuck
def kIsi (t : Ty) (p : Val × Store) : RV := match isTy p.2 t p.1 with | some b => .ok (.bl b, p.2) | none => .stuck
def kIsi2 (t u : Ty) (p : Val × Store) : RV := match isTy p.2 t p.1, isTy p.2 u p.1 with | some b, some b' => .ok (.bl (b || b'), p.2) | _, _ => .stuck
def kF1 (f : F1) (p : Val × Store) : RV := (f1V f p.1 p.2).bind fun y => .ok (y, p.2)
def kMm2 (k : Bool) (x : Val) (q : Val × Store) : RV := (mmV k x q.1).bind (kVl q.2)
def kMm (k : Bool) (b : E) (env : Env) (p : Val × Store) : RV := ((ev Φ G b).v env p.2).bind (kMm2 k p.1)
def kG1 (m : Bool) (f : G1) (p : Val × Store) : RV := g1V m f p.1 p.2
def kSub2 (x : Val) (q : Val × Store) : RV := (ixV q.2 x q.1).bind (kVl q.2)
def kSub (i : E) (env : Env) (p : Val × Store) : RV := ((ev Φ G i).v env p.2).bind (kSub2 p.1)
def kSl3 (m : Bool) (x : Val) (l' : Option Int) (n : Bool) (r : Val × Store) : RV := (partV n r.1).bind fun h' => slcV m r.2 x l' h'
def kSl3b (m : Bool) (s : Store) (x : Val) (l' h' : Option Int) : RV := slcV m s x l' h'
def kSl2b (m : Bool) (hi : E) (env : Env) (x : Val) (s : Store) (l' : Option Int) : RV := ((ev Φ G hi).v env s).bind (kSl3 m x l' (isNo hi))
def kSl2 (m : Bool) (n : Bool) (hi : E) (env : Env) (x : Val) (q : Val × Store) : RV := (partV n q.1).bind (kSl2b Φ G m hi env x q.2)
def kSl (m : Bool) (lo hi : E) (env : Env) (p : Val × Store) : RV := ((ev Φ G lo).v env p.2).bind (kSl2 Φ G m (isNo lo) hi env p.1)
def kRng (p : List Val × Store) : R (List Val × Store) := (rngV p.1).bind fun xs => .ok (xs, p.2)
def kRng2 (s : Store) (xs : List Val) : R (List Val × Store) := .ok (xs, s)
def kComp (m : Bool) (x : Nat) (c elt : E) (env : Env) (p : List Val × Store) : RV := if p.1.length ≤ szMax then ((compL (ev Φ G c).t (ev Φ G elt).v x p.1 env p.2).bind (kLst m)) else .stuck
def kFrz (p : Val × Store) : RV := vFrz p.1 p.2
def kApp2 (x : Val) (q : Val × Store) : RV := vApp x q.1 q.2
def kApp (a : E) (env : Env) (p : Val × Store) : RV := if isCell p.2 p.1 then ((ev Φ G a).v env p.2).bind (kApp2 p.1) else .stuck
def kEs2 (x : Val) (q : List Val × Store) : R (List Val × Store) := .ok (x :: q.1, q.2)
def kEs (r : Es) (env : Env) (p : Val × Store) : R (List Val × Store) := (evs Φ G r env p.2).bind (kEs2 p.1)
def kBo (k : Bool) (r : Es) (env : Env) (p : Val × Store) : RV := match p.1 with | .bl b => if b = k then evBo Φ G k r env p.2 else .ok (.bl b, p.2) | _ => .stuck
def kBoT (k : Bool) (r : Es) (env : Env) (p : Bool × Store) : R (Bool × Store) := if p.1 = k then evBoT Φ G k r env p.2 else .ok (p.1, p.2)
def kAsg (env : Env) (i : Nat) (p : Val × Store) : RS := .next (env.set i (some p.1)) p.2
def kExp (env : Env) (p : Val × Store) : RS := .next env p.2
def kIte (a b : Ss) (env : Env) (p : Bool × Store) : RS := if p.1 then evSs Φ G a env p.2 else evSs Φ G b env p.2
def kFor (i : Nat) (body : Ss) (env : Env) (p : List Val × Store) : RS := forL i (evSs Φ G body) p.1 env p.2
def kRet (p : Val × Store) : RS := .ret p.1 p.2
def kSto4 (env : Env) (st' : Store) : RS := .next env st'
def kSto3 (env : Env) (x y : Val) (r : Val × Store) : RS := (vSto y r.1 x r.2).st env (kSto4 env)
def kSto2 (i : E) (env : Env) (x : Val) (q : Val × Store) : RS := ((ev Φ G i).v env q.2).st env (kSto3 env x q.1)
def kSto (o i : E) (env : Env) (p : Val × Store) : RS := ((ev Φ G o).v env p.2).st env (kSto2 Φ G i env p.1)
def kRun : RS → RV | .next _ st' => .ok (.non, st') | .ret v st' => .ok (v, st') | .exn c fs _ st' => .exn c fs st' | _ => .stuck
def kRaise (c : Str) (env : Env) (p : List Val × Store) : RS := .exn c p.1 env p.2
def kTry (hs : Hs) : RS → RS | .exn c fs env' st' => evHs Φ G hs c fs env' st' | r => r
def kFldO (c f : Str) (p : Val × Store) : RV := (vFld c f p.1 p.2).bind (kVl p.2)
def kNew2 (n : Nat) (q : Val × Store) : RV := match q.1 with | .non => .ok (.loc n, q.2) | _ => .stuck
def kNew (c : Str) (o : Option Mir) (p : List Val × Store) : RV := match o with | some m => (m (.loc p.2.length :: p.1) (p.2 ++ [Cell.obj c [] []])).bind (kNew2 p.2.length) | none => .stuck
def kMeth2 (o : Option Mir) (x : Val) (q : List Val × Store) : RV := match o with | some f => f (x :: q.1) q.2 | none => .stuck
def kMeth (c m : Str) (o : Option Mir) (es : Es) (env : Env) (p : Val × Store) : RV := if isObj c m p.2 p.1 then (evs Φ G es env p.2).bind (kMeth2 o p.1) else .stuck
def kStf2 (c f : Str) (env : Env) (x : Val) (q : Val × Store) : RS := (vStf c f q.1 x q.2).st env (kSto4 env)
def kStf (c f : Str) (o : E) (env : Env) (p : Val × Store) : RS := ((ev Φ G o).v env p.2).st env (kStf2 c f env p.1)
def kAsgt3 (st : Store) : Option Env → RS | some e => .next e st | none => .stuck
def kAsgt (is : List Nat) (env : Env) (p : Val × Store) : RS := kAsgt3 p.2 (seqN is p.1 env p.2)
def kFort (is : List Nat) (body : Ss) (env : Env) (p : List Val × Store) : RS := forT is (evSs Φ G body) p.1 env p.2
def kFl2 (st : Store) : Option Val → RV | some v => .ok (v, st) | none => .stuck
def kFld (j : Nat) (st : Store) : Option (Option Val) → RV | some (some (.tup fs)) => kFl2 st fs[j]? | _ => .stuck
def kIs (ys : List (Str × List Str)) (st : Store) : Option (Option Val) → RV | some (some (.str c)) => .ok (.bl (ys.any fun p => p.2.contains c), st) | _ => .stuck
variable {env : Env} {st s : Store} {a b c o elt it lo hi : E} {es r : Es} {i k x y z : Nat}
theorem v_var : (ev Φ G (.var i)).v env st = kVar st env[i]? := by show vVar i env st = _; unfold vVar kVar; rfl
theorem t_var : (ev Φ G (.var i)).t env st = ((ev Φ G (.var i)).v env st).bind kTr := rfl
theorem i_var : (ev Φ G (.var i)).i env st = ((ev Φ G (.var i)).v env st).bind kI1 := rfl
theorem v_int {j : Int} : (ev Φ G (.int j)).v env st = .ok (.int j, st) := rfl
theorem t_int {j : Int} : (ev Φ G (.int j)).t env st = ((ev Φ G (.int j)).v env st).bind kTr := rfl
theorem i_int {j : Int} : (ev Φ G (.int j)).i env st = ((ev Φ G (.int j)).v env st).bind kI1 := rfl
theorem v_bl {j : Bool} : (ev Φ G (.bl j)).v env st = .ok (.bl j, st) := rfl
theorem t_bl {j : Bool} : (ev Φ G (.bl j)).t env st = ((ev Φ G (.bl j)).v env st).bind kTr := rfl
theorem i_bl {j : Bool} : (ev Φ G (.bl j)).i env st = ((ev Φ G (.bl j)).v env st).bind kI1 := rfl
theorem v_non  : (ev Φ G (.non)).v env st = .ok (.non, st) := rfl
theorem t_non  : (ev Φ G (.non)).t env st = ((ev Φ G (.non)).v env st).bind kTr := rfl
theorem i_non  : (ev Φ G (.non)).i env st = ((ev Φ G (.non)).v env st).bind kI1 := rfl
theorem v_str {j : Str} : (ev Φ G (.str j)).v env st = .ok (.str j, st) := rfl
theorem t_str {j : Str} : (ev Φ G (.str j)).t env st = ((ev Φ G (.str j)).v env st).bind kTr := rfl
theorem i_str {j : Str} : (ev Φ G (.str j)).i env st = ((ev Φ G (.str j)).v env st).bind kI1 := rfl
theorem v_glob {j : Str} : (ev Φ G (.glob j)).v env st = kGl st (G j) := by show (match G j with | some v => R.ok (v, st) | none => .stuck) = _; unfold kGl; rfl
theorem t_glob {j : Str} : (ev Φ G (.glob j)).t env st = ((ev Φ G (.glob j)).v env st).bind kTr := rfl
theorem i_glob {j : Str} : (ev Φ G (.glob j)).i env st = ((ev Φ G (.glob j)).v env st).bind kI1 := rfl
theorem v_tup  : (ev Φ G (.tup es)).v env st = (evs Φ G es env st).bind kTup := rfl
theorem t_tup  : (ev Φ G (.tup es)).t env st = ((ev Φ G (.tup es)).v env st).bind kTr := rfl
theorem i_tup  : (ev Φ G (.tup es)).i env st = ((ev Φ G (.tup es)).v env st).bind kI1 := rfl
theorem v_lst {m : Bool} : (ev Φ G (.lst m es)).v env st = (evs Φ G es env st).bind (kLst m) := rfl
theorem t_lst {m : Bool} : (ev Φ G (.lst m es)).t env st = ((ev Φ G (.lst m es)).v env st).bind kTr := rfl
theorem i_lst {m : Bool} : (ev Φ G (.lst m es)).i env st = ((ev Φ G (.lst m es)).v env st).bind kI1 := rfl
theorem v_bin {m : Bool} {op : BOp} : (ev Φ G (.bin m op a b)).v env st = ((ev Φ G a).v env st).bind (kBin Φ G m op b env) := rfl
theorem t_bin {m : Bool} {op : BOp} : (ev Φ G (.bin m op a b)).t env st = ((ev Φ G (.bin m op a b)).v env st).bind kTr := rfl
theorem i_bin {m : Bool} {op : BOp} : (ev Φ G (.bin m op a b)).i env st = ((ev Φ G (.bin m op a b)).v env st).bind kI1 := rfl
theorem v_neg  : (ev Φ G (.neg a)).v env st = ((ev Φ G a).v env st).bind kNeg := rfl
theorem t_neg  : (ev Φ G (.neg a)).t env st = ((ev Φ G (.neg a)).v env st).bind kTr := rfl
theorem i_neg  : (ev Φ G (.neg a)).i env st = ((ev Φ G (.neg a)).v env st).bind kI1 := rfl
theorem v_not : (ev Φ G (.not a)).v env st = ((ev Φ G a).v env st).bind kNot := rfl
theorem t_not : (ev Φ G (.not a)).t env st = ((ev Φ G a).t env st).bind kNotT := rfl
theorem v_cmp {op : COp} : (ev Φ G (.cmp op a b)).v env st = ((ev Φ G a).v env st).bind (kCmp Φ G op b env) := rfl
theorem t_cmp {op : COp} : (ev Φ G (.cmp op a b)).t env st = ((ev Φ G (.cmp op a b)).v env st).bind kTr := rfl
theorem i_cmp {op : COp} : (ev Φ G (.cmp op a b)).i env st = ((ev Φ G (.cmp op a b)).v env st).bind kI1 := rfl
theorem v_chain {op op' : COp} : (ev Φ G (.chain op op' a b c)).v env st = ((ev Φ G a).v env st).bind (kCh Φ G op op' b c env) := rfl
theorem t_chain {op op' : COp} : (ev Φ G (.chain op op' a b c)).t env st = ((ev Φ G (.chain op op' a b c)).v env st).bind kTr := rfl
theorem i_chain {op op' : COp} : (ev Φ G (.chain op op' a b c)).i env st = ((ev Φ G (.chain op op' a b c)).v env st).bind kI1 := rfl
theorem v_bo {k : Bool} : (ev Φ G (.bo k es)).v env st = evBo Φ G k es env st := rfl
theorem t_bo {k : Bool} : (ev Φ G (.bo k es)).t env st = evBoT Φ G k es env st := rfl
theorem v_ifx : (ev Φ G (.ifx c a b)).v env st = ((ev Φ G c).t env st).bind (kIfx Φ G a b env) := rfl
theorem i_ifx : (ev Φ G (.ifx c a b)).i env st = ((ev Φ G (.ifx c a b)).v env st).bind kI1 := rfl
theorem v_call {f : Str} : (ev Φ G (.call f es)).v env st = (evs Φ G es env st).bind (kCall Φ f) := rfl
theorem t_call {f : Str} : (ev Φ G (.call f es)).t env st = ((ev Φ G (.call f es)).v env st).bind kTr := rfl
theorem i_call {f : Str} : (ev Φ G (.call f es)).i env st = ((ev Φ G (.call f es)).v env st).bind kI1 := rfl
theorem v_isi {t : Ty} : (ev Φ G (.isi a t)).v env st = ((ev Φ G a).v env st).bind (kIsi t) := rfl
theorem t_isi {t : Ty} : (ev Φ G (.isi a t)).t env st = ((ev Φ G (.isi a t)).v env st).bind kTr := rfl
theorem i_isi {t : Ty} : (ev Φ G (.isi a t)).i env st = ((ev Φ G (.isi a t)).v env st).bind kI1 := rfl
theorem v_isi2 {t u : Ty} : (ev Φ G (.isi2 a t u)).v env st = ((ev Φ G a).v env st).bind (kIsi2 t u) := rfl
theorem t_isi2 {t u : Ty} : (ev Φ G (.isi2 a t u)).t env st = ((ev Φ G (.isi2 a t u)).v env st).bind kTr := rfl
theorem i_isi2 {t u : Ty} : (ev Φ G (.isi2 a t u)).i env st = ((ev Φ G (.isi2 a t u)).v env st).bind kI1 := rfl
theorem v_f1 {f : F1} : (ev Φ G (.f1 f a)).v env st = ((ev Φ G a).v env st).bind (kF1 f) := rfl
theorem t_f1 {f : F1} : (ev Φ G (.f1 f a)).t env st = ((ev Φ G (.f1 f a)).v env st).bind kTr := rfl
theorem i_f1 {f : F1} : (ev Φ G (.f1 f a)).i env st = ((ev Φ G (.f1 f a)).v env st).bind kI1 := rfl
theorem v_mm {k : Bool} : (ev Φ G (.mm k a b)).v env st = ((ev Φ G a).v env st).bind (kMm Φ G k b env) := rfl
theorem t_mm {k : Bool} : (ev Φ G (.mm k a b)).t env st = ((ev Φ G (.mm k a b)).v env st).bind kTr := rfl
theorem i_mm {k : Bool} : (ev Φ G (.mm k a b)).i env st = ((ev Φ G (.mm k a b)).v env st).bind kI1 := rfl
theorem v_g1 {m : Bool} {f : G1} : (ev Φ G (.g1 m f a)).v env st = ((ev Φ G a).v env st).bind (kG1 m f) := rfl
theorem t_g1 {m : Bool} {f : G1} : (ev Φ G (.g1 m f a)).t env st = ((ev Φ G (.g1 m f a)).v env st).bind kTr := rfl
theorem i_g1 {m : Bool} {f : G1} : (ev Φ G (.g1 m f a)).i env st = ((ev Φ G (.g1 m f a)).v env st).bind kI1 := rfl
theorem v_sub  : (ev Φ G (.sub a b)).v env st = ((ev Φ G a).v env st).bind (kSub Φ G b env) := rfl
theorem t_sub  : (ev Φ G (.sub a b)).t env st = ((ev Φ G (.sub a b)).v env st).bind kTr := rfl
theorem i_sub  : (ev Φ G (.sub a b)).i env st = ((ev Φ G (.sub a b)).v env st).bind kI1 := rfl
theorem v_slc {m : Bool} : (ev Φ G (.slc m a lo hi)).v env st = ((ev Φ G a).v env st).bind (kSl Φ G m lo hi env) := rfl
theorem t_slc {m : Bool} : (ev Φ G (.slc m a lo hi)).t env st = ((ev Φ G (.slc m a lo hi)).v env st).bind kTr := rfl
theorem i_slc {m : Bool} : (ev Φ G (.slc m a lo hi)).i env st = ((ev Φ G (.slc m a lo hi)).v env st).bind kI1 := rfl
theorem v_no : (ev Φ G .no).v env st = .ok (.non, st) := rfl
theorem t_no : (ev Φ G .no).t env st = .ok (true, st) := rfl
theorem i_rng : (ev Φ G (.rng es)).i env st = (evs Φ G es env st).bind kRng := rfl
theorem v_comp {m : Bool} : (ev Φ G (.comp m x it c elt)).v env st = ((ev Φ G it).i env st).bind (kComp Φ G m x c elt env) := rfl
theorem t_comp {m : Bool} : (ev Φ G (.comp m x it c elt)).t env st = ((ev Φ G (.comp m x it c elt)).v env st).bind kTr := rfl
theorem i_comp {m : Bool} : (ev Φ G (.comp m x it c elt)).i env st = ((ev Φ G (.comp m x it c elt)).v env st).bind kI1 := rfl
theorem v_xfld {j : Nat} : (ev Φ G (.xfld i j)).v env st = kFld j st env[i + 1]? := by show (match env[i + 1]? with | some (some (.tup fs)) => (match fs[j]? with | some v => R.ok (v, st) | none => .stuck) | _ => .stuck) = _; unfold kFld kFl2; rfl
theorem t_xfld {j : Nat} : (ev Φ G (.xfld i j)).t env st = ((ev Φ G (.xfld i j)).v env st).bind kTr := rfl
theorem v_xis {ys : List (Str × List Str)} : (ev Φ G (.xis i ys)).v env st = kIs ys st env[i]? := by show (match env[i]? with | some (some (.str c)) => R.ok (Val.bl (ys.any fun p => p.2.contains c), st) | _ => .stuck) = _; unfold kIs; rfl
theorem t_xis {ys : List (Str × List Str)} : (ev Φ G (.xis i ys)).t env st = ((ev Φ G (.xis i ys)).v env st).bind kTr := rfl
theorem kFld_ {j : Nat} {fs : List Val} : kFld j st (some (some (.tup fs))) = kFl2 st fs[j]? := rfl
theorem kFl2_ {v : Val} : kFl2 st (some v) = .ok (v, st) := rfl
theorem kIs_ {ys : List (Str × List Str)} {n : Str} : kIs ys st (some (some (.str n))) = .ok (.bl (ys.any fun p => p.2.contains n), st) := rfl
theorem v_fld {n f : Str} : (ev Φ G (.fld n f a)).v env st = ((ev Φ G a).v env st).bind (kFldO n f) := rfl
theorem t_fld {n f : Str} : (ev Φ G (.fld n f a)).t env st = ((ev Φ G (.fld n f a)).v env st).bind kTr := rfl
theorem i_fld {n f : Str} : (ev Φ G (.fld n f a)).i env st = ((ev Φ G (.fld n f a)).v env st).bind kI1 := rfl
theorem v_new {n : Str} : (ev Φ G (.new n es)).v env st = (evs Φ G es env st).bind (kNew n (Φ (mName n "__init__"))) := by show ((evs Φ G es env st).bind fun p => match Φ (mName n "__init__") with | some m => (m (.loc p.2.length :: p.1) (p.2 ++ [Cell.obj n [] []])).bind fun q => (match q.1 with | .non => R.ok (Val.loc p.2.length, q.2) | _ => .stuck) | none => .stuck) = _; congr 1
theorem v_meth {n f : Str} : (ev Φ G (.meth n f a es)).v env st = ((ev Φ G a).v env st).bind (kMeth Φ G n f (Φ (mName n f)) es env) := by show (((ev Φ G a).v env st).bind fun p => if isObj n f p.2 p.1 then (evs Φ G es env p.2).bind fun q => (match Φ (mName n f) with | some f => f (p.1 :: q.1) q.2 | none => .stuck) else .stuck) = _; congr 1
theorem t_meth {n f : Str} : (ev Φ G (.meth n f a es)).t env st = ((ev Φ G (.meth n f a es)).v env st).bind kTr := rfl
theorem i_meth {n f : Str} : (ev Φ G (.meth n f a es)).i env st = ((ev Φ G (.meth n f a es)).v env st).bind kI1 := rfl
theorem kFldO_ {n f : Str} {v : Val} : kFldO n f (v, s) = (vFld n f v s).bind (kVl s) := rfl
theorem kNew_ {n : Str} {m : Mir} {vs : List Val} : kNew n (some m) (vs, s) = (m (.loc s.length :: vs) (s ++ [Cell.obj n [] []])).bind (kNew2 s.length) := rfl
theorem kNew2_ {n : Nat} : kNew2 n (.non, s) = .ok (.loc n, s) := rfl
theorem kMeth_ {n f : Str} {m : Option Mir} {v : Val} : kMeth Φ G n f m es env (v, s) = if isObj n f s v = true then (evs Φ G es env s).bind (kMeth2 m v) else .stuck := rfl
theorem kMeth2_ {m : Mir} {v : Val} {vs : List Val} : kMeth2 (some m) v (vs, s) = m (v :: vs) s := rfl
theorem v_frz : (ev Φ G (.frz a)).v env st = ((ev Φ G a).v env st).bind kFrz := rfl
theorem i_frz : (ev Φ G (.frz a)).i env st = ((ev Φ G (.frz a)).v env st).bind kI1 := rfl
theorem v_app : (ev Φ G (.app o a)).v env st = ((ev Φ G o).v env st).bind (kApp Φ G a env) := rfl
theorem es_nil : evs Φ G .nil env st = .ok ([], st) := rfl
theorem es_cons : evs Φ G (.cons a r) env st = ((ev Φ G a).v env st).bind (kEs Φ G r env) := rfl
theorem bo_1 {k : Bool} : evBo Φ G k (.cons a .nil) env st = (ev Φ G a).v env st := rfl
theorem bo_2 {k : Bool} : evBo Φ G k (.cons a (.cons b r)) env st = ((ev Φ G a).v env st).bind (kBo Φ G k (.cons b r) env) := rfl
theorem bt_1 {k : Bool} : evBoT Φ G k (.cons a .nil) env st = (ev Φ G a).t env st := rfl
theorem bt_2 {k : Bool} : evBoT Φ G k (.cons a (.cons b r)) env st = ((ev Φ G a).t env st).bind (kBoT Φ G k (.cons b r) env) := rfl
theorem kVar_  {v : Val} : kVar st (some (some v)) = .ok (v, st) := rfl
theorem kGl_  {v : Val} : kGl st (some v) = .ok (v, st) := rfl
theorem kTr_  {v : Val} : kTr (v, s) = (truth s v).bind (kTr2 s) := rfl
theorem kTr2_  {d : Bool} : kTr2 s d = .ok (d, s) := rfl
theorem kI1_t  {xs : List Val} : kI1 (.tup xs, s) = .ok (xs, s) := rfl
theorem kI1_l  {xs : List Val} : kI1 (.lst xs, s) = .ok (xs, s) := rfl
theorem kI1_s  {xs : List Val} : kI1 (.scr xs, s) = .ok (xs, s) := rfl
theorem kTup_  {xs : List Val} : kTup (xs, s) = newT xs s := rfl
theorem kLst_  {m : Bool} {xs : List Val} : kLst m (xs, s) = newL m xs s := rfl
theorem kBin_  {m : Bool} {op : BOp} {v : Val} : kBin Φ G m op b env (v, s) = ((ev Φ G b).v env s).bind (kBin2 m op v) := rfl
theorem kBin2_  {m : Bool} {op : BOp} {v u : Val} : kBin2 m op v (u, s) = binV m op v u s := rfl
theorem kNeg_  {j : Int} : kNeg (.int j, s) = .ok (.int (-j), s) := rfl
theorem kNot_  {d : Bool} : kNot (.bl d, s) = .ok (.bl (!d), s) := rfl
theorem kNotT_  {d : Bool} : kNotT (d, s) = .ok (!d, s) := rfl
theorem kB_  {d : Bool} : kB s d = .ok (.bl d, s) := rfl
theorem kVl_  {v : Val} : kVl s v = .ok (v, s) := rfl
theorem kCmp_  {op : COp} {v : Val} : kCmp Φ G op b env (v, s) = ((ev Φ G b).v env s).bind (kCmp2 op v) := rfl
theorem kCmp2_  {op : COp} {v u : Val} : kCmp2 op v (u, s) = (cmpV op v u s).bind (kB s) := rfl
theorem kCh_  {op op' : COp} {v : Val} : kCh Φ G op op' b c env (v, s) = ((ev Φ G b).v env s).bind (kCh2 Φ G op op' c env v) := rfl
theorem kCh2_  {op op' : COp} {v u : Val} : kCh2 Φ G op op' c env v (u, s) = (cmpV op v u s).bind (kCh2b Φ G op' c env u s) := rfl
theorem kCh2b_  {op' : COp} {u : Val} {d : Bool} : kCh2b Φ G op' c env u s d = if d = true then ((ev Φ G c).v env s).bind (kCh3 op' u) else .ok (.bl false, s) := rfl
theorem kCh3_  {op' : COp} {v u : Val} : kCh3 op' v (u, s) = (cmpV op' v u s).bind (kB s) := rfl
theorem kIfx_  {d : Bool} : kIfx Φ G a b env (d, s) = if d = true then (ev Φ G a).v env s else (ev Φ G b).v env s := rfl
theorem kCall_ {f : Str} {vs : List Val} : kCall Φ f (vs, s) = kCal (Φ f) (vs, s) := by unfold kCall kCal; rfl
theorem kCal_  {m : Mir} {vs : List Val} : kCal (some m) (vs, s) = m vs s := rfl
theorem kIsi_  {t : Ty} {v : Val} : kIsi t (v, s) = (match isTy s t v with | some b => R.ok (Val.bl b, s) | none => .stuck) := rfl
theorem kIsi2_  {t u : Ty} {v : Val} : kIsi2 t u (v, s) = (match isTy s t v, isTy s u v with | some b, some b' => R.ok (Val.bl (b || b'), s) | _, _ => .stuck) := rfl
theorem kF1_  {f : F1} {v : Val} : kF1 f (v, s) = (f1V f v s).bind (kVl s) := rfl
theorem kMm_  {k : Bool} {v : Val} : kMm Φ G k b env (v, s) = ((ev Φ G b).v env s).bind (kMm2 k v) := rfl
theorem kMm2_  {k : Bool} {v u : Val} : kMm2 k v (u, s) = (mmV k v u).bind (kVl s) := rfl
theorem kG1_  {m : Bool} {f : G1} {v : Val} : kG1 m f (v, s) = g1V m f v s := rfl
theorem kSub_  {v : Val} : kSub Φ G b env (v, s) = ((ev Φ G b).v env s).bind (kSub2 v) := rfl
theorem kSub2_  {v u : Val} : kSub2 v (u, s) = (ixV s v u).bind (kVl s) := rfl
theorem kSl_  {m : Bool} {v : Val} : kSl Φ G m lo hi env (v, s) = ((ev Φ G lo).v env s).bind (kSl2 Φ G m (isNo lo) hi env v) := rfl
theorem kSl2_  {m n : Bool} {v u : Val} : kSl2 Φ G m n hi env v (u, s) = (partV n u).bind (kSl2b Φ G m hi env v s) := rfl
theorem kSl2b_  {m : Bool} {v : Val} {l' : Option Int} : kSl2b Φ G m hi env v s l' = ((ev Φ G hi).v env s).bind (kSl3 m v l' (isNo hi)) := rfl
theorem kSl3_  {m n : Bool} {v u : Val} {l' : Option Int} : kSl3 m v l' n (u, s) = (partV n u).bind (kSl3b m s v l') := rfl
theorem kSl3b_  {m : Bool} {v : Val} {l' h' : Option Int} : kSl3b m s v l' h' = slcV m s v l' h' := rfl
theorem kRng_  {xs : List Val} : kRng (xs, s) = (rngV xs).bind (kRng2 s) := rfl
theorem kRng2_  {xs : List Val} : kRng2 s xs = .ok (xs, s) := rfl
theorem kComp_  {m : Bool} {xs : List Val} : kComp Φ G m x c elt env (xs, s) = if xs.length ≤ szMax then ((compL (ev Φ G c).t (ev Φ G elt).v x xs env s).bind (kLst m)) else .stuck := rfl
theorem kFrz_  {v : Val} : kFrz (v, s) = vFrz v s := rfl
theorem kApp_  {v : Val} : kApp Φ G a env (v, s) = if isCell s v = true then ((ev Φ G a).v env s).bind (kApp2 v) else .stuck := rfl
theorem kApp2_  {v u : Val} : kApp2 v (u, s) = vApp v u s := rfl
theorem kEs_  {v : Val} : kEs Φ G r env (v, s) = (evs Φ G r env s).bind (kEs2 v) := rfl
theorem kEs2_  {v : Val} {vs : List Val} : kEs2 v (vs, s) = .ok (v :: vs, s) := rfl
theorem kBo_  {k d : Bool} : kBo Φ G k r env (.bl d, s) = if d = k then evBo Φ G k r env s else .ok (.bl d, s) := rfl
theorem kBoT_  {k d : Bool} : kBoT Φ G k r env (d, s) = if d = k then evBoT Φ G k r env s else .ok (d, s) := rfl
theorem x_asg : evS Φ G (.asg i a) env st = ((ev Φ G a).v env st).st env (kAsg env i) := rfl
theorem x_sto : evS Φ G (.sto a b c) env st = ((ev Φ G c).v env st).st env (kSto Φ G a b env) := rfl
theorem x_stf {n f : Str} : evS Φ G (.stf n f a c) env st = ((ev Φ G c).v env st).st env (kStf Φ G n f a env) := rfl
theorem x_asgt {l : List Nat} : evS Φ G (.asgt l a) env st = ((ev Φ G a).v env st).st env (kAsgt l env) := by show R.st ((ev Φ G a).v env st) env (fun p => (match seqN l p.1 env p.2 with | some e => RS.next e p.2 | none => .stuck)) = _; congr 1
theorem x_fort {l : List Nat} {p : Ss} : evS Φ G (.fort l a p) env st = ((ev Φ G a).i env st).st env (kFort Φ G l p env) := rfl
theorem kStf_ {n f : Str} {v : Val} : kStf Φ G n f a env (v, s) = ((ev Φ G a).v env s).st env (kStf2 n f env v) := rfl
theorem kStf2_ {n f : Str} {v u : Val} : kStf2 n f env v (u, s) = (vStf n f u v s).st env (kSto4 env) := rfl
theorem kAsgt_ {l : List Nat} {v : Val} : kAsgt l env (v, s) = kAsgt3 s (seqN l v env s) := rfl
theorem kAsgt3_ : kAsgt3 s (some env) = .next env s := rfl
theorem kFort_ {l : List Nat} {p : Ss} {xs : List Val} : kFort Φ G l p env (xs, s) = forT l (evSs Φ G p) xs env s := rfl
theorem x_expr : evS Φ G (.expr a) env st = ((ev Φ G a).v env st).st env (kExp env) := rfl
theorem x_ite {p q : Ss} : evS Φ G (.ite a p q) env st = ((ev Φ G a).t env st).st env (kIte Φ G p q env) := rfl
theorem x_for {p : Ss} : evS Φ G (.forr i a p) env st = ((ev Φ G a).i env st).st env (kFor Φ G i p env) := rfl
theorem x_while {n : Nat} {p : Ss} : evS Φ G (.whil n a p) env st = whileL (ev Φ G a).t (evSs Φ G p) n env st := rfl
theorem x_ret : evS Φ G (.ret a) env st = ((ev Φ G a).v env st).st env kRet := rfl
theorem x_retn : evS Φ G .retn env st = .ret .non st := rfl
theorem x_pass : evS Φ G .pass env st = .next env st := rfl
theorem x_brk : evS Φ G .brk env st = .brk env st := rfl
theorem x_cnt : evS Φ G .cnt env st = .cnt env st := rfl
theorem x_raise {n : Str} : evS Φ G (.raise n es) env st = (evs Φ G es env st).st env (kRaise n env) := rfl
theorem x_try {p : Ss} {hs : Hs} : evS Φ G (.tryx p hs) env st = kTry Φ G hs (evSs Φ G p env st) := by show (match evSs Φ G p env st with | .exn c fs env' st' => evHs Φ G hs c fs env' st' | r => r) = _; unfold kTry; rfl
theorem kRaise_ {n : Str} {fs : List Val} : kRaise n env (fs, s) = .exn n fs env s := rfl
theorem kTry_n {hs : Hs} : kTry Φ G hs (.next env st) = .next env st := rfl
theorem kTry_r {hs : Hs} {v : Val} : kTry Φ G hs (.ret v st) = .ret v st := rfl
theorem kTry_b {hs : Hs} : kTry Φ G hs (.brk env st) = .brk env st := rfl
theorem kTry_c {hs : Hs} : kTry Φ G hs (.cnt env st) = .cnt env st := rfl
theorem kTry_e {hs : Hs} {n : Str} {fs : List Val} : kTry Φ G hs (.exn n fs env st) = evHs Φ G hs n fs env st := rfl
theorem h_nil {n : Str} {fs : List Val} : evHs Φ G .nil n fs env st = .exn n fs env st := rfl
theorem h_cons {y n : Str} {D : List Str} {sl : Option Nat} {p : Ss} {hs : Hs} {fs : List Val} : evHs Φ G (.cons y D sl p hs) n fs env st = if D.contains n = true then endH sl env.length (evSs Φ G p (clrS sl env ++ [some (.str n), some (.tup fs)]) st) else evHs Φ G hs n fs env st := rfl
theorem endH_n {sl : Option Nat} {n : Nat} : endH sl n (.next env st) = .next (clrS sl (env.take n)) st := rfl
theorem endH_b {sl : Option Nat} {n : Nat} : endH sl n (.brk env st) = .brk (clrS sl (env.take n)) st := rfl
theorem endH_c {sl : Option Nat} {n : Nat} : endH sl n (.cnt env st) = .cnt (clrS sl (env.take n)) st := rfl
theorem endH_r {sl : Option Nat} {n : Nat} {v : Val} : endH sl n (.ret v st) = .ret v st := rfl
theorem clrS_n : clrS none env = env := rfl
theorem clrS_s : clrS (some i) env = env.set i none := rfl
theorem xs_nil : evSs Φ G .nil env st = .next env st := rfl
theorem xs_cons {p : S} {q : Ss} : evSs Φ G (.cons p q) env st = (evS Φ G p env st).bind (evSs Φ G q) := rfl
theorem kAsg_  {v : Val} : kAsg env i (v, s) = .next (env.set i (some v)) s := rfl
theorem kExp_  {v : Val} : kExp env (v, s) = .next env s := rfl
theorem kIte_  {p q : Ss} {d : Bool} : kIte Φ G p q env (d, s) = if d = true then evSs Φ G p env s else evSs Φ G q env s := rfl
theorem kFor_  {p : Ss} {xs : List Val} : kFor Φ G i p env (xs, s) = forL i (evSs Φ G p) xs env s := rfl
theorem kRet_  {v : Val} : kRet (v, s) = .ret v s := rfl
theorem kSto_  {v : Val} : kSto Φ G a b env (v, s) = ((ev Φ G a).v env s).st env (kSto2 Φ G b env v) := rfl
theorem kSto2_  {v u : Val} : kSto2 Φ G b env v (u, s) = ((ev Φ G b).v env s).st env (kSto3 env v u) := rfl
theorem kSto3_  {v u t : Val} : kSto3 env v u (t, s) = (vSto u t v s).st env (kSto4 env) := rfl
theorem kSto4_ : kSto4 env st = .next env st := rfl
theorem runB_ {n : Nat} {p : Ss} {vs : List Val} : runB Φ G n p vs st = kRun (evSs Φ G p (vs.map some ++ List.replicate (n - vs.length) none) st) := by unfold runB kRun; rfl
theorem kRun_n : kRun (.next env st) = .ok (.non, st) := rfl
theorem kRun_r {v : Val} : kRun (.ret v st) = .ok (v, st) := rfl
theorem kRun_e {k : Str} {fs : List Val} : kRun (.exn k fs env st) = .exn k fs st := rfl
end
end MP
/-! MiniPy: a store of lemmas for reading. -/
namespace MP
open PySem L2
/-! cells by what stands there -/
section
variable {st : Store} {n : Nat}
def oCell : Option Cell → Bool | some (.lst _) => true | _ => false
def oSeq : Option Cell → Option (Bool × List Val) | some (.lst xs) => some (true, xs) | some (.frz xs) => some (true, xs) | _ => none
def oLst : Option Cell → Option (List Val) | some (.lst xs) => some xs | some (.frz xs) => some xs | _ => none
def oApp (y : Val) (st : Store) (n : Nat) : Option Cell → RV | some (.lst xs) => if xs.length < szMax then .ok (.non, st.set n (.lst (xs ++ [y]))) else .stuck | _ => .stuck
def oFrz (st : Store) (n : Nat) : Option Cell → RV | some (.lst xs) => .ok (.lst xs, st.set n (.frz xs)) | some (.frz xs) => .ok (.lst xs, st) | some (.obj c ns xs) => .ok (.obj c ns xs, st.set n (.fob c ns xs)) | some (.fob c ns xs) => .ok (.obj c ns xs, st) | _ => .stuck
def oSto2 (y : Val) (st : Store) (n : Nat) (xs : List Val) : Option Nat → R Store | some m => .ok (st.set n (.lst (xs.set m y))) | none => .stuck
def oSto (j : Int) (y : Val) (st : Store) (n : Nat) : Option Cell → R Store | some (.lst xs) => oSto2 y st n xs (ixN xs.length j) | _ => .stuck
theorem l_cell : isCell st (.loc n) = oCell st[n]? := by unfold isCell oCell; rfl
theorem l_seq : seqOf st (.loc n) = oSeq st[n]? := by unfold seqOf oSeq; rfl
theorem l_lst : lstOf st (.loc n) = oLst st[n]? := by unfold lstOf oLst; rfl
theorem l_app {y : Val} : vApp (.loc n) y st = oApp y st n st[n]? := by unfold vApp oApp; rfl
theorem l_frz : vFrz (.loc n) st = oFrz st n st[n]? := by unfold vFrz oFrz; rfl
theorem l_sto {j : Int} {y : Val} : vSto (.loc n) (.int j) y st = oSto j y st n st[n]? := by unfold vSto oSto oSto2; rfl
variable {xs : List Val} {y : Val} {j : Int}
theorem oCell_ : oCell (some (.lst xs)) = true := rfl
theorem oSeq_ : oSeq (some (.lst xs)) = some (true, xs) := rfl
theorem oLst_ : oLst (some (.lst xs)) = some xs := rfl
theorem oApp_ (h : xs.length < 100000) : oApp y st n (some (.lst xs)) = .ok (.non, st.set n (.lst (xs ++ [y]))) := if_pos h
theorem oFrz_ : oFrz st n (some (.lst xs)) = .ok (.lst xs, st.set n (.frz xs)) := rfl
theorem oFrz_o {c : Str} {ns : List Str} : oFrz st n (some (.obj c ns xs)) = .ok (.obj c ns xs, st.set n (.fob c ns xs)) := rfl
theorem oFrz_f : oFrz st n (some (.frz xs)) = .ok (.lst xs, st) := rfl
theorem oSto_ : oSto j y st n (some (.lst xs)) = oSto2 y st n xs (ixN xs.length j) := rfl
theorem oSto2_ {m : Nat} : oSto2 y st n xs (some m) = .ok (st.set n (.lst (xs.set m y))) := rfl
theorem ixN_0 {l : Nat} (h : 0 < l) : ixN l 0 = some 0 := by unfold ixN; simp; omega
theorem ixN_n {l k : Nat} (h : k < l) : ixN l (k : Int) = some k := by unfold ixN; rw [if_pos (by omega), if_pos (by omega)]; simp
theorem ixN_i {l : Nat} {i : Int} (h0 : 0 ≤ i) (h : i < l) : ixN l i = some i.toNat := by unfold ixN; rw [if_pos h0, if_pos (by omega)]
theorem ixN_neg {l : Nat} (h : 0 < l) : ixN l (-1) = some (l - 1) := by
  unfold ixN; rw [if_neg (by omega), if_pos (by omega)]; congr 1; omega
/-- len(x), x[i] of what is walked -/
def oLen : Option (Bool × List Val) → R Val | some (_, xs) => .ok (.int xs.length) | none => .stuck
theorem l_len : f1V .len (.loc n) st = oLen (seqOf st (.loc n)) := by unfold f1V oLen; rfl
theorem oLen_ {b : Bool} : oLen (some (b, xs)) = .ok (.int xs.length) := rfl
def oIx2 : Option Val → R Val | some y => .ok y | none => .stuck
def oIx (k : Int) : Option (Bool × List Val) → R Val | some (_, xs) => oIx2 (atI xs k) | none => .stuck
theorem l_ix {k : Int} : ixV st (.loc n) (.int k) = oIx k (seqOf st (.loc n)) := by unfold ixV oIx oIx2; rfl
theorem l_ixl {k : Int} : ixV st (.lst xs) (.int k) = oIx2 (atI xs k) := by unfold ixV oIx2; rfl
theorem l_ixt {k : Int} : ixV st (.tup xs) (.int k) = oIx2 (atI xs k) := by unfold ixV oIx2; rfl
theorem oIx_ {k : Int} {b : Bool} : oIx k (some (b, xs)) = oIx2 (atI xs k) := rfl
theorem oIx2_ {v : Val} : oIx2 (some v) = .ok v := rfl
theorem at_0 {α : Type} {x : α} {r : List α} : atI (x :: r) 0 = some x := by
  have := atI_n (xs := x :: r) (i := 0) rfl; exact this
theorem at_1 {α : Type} {x y : α} {r : List α} : atI (x :: y :: r) 1 = some y := by
  have := atI_n (xs := x :: y :: r) (i := 1) rfl; exact this
theorem at_2 {α : Type} {x y z : α} {r : List α} : atI (x :: y :: z :: r) 2 = some z := by
  have := atI_n (xs := x :: y :: z :: r) (i := 2) rfl; exact this
theorem at_3 {α : Type} {x y z u : α} {r : List α} : atI (x :: y :: z :: u :: r) 3 = some u := by
  have := atI_n (xs := x :: y :: z :: u :: r) (i := 3) rfl; exact this
/-! cells made at the end -/
variable {a b c d e : Cell} {r : Store}
theorem g_0 : (st ++ a :: r)[st.length]? = some a := by simp
theorem g_1 : (st ++ a :: b :: r)[st.length + 1]? = some b := by rw [List.getElem?_append_right (by omega)]; simp
theorem g_2 : (st ++ a :: b :: c :: r)[st.length + 2]? = some c := by rw [List.getElem?_append_right (by omega)]; simp
theorem g_3 : (st ++ a :: b :: c :: d :: r)[st.length + 3]? = some d := by rw [List.getElem?_append_right (by omega)]; simp
theorem s_0 {x : Cell} : (st ++ a :: r).set st.length x = st ++ x :: r := by simp
theorem s_1 {x : Cell} : (st ++ a :: b :: r).set (st.length + 1) x = st ++ a :: x :: r := by rw [List.set_append_right _ _ (by omega)]; simp
theorem s_2 {x : Cell} : (st ++ a :: b :: c :: r).set (st.length + 2) x = st ++ a :: b :: x :: r := by rw [List.set_append_right _ _ (by omega)]; simp
theorem s_3 {x : Cell} : (st ++ a :: b :: c :: d :: r).set (st.length + 3) x = st ++ a :: b :: c :: x :: r := by rw [List.set_append_right _ _ (by omega)]; simp
theorem g_old {m : Nat} {x : Cell} (h : st[m]? = some x) : (st ++ r)[m]? = some x := by
  rw [List.getElem?_append_left (List.getElem?_eq_some_iff.mp h).1]; exact h
theorem s_old {m : Nat} {x y : Cell} (h : st[m]? = some x) : (st ++ r).set m y = st.set m y ++ r := by
  rw [List.set_append_left _ _ (List.getElem?_eq_some_iff.mp h).1]
theorem g_set {m : Nat} {x y : Cell} (h : st[m]? = some x) : (st.set m y)[m]? = some y := List.getElem?_set_self (List.getElem?_eq_some_iff.mp h).1
end
/-! ranges -/
section
variable {st : Store}
theorem rng1 {n : Nat} (h : n ≤ 1000000) : rngV [.int (n : Int)] = .ok ((List.range n).map fun (k : Nat) => Val.int k) := by
  unfold rngV rngOk; dsimp only; rw [if_pos (by simp; omega), Int.toNat_natCast, rangeL_0]
theorem rng1i {i : Int} (h0 : 0 ≤ i) (h : i ≤ 1000000) : rngV [.int i] = .ok ((List.range i.toNat).map fun (k : Nat) => Val.int k) := by
  unfold rngV rngOk; dsimp only; rw [if_pos (by simp; omega), rangeL_0]
theorem rng2 {i j : Int} (h0 : -1000000 ≤ i) (h1 : i ≤ 1000000) (h2 : -1000000 ≤ j) (h3 : j ≤ 1000000) : rngV [.int i, .int j] = .ok ((List.range (j - i).toNat).map fun (k : Nat) => Val.int (i + (k : Nat))) := by
  unfold rngV rngOk; dsimp only; rw [if_pos (by simp; omega)]; rfl
/-! loops -/
theorem foldO_fold {α β : Type} {f : β → α → β} : ∀ (xs : List α) (b : β), foldO (fun b x => Out.go (f b x)) b xs = .go (xs.foldl f b)
  | [], b => rfl
  | x :: xs, b => by simp only [foldO, List.foldl_cons, foldO_fold xs]
theorem foldO_find {α : Type} {p : α → Bool} {v : α → Val} {st : Store} : ∀ (xs : List α), foldO (fun (_ : Unit) x => if p x = true then Out.ret (v x) st else .go ()) () xs = match xs.find? p with | some x => .ret (v x) st | none => .go ()
  | [] => rfl
  | x :: xs => by
    cases h : p x with
    | true => simp only [foldO, h, if_true, List.find?_cons]
    | false => simp only [foldO, h, List.find?_cons, Bool.false_eq_true, if_false]; exact foldO_find xs
theorem foldO_false {α : Type} {p : α → Bool} {st : Store} : ∀ (xs : List α), foldO (fun (_ : Unit) x => if p x = true then Out.ret (.bl false) st else .go ()) () xs = if xs.any p = true then .ret (.bl false) st else .go ()
  | [] => rfl
  | x :: xs => by
    cases h : p x with
    | true => simp [foldO, h]
    | false => simp [foldO, h, foldO_false xs]
/-- a loop by what stands ahead of each turn -/
theorem forL_idx {i : Nat} {body : Env → Store → RS} (E : Nat → Option Val → Env) (Sg : Nat → Store) (hset : ∀ k o v, (E k o).set i (some v) = E k (some v)) (xs : List Val) (h : ∀ k v, xs[k]? = some v → body (E k (some v)) (Sg k) = .next (E (k + 1) (some v)) (Sg (k + 1))) (o : Option Val) :
    ∃ o', forL i body xs (E 0 o) (Sg 0) = .next (E xs.length o') (Sg xs.length) := by
  have key : ∀ (ys : List Val) (j : Nat) (o : Option Val), ys = xs.drop j → j ≤ xs.length → ∃ o', forL i body ys (E j o) (Sg j) = .next (E xs.length o') (Sg xs.length) := by
    intro ys
    induction ys with
    | nil => intro j o e hj
             have : xs.length ≤ j := by have := congrArg List.length e; simp at this; omega
             have : j = xs.length := by omega
             subst this; exact ⟨o, rfl⟩
    | cons y ys ih =>
      intro j o e hj
      obtain ⟨h1, h2⟩ := drop_cons e.symm
      obtain ⟨h3, _⟩ := List.getElem?_eq_some_iff.mp h1
      obtain ⟨o', h4⟩ := ih (j + 1) (some y) h2 h3
      exact ⟨o', by simp only [forL, hset, h j y h1]; exact h4⟩
  exact key xs 0 o rfl (Nat.zero_le _)
theorem forL_range {i : Nat} {body : Env → Store → RS} (E : Nat → Option Val → Env) (Sg : Nat → Store) (n : Nat) (hset : ∀ k o v, (E k o).set i (some v) = E k (some v)) (h : ∀ k, k < n → body (E k (some (.int k))) (Sg k) = .next (E (k + 1) (some (.int k))) (Sg (k + 1))) (o : Option Val) :
    ∃ o', forL i body ((List.range n).map fun (k : Nat) => Val.int k) (E 0 o) (Sg 0) = .next (E n o') (Sg n) := by
  obtain ⟨o', h'⟩ := forL_idx (body := body) E Sg hset ((List.range n).map fun (k : Nat) => Val.int k) (fun k v hk => by
    rw [List.getElem?_map] at hk
    have hl : k < n := by
      cases Nat.lt_or_ge k n with
      | inl q => exact q
      | inr q => rw [List.getElem?_eq_none (by simpa using q)] at hk; cases hk
    rw [List.getElem?_range hl] at hk
    cases hk
    exact h k hl) o
  exact ⟨o', by simpa using h'⟩
/-- a loop that changes nothing -/
theorem forL_same {i : Nat} {body : Env → Store → RS} (E : Option Val → Env) (st : Store) (hset : ∀ o v, (E o).set i (some v) = E (some v)) (xs : List Val) (h : ∀ v ∈ xs, body (E (some v)) st = .next (E (some v)) st) (o : Option Val) : ∃ o', forL i body xs (E o) st = .next (E o') st := by
  exact forL_idx (body := body) (fun _ => E) (fun _ => st) (fun _ => hset) xs (fun k v hk => h v (List.mem_of_getElem? hk)) o
theorem foldO_any {α : Type} {p : α → Bool} {v : Val} {st : Store} : ∀ (xs : List α), foldO (fun (_ : Unit) x => if p x = true then Out.ret v st else .go ()) () xs = if xs.any p = true then .ret v st else .go ()
  | [] => rfl
  | x :: xs => by
    cases h : p x with
    | true => simp [foldO, h]
    | false => simp [foldO, h, foldO_any xs]
/-- a while that ends after i turns -/
theorem whileL_run {c : Env → Store → R (Bool × Store)} {body : Env → Store → RS} (E : Nat → Env) (Sg : Nat → Store) (i : Nat) (hc : ∀ j, j < i → c (E j) (Sg j) = .ok (true, Sg j)) (hb : ∀ j, j < i → body (E j) (Sg j) = .next (E (j + 1)) (Sg (j + 1))) (he : c (E i) (Sg i) = .ok (false, Sg i)) (fuel : Nat) (hf : i < fuel) :
    whileL c body fuel (E 0) (Sg 0) = .next (E i) (Sg i) := by
  have key : ∀ d j fuel, i = j + d → d < fuel → whileL c body fuel (E j) (Sg j) = .next (E i) (Sg i) := by
    intro d
    induction d with
    | zero =>
      intro j fuel e hf
      cases fuel with
      | zero => omega
      | succ fuel => subst e; unfold whileL; rw [he]; rfl
    | succ d ih =>
      intro j fuel e hf
      cases fuel with
      | zero => omega
      | succ fuel =>
        unfold whileL
        rw [hc j (by omega)]
        simp only [R.st_ok, if_true, hb j (by omega)]
        exact ih (j + 1) fuel (by omega) (by omega)
  exact key i 0 fuel (by omega) hf
/-- an invariant -/
theorem forL_inv {i : Nat} {body : Env → Store → RS} (I : List Val → Env → Store → Prop) (h : ∀ v vs env st, I (v :: vs) env st → ∃ env' st', body (env.set i (some v)) st = .next env' st' ∧ I vs env' st') :
    ∀ (xs : List Val) (env : Env) (st : Store), I xs env st → ∃ env' st', forL i body xs env st = .next env' st' ∧ I [] env' st'
  | [], env, st, p => ⟨env, st, rfl, p⟩
  | v :: vs, env, st, p => by
    obtain ⟨env', st', h1, h2⟩ := h v vs env st p
    obtain ⟨env2, st2, h3, h4⟩ := forL_inv I h vs env' st' h2
    exact ⟨env2, st2, by simp only [forL, h1]; exact h3, h4⟩
/-- .. that may return -/
theorem forL_invR {i : Nat} {body : Env → Store → RS} (I : List Val → Env → Store → Prop) (Rt : Val → Store → Prop) (h : ∀ v vs env st, I (v :: vs) env st → (∃ env' st', (body (env.set i (some v)) st = .next env' st' ∨ body (env.set i (some v)) st = .cnt env' st') ∧ I vs env' st') ∨ ∃ w st', body (env.set i (some v)) st = .ret w st' ∧ Rt w st') :
    ∀ (xs : List Val) (env : Env) (st : Store), I xs env st → (∃ env' st', forL i body xs env st = .next env' st' ∧ I [] env' st') ∨ ∃ w st', forL i body xs env st = .ret w st' ∧ Rt w st'
  | [], env, st, p => .inl ⟨env, st, rfl, p⟩
  | v :: vs, env, st, p => by
    rcases h v vs env st p with ⟨env', st', h1, h2⟩ | ⟨w, st', h1, h2⟩
    · rcases forL_invR I Rt h vs env' st' h2 with ⟨env2, st2, h3, h4⟩ | ⟨w, st2, h3, h4⟩
      · exact .inl ⟨env2, st2, by rcases h1 with h1 | h1 <;> (simp only [forL, h1]; exact h3), h4⟩
      · exact .inr ⟨w, st2, by rcases h1 with h1 | h1 <;> (simp only [forL, h1]; exact h3), h4⟩
    · exact .inr ⟨w, st', by simp only [forL, h1], h2⟩
/-- a comprehension whose parts move the store -/
theorem compL_inv {c : Env → Store → R (Bool × Store)} {e : Env → Store → RV} {x : Nat} {env : Env} (I : List Val → Store → Prop) (P : Val → Prop) (h : ∀ v vs st, I (v :: vs) st → ∃ y st', c (env.set x (some v)) st = .ok (true, st) ∧ e (env.set x (some v)) st = .ok (y, st') ∧ P y ∧ I vs st') :
    ∀ (xs : List Val) (st : Store), I xs st → ∃ ys st', compL c e x xs env st = .ok (ys, st') ∧ ys.length = xs.length ∧ (∀ y ∈ ys, P y) ∧ I [] st'
  | [], st, p => ⟨[], st, rfl, rfl, (by intro y h; cases h), p⟩
  | v :: vs, st, p => by
    obtain ⟨y, st', h1, h2, h3, h4⟩ := h v vs st p
    obtain ⟨ys, st2, k1, k2, k3, k4⟩ := compL_inv I P h vs st' h4
    refine ⟨y :: ys, st2, ?_, by simp [k2], fun z hz => ?_, k4⟩
    · simp only [compL, h1, R.bind_ok, if_true, h2, k1]
    · rcases List.mem_cons.mp hz with rfl | hz
      · exact h3
      · exact k3 z hz
/-- .. that only read -/
theorem compL_map {α : Type} {c : Env → Store → R (Bool × Store)} {e : Env → Store → RV} {x : Nat} {env : Env} {st : Store} (g : α → Val) (p : α → Bool) (f : α → Val) : ∀ (xs : List α), (∀ a ∈ xs, c (env.set x (some (g a))) st = .ok (p a, st)) → (∀ a ∈ xs, p a = true → e (env.set x (some (g a))) st = .ok (f a, st)) →
    compL c e x (xs.map g) env st = .ok ((xs.filter p).map f, st)
  | [], _, _ => rfl
  | a :: xs, hc, he => by
    have ih := compL_map g p f xs (fun b m => hc b (List.mem_cons_of_mem _ m)) (fun b m => he b (List.mem_cons_of_mem _ m))
    have h1 := hc a (List.mem_cons_self ..)
    simp only [List.map_cons, compL, h1, R.bind_ok]
    cases hp : p a with
    | true =>
      have h2 := he a (List.mem_cons_self ..) hp
      simp only [if_true, h2, R.bind_ok, ih, List.filter_cons, hp, List.map_cons]
    | false => simp only [Bool.false_eq_true, if_false, ih, List.filter_cons, hp]
theorem compL_map0 {α : Type} {c : Env → Store → R (Bool × Store)} {e : Env → Store → RV} {x : Nat} {env : Env} {st : Store} (g : α → Val) (f : α → Val) (xs : List α) (hc : ∀ a ∈ xs, c (env.set x (some (g a))) st = .ok (true, st)) (he : ∀ a ∈ xs, e (env.set x (some (g a))) st = .ok (f a, st)) :
    compL c e x (xs.map g) env st = .ok (xs.map f, st) := by
  have := compL_map g (fun _ => true) f xs hc fun a m _ => he a m
  rw [List.filter_eq_self.mpr (fun _ _ => rfl)] at this
  exact this
/-! numbers' rows -/
def cell (ns : List Int) (k : Nat) : Int := ns.getD k 0
theorem getD_get {ns : List Int} {k : Nat} (h : k < ns.length) : (vInts ns)[k]? = some (.int (ns.getD k 0)) := by
  unfold vInts
  rw [List.getElem?_map, List.getElem?_eq_getElem h, List.getD_eq_getElem?_getD, List.getElem?_eq_getElem h]; rfl
theorem ix_scr {ns : List Int} {k : Nat} (h : k < ns.length) : ixV st (.scr (vInts ns)) (.int k) = .ok (.int (cell ns k)) := by
  unfold ixV; simp only [seqOf_scr, atI_n (getD_get h)]; rfl
theorem ix_lst {ns : List Int} {k : Nat} (h : k < ns.length) : ixV st (.lst (vInts ns)) (.int k) = .ok (.int (cell ns k)) := by
  unfold ixV; simp only [seqOf_lst, atI_n (getD_get h)]; rfl
theorem ix_tup {ns : List Int} {k : Nat} (h : k < ns.length) : ixV st (.tup (vInts ns)) (.int k) = .ok (.int (cell ns k)) := by
  unfold ixV; simp only [seqOf_tup, atI_n (getD_get h)]; rfl
theorem ixL {xs : List Val} {k : Nat} {v : Val} (h : xs[k]? = some v) : ixV st (.lst xs) (.int k) = .ok v := by
  unfold ixV; simp only [seqOf_lst, atI_n h]
theorem ixT {xs : List Val} {k : Nat} {v : Val} (h : xs[k]? = some v) : ixV st (.tup xs) (.int k) = .ok v := by
  unfold ixV; simp only [seqOf_tup, atI_n h]
theorem at_ints {ns : List Int} {k : Nat} (h : k < ns.length) : atI (vInts ns) (k : Int) = some (.int (cell ns k)) := atI_n (getD_get h)
theorem cell_0 {ns : List Int} {k : Nat} (h : ¬ k < ns.length) : cell ns k = 0 := by
  unfold cell; rw [List.getD_eq_getElem?_getD, List.getElem?_eq_none (by omega)]; rfl
theorem cell_mem {ns : List Int} {k : Nat} (h : k < ns.length) : cell ns k ∈ ns := by
  unfold cell; rw [List.getD_eq_getElem?_getD, List.getElem?_eq_getElem h]; exact List.getElem_mem h
theorem bd_cell {ns : List Int} (h : ∀ z ∈ ns, bd bits z) (k : Nat) : bd bits (cell ns k) := by
  by_cases hk : k < ns.length
  · exact h _ (cell_mem hk)
  · rw [cell_0 hk]; exact bd_0
theorem bd_bits {z : Int} (h : Builtin.Int.intBits z ≤ 1048576) : bd bits z := by
  unfold Builtin.Int.intBits at h
  by_cases h0 : z = 0
  · subst h0; exact bd_0
  · rw [if_neg (by simpa using h0)] at h
    unfold bd bits
    exact (Nat.log2_lt (by omega)).mp (by omega)
theorem flat_ints : ∀ ns : List Int, (vInts ns).all flat = true
  | [] => rfl
  | n :: ns => by show (true && (vInts ns).all flat) = true; rw [flat_ints ns]; rfl
theorem any_ints (z : Int) : ∀ ns : List Int, ((vInts ns).any fun y => eqF y (.int z)) = decide (z ∈ ns)
  | [] => rfl
  | n :: ns => by
    show (eqF (.int n) (.int z) || (vInts ns).any fun y => eqF y (.int z)) = _
    rw [any_ints z ns]
    have : eqF (.int n) (.int z) = decide (n = z) := rfl
    rw [this]
    by_cases h : n = z
    · subst h; simp
    · have : ¬ z = n := fun e => h e.symm
      simp [h, this]
theorem in_of {v : Val} {k : Bool} {ns : List Int} (z : Int) {st : Store} (h : seqOf st v = some (k, vInts ns)) : cmpV .in_ (.int z) v st = .ok (decide (z ∈ ns)) := by
  unfold cmpV; dsimp only; rw [h]; dsimp only
  rw [flat_ints, any_ints]; rfl
theorem notin_of {v : Val} {k : Bool} {ns : List Int} (z : Int) {st : Store} (h : seqOf st v = some (k, vInts ns)) : cmpV .notin (.int z) v st = .ok (!decide (z ∈ ns)) := by
  unfold cmpV; dsimp only; rw [h]; dsimp only
  rw [flat_ints, any_ints]; rfl
theorem in_ints (z : Int) (ns : List Int) (st : Store) : cmpV .in_ (.int z) (.lst (vInts ns)) st = .ok (decide (z ∈ ns)) := in_of z rfl
theorem notin_ints (z : Int) (ns : List Int) (st : Store) : cmpV .notin (.int z) (.lst (vInts ns)) st = .ok (!decide (z ∈ ns)) := notin_of z rfl
/-- a row of numbers, a list or a tuple -/
def IsSeq (v : Val) (ns : List Int) : Prop := v = .lst (vInts ns) ∨ v = .tup (vInts ns)
variable {v w : Val} {a b : List Int}
theorem IsSeq.lst : IsSeq (.lst (vInts a)) a := .inl rfl
theorem IsSeq.tup : IsSeq (.tup (vInts a)) a := .inr rfl
theorem IsSeq.len (h : IsSeq v a) : f1V .len v st = .ok (.int a.length) := by rcases h with rfl | rfl <;> simp only [len_lst, len_tup, vInts_len]
theorem IsSeq.ix (h : IsSeq v a) {k : Nat} (hk : k < a.length) : ixV st v (.int k) = .ok (.int (cell a k)) := by rcases h with rfl | rfl <;> simp only [ix_lst hk, ix_tup hk]
theorem IsSeq.cl (h : IsSeq v a) (n : Nat) : closed n v = true := by rcases h with rfl | rfl <;> exact closed_vInts n a
theorem IsSeq.seq (h : IsSeq v a) : ∃ k, seqOf st v = some (k, vInts a) := by rcases h with rfl | rfl; exact ⟨_, rfl⟩; exact ⟨_, rfl⟩
theorem IsSeq.it (h : IsSeq v a) : kI1 (v, st) = .ok (vInts a, st) := by rcases h with rfl | rfl <;> rfl
end
end MP
namespace LawMP
open PySem L2 MP
def G0 : Str → Option Val := fun _ => none
theorem hc : (["BadRoute"] : List Str).contains "BadHouse" = false ∧ (["BadRoute"] : List Str).contains "BadRoute" = true ∧ (["BadRoute"] : List Str).contains "NoDoor" = false ∧ (["BadRoute"] : List Str).contains "TooMany" = false ∧ (["BadRoute"] : List Str).contains "TooTight" = false ∧ (["NoDoor"] : List Str).contains "BadHouse" = false ∧ (["NoDoor"] : List Str).contains "BadRoute" = false ∧ (["NoDoor"] : List Str).contains "NoDoor" = true ∧ (["NoDoor"] : List Str).contains "TooMany" = false ∧ (["NoDoor"] : List Str).contains "TooTight" = false ∧ (["TooMany", "NoDoor", "BadRoute", "TooTight", "BadHouse"] : List Str).contains "BadHouse" = true ∧ (["TooMany", "NoDoor", "BadRoute", "TooTight", "BadHouse"] : List Str).contains "BadRoute" = true ∧ (["TooMany", "NoDoor", "BadRoute", "TooTight", "BadHouse"] : List Str).contains "NoDoor" = true ∧ (["TooMany", "NoDoor", "BadRoute", "TooTight", "BadHouse"] : List Str).contains "TooMany" = true ∧ (["TooMany", "NoDoor", "BadRoute", "TooTight", "BadHouse"] : List Str).contains "TooTight" = true ∧ (["TooMany"] : List Str).contains "BadHouse" = false ∧ (["TooMany"] : List Str).contains "BadRoute" = false ∧ (["TooMany"] : List Str).contains "NoDoor" = false ∧ (["TooMany"] : List Str).contains "TooMany" = true ∧ (["TooMany"] : List Str).contains "TooTight" = false ∧ (["TooTight"] : List Str).contains "BadHouse" = false ∧ (["TooTight"] : List Str).contains "BadRoute" = false ∧ (["TooTight"] : List Str).contains "NoDoor" = false ∧ (["TooTight"] : List Str).contains "TooMany" = false ∧ (["TooTight"] : List Str).contains "TooTight" = true := by decide +kernel
theorem f_House_prime {x0 x1 x2 x3 x4 : Val} {st : Store} : vFld "House" "prime" (.obj "House" ["prime", "size", "rooms", "doors", "last"] [x0, x1, x2, x3, x4]) st = .ok x0 := rfl
theorem fc_House_prime {x0 x1 x2 x3 x4 : Val} : oFld "House" "prime" (some (.obj "House" ["prime", "size", "rooms", "doors", "last"] [x0, x1, x2, x3, x4])) = .ok x0 := rfl
theorem fs_House_prime {n : Nat} { y : Val} {st : Store} : oStf "House" "prime" n y st (some (.obj "House" [] [])) = .ok (st.set n (.obj "House" ["prime"] [y])) := rfl
theorem fu_House_prime {n : Nat} {x0 x1 x2 x3 x4 y : Val} {st : Store} : oStf "House" "prime" n y st (some (.obj "House" ["prime", "size", "rooms", "doors", "last"] [x0, x1, x2, x3, x4])) = .ok (st.set n (.obj "House" ["prime", "size", "rooms", "doors", "last"] [y, x1, x2, x3, x4])) := rfl
theorem f_House_size {x0 x1 x2 x3 x4 : Val} {st : Store} : vFld "House" "size" (.obj "House" ["prime", "size", "rooms", "doors", "last"] [x0, x1, x2, x3, x4]) st = .ok x1 := rfl
theorem fc_House_size {x0 x1 x2 x3 x4 : Val} : oFld "House" "size" (some (.obj "House" ["prime", "size", "rooms", "doors", "last"] [x0, x1, x2, x3, x4])) = .ok x1 := rfl
theorem fs_House_size {n : Nat} {x0 y : Val} {st : Store} : oStf "House" "size" n y st (some (.obj "House" ["prime"] [x0])) = .ok (st.set n (.obj "House" ["prime", "size"] [x0, y])) := rfl
theorem fu_House_size {n : Nat} {x0 x1 x2 x3 x4 y : Val} {st : Store} : oStf "House" "size" n y st (some (.obj "House" ["prime", "size", "rooms", "doors", "last"] [x0, x1, x2, x3, x4])) = .ok (st.set n (.obj "House" ["prime", "size", "rooms", "doors", "last"] [x0, y, x2, x3, x4])) := rfl
theorem f_House_rooms {x0 x1 x2 x3 x4 : Val} {st : Store} : vFld "House" "rooms" (.obj "House" ["prime", "size", "rooms", "doors", "last"] [x0, x1, x2, x3, x4]) st = .ok x2 := rfl
theorem fc_House_rooms {x0 x1 x2 x3 x4 : Val} : oFld "House" "rooms" (some (.obj "House" ["prime", "size", "rooms", "doors", "last"] [x0, x1, x2, x3, x4])) = .ok x2 := rfl
theorem fs_House_rooms {n : Nat} {x0 x1 y : Val} {st : Store} : oStf "House" "rooms" n y st (some (.obj "House" ["prime", "size"] [x0, x1])) = .ok (st.set n (.obj "House" ["prime", "size", "rooms"] [x0, x1, y])) := rfl
theorem fu_House_rooms {n : Nat} {x0 x1 x2 x3 x4 y : Val} {st : Store} : oStf "House" "rooms" n y st (some (.obj "House" ["prime", "size", "rooms", "doors", "last"] [x0, x1, x2, x3, x4])) = .ok (st.set n (.obj "House" ["prime", "size", "rooms", "doors", "last"] [x0, x1, y, x3, x4])) := rfl
theorem f_House_doors {x0 x1 x2 x3 x4 : Val} {st : Store} : vFld "House" "doors" (.obj "House" ["prime", "size", "rooms", "doors", "last"] [x0, x1, x2, x3, x4]) st = .ok x3 := rfl
theorem fc_House_doors {x0 x1 x2 x3 x4 : Val} : oFld "House" "doors" (some (.obj "House" ["prime", "size", "rooms", "doors", "last"] [x0, x1, x2, x3, x4])) = .ok x3 := rfl
theorem fs_House_doors {n : Nat} {x0 x1 x2 y : Val} {st : Store} : oStf "House" "doors" n y st (some (.obj "House" ["prime", "size", "rooms"] [x0, x1, x2])) = .ok (st.set n (.obj "House" ["prime", "size", "rooms", "doors"] [x0, x1, x2, y])) := rfl
theorem fu_House_doors {n : Nat} {x0 x1 x2 x3 x4 y : Val} {st : Store} : oStf "House" "doors" n y st (some (.obj "House" ["prime", "size", "rooms", "doors", "last"] [x0, x1, x2, x3, x4])) = .ok (st.set n (.obj "House" ["prime", "size", "rooms", "doors", "last"] [x0, x1, x2, y, x4])) := rfl
theorem f_House_last {x0 x1 x2 x3 x4 : Val} {st : Store} : vFld "House" "last" (.obj "House" ["prime", "size", "rooms", "doors", "last"] [x0, x1, x2, x3, x4]) st = .ok x4 := rfl
theorem fc_House_last {x0 x1 x2 x3 x4 : Val} : oFld "House" "last" (some (.obj "House" ["prime", "size", "rooms", "doors", "last"] [x0, x1, x2, x3, x4])) = .ok x4 := rfl
theorem fs_House_last {n : Nat} {x0 x1 x2 x3 y : Val} {st : Store} : oStf "House" "last" n y st (some (.obj "House" ["prime", "size", "rooms", "doors"] [x0, x1, x2, x3])) = .ok (st.set n (.obj "House" ["prime", "size", "rooms", "doors", "last"] [x0, x1, x2, x3, y])) := rfl
theorem fu_House_last {n : Nat} {x0 x1 x2 x3 x4 y : Val} {st : Store} : oStf "House" "last" n y st (some (.obj "House" ["prime", "size", "rooms", "doors", "last"] [x0, x1, x2, x3, x4])) = .ok (st.set n (.obj "House" ["prime", "size", "rooms", "doors", "last"] [x0, x1, x2, x3, y])) := rfl
def b_law_source : Ss := (.cons (.asg 2 (.int 0)) (.cons (.ite (.cmp .lt (.var 1) (.f1 .len (.var 0))) (.cons (.asg 2 (.f1 .abs (.sub (.var 0) (.var 1)))) .nil) .nil) (.cons (.ret (.lst true (.cons (.var 2) (.cons (.bin false .mod (.f1 .int (.bin false .add (.bin false .add (.bin false .mul (.var 2) (.int 48271)) (.int 1013904223)) (.bin false .mul (.var 1) (.int 69621)))) (.int 2147483647)) .nil)))) .nil)))
noncomputable def T_law_source : Tab := lk []
noncomputable def m_law_source : Mir := mkM T_law_source G0 2 3 b_law_source
def b_law_draw : Ss := (.cons (.ite (.cmp .ge (.sub (.var 0) (.int 0)) (.bin false .pow (.int 10) (.int 6))) (.cons (.asg 2 (.bin false .mod (.f1 .int (.sub (.var 0) (.int 0))) (.var 1))) (.cons (.sto (.var 0) (.int 0) (.bin false .fdiv (.sub (.var 0) (.int 0)) (.var 1))) (.cons (.ret (.var 2)) .nil))) .nil) (.cons (.sto (.var 0) (.int 1) (.bin false .mod (.f1 .int (.bin false .add (.bin false .add (.bin false .mul (.sub (.var 0) (.int 1)) (.int 48271)) (.sub (.var 0) (.int 0))) (.int 1))) (.int 2147483647))) (.cons (.ret (.bin false .mod (.f1 .int (.bin false .fdiv (.sub (.var 0) (.int 1)) (.int 11))) (.var 1))) .nil)))
noncomputable def T_law_draw : Tab := lk []
noncomputable def m_law_draw : Mir := mkM T_law_draw G0 2 3 b_law_draw
def b_law_route_1 : E := (.call "_law_draw" (.cons (.var 0) (.cons (.sub (.lst false (.cons (.int 3) (.cons (.int 100) .nil))) (.call "_law_draw" (.cons (.var 0) (.cons (.int 2) .nil)))) .nil)))
def b_law_route_2 : Ss := (.cons (.asg 3 (.call "_law_draw" (.cons (.var 0) (.cons (.var 1) .nil)))) (.cons (.sto (.var 2) (.var 3) (.sub (.lst false (.cons (.neg (.int 1)) (.cons (.int 100) (.cons (.bin false .pow (.int 10) (.int 15)) (.cons (.neg (.bin false .pow (.int 10) (.int 15))) (.cons (.bl true) .nil)))))) (.call "_law_draw" (.cons (.var 0) (.cons (.int 5) .nil))))) .nil))
def b_law_route : Ss := (.cons (.asg 1 (.call "_law_draw" (.cons (.var 0) (.cons (.int 9) .nil)))) (.cons (.ite (.cmp .eq (.call "_law_draw" (.cons (.var 0) (.cons (.int 10) .nil))) (.int 0)) (.cons (.asg 1 (.int 61)) .nil) .nil) (.cons (.asg 2 (.comp true 4 (.rng (.cons (.var 1) .nil)) .no b_law_route_1)) (.cons (.ite (.bo true (.cons (.cmp .gt (.var 1) (.int 0)) (.cons (.cmp .eq (.call "_law_draw" (.cons (.var 0) (.cons (.int 3) .nil))) (.int 0)) .nil))) b_law_route_2 .nil) (.cons (.ret (.frz (.var 2))) .nil)))))
noncomputable def T_law_route : Tab := lk [("_law_draw", m_law_draw)]
noncomputable def m_law_route : Mir := mkM T_law_route G0 1 5 b_law_route
theorem t_law_route_law_draw : T_law_route "_law_draw" = some m_law_draw := rfl
def b_law_slots_1 : Ss := (.cons (.expr (.app (.var 2) (.var 3))) (.cons (.asg 3 (.bin false .add (.bin false .add (.var 3) (.int 1)) (.call "_law_draw" (.cons (.var 0) (.cons (.int 5) .nil))))) .nil))
def b_law_slots_2 : Ss := (.cons (.asg 7 (.lst false (.cons (.lst false .nil) (.cons (.lst false (.cons (.sub (.var 2) (.var 6)) (.cons (.sub (.var 2) (.var 6)) .nil))) (.cons (.lst false (.cons (.neg (.int 1)) .nil)) (.cons (.lst false (.cons (.int 10000) .nil)) (.cons (.lst false (.cons (.bin false .pow (.int 10) (.int 15)) .nil)) (.cons (.lst false (.cons (.bl true) .nil)) (.cons (.lst false (.cons (.bin false .add (.sub (.var 2) (.var 6)) (.int 1)) (.cons (.sub (.var 2) (.var 6)) .nil))) .nil))))))))) (.cons (.asg 2 (.bin true .add (.bin false .add (.slc false (.var 2) .no (.var 6)) (.sub (.var 7) (.var 5))) (.slc false (.var 2) (.bin false .add (.var 6) (.int 1)) .no))) .nil))
def b_law_slots : Ss := (.cons (.asg 2 (.lst true .nil)) (.cons (.asg 3 (.call "_law_draw" (.cons (.var 0) (.cons (.int 4) .nil)))) (.cons (.forr 4 (.rng (.cons (.var 1) .nil)) b_law_slots_1) (.cons (.asg 5 (.call "_law_draw" (.cons (.var 0) (.cons (.int 24) .nil)))) (.cons (.asg 6 (.call "_law_draw" (.cons (.var 0) (.cons (.mm true (.int 1) (.var 1)) .nil)))) (.cons (.ite (.bo true (.cons (.cmp .lt (.var 5) (.int 7)) (.cons (.cmp .gt (.var 1) (.int 0)) .nil))) b_law_slots_2 .nil) (.cons (.ite (.cmp .eq (.var 5) (.int 7)) (.cons (.asg 2 (.bin true .add (.var 2) (.lst false (.cons (.var 3) .nil)))) .nil) .nil) (.cons (.ret (.frz (.var 2))) .nil))))))))
noncomputable def T_law_slots : Tab := lk [("_law_draw", m_law_draw)]
noncomputable def m_law_slots : Mir := mkM T_law_slots G0 2 8 b_law_slots
theorem t_law_slots_law_draw : T_law_slots "_law_draw" = some m_law_draw := rfl
def b_law_is_integer : Ss := (.cons (.ret (.bo true (.cons (.isi (.var 0) .int) (.cons (.not (.isi (.var 0) .bool)) .nil)))) .nil)
noncomputable def T_law_is_integer : Tab := lk []
noncomputable def m_law_is_integer : Mir := mkM T_law_is_integer G0 1 1 b_law_is_integer
def b_law_rooms_fault_1 : Ss := (.cons (.ite (.bo false (.cons (.not (.call "_law_is_integer" (.cons (.sub (.var 0) (.var 1)) .nil))) (.cons (.cmp .lt (.sub (.var 0) (.var 1)) (.int 0)) (.cons (.cmp .gt (.sub (.var 0) (.var 1)) (.int 99)) .nil)))) (.cons (.ret (.lst false (.cons (.str "route") (.cons (.var 1) .nil)))) .nil) .nil) .nil)
def b_law_rooms_fault : Ss := (.cons (.ite (.cmp .eq (.f1 .len (.var 0)) (.int 0)) (.cons (.ret (.lst false (.cons (.str "route") (.cons (.int 0) .nil)))) .nil) .nil) (.cons (.ite (.cmp .gt (.f1 .len (.var 0)) (.int 60)) (.cons (.ret (.lst false (.cons (.str "many") (.cons (.int 60) .nil)))) .nil) .nil) (.cons (.forr 1 (.rng (.cons (.f1 .len (.var 0)) .nil)) b_law_rooms_fault_1) (.cons (.ret (.lst false .nil)) .nil))))
noncomputable def T_law_rooms_fault : Tab := lk [("_law_is_integer", m_law_is_integer)]
noncomputable def m_law_rooms_fault : Mir := mkM T_law_rooms_fault G0 1 2 b_law_rooms_fault
theorem t_law_rooms_fault_law_is_integer : T_law_rooms_fault "_law_is_integer" = some m_law_is_integer := rfl
def b_law_gap_fault : Ss := (.cons (.ite (.cmp .lt (.var 0) (.var 1)) (.cons (.ret (.lst false (.cons (.str "tight") (.cons (.var 0) .nil)))) .nil) .nil) (.cons (.ite (.cmp .gt (.var 0) (.int 10000)) (.cons (.ret (.lst false (.cons (.str "many") (.cons (.int 10000) .nil)))) .nil) .nil) (.cons (.ret (.lst false .nil)) .nil)))
noncomputable def T_law_gap_fault : Tab := lk []
noncomputable def m_law_gap_fault : Mir := mkM T_law_gap_fault G0 2 2 b_law_gap_fault
def b_law_slots_fault_1 : Ss := (.cons (.ite (.bo false (.cons (.cmp .ge (.var 3) (.f1 .len (.var 1))) (.cons (.not (.call "_law_is_integer" (.cons (.sub (.var 1) (.var 3)) .nil))) (.cons (.cmp .le (.sub (.var 1) (.var 3)) (.var 2)) (.cons (.cmp .gt (.sub (.var 1) (.var 3)) (.int 9999)) .nil))))) (.cons (.ret (.lst false (.cons (.str "route") (.cons (.var 3) .nil)))) .nil) .nil) (.cons (.asg 2 (.sub (.var 1) (.var 3))) .nil))
def b_law_slots_fault : Ss := (.cons (.asg 2 (.neg (.int 1))) (.cons (.forr 3 (.rng (.cons (.f1 .len (.var 0)) .nil)) b_law_slots_fault_1) (.cons (.ite (.cmp .gt (.f1 .len (.var 1)) (.f1 .len (.var 0))) (.cons (.ret (.lst false (.cons (.str "route") (.cons (.f1 .len (.var 0)) .nil)))) .nil) .nil) (.cons (.ret (.lst false .nil)) .nil))))
noncomputable def T_law_slots_fault : Tab := lk [("_law_is_integer", m_law_is_integer)]
noncomputable def m_law_slots_fault : Mir := mkM T_law_slots_fault G0 2 4 b_law_slots_fault
theorem t_law_slots_fault_law_is_integer : T_law_slots_fault "_law_is_integer" = some m_law_is_integer := rfl
def b_law_first_1 : Ss := (.cons (.ite (.cmp .gt (.f1 .len (.var 1)) (.int 0)) (.cons (.ret (.var 1)) .nil) .nil) .nil)
def b_law_first : Ss := (.cons (.forr 1 (.var 0) b_law_first_1) (.cons (.ret (.lst false .nil)) .nil))
noncomputable def T_law_first : Tab := lk []
noncomputable def m_law_first : Mir := mkM T_law_first G0 1 2 b_law_first
def b_law_due_1 : E := (.cmp .eq (.var 7) (.var 6))
def b_law_due_2 : E := (.f1 .len (.comp false 7 (.var 0) b_law_due_1 (.var 7)))
def b_law_due : Ss := (.cons (.asg 4 (.call "_law_rooms_fault" (.cons (.var 0) .nil))) (.cons (.ite (.bo false (.cons (.cmp .gt (.f1 .len (.var 4)) (.int 0)) (.cons (.cmp .eq (.var 3) (.int 0)) .nil))) (.cons (.ret (.var 4)) .nil) .nil) (.cons (.asg 5 (.f1 .max (.comp false 6 (.var 0) .no b_law_due_2))) (.cons (.ite (.cmp .eq (.var 3) (.int 1)) (.cons (.ret (.call "_law_gap_fault" (.cons (.var 2) (.cons (.var 5) .nil)))) .nil) .nil) (.cons (.ite (.cmp .eq (.var 3) (.int 2)) (.cons (.ret (.call "_law_gap_fault" (.cons (.var 2) (.cons (.int 1) .nil)))) .nil) .nil) (.cons (.ite (.cmp .eq (.var 3) (.int 3)) (.cons (.ret (.call "_law_slots_fault" (.cons (.var 0) (.cons (.var 1) .nil)))) .nil) .nil) (.cons (.ret (.call "_law_first" (.cons (.lst false (.cons (.call "_law_slots_fault" (.cons (.var 0) (.cons (.var 1) .nil))) (.cons (.call "_law_gap_fault" (.cons (.var 2) (.cons (.int 1) .nil))) .nil))) .nil))) .nil)))))))
noncomputable def T_law_due : Tab := lk [("_law_rooms_fault", m_law_rooms_fault), ("_law_gap_fault", m_law_gap_fault), ("_law_slots_fault", m_law_slots_fault), ("_law_first", m_law_first)]
noncomputable def m_law_due : Mir := mkM T_law_due G0 4 8 b_law_due
theorem t_law_due_law_rooms_fault : T_law_due "_law_rooms_fault" = some m_law_rooms_fault := rfl
theorem t_law_due_law_gap_fault : T_law_due "_law_gap_fault" = some m_law_gap_fault := rfl
theorem t_law_due_law_slots_fault : T_law_due "_law_slots_fault" = some m_law_slots_fault := rfl
theorem t_law_due_law_first : T_law_due "_law_first" = some m_law_first := rfl
def b_is_whole : Ss := (.cons (.ret (.bo true (.cons (.isi (.var 0) .int) (.cons (.not (.isi (.var 0) .bool)) .nil)))) .nil)
noncomputable def T_is_whole : Tab := lk []
noncomputable def m_is_whole : Mir := mkM T_is_whole G0 1 1 b_is_whole
def b_is_between : Ss := (.cons (.ret (.bo true (.cons (.call "is_whole" (.cons (.var 0) .nil)) (.cons (.chain .le .le (.var 1) (.var 0) (.var 2)) .nil)))) .nil)
noncomputable def T_is_between : Tab := lk [("is_whole", m_is_whole)]
noncomputable def m_is_between : Mir := mkM T_is_between G0 3 3 b_is_between
theorem t_is_between_is_whole : T_is_between "is_whole" = some m_is_whole := rfl
def b_check_route_1 : Ss := (.cons (.ite (.not (.call "is_between" (.cons (.sub (.var 0) (.var 1)) (.cons (.int 0) (.cons (.glob "LAST_ROOM") .nil))))) (.cons (.raise "BadRoute" (.cons (.var 1) .nil)) .nil) .nil) .nil)
def b_check_route : Ss := (.cons (.ite (.cmp .eq (.f1 .len (.var 0)) (.int 0)) (.cons (.raise "BadRoute" (.cons (.int 0) .nil)) .nil) .nil) (.cons (.ite (.cmp .gt (.f1 .len (.var 0)) (.glob "MOST_STEPS")) (.cons (.raise "TooMany" (.cons (.glob "MOST_STEPS") .nil)) .nil) .nil) (.cons (.forr 1 (.rng (.cons (.f1 .len (.var 0)) .nil)) b_check_route_1) .nil)))
noncomputable def T_check_route : Tab := lk [("is_between", m_is_between)]
def G_check_route : Str → Option Val := lk [("MOST_STEPS", Val.int 60), ("LAST_ROOM", Val.int 99)]
noncomputable def m_check_route : Mir := mkM T_check_route G_check_route 1 2 b_check_route
theorem t_check_route_is_between : T_check_route "is_between" = some m_is_between := rfl
theorem g_check_route_MOST_STEPS : G_check_route "MOST_STEPS" = some (Val.int 60) := rfl
theorem g_check_route_LAST_ROOM : G_check_route "LAST_ROOM" = some (Val.int 99) := rfl
def b_busiest_1 : E := (.cmp .eq (.var 2) (.var 1))
def b_busiest_2 : E := (.f1 .len (.comp false 2 (.var 0) b_busiest_1 (.var 2)))
def b_busiest : Ss := (.cons (.expr (.call "check_route" (.cons (.var 0) .nil))) (.cons (.ret (.f1 .max (.comp false 1 (.var 0) .no b_busiest_2))) .nil))
noncomputable def T_busiest : Tab := lk [("check_route", m_check_route)]
noncomputable def m_busiest : Mir := mkM T_busiest G0 1 3 b_busiest
theorem t_busiest_check_route : T_busiest "check_route" = some m_check_route := rfl
def b_is_taken_1 : Ss := (.cons (.ite (.bo true (.cons (.cmp .eq (.sub (.var 0) (.var 4)) (.sub (.var 0) (.f1 .len (.var 1)))) (.cons (.cmp .eq (.bin false .mod (.bin false .sub (.var 3) (.sub (.var 1) (.var 4))) (.var 2)) (.int 0)) .nil))) (.cons (.ret (.bl true)) .nil) .nil) .nil)
def b_is_taken : Ss := (.cons (.forr 4 (.rng (.cons (.f1 .len (.var 1)) .nil)) b_is_taken_1) (.cons (.ret (.bl false)) .nil))
noncomputable def T_is_taken : Tab := lk []
noncomputable def m_is_taken : Mir := mkM T_is_taken G0 4 5 b_is_taken
def b_stretched_1 : E := (.call "is_taken" (.cons (.var 0) (.cons (.var 2) (.cons (.var 1) (.cons (.var 3) .nil)))))
def b_stretched_2 : Ss := (.cons (.asg 3 (.bin false .add (.var 3) (.int 1))) .nil)
def b_stretched_3 : Ss := (.cons (.whil 1000000 b_stretched_1 b_stretched_2) (.cons (.expr (.app (.var 2) (.var 3))) (.cons (.asg 3 (.bin false .add (.var 3) (.int 1))) .nil)))
def b_stretched : Ss := (.cons (.ite (.cmp .lt (.var 1) (.call "busiest" (.cons (.var 0) .nil))) (.cons (.raise "TooTight" (.cons (.var 1) .nil)) .nil) .nil) (.cons (.ite (.cmp .gt (.var 1) (.glob "MOST_GAP")) (.cons (.raise "TooMany" (.cons (.glob "MOST_GAP") .nil)) .nil) .nil) (.cons (.asg 2 (.lst true .nil)) (.cons (.asg 3 (.int 0)) (.cons (.forr 4 (.var 0) b_stretched_3) (.cons (.ret (.g1 false .tuple (.var 2))) .nil))))))
noncomputable def T_stretched : Tab := lk [("busiest", m_busiest), ("is_taken", m_is_taken)]
def G_stretched : Str → Option Val := lk [("MOST_GAP", Val.int 10000)]
noncomputable def m_stretched : Mir := mkM T_stretched G_stretched 2 5 b_stretched
theorem t_stretched_busiest : T_stretched "busiest" = some m_busiest := rfl
theorem t_stretched_is_taken : T_stretched "is_taken" = some m_is_taken := rfl
theorem g_stretched_MOST_GAP : G_stretched "MOST_GAP" = some (Val.int 10000) := rfl
def b_check_gap : Ss := (.cons (.ite (.cmp .lt (.var 0) (.int 1)) (.cons (.raise "TooTight" (.cons (.var 0) .nil)) .nil) .nil) (.cons (.ite (.cmp .gt (.var 0) (.glob "MOST_GAP")) (.cons (.raise "TooMany" (.cons (.glob "MOST_GAP") .nil)) .nil) .nil) .nil))
noncomputable def T_check_gap : Tab := lk []
def G_check_gap : Str → Option Val := lk [("MOST_GAP", Val.int 10000)]
noncomputable def m_check_gap : Mir := mkM T_check_gap G_check_gap 1 1 b_check_gap
theorem g_check_gap_MOST_GAP : G_check_gap "MOST_GAP" = some (Val.int 10000) := rfl
def b_is_row : Ss := (.cons (.ret (.isi2 (.var 0) .tuple .list)) .nil)
noncomputable def T_is_row : Tab := lk []
noncomputable def m_is_row : Mir := mkM T_is_row G0 1 1 b_is_row
def b_wrong_slot_1 : Ss := (.cons (.ite (.bo false (.cons (.cmp .ge (.var 3) (.f1 .len (.var 1))) (.cons (.not (.call "is_between" (.cons (.sub (.var 1) (.var 3)) (.cons (.bin false .add (.var 2) (.int 1)) (.cons (.glob "LAST_SLOT") .nil))))) .nil))) (.cons (.ret (.var 3)) .nil) .nil) (.cons (.asg 2 (.sub (.var 1) (.var 3))) .nil))
def b_wrong_slot : Ss := (.cons (.asg 2 (.neg (.int 1))) (.cons (.forr 3 (.rng (.cons (.f1 .len (.var 0)) .nil)) b_wrong_slot_1) (.cons (.ite (.cmp .gt (.f1 .len (.var 1)) (.f1 .len (.var 0))) (.cons (.ret (.f1 .len (.var 0))) .nil) .nil) (.cons (.ret .non) .nil))))
noncomputable def T_wrong_slot : Tab := lk [("is_between", m_is_between)]
def G_wrong_slot : Str → Option Val := lk [("LAST_SLOT", Val.int 9999)]
noncomputable def m_wrong_slot : Mir := mkM T_wrong_slot G_wrong_slot 2 4 b_wrong_slot
theorem t_wrong_slot_is_between : T_wrong_slot "is_between" = some m_is_between := rfl
theorem g_wrong_slot_LAST_SLOT : G_wrong_slot "LAST_SLOT" = some (Val.int 9999) := rfl
def b_meeting_1 : Ss := (.cons (.ite (.bo true (.cons (.cmp .eq (.sub (.var 0) (.var 4)) (.sub (.var 0) (.var 3))) (.cons (.cmp .eq (.bin false .mod (.bin false .sub (.sub (.var 1) (.var 3)) (.sub (.var 1) (.var 4))) (.var 2)) (.int 0)) .nil))) (.cons (.ret (.tup (.cons (.sub (.var 1) (.var 3)) (.cons (.sub (.var 0) (.var 3)) (.cons (.var 4) (.cons (.var 3) .nil)))))) .nil) .nil) .nil)
def b_meeting_2 : Ss := (.cons (.forr 4 (.rng (.cons (.var 3) .nil)) b_meeting_1) .nil)
def b_meeting : Ss := (.cons (.forr 3 (.rng (.cons (.f1 .len (.var 0)) .nil)) b_meeting_2) (.cons (.ret .non) .nil))
noncomputable def T_meeting : Tab := lk []
noncomputable def m_meeting : Mir := mkM T_meeting G0 3 5 b_meeting
def b_are_slots : Ss := (.cons (.expr (.call "check_route" (.cons (.var 0) .nil))) (.cons (.expr (.call "check_gap" (.cons (.var 1) .nil))) (.cons (.ite (.bo false (.cons (.not (.call "is_row" (.cons (.var 2) .nil))) (.cons (.cmp .isnot (.call "wrong_slot" (.cons (.var 0) (.cons (.var 2) .nil))) .non) .nil))) (.cons (.ret (.bl false)) .nil) .nil) (.cons (.ret (.bo true (.cons (.cmp .eq (.sub (.var 2) (.int 0)) (.int 0)) (.cons (.cmp .is_ (.call "meeting" (.cons (.var 0) (.cons (.var 2) (.cons (.var 1) .nil)))) .non) .nil)))) .nil))))
noncomputable def T_are_slots : Tab := lk [("check_route", m_check_route), ("check_gap", m_check_gap), ("is_row", m_is_row), ("wrong_slot", m_wrong_slot), ("meeting", m_meeting)]
noncomputable def m_are_slots : Mir := mkM T_are_slots G0 3 3 b_are_slots
theorem t_are_slots_check_route : T_are_slots "check_route" = some m_check_route := rfl
theorem t_are_slots_check_gap : T_are_slots "check_gap" = some m_check_gap := rfl
theorem t_are_slots_is_row : T_are_slots "is_row" = some m_is_row := rfl
theorem t_are_slots_wrong_slot : T_are_slots "wrong_slot" = some m_wrong_slot := rfl
theorem t_are_slots_meeting : T_are_slots "meeting" = some m_meeting := rfl
def b_check_slots : Ss := (.cons (.expr (.call "check_route" (.cons (.var 0) .nil))) (.cons (.asg 2 (.call "wrong_slot" (.cons (.var 0) (.cons (.var 1) .nil)))) (.cons (.ite (.cmp .isnot (.var 2) .non) (.cons (.raise "BadRoute" (.cons (.var 2) .nil)) .nil) .nil) .nil)))
noncomputable def T_check_slots : Tab := lk [("check_route", m_check_route), ("wrong_slot", m_wrong_slot)]
noncomputable def m_check_slots : Mir := mkM T_check_slots G0 2 3 b_check_slots
theorem t_check_slots_check_route : T_check_slots "check_route" = some m_check_route := rfl
theorem t_check_slots_wrong_slot : T_check_slots "wrong_slot" = some m_wrong_slot := rfl
def b_least_gap_1 : Ss := (.cons (.ite (.cmp .is_ (.call "meeting" (.cons (.var 0) (.cons (.var 1) (.cons (.var 2) .nil)))) .non) (.cons (.ret (.var 2)) .nil) .nil) .nil)
def b_least_gap : Ss := (.cons (.expr (.call "check_slots" (.cons (.var 0) (.cons (.var 1) .nil)))) (.cons (.forr 2 (.rng (.cons (.int 1) (.cons (.bin false .add (.sub (.var 1) (.neg (.int 1))) (.int 1)) .nil))) b_least_gap_1) (.cons (.ret (.bin false .add (.sub (.var 1) (.neg (.int 1))) (.int 1))) .nil)))
noncomputable def T_least_gap : Tab := lk [("check_slots", m_check_slots), ("meeting", m_meeting)]
noncomputable def m_least_gap : Mir := mkM T_least_gap G0 2 3 b_least_gap
theorem t_least_gap_check_slots : T_least_gap "check_slots" = some m_check_slots := rfl
theorem t_least_gap_meeting : T_least_gap "meeting" = some m_meeting := rfl
def b_first_meeting : Ss := (.cons (.expr (.call "check_slots" (.cons (.var 0) (.cons (.var 1) .nil)))) (.cons (.expr (.call "check_gap" (.cons (.var 2) .nil))) (.cons (.ret (.call "meeting" (.cons (.var 0) (.cons (.var 1) (.cons (.var 2) .nil))))) .nil)))
noncomputable def T_first_meeting : Tab := lk [("check_slots", m_check_slots), ("check_gap", m_check_gap), ("meeting", m_meeting)]
noncomputable def m_first_meeting : Mir := mkM T_first_meeting G0 3 3 b_first_meeting
theorem t_first_meeting_check_slots : T_first_meeting "check_slots" = some m_check_slots := rfl
theorem t_first_meeting_check_gap : T_first_meeting "check_gap" = some m_check_gap := rfl
theorem t_first_meeting_meeting : T_first_meeting "meeting" = some m_meeting := rfl
def b_is_clear : Ss := (.cons (.ret (.cmp .is_ (.call "first_meeting" (.cons (.var 0) (.cons (.var 1) (.cons (.var 2) .nil)))) .non)) .nil)
noncomputable def T_is_clear : Tab := lk [("first_meeting", m_first_meeting)]
noncomputable def m_is_clear : Mir := mkM T_is_clear G0 3 3 b_is_clear
theorem t_is_clear_first_meeting : T_is_clear "first_meeting" = some m_first_meeting := rfl
def b_teams_at_1 : Ss := (.cons (.asg 6 (.bin false .sub (.var 3) (.sub (.var 1) (.var 5)))) (.cons (.ite (.bo true (.cons (.cmp .ge (.var 6) (.int 0)) (.cons (.cmp .eq (.bin false .mod (.var 6) (.var 2)) (.int 0)) .nil))) (.cons (.expr (.app (.var 4) (.tup (.cons (.bin false .fdiv (.var 6) (.var 2)) (.cons (.var 5) .nil))))) .nil) .nil) .nil))
def b_teams_at : Ss := (.cons (.expr (.call "check_slots" (.cons (.var 0) (.cons (.var 1) .nil)))) (.cons (.expr (.call "check_gap" (.cons (.var 2) .nil))) (.cons (.asg 4 (.lst true .nil)) (.cons (.forr 5 (.rng (.cons (.f1 .len (.var 1)) .nil)) b_teams_at_1) (.cons (.ret (.g1 false .tuple (.g1 false .sorted (.var 4)))) .nil)))))
noncomputable def T_teams_at : Tab := lk [("check_slots", m_check_slots), ("check_gap", m_check_gap)]
noncomputable def m_teams_at : Mir := mkM T_teams_at G0 4 7 b_teams_at
theorem t_teams_at_check_slots : T_teams_at "check_slots" = some m_check_slots := rfl
theorem t_teams_at_check_gap : T_teams_at "check_gap" = some m_check_gap := rfl
def b_law_call : Ss := (.cons (.ite (.cmp .eq (.var 4) (.int 0)) (.cons (.ret (.call "busiest" (.cons (.var 0) .nil))) .nil) .nil) (.cons (.ite (.cmp .eq (.var 4) (.int 1)) (.cons (.ret (.call "stretched" (.cons (.var 0) (.cons (.var 2) .nil)))) .nil) .nil) (.cons (.ite (.cmp .eq (.var 4) (.int 2)) (.cons (.ret (.call "are_slots" (.cons (.var 0) (.cons (.var 2) (.cons (.var 1) .nil))))) .nil) .nil) (.cons (.ite (.cmp .eq (.var 4) (.int 3)) (.cons (.ret (.call "least_gap" (.cons (.var 0) (.cons (.var 1) .nil)))) .nil) .nil) (.cons (.ite (.cmp .eq (.var 4) (.int 4)) (.cons (.ret (.call "first_meeting" (.cons (.var 0) (.cons (.var 1) (.cons (.var 2) .nil))))) .nil) .nil) (.cons (.ite (.cmp .eq (.var 4) (.int 5)) (.cons (.ret (.call "is_clear" (.cons (.var 0) (.cons (.var 1) (.cons (.var 2) .nil))))) .nil) .nil) (.cons (.ret (.call "teams_at" (.cons (.var 0) (.cons (.var 1) (.cons (.var 2) (.cons (.var 3) .nil)))))) .nil)))))))
noncomputable def T_law_call : Tab := lk [("busiest", m_busiest), ("stretched", m_stretched), ("are_slots", m_are_slots), ("least_gap", m_least_gap), ("first_meeting", m_first_meeting), ("is_clear", m_is_clear), ("teams_at", m_teams_at)]
noncomputable def m_law_call : Mir := mkM T_law_call G0 5 5 b_law_call
theorem t_law_call_busiest : T_law_call "busiest" = some m_busiest := rfl
theorem t_law_call_stretched : T_law_call "stretched" = some m_stretched := rfl
theorem t_law_call_are_slots : T_law_call "are_slots" = some m_are_slots := rfl
theorem t_law_call_least_gap : T_law_call "least_gap" = some m_least_gap := rfl
theorem t_law_call_first_meeting : T_law_call "first_meeting" = some m_first_meeting := rfl
theorem t_law_call_is_clear : T_law_call "is_clear" = some m_is_clear := rfl
theorem t_law_call_teams_at : T_law_call "teams_at" = some m_teams_at := rfl
def b_law_told_1 : Ss := (.cons (.ret (.lst false (.cons (.str "tight") (.cons (.xfld 7 0) (.cons (.bo true (.cons (.xis 7 [("RiddleError", ["TooMany", "NoDoor", "BadRoute", "TooTight", "BadHouse"])]) (.cons (.not (.xis 7 [("TooMany", ["TooMany"])])) .nil))) .nil))))) .nil)
def b_law_told_2 : Ss := (.cons (.ret (.lst false (.cons (.str "route") (.cons (.xfld 7 0) (.cons (.bo true (.cons (.xis 7 [("RiddleError", ["TooMany", "NoDoor", "BadRoute", "TooTight", "BadHouse"])]) (.cons (.not (.xis 7 [("TooMany", ["TooMany"]), ("TooTight", ["TooTight"])])) .nil))) .nil))))) .nil)
def b_law_told : Ss := (.cons (.tryx (.cons (.asg 5 (.call "_law_call" (.cons (.var 0) (.cons (.var 1) (.cons (.var 2) (.cons (.var 3) (.cons (.var 4) .nil))))))) .nil) (.cons "BadRoute" ["BadRoute"] (some 6) b_law_told_2 (.cons "TooTight" ["TooTight"] (some 6) b_law_told_1 (.cons "TooMany" ["TooMany"] (some 6) (.cons (.ret (.lst false (.cons (.str "many") (.cons (.xfld 7 0) (.cons (.xis 7 [("RiddleError", ["TooMany", "NoDoor", "BadRoute", "TooTight", "BadHouse"])]) .nil))))) .nil) .nil)))) (.cons (.ite (.bo true (.cons (.cmp .eq (.var 4) (.int 2)) (.cons (.not (.isi (.var 5) .bool)) .nil))) (.cons (.ret (.lst false (.cons (.str "kind") (.cons (.int 0) (.cons (.bl false) .nil))))) .nil) .nil) (.cons (.ret (.lst false .nil)) .nil)))
noncomputable def T_law_told : Tab := lk [("_law_call", m_law_call)]
noncomputable def m_law_told : Mir := mkM T_law_told G0 5 7 b_law_told
theorem t_law_told_law_call : T_law_told "_law_call" = some m_law_call := rfl
def b_is_rising_1 : Ss := (.cons (.ite (.not (.call "is_whole" (.cons (.var 2) .nil))) (.cons (.ret (.bl false)) .nil) .nil) (.cons (.ite (.bo true (.cons (.cmp .isnot (.var 1) .non) (.cons (.cmp .le (.var 2) (.var 1)) .nil))) (.cons (.ret (.bl false)) .nil) .nil) (.cons (.asg 1 (.var 2)) .nil)))
def b_is_rising : Ss := (.cons (.ite (.not (.call "is_row" (.cons (.var 0) .nil))) (.cons (.ret (.bl false)) .nil) .nil) (.cons (.asg 1 .non) (.cons (.forr 2 (.var 0) b_is_rising_1) (.cons (.ret (.bl true)) .nil))))
noncomputable def T_is_rising : Tab := lk [("is_row", m_is_row), ("is_whole", m_is_whole)]
noncomputable def m_is_rising : Mir := mkM T_is_rising G0 1 3 b_is_rising
theorem t_is_rising_is_row : T_is_rising "is_row" = some m_is_row := rfl
theorem t_is_rising_is_whole : T_is_rising "is_whole" = some m_is_whole := rfl
def b_good_tools_1 : Ss := (.cons (.ite (.not (.chain .le .le (.int 0) (.var 1) (.int 15))) (.cons (.ret (.bl false)) .nil) .nil) .nil)
def b_good_tools : Ss := (.cons (.ite (.not (.call "is_rising" (.cons (.var 0) .nil))) (.cons (.ret (.bl false)) .nil) .nil) (.cons (.forr 1 (.var 0) b_good_tools_1) (.cons (.ret (.bl true)) .nil)))
noncomputable def T_good_tools : Tab := lk [("is_rising", m_is_rising)]
noncomputable def m_good_tools : Mir := mkM T_good_tools G0 1 2 b_good_tools
theorem t_good_tools_is_rising : T_good_tools "is_rising" = some m_is_rising := rfl
def b_are_numbers_1 : Ss := (.cons (.ite (.not (.call "is_between" (.cons (.var 4) (.cons (.var 2) (.cons (.var 3) .nil))))) (.cons (.ret (.bl false)) .nil) .nil) .nil)
def b_are_numbers : Ss := (.cons (.ite (.bo false (.cons (.not (.call "is_row" (.cons (.var 0) .nil))) (.cons (.cmp .ne (.f1 .len (.var 0)) (.var 1)) .nil))) (.cons (.ret (.bl false)) .nil) .nil) (.cons (.forr 4 (.var 0) b_are_numbers_1) (.cons (.ret (.bl true)) .nil)))
noncomputable def T_are_numbers : Tab := lk [("is_row", m_is_row), ("is_between", m_is_between)]
noncomputable def m_are_numbers : Mir := mkM T_are_numbers G0 4 5 b_are_numbers
theorem t_are_numbers_is_row : T_are_numbers "is_row" = some m_is_row := rfl
theorem t_are_numbers_is_between : T_are_numbers "is_between" = some m_is_between := rfl
def b_good_room_1 : Ss := (.cons (.ite (.not (.call "are_numbers" (.cons (.var 6) (.cons (.var 2) (.cons (.int 0) (.cons (.bin false .sub (.var 1) (.int 1)) .nil)))))) (.cons (.ret (.bl false)) .nil) .nil) .nil)
def b_good_room : Ss := (.cons (.ite (.bo false (.cons (.not (.call "is_row" (.cons (.var 0) .nil))) (.cons (.cmp .ne (.f1 .len (.var 0)) (.int 3)) .nil))) (.cons (.ret (.bl false)) .nil) .nil) (.cons (.asgt [3, 4, 5] (.var 0)) (.cons (.ite (.bo false (.cons (.not (.call "is_between" (.cons (.var 3) (.cons (.int 0) (.cons (.int 99) .nil))))) (.cons (.not (.call "good_tools" (.cons (.var 4) .nil))) .nil))) (.cons (.ret (.bl false)) .nil) .nil) (.cons (.ite (.bo false (.cons (.not (.call "is_row" (.cons (.var 5) .nil))) (.cons (.cmp .gt (.f1 .len (.var 5)) (.int 6)) .nil))) (.cons (.ret (.bl false)) .nil) .nil) (.cons (.forr 6 (.var 5) b_good_room_1) (.cons (.ret (.bl true)) .nil))))))
noncomputable def T_good_room : Tab := lk [("is_row", m_is_row), ("is_between", m_is_between), ("good_tools", m_good_tools), ("are_numbers", m_are_numbers)]
noncomputable def m_good_room : Mir := mkM T_good_room G0 3 7 b_good_room
theorem t_good_room_is_row : T_good_room "is_row" = some m_is_row := rfl
theorem t_good_room_is_between : T_good_room "is_between" = some m_is_between := rfl
theorem t_good_room_good_tools : T_good_room "good_tools" = some m_good_tools := rfl
theorem t_good_room_are_numbers : T_good_room "are_numbers" = some m_are_numbers := rfl
def b_check_rooms_1 : Ss := (.cons (.ite (.not (.call "good_room" (.cons (.sub (.var 0) (.var 3)) (.cons (.var 1) (.cons (.var 2) .nil))))) (.cons (.raise "BadHouse" (.cons (.str "room") (.cons (.var 3) .nil))) .nil) .nil) .nil)
def b_check_rooms_2 : E := (.f1 .len (.sub (.var 3) (.int 2)))
def b_check_rooms : Ss := (.cons (.forr 3 (.rng (.cons (.f1 .len (.var 0)) .nil)) b_check_rooms_1) (.cons (.ite (.cmp .gt (.f1 .sum (.comp false 3 (.var 0) .no b_check_rooms_2)) (.glob "MOST_CLUES")) (.cons (.raise "TooMany" (.cons (.glob "MOST_CLUES") .nil)) .nil) .nil) .nil))
noncomputable def T_check_rooms : Tab := lk [("good_room", m_good_room)]
def G_check_rooms : Str → Option Val := lk [("MOST_CLUES", Val.int 30)]
noncomputable def m_check_rooms : Mir := mkM T_check_rooms G_check_rooms 3 4 b_check_rooms
theorem t_check_rooms_good_room : T_check_rooms "good_room" = some m_good_room := rfl
theorem g_check_rooms_MOST_CLUES : G_check_rooms "MOST_CLUES" = some (Val.int 30) := rfl
def b_good_door : Ss := (.cons (.ite (.bo false (.cons (.not (.call "is_row" (.cons (.var 0) .nil))) (.cons (.cmp .ne (.f1 .len (.var 0)) (.int 6)) .nil))) (.cons (.ret (.bl false)) .nil) .nil) (.cons (.asgt [4, 5, 6, 7, 8, 9] (.var 0)) (.cons (.ite (.bo false (.cons (.not (.call "is_between" (.cons (.var 4) (.cons (.int 0) (.cons (.bin false .sub (.var 3) (.int 1)) .nil))))) (.cons (.not (.call "is_between" (.cons (.var 5) (.cons (.int 0) (.cons (.bin false .sub (.var 3) (.int 1)) .nil))))) .nil))) (.cons (.ret (.bl false)) .nil) .nil) (.cons (.ite (.bo false (.cons (.cmp .eq (.var 4) (.var 5)) (.cons (.not (.call "is_between" (.cons (.var 6) (.cons (.int 1) (.cons (.int 60) .nil))))) (.cons (.not (.call "is_between" (.cons (.var 7) (.cons (.int 0) (.cons (.int 9) .nil))))) .nil)))) (.cons (.ret (.bl false)) .nil) .nil) (.cons (.ite (.not (.call "good_tools" (.cons (.var 8) .nil))) (.cons (.ret (.bl false)) .nil) .nil) (.cons (.ret (.bo false (.cons (.cmp .is_ (.var 9) .non) (.cons (.call "are_numbers" (.cons (.var 9) (.cons (.var 2) (.cons (.int 0) (.cons (.bin false .sub (.var 1) (.int 1)) .nil))))) .nil)))) .nil))))))
noncomputable def T_good_door : Tab := lk [("is_row", m_is_row), ("is_between", m_is_between), ("good_tools", m_good_tools), ("are_numbers", m_are_numbers)]
noncomputable def m_good_door : Mir := mkM T_good_door G0 4 10 b_good_door
theorem t_good_door_is_row : T_good_door "is_row" = some m_is_row := rfl
theorem t_good_door_is_between : T_good_door "is_between" = some m_is_between := rfl
theorem t_good_door_good_tools : T_good_door "good_tools" = some m_good_tools := rfl
theorem t_good_door_are_numbers : T_good_door "are_numbers" = some m_are_numbers := rfl
def b_check_doors_1 : Ss := (.cons (.ite (.not (.call "good_door" (.cons (.sub (.var 0) (.var 4)) (.cons (.var 1) (.cons (.var 2) (.cons (.var 3) .nil)))))) (.cons (.raise "BadHouse" (.cons (.str "door") (.cons (.var 4) .nil))) .nil) .nil) .nil)
def b_check_doors : Ss := (.cons (.forr 4 (.rng (.cons (.f1 .len (.var 0)) .nil)) b_check_doors_1) .nil)
noncomputable def T_check_doors : Tab := lk [("good_door", m_good_door)]
noncomputable def m_check_doors : Mir := mkM T_check_doors G0 4 5 b_check_doors
theorem t_check_doors_good_door : T_check_doors "good_door" = some m_good_door := rfl
def b_copied_room_1 : E := (.g1 false .tuple (.var 1))
def b_copied_room : Ss := (.cons (.ret (.tup (.cons (.sub (.var 0) (.int 0)) (.cons (.g1 false .tuple (.sub (.var 0) (.int 1))) (.cons (.g1 false .tuple (.comp false 1 (.sub (.var 0) (.int 2)) .no b_copied_room_1)) .nil))))) .nil)
noncomputable def T_copied_room : Tab := lk []
noncomputable def m_copied_room : Mir := mkM T_copied_room G0 1 2 b_copied_room
def b_copied_door : Ss := (.cons (.asg 1 (.sub (.var 0) (.int 5))) (.cons (.ite (.cmp .isnot (.var 1) .non) (.cons (.asg 1 (.g1 false .tuple (.var 1))) .nil) .nil) (.cons (.ret (.tup (.cons (.sub (.var 0) (.int 0)) (.cons (.sub (.var 0) (.int 1)) (.cons (.sub (.var 0) (.int 2)) (.cons (.sub (.var 0) (.int 3)) (.cons (.g1 false .tuple (.sub (.var 0) (.int 4))) (.cons (.var 1) .nil)))))))) .nil)))
noncomputable def T_copied_door : Tab := lk []
noncomputable def m_copied_door : Mir := mkM T_copied_door G0 1 2 b_copied_door
def b_House_init_1 : E := (.call "copied_room" (.cons (.var 6) .nil))
def b_House_init_2 : E := (.call "copied_door" (.cons (.var 7) .nil))
def b_House_init : Ss := (.cons (.ite (.cmp .notin (.var 1) (.glob "PRIMES")) (.cons (.raise "BadHouse" (.cons (.str "prime") (.cons (.var 1) .nil))) .nil) .nil) (.cons (.ite (.not (.call "is_between" (.cons (.var 2) (.cons (.int 0) (.cons (.int 6) .nil))))) (.cons (.raise "BadHouse" (.cons (.str "size") (.cons (.var 2) .nil))) .nil) .nil) (.cons (.ite (.cmp .eq (.f1 .len (.var 3)) (.int 0)) (.cons (.raise "BadHouse" (.cons (.str "rooms") (.cons (.int 0) .nil))) .nil) .nil) (.cons (.ite (.cmp .gt (.f1 .len (.var 3)) (.glob "MOST_ROOMS")) (.cons (.raise "TooMany" (.cons (.glob "MOST_ROOMS") .nil)) .nil) .nil) (.cons (.ite (.cmp .gt (.f1 .len (.var 4)) (.glob "MOST_DOORS")) (.cons (.raise "TooMany" (.cons (.glob "MOST_DOORS") .nil)) .nil) .nil) (.cons (.expr (.call "check_rooms" (.cons (.var 3) (.cons (.var 1) (.cons (.var 2) .nil))))) (.cons (.expr (.call "check_doors" (.cons (.var 4) (.cons (.var 1) (.cons (.var 2) (.cons (.f1 .len (.var 3)) .nil)))))) (.cons (.ite (.not (.call "is_between" (.cons (.var 5) (.cons (.int 0) (.cons (.bin false .sub (.f1 .len (.var 3)) (.int 1)) .nil))))) (.cons (.raise "BadHouse" (.cons (.str "last") (.cons (.var 5) .nil))) .nil) .nil) (.cons (.stf "House" "prime" (.var 0) (.var 1)) (.cons (.stf "House" "size" (.var 0) (.var 2)) (.cons (.stf "House" "rooms" (.var 0) (.g1 false .tuple (.comp false 6 (.var 3) .no b_House_init_1))) (.cons (.stf "House" "doors" (.var 0) (.g1 false .tuple (.comp false 7 (.var 4) .no b_House_init_2))) (.cons (.stf "House" "last" (.var 0) (.var 5)) .nil)))))))))))))
noncomputable def T_House_init : Tab := lk [("is_between", m_is_between), ("check_rooms", m_check_rooms), ("check_doors", m_check_doors), ("copied_room", m_copied_room), ("copied_door", m_copied_door)]
def G_House_init : Str → Option Val := lk [("PRIMES", Val.tup [Val.int 2, Val.int 3, Val.int 5, Val.int 7, Val.int 11, Val.int 13, Val.int 17, Val.int 19, Val.int 23, Val.int 29, Val.int 31]), ("MOST_ROOMS", Val.int 24), ("MOST_DOORS", Val.int 36)]
noncomputable def m_House_init : Mir := mkM T_House_init G_House_init 6 8 b_House_init
theorem t_House_init_is_between : T_House_init "is_between" = some m_is_between := rfl
theorem t_House_init_check_rooms : T_House_init "check_rooms" = some m_check_rooms := rfl
theorem t_House_init_check_doors : T_House_init "check_doors" = some m_check_doors := rfl
theorem t_House_init_copied_room : T_House_init "copied_room" = some m_copied_room := rfl
theorem t_House_init_copied_door : T_House_init "copied_door" = some m_copied_door := rfl
theorem g_House_init_PRIMES : G_House_init "PRIMES" = some (Val.tup [Val.int 2, Val.int 3, Val.int 5, Val.int 7, Val.int 11, Val.int 13, Val.int 17, Val.int 19, Val.int 23, Val.int 29, Val.int 31]) := rfl
theorem g_House_init_MOST_ROOMS : G_House_init "MOST_ROOMS" = some (Val.int 24) := rfl
theorem g_House_init_MOST_DOORS : G_House_init "MOST_DOORS" = some (Val.int 36) := rfl
def b_law_made : Ss := (.cons (.ret (.frz (.new "House" (.cons (.sub (.var 0) (.int 0)) (.cons (.sub (.var 0) (.int 1)) (.cons (.sub (.var 0) (.int 2)) (.cons (.sub (.var 0) (.int 3)) (.cons (.sub (.var 0) (.int 4)) .nil)))))))) .nil)
noncomputable def T_law_made : Tab := lk [((mName "House" "__init__"), m_House_init)]
noncomputable def m_law_made : Mir := mkM T_law_made G0 1 1 b_law_made
theorem t_law_made_House_init : T_law_made (mName "House" "__init__") = some m_House_init := rfl
def b_door_of : Ss := (.cons (.ite (.not (.call "is_between" (.cons (.var 1) (.cons (.int 0) (.cons (.bin false .sub (.f1 .len (.fld "House" "doors" (.var 0))) (.int 1)) .nil))))) (.cons (.raise "NoDoor" (.cons (.var 1) .nil)) .nil) .nil) (.cons (.ret (.sub (.fld "House" "doors" (.var 0)) (.var 1))) .nil))
noncomputable def T_door_of : Tab := lk [("is_between", m_is_between)]
noncomputable def m_door_of : Mir := mkM T_door_of G0 2 2 b_door_of
theorem t_door_of_is_between : T_door_of "is_between" = some m_is_between := rfl
def b_work_rooms_1 : E := (.sub (.call "door_of" (.cons (.var 0) (.cons (.var 2) .nil))) (.int 0))
def b_work_rooms : Ss := (.cons (.ret (.g1 false .tuple (.comp false 2 (.var 1) .no b_work_rooms_1))) .nil)
noncomputable def T_work_rooms : Tab := lk [("door_of", m_door_of)]
noncomputable def m_work_rooms : Mir := mkM T_work_rooms G0 2 3 b_work_rooms
theorem t_work_rooms_door_of : T_work_rooms "door_of" = some m_door_of := rfl
def b_law_work : Ss := (.cons (.tryx (.cons (.ret (.call "work_rooms" (.cons (.var 0) (.cons (.var 1) .nil)))) .nil) (.cons "NoDoor" ["NoDoor"] (some 2) (.cons (.ret (.lst false (.cons (.str "door") (.cons (.xfld 3 0) .nil)))) .nil) .nil)) .nil)
noncomputable def T_law_work : Tab := lk [("work_rooms", m_work_rooms)]
noncomputable def m_law_work : Mir := mkM T_law_work G0 2 3 b_law_work
theorem t_law_work_work_rooms : T_law_work "work_rooms" = some m_work_rooms := rfl
def b_law_work_right_1 : Ss := (.cons (.expr (.app (.var 4) (.sub (.lst false (.cons (.var 3) (.cons (.neg (.int 1)) (.cons (.bin false .pow (.int 10) (.int 12)) .nil)))) (.call "_law_draw" (.cons (.var 1) (.cons (.int 3) .nil)))))) .nil)
def b_law_work_right_2 : Ss := (.cons (.ite (.bo true (.cons (.cmp .gt (.var 3) (.int 0)) (.cons (.cmp .gt (.call "_law_draw" (.cons (.var 1) (.cons (.int 6) .nil))) (.int 0)) .nil))) (.cons (.expr (.app (.var 4) (.call "_law_draw" (.cons (.var 1) (.cons (.var 3) .nil))))) .nil) (.cons (.ite (.cmp .eq (.call "_law_draw" (.cons (.var 1) (.cons (.int 3) .nil))) (.int 0)) b_law_work_right_1 .nil) .nil)) .nil)
def b_law_work_right_3 : E := (.bo false (.cons (.cmp .lt (.var 8) (.int 0)) (.cons (.cmp .ge (.var 8) (.var 3)) .nil)))
def b_law_work_right_4 : E := (.sub (.sub (.sub (.var 0) (.int 3)) (.var 8)) (.int 0))
def b_law_work_right : Ss := (.cons (.asg 2 (.call "_law_made" (.cons (.var 0) .nil))) (.cons (.asg 3 (.f1 .len (.sub (.var 0) (.int 3)))) (.cons (.asg 4 (.lst true .nil)) (.cons (.forr 5 (.rng (.cons (.call "_law_draw" (.cons (.var 1) (.cons (.int 7) .nil))) .nil)) b_law_work_right_2) (.cons (.asg 6 (.comp false 8 (.frz (.var 4)) b_law_work_right_3 (.var 8))) (.cons (.asg 7 (.call "_law_work" (.cons (.var 2) (.cons (.g1 false .list (.var 4)) .nil)))) (.cons (.ite (.cmp .gt (.f1 .len (.var 6)) (.int 0)) (.cons (.ret (.cmp .eq (.var 7) (.lst false (.cons (.str "door") (.cons (.sub (.var 6) (.int 0)) .nil))))) .nil) .nil) (.cons (.ret (.bo true (.cons (.isi (.var 7) .tuple) (.cons (.cmp .eq (.g1 false .list (.var 7)) (.comp false 8 (.frz (.var 4)) .no b_law_work_right_4)) .nil)))) .nil))))))))
noncomputable def T_law_work_right : Tab := lk [("_law_made", m_law_made), ("_law_draw", m_law_draw), ("_law_work", m_law_work)]
noncomputable def m_law_work_right : Mir := mkM T_law_work_right G0 2 9 b_law_work_right
theorem t_law_work_right_law_made : T_law_work_right "_law_made" = some m_law_made := rfl
theorem t_law_work_right_law_draw : T_law_work_right "_law_draw" = some m_law_draw := rfl
theorem t_law_work_right_law_work : T_law_work_right "_law_work" = some m_law_work := rfl
def b_law_tools_1 : E := (.call "_law_draw" (.cons (.var 0) (.cons (.var 1) .nil)))
def b_law_tools : Ss := (.cons (.ret (.g1 false .sortset (.comp false 2 (.rng (.cons (.call "_law_draw" (.cons (.var 0) (.cons (.int 3) .nil))) .nil)) .no b_law_tools_1))) .nil)
noncomputable def T_law_tools : Tab := lk [("_law_draw", m_law_draw)]
noncomputable def m_law_tools : Mir := mkM T_law_tools G0 2 3 b_law_tools
theorem t_law_tools_law_draw : T_law_tools "_law_draw" = some m_law_draw := rfl
def b_law_form_1 : E := (.call "_law_draw" (.cons (.var 0) (.cons (.var 1) .nil)))
def b_law_form : Ss := (.cons (.asg 3 (.bin true .mul (.lst false (.cons (.int 0) .nil)) (.var 2))) (.cons (.asg 4 (.call "_law_draw" (.cons (.var 0) (.cons (.int 5) .nil)))) (.cons (.ite (.bo true (.cons (.cmp .eq (.var 4) (.int 1)) (.cons (.cmp .gt (.var 2) (.int 0)) .nil))) (.cons (.asg 5 (.call "_law_draw" (.cons (.var 0) (.cons (.var 2) .nil)))) (.cons (.sto (.var 3) (.var 5) (.int 1)) .nil)) .nil) (.cons (.ite (.cmp .gt (.var 4) (.int 1)) (.cons (.asg 3 (.comp true 6 (.rng (.cons (.var 2) .nil)) .no b_law_form_1)) .nil) .nil) (.cons (.ret (.frz (.var 3))) .nil)))))
noncomputable def T_law_form : Tab := lk [("_law_draw", m_law_draw)]
noncomputable def m_law_form : Mir := mkM T_law_form G0 3 7 b_law_form
theorem t_law_form_law_draw : T_law_form "_law_draw" = some m_law_draw := rfl
def b_law_room_1 : E := (.call "_law_form" (.cons (.var 0) (.cons (.var 1) (.cons (.var 2) .nil))))
def b_law_room : Ss := (.cons (.asg 5 (.sub (.lst false (.cons (.int 0) (.cons (.int 0) (.cons (.int 1) (.cons (.int 1) (.cons (.int 2) (.cons (.int 3) (.cons (.int 4) (.cons (.int 99) .nil))))))))) (.call "_law_draw" (.cons (.var 0) (.cons (.int 8) .nil))))) (.cons (.asg 6 (.call "_law_tools" (.cons (.var 0) (.cons (.var 3) .nil)))) (.cons (.asg 7 (.comp false 8 (.rng (.cons (.call "_law_draw" (.cons (.var 0) (.cons (.bin false .add (.var 4) (.int 1)) .nil))) .nil)) .no b_law_room_1)) (.cons (.ret (.lst false (.cons (.var 5) (.cons (.var 6) (.cons (.var 7) .nil))))) .nil))))
noncomputable def T_law_room : Tab := lk [("_law_draw", m_law_draw), ("_law_tools", m_law_tools), ("_law_form", m_law_form)]
noncomputable def m_law_room : Mir := mkM T_law_room G0 5 9 b_law_room
theorem t_law_room_law_draw : T_law_room "_law_draw" = some m_law_draw := rfl
theorem t_law_room_law_tools : T_law_room "_law_tools" = some m_law_tools := rfl
theorem t_law_room_law_form : T_law_room "_law_form" = some m_law_form := rfl
def b_law_needs : Ss := (.cons (.asg 3 (.call "_law_draw" (.cons (.var 0) (.cons (.int 4) .nil)))) (.cons (.ite (.cmp .eq (.var 3) (.int 2)) (.cons (.ret (.g1 false .list (.sub (.sub (.var 2) (.call "_law_draw" (.cons (.var 0) (.cons (.f1 .len (.var 2)) .nil)))) (.int 1)))) .nil) .nil) (.cons (.ite (.cmp .eq (.var 3) (.int 3)) (.cons (.ret (.call "_law_tools" (.cons (.var 0) (.cons (.var 1) .nil)))) .nil) .nil) (.cons (.ret (.lst false .nil)) .nil))))
noncomputable def T_law_needs : Tab := lk [("_law_draw", m_law_draw), ("_law_tools", m_law_tools)]
noncomputable def m_law_needs : Mir := mkM T_law_needs G0 3 4 b_law_needs
theorem t_law_needs_law_draw : T_law_needs "_law_draw" = some m_law_draw := rfl
theorem t_law_needs_law_tools : T_law_needs "_law_tools" = some m_law_tools := rfl
def b_law_code_1 : E := (.bin false .mod (.f1 .int (.bin false .add (.sub (.var 5) (.var 10)) (.bin false .mul (.var 8) (.sub (.var 9) (.var 10))))) (.var 1))
def b_law_code_2 : Ss := (.cons (.asg 7 (.sub (.sub (.var 3) (.call "_law_draw" (.cons (.var 0) (.cons (.f1 .len (.var 3)) .nil)))) (.int 2))) (.cons (.asg 8 (.bin false .add (.int 1) (.call "_law_draw" (.cons (.var 0) (.cons (.bin false .sub (.var 1) (.int 1)) .nil))))) (.cons (.ite (.cmp .gt (.f1 .len (.var 7)) (.int 0)) (.cons (.asg 9 (.sub (.var 7) (.call "_law_draw" (.cons (.var 0) (.cons (.f1 .len (.var 7)) .nil))))) (.cons (.asg 5 (.comp false 10 (.rng (.cons (.var 2) .nil)) .no b_law_code_1)) .nil)) .nil) .nil)))
def b_law_code : Ss := (.cons (.asg 4 (.call "_law_draw" (.cons (.var 0) (.cons (.int 7) .nil)))) (.cons (.ite (.cmp .lt (.var 4) (.int 3)) (.cons (.ret .non) .nil) .nil) (.cons (.ite (.cmp .eq (.var 4) (.int 6)) (.cons (.ret (.call "_law_form" (.cons (.var 0) (.cons (.var 1) (.cons (.var 2) .nil))))) .nil) .nil) (.cons (.asg 5 (.bin false .mul (.lst false (.cons (.int 0) .nil)) (.var 2))) (.cons (.forr 6 (.rng (.cons (.bin false .sub (.var 4) (.int 2)) .nil)) b_law_code_2) (.cons (.ret (.var 5)) .nil))))))
noncomputable def T_law_code : Tab := lk [("_law_draw", m_law_draw), ("_law_form", m_law_form)]
noncomputable def m_law_code : Mir := mkM T_law_code G0 4 11 b_law_code
theorem t_law_code_law_draw : T_law_code "_law_draw" = some m_law_draw := rfl
theorem t_law_code_law_form : T_law_code "_law_form" = some m_law_form := rfl
def b_law_door : Ss := (.cons (.asg 6 (.f1 .len (.var 4))) (.cons (.asg 7 (.call "_law_draw" (.cons (.var 0) (.cons (.var 6) .nil)))) (.cons (.asg 8 (.bin false .mod (.f1 .int (.bin false .add (.bin false .add (.var 7) (.int 1)) (.call "_law_draw" (.cons (.var 0) (.cons (.bin false .sub (.var 6) (.int 1)) .nil))))) (.var 6))) (.cons (.ite (.cmp .gt (.call "_law_draw" (.cons (.var 0) (.cons (.int 4) .nil))) (.int 0)) (.cons (.asg 8 (.bin false .add (.int 1) (.bin false .mod (.f1 .int (.var 5)) (.bin false .sub (.var 6) (.int 1))))) (.cons (.asg 7 (.call "_law_draw" (.cons (.var 0) (.cons (.var 8) .nil)))) .nil)) .nil) (.cons (.asg 9 (.bin false .add (.int 1) (.call "_law_draw" (.cons (.var 0) (.cons (.int 60) .nil))))) (.cons (.asg 10 (.sub (.lst false (.cons (.int 0) (.cons (.int 0) (.cons (.int 0) (.cons (.int 1) (.cons (.int 1) (.cons (.int 1) (.cons (.int 2) (.cons (.int 9) .nil))))))))) (.call "_law_draw" (.cons (.var 0) (.cons (.int 8) .nil))))) (.cons (.asg 11 (.call "_law_needs" (.cons (.var 0) (.cons (.var 3) (.cons (.var 4) .nil))))) (.cons (.ret (.lst false (.cons (.var 7) (.cons (.var 8) (.cons (.var 9) (.cons (.var 10) (.cons (.var 11) (.cons (.call "_law_code" (.cons (.var 0) (.cons (.var 1) (.cons (.var 2) (.cons (.var 4) .nil))))) .nil)))))))) .nil))))))))
noncomputable def T_law_door : Tab := lk [("_law_draw", m_law_draw), ("_law_needs", m_law_needs), ("_law_code", m_law_code)]
noncomputable def m_law_door : Mir := mkM T_law_door G0 6 12 b_law_door
theorem t_law_door_law_draw : T_law_door "_law_draw" = some m_law_draw := rfl
theorem t_law_door_law_needs : T_law_door "_law_needs" = some m_law_needs := rfl
theorem t_law_door_law_code : T_law_door "_law_code" = some m_law_code := rfl
def b_law_house_1 : Ss := (.cons (.expr (.app (.var 10) (.call "_law_room" (.cons (.call "_law_source" (.cons (.var 0) (.cons (.bin false .add (.bin false .add (.var 1) (.int 1)) (.var 11)) .nil))) (.cons (.var 7) (.cons (.var 8) (.cons (.var 9) (.cons (.var 5) .nil)))))))) .nil)
def b_law_house_2 : Ss := (.cons (.asg 13 (.call "_law_source" (.cons (.var 0) (.cons (.bin false .add (.bin false .add (.bin false .add (.var 1) (.int 1)) (.var 2)) (.var 11)) .nil)))) (.cons (.expr (.app (.var 12) (.call "_law_door" (.cons (.var 13) (.cons (.var 7) (.cons (.var 8) (.cons (.var 9) (.cons (.frz (.var 10)) (.cons (.var 11) .nil))))))))) .nil))
def b_law_house_c8 : Ss := (.cons (.ret (.lst false (.cons (.var 7) (.cons (.var 8) (.cons (.frz (.var 10)) (.cons (.frz (.var 12)) (.cons (.call "_law_draw" (.cons (.var 6) (.cons (.f1 .len (.var 10)) .nil))) .nil))))))) .nil)
def b_law_house_c6 : Ss := (.cons (.asg 12 (.lst true .nil)) (.cons (.ite (.cmp .gt (.f1 .len (.var 10)) (.int 1)) (.cons (.forr 11 (.rng (.cons (.call "_law_draw" (.cons (.var 6) (.cons (.bin false .add (.var 3) (.int 1)) .nil))) .nil)) b_law_house_2) .nil) .nil) b_law_house_c8))
def b_law_house : Ss := (.cons (.asg 6 (.call "_law_source" (.cons (.var 0) (.cons (.var 1) .nil)))) (.cons (.asg 7 (.sub (.lst false (.cons (.int 2) (.cons (.int 3) (.cons (.int 5) (.cons (.int 7) (.cons (.int 11) (.cons (.int 13) (.cons (.int 17) (.cons (.int 19) (.cons (.int 23) (.cons (.int 29) (.cons (.int 31) .nil)))))))))))) (.call "_law_draw" (.cons (.var 6) (.cons (.int 11) .nil))))) (.cons (.asg 8 (.call "_law_draw" (.cons (.var 6) (.cons (.bin false .add (.var 4) (.int 1)) .nil)))) (.cons (.asg 9 (.sub (.lst false (.cons (.int 2) (.cons (.int 2) (.cons (.int 4) (.cons (.int 16) .nil))))) (.call "_law_draw" (.cons (.var 6) (.cons (.int 4) .nil))))) (.cons (.asg 10 (.lst true .nil)) (.cons (.forr 11 (.rng (.cons (.bin false .add (.int 1) (.call "_law_draw" (.cons (.var 6) (.cons (.var 2) .nil)))) .nil)) b_law_house_1) b_law_house_c6))))))
noncomputable def T_law_house : Tab := lk [("_law_source", m_law_source), ("_law_draw", m_law_draw), ("_law_room", m_law_room), ("_law_door", m_law_door)]
noncomputable def m_law_house : Mir := mkM T_law_house G0 6 14 b_law_house
theorem t_law_house_law_source : T_law_house "_law_source" = some m_law_source := rfl
theorem t_law_house_law_draw : T_law_house "_law_draw" = some m_law_draw := rfl
theorem t_law_house_law_room : T_law_house "_law_room" = some m_law_room := rfl
theorem t_law_house_law_door : T_law_house "_law_door" = some m_law_door := rfl
def b_law_1 : Ss := (.cons (.asg 4 (.sub (.lst false (.cons (.int 0) (.cons (.neg (.int 1)) (.cons (.int 10000) (.cons (.int 10001) (.cons (.bin false .pow (.int 10) (.int 15)) (.cons (.neg (.bin false .pow (.int 10) (.int 15))) .nil))))))) (.call "_law_draw" (.cons (.var 1) (.cons (.int 6) .nil))))) .nil)
def b_law_2 : Ss := (.cons (.asg 7 (.call "_law_due" (.cons (.var 2) (.cons (.var 3) (.cons (.var 4) (.cons (.var 6) .nil)))))) (.cons (.asg 8 (.call "_law_told" (.cons (.g1 false .list (.var 2)) (.cons (.g1 false .tuple (.var 3)) (.cons (.var 4) (.cons (.var 5) (.cons (.var 6) .nil))))))) (.cons (.ite (.bo true (.cons (.cmp .gt (.f1 .len (.var 7)) (.int 0)) (.cons (.cmp .ne (.var 8) (.bin false .add (.var 7) (.lst false (.cons (.bl true) .nil)))) .nil))) (.cons (.ret (.bl false)) .nil) .nil) (.cons (.ite (.bo true (.cons (.cmp .eq (.f1 .len (.var 7)) (.int 0)) (.cons (.cmp .ne (.var 8) (.lst false .nil)) .nil))) (.cons (.ret (.bl false)) .nil) .nil) .nil))))
def b_law_c4 : Ss := (.cons (.ite (.cmp .eq (.call "_law_draw" (.cons (.var 1) (.cons (.int 4) .nil))) (.int 0)) b_law_1 .nil) (.cons (.asg 5 (.call "_law_draw" (.cons (.var 1) (.cons (.int 60) .nil)))) (.cons (.forr 6 (.rng (.cons (.int 7) .nil)) b_law_2) (.cons (.ret (.call "_law_work_right" (.cons (.call "_law_house" (.cons (.var 0) (.cons (.int 4) (.cons (.int 4) (.cons (.int 5) (.cons (.int 1) (.cons (.int 1) .nil))))))) (.cons (.var 1) .nil)))) .nil))))
def b_law : Ss := (.cons (.asg 1 (.call "_law_source" (.cons (.var 0) (.cons (.int 0) .nil)))) (.cons (.asg 2 (.call "_law_route" (.cons (.call "_law_source" (.cons (.var 0) (.cons (.int 1) .nil))) .nil))) (.cons (.asg 3 (.call "_law_slots" (.cons (.call "_law_source" (.cons (.var 0) (.cons (.int 2) .nil))) (.cons (.f1 .len (.var 2)) .nil)))) (.cons (.asg 4 (.bin false .add (.int 1) (.call "_law_draw" (.cons (.var 1) (.cons (.int 9) .nil))))) b_law_c4))))
noncomputable def T_law : Tab := lk [("_law_source", m_law_source), ("_law_route", m_law_route), ("_law_slots", m_law_slots), ("_law_draw", m_law_draw), ("_law_due", m_law_due), ("_law_told", m_law_told), ("_law_work_right", m_law_work_right), ("_law_house", m_law_house)]
noncomputable def m_law : Mir := mkM T_law G0 1 9 b_law
theorem t_law_law_source : T_law "_law_source" = some m_law_source := rfl
theorem t_law_law_route : T_law "_law_route" = some m_law_route := rfl
theorem t_law_law_slots : T_law "_law_slots" = some m_law_slots := rfl
theorem t_law_law_draw : T_law "_law_draw" = some m_law_draw := rfl
theorem t_law_law_due : T_law "_law_due" = some m_law_due := rfl
theorem t_law_law_told : T_law "_law_told" = some m_law_told := rfl
theorem t_law_law_work_right : T_law "_law_work_right" = some m_law_work_right := rfl
theorem t_law_law_house : T_law "_law_house" = some m_law_house := rfl
local macro_rules | `(tactic| simp_arith [$args,*]) => `(tactic| simp -implicitDefEqProofs only [List.map_cons, List.map_nil, List.length_cons, List.length_nil, List.cons_append, List.nil_append, List.getElem?_cons_zero, List.getElem?_cons_succ, List.set_cons_zero, List.set_cons_succ, MP.R.bind_ok, MP.R.bind_exn, MP.R.st_ok, MP.R.st_exn, RS.bind_next, RS.bind_ret, RS.bind_brk, RS.bind_cnt, RS.bind_exn, isTy, isL, if_true, if_false, Bool.false_eq_true, Bool.true_eq_false, Bool.not_false, Bool.not_true, reduceIte, cmp_lt, cmp_le, cmp_gt, cmp_ge, cmp_is, cmp_isnot, cmp_isb, cmp_isnotb, ite_andv, ite_orv, ite_andt, ite_ort, ite_andq, bV_add, bV_sub, bV_mod, bV_fdivL, bV_tup, bV_catl, bV_powL, newL_f, newL_t, newT_f, le_sz, lt_sz, Nat.reduceLeDiff, Int.reducePow, Int.reduceMul, Int.reduceAdd, Int.reduceSub, Int.reduceMod, Int.reduceDiv, Nat.reducePow, Nat.reduceMul, Int.reduceEq, Int.reduceNe, MP.l_cell, MP.l_seq, MP.l_lst, MP.l_app, MP.l_frz, MP.l_sto, MP.oCell_, MP.oSeq_, MP.oLst_, MP.oApp_, MP.oFrz_, MP.oFrz_f, MP.oFrz_o, MP.oSto_, MP.oSto2_, MP.l_len, MP.oLen_, MP.l_fld, MP.l_stf, MP.l_obj, MP.setN_c, MP.setN_n, MP.l_ix, MP.l_ixl, MP.l_ixt, MP.oIx_, MP.oIx2_, MP.at_0, MP.at_1, MP.at_2, MP.at_3, MP.g_0, MP.g_1, MP.g_2, MP.g_3, MP.s_0, MP.s_1, MP.s_2, MP.s_3, List.length_append, List.append_assoc, veq_int, vne_int, veq_bl, truth_bl, List.replicate_succ, List.replicate_zero, seqOf_tup, seqOf_lst, seqOf_scr, len_tup, len_lst, len_scr, lstOf_lst, mm_int, Nat.zero_add, Nat.reduceAdd, Nat.reduceSub, Int.reduceNeg, int_int, Int.reduceLT, Int.reduceLE, Nat.reduceLT, Int.reduceToNat, true_and, and_true, decide_true, decide_false, id_eq, outS_go, outS_ret, bl_ne1, bl_ne2, noExn_ok, Bool.true_and, Bool.and_true, Bool.false_and, Bool.and_false, Bool.true_or, Bool.or_true, Bool.false_or, Bool.or_false, MP.v_var, MP.t_var, MP.i_var, MP.v_int, MP.t_int, MP.i_int, MP.v_bl, MP.t_bl, MP.i_bl, MP.v_non, MP.t_non, MP.i_non, MP.v_str, MP.t_str, MP.i_str, MP.v_glob, MP.t_glob, MP.i_glob, MP.v_tup, MP.t_tup, MP.i_tup, MP.v_lst, MP.t_lst, MP.i_lst, MP.v_bin, MP.t_bin, MP.i_bin, MP.v_neg, MP.t_neg, MP.i_neg, MP.v_not, MP.t_not, MP.v_cmp, MP.t_cmp, MP.i_cmp, MP.v_chain, MP.t_chain, MP.i_chain, MP.v_bo, MP.t_bo, MP.v_ifx, MP.i_ifx, MP.v_call, MP.t_call, MP.i_call, MP.v_isi, MP.t_isi, MP.i_isi, MP.v_isi2, MP.t_isi2, MP.i_isi2, MP.v_f1, MP.t_f1, MP.i_f1, MP.v_mm, MP.t_mm, MP.i_mm, MP.v_g1, MP.t_g1, MP.i_g1, MP.v_sub, MP.t_sub, MP.i_sub, MP.v_slc, MP.t_slc, MP.i_slc, MP.v_no, MP.t_no, MP.i_rng, MP.v_comp, MP.t_comp, MP.i_comp, MP.v_xfld, MP.t_xfld, MP.v_xis, MP.t_xis, MP.kFld_, MP.kFl2_, MP.kIs_, MP.v_fld, MP.t_fld, MP.i_fld, MP.v_new, MP.v_meth, MP.t_meth, MP.i_meth, MP.kFldO_, MP.kNew_, MP.kNew2_, MP.kMeth_, MP.kMeth2_, MP.v_frz, MP.i_frz, MP.v_app, MP.es_nil, MP.es_cons, MP.bo_1, MP.bo_2, MP.bt_1, MP.bt_2, MP.kVar_, MP.kGl_, MP.kTr_, MP.kTr2_, MP.kI1_t, MP.kI1_l, MP.kI1_s, MP.kTup_, MP.kLst_, MP.kBin_, MP.kBin2_, MP.kNeg_, MP.kNot_, MP.kNotT_, MP.kB_, MP.kVl_, MP.kCmp_, MP.kCmp2_, MP.kCh_, MP.kCh2_, MP.kCh2b_, MP.kCh3_, MP.kIfx_, MP.kCall_, MP.kCal_, MP.kIsi_, MP.kIsi2_, MP.kF1_, MP.kMm_, MP.kMm2_, MP.kG1_, MP.kSub_, MP.kSub2_, MP.kSl_, MP.kSl2_, MP.kSl2b_, MP.kSl3_, MP.kSl3b_, MP.kRng_, MP.kRng2_, MP.kComp_, MP.kFrz_, MP.kApp_, MP.kApp2_, MP.kEs_, MP.kEs2_, MP.kBo_, MP.kBoT_, MP.x_asg, MP.x_sto, MP.x_stf, MP.x_asgt, MP.x_fort, MP.kStf_, MP.kStf2_, MP.kAsgt_, MP.kAsgt3_, MP.kFort_, MP.x_expr, MP.x_ite, MP.x_for, MP.x_while, MP.x_ret, MP.x_retn, MP.x_pass, MP.x_brk, MP.x_cnt, MP.x_raise, MP.x_try, MP.kRaise_, MP.kTry_n, MP.kTry_r, MP.kTry_b, MP.kTry_c, MP.kTry_e, MP.h_nil, MP.h_cons, MP.endH_n, MP.endH_b, MP.endH_c, MP.endH_r, MP.clrS_n, MP.clrS_s, MP.xs_nil, MP.xs_cons, MP.kAsg_, MP.kExp_, MP.kIte_, MP.kFor_, MP.kRet_, MP.kSto_, MP.kSto2_, MP.kSto3_, MP.kSto4_, MP.runB_, MP.kRun_n, MP.kRun_r, MP.kRun_e, hc, List.any_cons, List.any_nil, $args,*])
local macro_rules | `(tactic| simp_arith [$args,*] at $h:ident) => `(tactic| simp -implicitDefEqProofs only [List.map_cons, List.map_nil, List.length_cons, List.length_nil, List.cons_append, List.nil_append, List.getElem?_cons_zero, List.getElem?_cons_succ, List.set_cons_zero, List.set_cons_succ, MP.R.bind_ok, MP.R.bind_exn, MP.R.st_ok, MP.R.st_exn, RS.bind_next, RS.bind_ret, RS.bind_brk, RS.bind_cnt, RS.bind_exn, isTy, isL, if_true, if_false, Bool.false_eq_true, Bool.true_eq_false, Bool.not_false, Bool.not_true, reduceIte, cmp_lt, cmp_le, cmp_gt, cmp_ge, cmp_is, cmp_isnot, cmp_isb, cmp_isnotb, ite_andv, ite_orv, ite_andt, ite_ort, ite_andq, bV_add, bV_sub, bV_mod, bV_fdivL, bV_tup, bV_catl, bV_powL, newL_f, newL_t, newT_f, le_sz, lt_sz, Nat.reduceLeDiff, Int.reducePow, Int.reduceMul, Int.reduceAdd, Int.reduceSub, Int.reduceMod, Int.reduceDiv, Nat.reducePow, Nat.reduceMul, Int.reduceEq, Int.reduceNe, MP.l_cell, MP.l_seq, MP.l_lst, MP.l_app, MP.l_frz, MP.l_sto, MP.oCell_, MP.oSeq_, MP.oLst_, MP.oApp_, MP.oFrz_, MP.oFrz_f, MP.oFrz_o, MP.oSto_, MP.oSto2_, MP.l_len, MP.oLen_, MP.l_fld, MP.l_stf, MP.l_obj, MP.setN_c, MP.setN_n, MP.l_ix, MP.l_ixl, MP.l_ixt, MP.oIx_, MP.oIx2_, MP.at_0, MP.at_1, MP.at_2, MP.at_3, MP.g_0, MP.g_1, MP.g_2, MP.g_3, MP.s_0, MP.s_1, MP.s_2, MP.s_3, List.length_append, List.append_assoc, veq_int, vne_int, veq_bl, truth_bl, List.replicate_succ, List.replicate_zero, seqOf_tup, seqOf_lst, seqOf_scr, len_tup, len_lst, len_scr, lstOf_lst, mm_int, Nat.zero_add, Nat.reduceAdd, Nat.reduceSub, Int.reduceNeg, int_int, Int.reduceLT, Int.reduceLE, Nat.reduceLT, Int.reduceToNat, true_and, and_true, decide_true, decide_false, id_eq, outS_go, outS_ret, bl_ne1, bl_ne2, noExn_ok, Bool.true_and, Bool.and_true, Bool.false_and, Bool.and_false, Bool.true_or, Bool.or_true, Bool.false_or, Bool.or_false, MP.v_var, MP.t_var, MP.i_var, MP.v_int, MP.t_int, MP.i_int, MP.v_bl, MP.t_bl, MP.i_bl, MP.v_non, MP.t_non, MP.i_non, MP.v_str, MP.t_str, MP.i_str, MP.v_glob, MP.t_glob, MP.i_glob, MP.v_tup, MP.t_tup, MP.i_tup, MP.v_lst, MP.t_lst, MP.i_lst, MP.v_bin, MP.t_bin, MP.i_bin, MP.v_neg, MP.t_neg, MP.i_neg, MP.v_not, MP.t_not, MP.v_cmp, MP.t_cmp, MP.i_cmp, MP.v_chain, MP.t_chain, MP.i_chain, MP.v_bo, MP.t_bo, MP.v_ifx, MP.i_ifx, MP.v_call, MP.t_call, MP.i_call, MP.v_isi, MP.t_isi, MP.i_isi, MP.v_isi2, MP.t_isi2, MP.i_isi2, MP.v_f1, MP.t_f1, MP.i_f1, MP.v_mm, MP.t_mm, MP.i_mm, MP.v_g1, MP.t_g1, MP.i_g1, MP.v_sub, MP.t_sub, MP.i_sub, MP.v_slc, MP.t_slc, MP.i_slc, MP.v_no, MP.t_no, MP.i_rng, MP.v_comp, MP.t_comp, MP.i_comp, MP.v_xfld, MP.t_xfld, MP.v_xis, MP.t_xis, MP.kFld_, MP.kFl2_, MP.kIs_, MP.v_fld, MP.t_fld, MP.i_fld, MP.v_new, MP.v_meth, MP.t_meth, MP.i_meth, MP.kFldO_, MP.kNew_, MP.kNew2_, MP.kMeth_, MP.kMeth2_, MP.v_frz, MP.i_frz, MP.v_app, MP.es_nil, MP.es_cons, MP.bo_1, MP.bo_2, MP.bt_1, MP.bt_2, MP.kVar_, MP.kGl_, MP.kTr_, MP.kTr2_, MP.kI1_t, MP.kI1_l, MP.kI1_s, MP.kTup_, MP.kLst_, MP.kBin_, MP.kBin2_, MP.kNeg_, MP.kNot_, MP.kNotT_, MP.kB_, MP.kVl_, MP.kCmp_, MP.kCmp2_, MP.kCh_, MP.kCh2_, MP.kCh2b_, MP.kCh3_, MP.kIfx_, MP.kCall_, MP.kCal_, MP.kIsi_, MP.kIsi2_, MP.kF1_, MP.kMm_, MP.kMm2_, MP.kG1_, MP.kSub_, MP.kSub2_, MP.kSl_, MP.kSl2_, MP.kSl2b_, MP.kSl3_, MP.kSl3b_, MP.kRng_, MP.kRng2_, MP.kComp_, MP.kFrz_, MP.kApp_, MP.kApp2_, MP.kEs_, MP.kEs2_, MP.kBo_, MP.kBoT_, MP.x_asg, MP.x_sto, MP.x_stf, MP.x_asgt, MP.x_fort, MP.kStf_, MP.kStf2_, MP.kAsgt_, MP.kAsgt3_, MP.kFort_, MP.x_expr, MP.x_ite, MP.x_for, MP.x_while, MP.x_ret, MP.x_retn, MP.x_pass, MP.x_brk, MP.x_cnt, MP.x_raise, MP.x_try, MP.kRaise_, MP.kTry_n, MP.kTry_r, MP.kTry_b, MP.kTry_c, MP.kTry_e, MP.h_nil, MP.h_cons, MP.endH_n, MP.endH_b, MP.endH_c, MP.endH_r, MP.clrS_n, MP.clrS_s, MP.xs_nil, MP.xs_cons, MP.kAsg_, MP.kExp_, MP.kIte_, MP.kFor_, MP.kRet_, MP.kSto_, MP.kSto2_, MP.kSto3_, MP.kSto4_, MP.runB_, MP.kRun_n, MP.kRun_r, MP.kRun_e, hc, List.any_cons, List.any_nil, $args,*] at $h:ident)
/-! drawn numbers: a source is a cell of two numbers -/
def srcC (a b : Int) : Cell := .lst [.int a, .int b]
def SrcOk (a b : Int) : Prop := 0 ≤ a ∧ bd bits a ∧ 0 ≤ b ∧ b < 2147483647
theorem c_source (ns : List Int) (hns : ∀ z ∈ ns, bd bits z) {k : Int} (hk0 : 0 ≤ k) (hk : k ≤ 1000) : ∃ a b, SrcOk a b ∧ ∀ st : Store, m_law_source [.scr (vInts ns), .int k] st = .ok (.loc st.length, st ++ [srcC a b]) := by
  obtain ⟨n, rfl⟩ : ∃ n : Nat, k = n := ⟨k.toNat, by omega⟩
  have hm : ∀ x : Int, mulOk x 48271 = true ↔ mulOk x 48271 = true := fun _ => Iff.rfl
  have h2 : mulOk (n : Int) 69621 = true := mul_ok (n := 20) (k := 20) (bd_lt (by omega) (by omega)) (bd_lt (by decide) (by decide)) (by decide)
  by_cases h : n < ns.length
  · generalize hx : (if cell ns n < 0 then -cell ns n else cell ns n) = x
    have hb := bd_cell hns n
    have hx0 : 0 ≤ x := by rw [← hx]; split <;> omega
    have hxb : bd bits x := by
      unfold bd at *; rw [← hx]; split <;> omega
    have h1 : mulOk x 48271 = true := mul_ok (k := 20) hxb (bd_lt (by decide) (by decide)) (by decide)
    refine ⟨x, (x * 48271 + 1013904223 + n * 69621) % 2147483647, ⟨hx0, hxb, Int.emod_nonneg _ (by decide), Int.emod_lt_of_pos _ (by decide)⟩, fun st => mk_loc rfl ?_ (Nat.le_refl _)⟩
    have ha : f1V .abs (.int (cell ns n)) st = .ok (.int x) := by rw [← hx]; rfl
    simp_arith [b_law_source, vInts_len, Int.ofNat_lt, h, ix_scr h, ha, bV_mul h1, bV_mul h2, srcC]
  · refine ⟨0, (0 * 48271 + 1013904223 + n * 69621) % 2147483647, ⟨Int.le_refl _, bd_0, Int.emod_nonneg _ (by decide), Int.emod_lt_of_pos _ (by decide)⟩, fun st => mk_loc rfl ?_ (Nat.le_refl _)⟩
    have h1 : mulOk 0 48271 = true := by decide
    simp_arith [b_law_source, vInts_len, Int.ofNat_lt, h, bV_mul h1, bV_mul h2, srcC]
theorem c_draw {a b lim : Int} (ok : SrcOk a b) (h0 : 0 < lim) (h1 : lim ≤ 1000000000000) : ∃ v a' b', SrcOk a' b' ∧ 0 ≤ v ∧ v < lim ∧ ∀ (st : Store) (n : Nat), st[n]? = some (srcC a b) → m_law_draw [.loc n, .int lim] st = .ok (.int v, st.set n (srcC a' b')) := by
  obtain ⟨a0, ab, b0, b1⟩ := ok
  by_cases h : (1000000 : Int) ≤ a
  · refine ⟨a % lim, a / lim, b, ⟨Int.ediv_nonneg a0 (by omega), ?_, b0, b1⟩, Int.emod_nonneg _ (by omega), Int.emod_lt_of_pos _ h0, fun st n hn => ?_⟩
    · have : a / lim ≤ a := Int.ediv_le_self _ a0
      have : 0 ≤ a / lim := Int.ediv_nonneg a0 (by omega)
      unfold bd at *; omega
    · refine mk_set (g := []) rfl ?_ rfl rfl
      have hn' : st[n]? = some (.lst [.int a, .int b]) := hn
      simp_arith [b_law_draw, hn', h, bV_mod h0, bV_fdivL h0 h1, ixN_0, List.length_cons, List.append_nil, srcC, Nat.lt_add_one, Nat.zero_lt_succ]
  · have hm : mulOk b 48271 = true := mul_ok (n := 32) (k := 20) (bd_lt (by omega) (by omega)) (bd_lt (by decide) (by decide)) (by decide)
    generalize hy : (b * 48271 + a + 1) % 2147483647 = y
    have y0 : 0 ≤ y := by rw [← hy]; exact Int.emod_nonneg _ (by decide)
    have y1 : y < 2147483647 := by rw [← hy]; exact Int.emod_lt_of_pos _ (by decide)
    refine ⟨y / 11 % lim, a, y, ⟨a0, ab, y0, y1⟩, Int.emod_nonneg _ (by omega), Int.emod_lt_of_pos _ h0, fun st n hn => ?_⟩
    refine mk_set (g := []) rfl ?_ rfl rfl
    have hn' : st[n]? = some (.lst [.int a, .int b]) := hn
    have h1' : ixN 2 1 = some 1 := rfl
    have hg : ∀ x : Cell, (st.set n x)[n]? = some x := fun x => g_set hn'
    simp_arith [b_law_draw, hn', h, bV_mod h0, bV_mul hm, hy, h1', hg, List.append_nil, srcC]
theorem ints_of {P : Int → Prop} : ∀ {ys : List Val}, (∀ y ∈ ys, ∃ i, y = .int i ∧ P i) → ∃ rs : List Int, ys = vInts rs ∧ ∀ r ∈ rs, P r
  | [], _ => ⟨[], rfl, by intro r h; cases h⟩
  | y :: ys, h => by
    obtain ⟨i, rfl, hi⟩ := h y (List.mem_cons_self ..)
    obtain ⟨rs, h1, h2⟩ := ints_of (ys := ys) fun z hz => h z (List.mem_cons_of_mem _ hz)
    refine ⟨i :: rs, by rw [h1]; rfl, fun r hr => ?_⟩
    rcases List.mem_cons.mp hr with rfl | hr
    · exact hi
    · exact h2 r hr
/-- a draw, in a store whose last cell is the source -/
theorem draw_end {a b lim : Int} (ok : SrcOk a b) (h0 : 0 < lim) (h1 : lim ≤ 1000000000000) (st : Store) : ∃ v a' b', SrcOk a' b' ∧ 0 ≤ v ∧ v < lim ∧ ∀ r : Store, m_law_draw [.loc st.length, .int lim] (st ++ srcC a b :: r) = .ok (.int v, st ++ srcC a' b' :: r) := by
  obtain ⟨v, a', b', h2, h3, h4, h5⟩ := c_draw ok h0 h1
  exact ⟨v, a', b', h2, h3, h4, fun r => by rw [h5 _ _ g_0, s_0]⟩
/-! rows.py: of whole numbers -/
section
variable {st : Store}
theorem c_whole (i : Int) : m_is_whole [.int i] st = .ok (.bl true, st) := mk_pure0 rfl (by simp_arith [b_is_whole]) rfl
theorem c_between (i l u : Int) : m_is_between [.int i, .int l, .int u] st = .ok (.bl (decide (l ≤ i) && decide (i ≤ u)), st) := mk_pure0 rfl (by
  by_cases h : l ≤ i
  · simp_arith [b_is_between, t_is_between_is_whole, c_whole, h]
  · simp_arith [b_is_between, t_is_between_is_whole, c_whole, h]) rfl
end
theorem c_isint (i : Int) {st : Store} : m_law_is_integer [.int i] st = .ok (.bl true, st) := mk_pure0 rfl (by simp_arith [b_law_is_integer]) rfl
/-! functions that draw from a source: uniform in the store -/
section
def SrcE (m : Mir) (args : List Val) (a b : Int) (v : Val) (a' b' : Int) : Prop := ∀ (st : Store) (n : Nat), st[n]? = some (srcC a b) → m (.loc n :: args) st = .ok (v, st.set n (srcC a' b'))
variable {st : Store} {n : Nat} {m : Mir} {args : List Val} {a b a' b' : Int} {v : Val}
theorem gs_0 {c x : Cell} {r : Store} : (st.set n c ++ x :: r)[st.length]? = some x := by
  have := g_0 (st := st.set n c) (a := x) (r := r); rwa [List.length_set] at this
theorem gs_1 {c x y : Cell} {r : Store} : (st.set n c ++ x :: y :: r)[st.length + 1]? = some y := by
  have := g_1 (st := st.set n c) (a := x) (b := y) (r := r); rwa [List.length_set] at this
theorem ss_0 {c x y : Cell} {r : Store} : (st.set n c ++ x :: r).set st.length y = st.set n c ++ y :: r := by
  have := s_0 (st := st.set n c) (a := x) (r := r) (x := y); rwa [List.length_set] at this
theorem ss_1 {c x y z : Cell} {r : Store} : (st.set n c ++ x :: y :: r).set (st.length + 1) z = st.set n c ++ x :: z :: r := by
  have := s_1 (st := st.set n c) (a := x) (b := y) (r := r) (x := z); rwa [List.length_set] at this
theorem SrcE.first (h : SrcE m args a b v a' b') (hn : st[n]? = some (srcC a b)) : m (.loc n :: args) st = .ok (v, st.set n (srcC a' b')) ∧ ∀ g : Store, m (.loc n :: args) (st ++ g) = .ok (v, st.set n (srcC a' b') ++ g) :=
  ⟨h st n hn, fun g => by rw [h _ n (g_old hn), s_old hn]⟩
theorem SrcE.next (h : SrcE m args a b v a' b') {c : Cell} (hn : st[n]? = some c) : m (.loc n :: args) (st.set n (srcC a b)) = .ok (v, st.set n (srcC a' b')) ∧ ∀ g : Store, m (.loc n :: args) (st.set n (srcC a b) ++ g) = .ok (v, st.set n (srcC a' b') ++ g) := by
  obtain ⟨h1, h2⟩ := h.first (st := st.set n (srcC a b)) (n := n) (g_set hn)
  rw [List.set_set] at h1 h2
  exact ⟨h1, h2⟩
/-- a draw -/
theorem d_draw {a b lim : Int} (ok : SrcOk a b) (h0 : 0 < lim) (h1 : lim ≤ 1000000000000) : ∃ v a' b', SrcOk a' b' ∧ 0 ≤ v ∧ v < lim ∧ SrcE m_law_draw [.int lim] a b (.int v) a' b' := by
  obtain ⟨v, a', b', h2, h3, h4, h5⟩ := c_draw ok h0 h1
  exact ⟨v, a', b', h2, h3, h4, h5⟩
/-- a comprehension that draws -/
theorem compL_src {c : MP.Env → Store → R (Bool × Store)} {e : MP.Env → Store → RV} {x : Nat} {env : Nat → Store → MP.Env} {Q P : Val → Prop} (hc : ∀ v st n s, Q v → c ((env n st).set x (some v)) s = .ok (true, s))
    (h : ∀ v a b, Q v → SrcOk a b → ∃ y a' b', SrcOk a' b' ∧ P y ∧ ∀ (st : Store) (n : Nat) (d : Cell), st[n]? = some d → (e ((env n st).set x (some v)) (st.set n (srcC a b)) = .ok (y, st.set n (srcC a' b')) ∧ ∀ g : Store, e ((env n st).set x (some v)) (st.set n (srcC a b) ++ g) = .ok (y, st.set n (srcC a' b') ++ g))) :
    ∀ (xs : List Val) (a b : Int), (∀ v ∈ xs, Q v) → SrcOk a b → ∃ ys a' b', SrcOk a' b' ∧ ys.length = xs.length ∧ (∀ y ∈ ys, P y) ∧ ∀ (st : Store) (n : Nat) (d : Cell), st[n]? = some d → (compL c e x xs (env n st) (st.set n (srcC a b)) = .ok (ys, st.set n (srcC a' b')) ∧ ∀ g : Store, compL c e x xs (env n st) (st.set n (srcC a b) ++ g) = .ok (ys, st.set n (srcC a' b') ++ g))
  | [], a, b, _, ok => ⟨[], a, b, ok, rfl, (by intro y h; cases h), fun st n d _ => ⟨rfl, fun g => rfl⟩⟩
  | v :: vs, a, b, hq, ok => by
    obtain ⟨y, a1, b1, ok1, p1, e1⟩ := h v a b (hq v (List.mem_cons_self ..)) ok
    obtain ⟨ys, a2, b2, ok2, l2, p2, e2⟩ := compL_src hc h vs a1 b1 (fun u hu => hq u (List.mem_cons_of_mem _ hu)) ok1
    refine ⟨y :: ys, a2, b2, ok2, by simp [l2], fun z hz => ?_, fun st n d hn => ?_⟩
    · rcases List.mem_cons.mp hz with rfl | hz
      · exact p1
      · exact p2 z hz
    · have hv := hq v (List.mem_cons_self ..)
      obtain ⟨q1, q2⟩ := e1 st n d hn
      obtain ⟨q3, q4⟩ := e2 st n d hn
      exact ⟨by simp only [compL, hc v st n _ hv, R.bind_ok, if_true, q1, q3], fun g => by simp only [compL, hc v st n _ hv, R.bind_ok, if_true, q2, q4]⟩
theorem pos_of {v : Int} (h : 0 ≤ v) : ∃ k : Nat, v = k := ⟨v.toNat, by omega⟩
end
/-! a drawn house: rows, tools, rooms -/
section
variable {a b p : Int} {z : Nat}
theorem zeros_l {m : Bool} {st : Store} (hz : z ≤ 1000) : binV m .mul (.lst [.int 0]) (.int (z : Int)) st = newL m (vInts (List.replicate z 0)) st := by
  have e : (List.replicate z [Val.int 0]).flatten = vInts (List.replicate z 0) := by
    clear hz; unfold vInts
    induction z with
    | zero => rfl
    | succ z ih => rw [List.replicate_succ, List.flatten_cons, ih]; rfl
  show (match lstOf st (.lst [.int 0]) with | some xs => if xs.length * (z : Int).toNat ≤ szMax ∧ (z : Int) ≤ 1000000 ∧ -1000000 ≤ (z : Int) then newL m (List.replicate (z : Int).toNat xs).flatten st else .stuck | none => .stuck) = _
  rw [lstOf_lst]
  dsimp only
  rw [if_pos ⟨by simp [szMax]; omega, by omega, by omega⟩, Int.toNat_natCast, e]
theorem vInts_set {r : List Int} {k : Nat} {i : Int} : (vInts r).set k (.int i) = vInts (r.set k i) := by unfold vInts; rw [List.map_set]
def InP (p : Int) (row : List Int) : Prop := ∀ x ∈ row, 0 ≤ x ∧ x < p
theorem InP.zeros (h : 2 ≤ p) : InP p (List.replicate z 0) := fun x hx => by rw [(List.mem_replicate.mp hx).2]; omega
/-- so many draws -/
theorem comp_draws {lim : Int} (h0 : 0 < lim) (h1 : lim ≤ 1000000000000) {e : MP.Env → Store → RV} {x : Nat} {env : Nat → Store → MP.Env} {Φ : Tab} {G : Str → Option Val} (ok : SrcOk a b)
    (he : ∀ (v : Val) (w : Val) (st : Store) (n : Nat) (s s' : Store), m_law_draw [.loc n, .int lim] s = .ok (w, s') → e ((env n st).set x (some v)) s = .ok (w, s')) (k : Nat) :
    ∃ ys a' b', SrcOk a' b' ∧ ys.length = k ∧ InP lim ys ∧ ∀ (st : Store) (n : Nat) (d : Cell), st[n]? = some d → (compL (ev Φ G .no).t e x ((List.range k).map fun (k : Nat) => Val.int k) (env n st) (st.set n (srcC a b)) = .ok (vInts ys, st.set n (srcC a' b')) ∧ ∀ g : Store, compL (ev Φ G .no).t e x ((List.range k).map fun (k : Nat) => Val.int k) (env n st) (st.set n (srcC a b) ++ g) = .ok (vInts ys, st.set n (srcC a' b') ++ g)) := by
  obtain ⟨ys, a', b', ok', l, q, e1⟩ := compL_src (c := (ev Φ G .no).t) (e := e) (x := x) (env := env) (Q := fun _ => True) (P := fun y => ∃ i : Int, y = .int i ∧ 0 ≤ i ∧ i < lim) (fun _ _ _ _ _ => rfl) (fun v a b _ ok => by
    obtain ⟨d, a', b', ok', d0, d1, ed⟩ := d_draw ok h0 h1
    refine ⟨.int d, a', b', ok', ⟨d, rfl, d0, d1⟩, fun st n c hn => ?_⟩
    obtain ⟨q1, q2⟩ := ed.next hn
    exact ⟨he _ _ _ _ _ _ q1, fun g => he _ _ _ _ _ _ (q2 g)⟩) ((List.range k).map fun (k : Nat) => Val.int k) a b (fun _ _ => trivial) ok
  obtain ⟨rs, rfl, hr⟩ := ints_of q
  exact ⟨rs, a', b', ok', by simpa [vInts_len] using l, hr, e1⟩
theorem c_law_form (ok : SrcOk a b) (h0 : 2 ≤ p) (h1 : p ≤ 31) (hz : z ≤ 6) : ∃ row a' b', SrcOk a' b' ∧ row.length = z ∧ InP p row ∧ SrcE m_law_form [.int p, .int z] a b (.lst (vInts row)) a' b' := by
  obtain ⟨k, a1, b1, ok1, k0, k1, e1⟩ := d_draw ok (lim := 5) (by decide) (by decide)
  have hl : (vInts (List.replicate z (0 : Int))).length ≤ 1000000 := by rw [vInts_len, List.length_replicate]; omega
  have hl2 : (vInts (List.replicate z (0 : Int))).length ≤ szMax := by rw [vInts_len, List.length_replicate]; unfold szMax; omega
  by_cases hk : 1 < k
  · obtain ⟨ys, a2, b2, ok2, l2, p2, e2⟩ := comp_draws (e := (ev T_law_form G0 b_law_form_1).v) (x := 6) (Φ := T_law_form) (G := G0) (env := fun n st => [some (.loc n), some (.int p), some (.int z), some (.loc st.length), some (.int k), none, none]) (lim := p) (by omega) (by omega) ok1 (fun v w st n s s' h => by simp_arith [b_law_form_1, t_law_form_law_draw, h]) z
    refine ⟨ys, a2, b2, ok2, l2, p2, fun st n hn => mk_set (g := [.lst (vInts (List.replicate z 0)), .frz (vInts ys)]) rfl ?_ (closed_vInts 0 _) rfl⟩
    have hne : ¬ k = 1 := by omega
    have ey : (vInts ys).length ≤ szMax := by rw [vInts_len]; unfold szMax; omega
    simp_arith [b_law_form, t_law_form_law_draw, zeros_l (show z ≤ 1000 by omega), newL_t _ hl2, (e1.first hn).2, hne, hk, rng1 (show z ≤ 1000000 by omega), List.length_map, List.length_range, show z ≤ 100000 by omega, (e2 st n _ hn).2, newL_t _ ey, List.length_set, Nat.add_zero, gs_1, ss_1]
  · by_cases hk1 : k = 1 ∧ 0 < z
    · obtain ⟨hk1, hz0⟩ := hk1
      subst hk1
      obtain ⟨j, a2, b2, ok2, j0, j1, e2⟩ := d_draw ok1 (lim := z) (by omega) (by omega)
      obtain ⟨j, rfl⟩ := pos_of j0
      refine ⟨(List.replicate z 0).set j 1, a2, b2, ok2, by simp, fun x hx => ?_, fun st n hn => mk_set (g := [.frz (vInts ((List.replicate z 0).set j 1))]) rfl ?_ (closed_vInts 0 _) rfl⟩
      · rcases List.mem_or_eq_of_mem_set hx with h | h
        · exact InP.zeros h0 x h
        · subst h; omega
      · have hz1 : (0 : Int) < z := by omega
        have hj : j < (vInts (List.replicate z (0 : Int))).length := by rw [vInts_len, List.length_replicate]; omega
        simp_arith [b_law_form, t_law_form_law_draw, zeros_l (show z ≤ 1000 by omega), newL_t _ hl2, (e1.first hn).2, hz1, (e2.next hn).2, gs_0, ss_0, ixN_n hj, vInts_set, Nat.lt_irrefl, show ¬ (1 : Int) < 1 by decide]
    · refine ⟨List.replicate z 0, a1, b1, ok1, by simp, InP.zeros h0, fun st n hn => mk_set (g := [.frz (vInts (List.replicate z 0))]) rfl ?_ (closed_vInts 0 _) rfl⟩
      by_cases hk2 : k = 1
      · subst hk2
        have hz1 : ¬ (0 : Int) < z := by omega
        simp_arith [b_law_form, t_law_form_law_draw, zeros_l (show z ≤ 1000 by omega), newL_t _ hl2, (e1.first hn).2, hz1, gs_0, ss_0, show ¬ (1 : Int) < 1 by decide]
      · simp_arith [b_law_form, t_law_form_law_draw, zeros_l (show z ≤ 1000 by omega), newL_t _ hl2, (e1.first hn).2, hk2, hk, gs_0, ss_0]
end
section
variable {a b p pool : Int} {z : Nat}
theorem insS_in {k x : Int} : ∀ {l : List Int}, x ∈ insS k l ↔ x = k ∨ x ∈ l
  | [] => by simp [insS]
  | y :: l => by
    unfold insS
    split
    · simp
    · split
      · rename_i h; subst h; simp
      · simp [insS_in (l := l)]
        constructor
        · rintro (h | h | h) <;> simp [h]
        · rintro (h | h | h) <;> simp [h]
theorem sortS_in {x : Int} : ∀ {l : List Int}, x ∈ sortS l ↔ x ∈ l
  | [] => Iff.rfl
  | y :: l => by show x ∈ insS y (sortS l) ↔ _; rw [insS_in, sortS_in (l := l)]; simp
theorem insS_rise {k : Int} : ∀ {l : List Int}, l.Pairwise (· < ·) → (insS k l).Pairwise (· < ·)
  | [], _ => by simp [insS]
  | y :: l, h => by
    unfold insS
    obtain ⟨h1, h2⟩ := List.pairwise_cons.mp h
    split
    · rename_i hk
      refine List.pairwise_cons.mpr ⟨fun x hx => ?_, h⟩
      rcases List.mem_cons.mp hx with rfl | hx
      · exact hk
      · have := h1 x hx; omega
    · split
      · exact h
      · refine List.pairwise_cons.mpr ⟨fun x hx => ?_, insS_rise h2⟩
        rcases insS_in.mp hx with rfl | hx
        · omega
        · exact h1 x hx
theorem sortS_rise : ∀ {l : List Int}, (sortS l).Pairwise (· < ·)
  | [] => List.Pairwise.nil
  | y :: l => insS_rise (sortS_rise (l := l))
/-- tools of a room, of a door -/
structure ToolsOk (pool : Int) (ts : List Int) : Prop where
  len : ts.length ≤ 2
  rise : ts.Pairwise (· < ·)
  inp : InP pool ts
theorem c_law_tools (ok : SrcOk a b) (h0 : 1 ≤ pool) (h1 : pool ≤ 16) : ∃ ts a' b', SrcOk a' b' ∧ ToolsOk pool ts ∧ SrcE m_law_tools [.int pool] a b (.lst (vInts ts)) a' b' := by
  obtain ⟨k, a1, b1, ok1, k0, k1, e1⟩ := d_draw ok (lim := 3) (by decide) (by decide)
  obtain ⟨k, rfl⟩ := pos_of k0
  obtain ⟨ys, a2, b2, ok2, l2, p2, e2⟩ := comp_draws (e := (ev T_law_tools G0 b_law_tools_1).v) (x := 2) (Φ := T_law_tools) (G := G0) (env := fun n st => [some (.loc n), some (.int pool), none]) (lim := pool) (by omega) (by omega) ok1 (fun v w st n s s' h => by simp_arith [b_law_tools_1, t_law_tools_law_draw, h]) k
  have hs := sortS_len ys
  refine ⟨sortS ys, a2, b2, ok2, ⟨by omega, sortS_rise, fun x hx => p2 x (sortS_in.mp hx)⟩, fun st n hn => mk_set (g := []) rfl ?_ (closed_vInts 0 _) rfl⟩
  have ey : (vInts ys).length ≤ szMax := by rw [vInts_len]; unfold szMax; omega
  simp_arith [b_law_tools, t_law_tools_law_draw, (e1.first hn).1, rng1 (show k ≤ 1000000 by omega), List.length_map, List.length_range, show k ≤ 100000 by omega, (e2 st n _ hn).1, newL_f _ ey, sset_l (show ys.length < 64 by omega), List.append_nil]
/-! rooms -/
def vRow (r : List Int) : Val := .lst (vInts r)
structure Rm where
  keys : Int
  tools : List Int
  clues : List (List Int)
def vRm (r : Rm) : Val := .lst [.int r.keys, .lst (vInts r.tools), .lst (r.clues.map vRow)]
structure RmOk (p : Int) (z : Nat) (pool : Int) (most : Nat) (r : Rm) : Prop where
  keys : 0 ≤ r.keys ∧ r.keys ≤ 99
  tools : ToolsOk pool r.tools
  len : r.clues.length ≤ most
  clues : ∀ c ∈ r.clues, c.length = z ∧ InP p c
theorem list_of {α : Type} {P : α → Prop} {f : α → Val} : ∀ {ys : List Val}, (∀ y ∈ ys, ∃ i, y = f i ∧ P i) → ∃ rs : List α, ys = rs.map f ∧ ∀ r ∈ rs, P r
  | [], _ => ⟨[], rfl, by intro r h; cases h⟩
  | y :: ys, h => by
    obtain ⟨i, rfl, hi⟩ := h y (List.mem_cons_self ..)
    obtain ⟨rs, h1, h2⟩ := list_of (ys := ys) fun z hz => h z (List.mem_cons_of_mem _ hz)
    refine ⟨i :: rs, by rw [h1]; rfl, fun r hr => ?_⟩
    rcases List.mem_cons.mp hr with rfl | hr
    · exact hi
    · exact h2 r hr
theorem closed_rows (n : Nat) : ∀ rs : List (List Int), closedL n (rs.map vRow) = true
  | [] => rfl
  | r :: rs => by show (closedL n (vInts r) && closedL n (rs.map vRow)) = true; rw [closed_vInts n r, closed_rows n rs]; rfl
theorem closed_rm (n : Nat) (r : Rm) : closed n (vRm r) = true := by
  show (true && (closedL n (vInts r.tools) && (closedL n (r.clues.map vRow) && true))) = true
  rw [closed_vInts, closed_rows]; rfl
theorem pick8 {d : Int} {ns : List Int} (h : d < ns.length) (h0 : 0 ≤ d) : ∃ w, w ∈ ns ∧ atI (vInts ns) d = some (.int w) := by
  obtain ⟨k, rfl⟩ := pos_of h0
  exact ⟨_, cell_mem (by omega), at_ints (by omega)⟩
theorem c_law_room {most : Nat} (ok : SrcOk a b) (h0 : 2 ≤ p) (h1 : p ≤ 31) (hz : z ≤ 6) (g0 : 1 ≤ pool) (g1 : pool ≤ 16) (hm : most ≤ 10) : ∃ r a' b', SrcOk a' b' ∧ RmOk p z pool most r ∧ SrcE m_law_room [.int p, .int z, .int pool, .int most] a b (vRm r) a' b' := by
  obtain ⟨k, a1, b1, ok1, k0, k1, e1⟩ := d_draw ok (lim := 8) (by decide) (by decide)
  obtain ⟨w, hw, hwe⟩ := pick8 (ns := [0, 0, 1, 1, 2, 3, 4, 99]) k1 k0
  have hwe : atI [Val.int 0, .int 0, .int 1, .int 1, .int 2, .int 3, .int 4, .int 99] k = some (.int w) := hwe
  obtain ⟨ts, a2, b2, ok2, t2, e2⟩ := c_law_tools ok1 g0 g1
  obtain ⟨j, a3, b3, ok3, j0, j1, e3⟩ := d_draw ok2 (lim := (most : Int) + 1) (by omega) (by omega)
  obtain ⟨j, rfl⟩ := pos_of j0
  obtain ⟨ys, a4, b4, ok4, l4, p4, e4⟩ := compL_src (c := (ev T_law_room G0 .no).t) (e := (ev T_law_room G0 b_law_room_1).v) (x := 8) (env := fun n st => [some (.loc n), some (.int p), some (.int z), some (.int pool), some (.int most), some (.int w), some (.lst (vInts ts)), none, none]) (Q := fun _ => True) (P := fun y => ∃ r, y = vRow r ∧ r.length = z ∧ InP p r) (fun _ _ _ _ _ => rfl) (fun v a b _ ok => by
    obtain ⟨row, a', b', ok', d0, d1, ed⟩ := c_law_form ok h0 h1 hz
    refine ⟨_, a', b', ok', ⟨row, rfl, d0, d1⟩, fun st n c hn => ?_⟩
    obtain ⟨q1, q2⟩ := ed.next hn
    exact ⟨by simp_arith [b_law_room_1, t_law_room_law_form, q1, vRow], fun g => by simp_arith [b_law_room_1, t_law_room_law_form, q2, vRow]⟩) ((List.range j).map fun (k : Nat) => Val.int k) a3 b3 (fun _ _ => trivial) ok3
  obtain ⟨rs, rfl, hr⟩ := list_of p4
  have l4' : rs.length = j := by simpa using l4
  have hwb : 0 ≤ w ∧ w ≤ 99 := by simp at hw; omega
  refine ⟨⟨w, ts, rs⟩, a4, b4, ok4, ⟨hwb, t2, by show rs.length ≤ most; omega, hr⟩, fun st n hn => mk_set (g := []) rfl ?_ (closed_rm 0 _) rfl⟩
  have ey : (rs.map vRow).length ≤ szMax := by rw [List.length_map]; unfold szMax; omega
  simp_arith [b_law_room, t_law_room_law_draw, (e1.first hn).1, hwe, t_law_room_law_tools, (e2.next hn).1, (e3.next hn).1, rng1 (show j ≤ 1000000 by omega), List.length_map, List.length_range, show j ≤ 100000 by omega, (e4 st n _ hn).1, newL_f _ ey, List.append_nil, vRm]
end
section
variable {a b p pool : Int} {z : Nat}
theorem forL_src {β : Type} {body : MP.Env → Store → RS} {i : Nat} {E : β → Nat → Store → MP.Env} {I : β → Prop} {Q : Val → Prop}
    (h : ∀ s v a b, I s → Q v → SrcOk a b → ∃ s' a' b', SrcOk a' b' ∧ I s' ∧ ∀ (st : Store) (n : Nat) (d : Cell), st[n]? = some d → body ((E s n st).set i (some v)) (st.set n (srcC a b)) = .next (E s' n st) (st.set n (srcC a' b'))) :
    ∀ (xs : List Val) (s : β) (a b : Int), I s → (∀ v ∈ xs, Q v) → SrcOk a b → ∃ s' a' b', SrcOk a' b' ∧ I s' ∧ ∀ (st : Store) (n : Nat) (d : Cell), st[n]? = some d → forL i body xs (E s n st) (st.set n (srcC a b)) = .next (E s' n st) (st.set n (srcC a' b'))
  | [], s, a, b, hi, _, ok => ⟨s, a, b, ok, hi, fun st n d _ => rfl⟩
  | v :: vs, s, a, b, hi, hq, ok => by
    obtain ⟨s1, a1, b1, ok1, i1, e1⟩ := h s v a b hi (hq v (List.mem_cons_self ..)) ok
    obtain ⟨s2, a2, b2, ok2, i2, e2⟩ := forL_src h vs s1 a1 b1 i1 (fun u hu => hq u (List.mem_cons_of_mem _ hu)) ok1
    exact ⟨s2, a2, b2, ok2, i2, fun st n d hn => by simp only [forL, e1 st n d hn, e2 st n d hn]⟩
theorem rm_get {rs : List Rm} {k : Nat} (h : k < rs.length) : ∃ r, r ∈ rs ∧ (rs.map vRm)[k]? = some (vRm r) := ⟨rs[k], List.getElem_mem h, by rw [List.getElem?_map, List.getElem?_eq_getElem h]; rfl⟩
theorem row_get {rs : List (List Int)} {k : Nat} (h : k < rs.length) : ∃ r, r ∈ rs ∧ (rs.map vRow)[k]? = some (vRow r) := ⟨rs[k], List.getElem_mem h, by rw [List.getElem?_map, List.getElem?_eq_getElem h]; rfl⟩
def vRms (rs : List Rm) : Val := .lst (rs.map vRm)
theorem c_law_needs {most : Nat} {rs : List Rm} (ok : SrcOk a b) (g0 : 1 ≤ pool) (g1 : pool ≤ 16) (hr : ∀ r ∈ rs, RmOk p z pool most r) (hl : 0 < rs.length) (hl2 : rs.length ≤ 100) : ∃ ts a' b', SrcOk a' b' ∧ ToolsOk pool ts ∧ SrcE m_law_needs [.int pool, vRms rs] a b (.lst (vInts ts)) a' b' := by
  obtain ⟨k, a1, b1, ok1, k0, k1, e1⟩ := d_draw ok (lim := 4) (by decide) (by decide)
  by_cases h2 : k = 2
  · subst h2
    obtain ⟨j, a2, b2, ok2, j0, j1, e2⟩ := d_draw ok1 (lim := (rs.length : Int)) (by omega) (by omega)
    obtain ⟨j, rfl⟩ := pos_of j0
    obtain ⟨r, hr1, hr2⟩ := rm_get (rs := rs) (k := j) (by omega)
    refine ⟨r.tools, a2, b2, ok2, (hr r hr1).tools, fun st n hn => mk_set (g := []) rfl ?_ (closed_vInts 0 _) rfl⟩
    have ht : (vInts r.tools).length ≤ szMax := by have := (hr r hr1).tools.len; rw [vInts_len]; unfold szMax; omega
    simp_arith [b_law_needs, t_law_needs_law_draw, (e1.first hn).1, vRms, List.length_map, (e2.next hn).1, atI_n hr2, vRm, glist_of (seqOf_lst _) ht, List.append_nil]
  · by_cases h3 : k = 3
    · subst h3
      obtain ⟨ts, a2, b2, ok2, t2, e2⟩ := c_law_tools ok1 g0 g1
      refine ⟨ts, a2, b2, ok2, t2, fun st n hn => mk_set (g := []) rfl ?_ (closed_vInts 0 _) rfl⟩
      simp_arith [b_law_needs, t_law_needs_law_draw, (e1.first hn).1, t_law_needs_law_tools, (e2.next hn).1, List.append_nil]
    · refine ⟨[], a1, b1, ok1, ⟨by decide, .nil, by intro x hx; cases hx⟩, fun st n hn => mk_set (g := []) rfl ?_ rfl rfl⟩
      simp_arith [b_law_needs, t_law_needs_law_draw, (e1.first hn).1, h2, h3, List.append_nil, vInts]
/-- a code or none -/
def vCode : Option (List Int) → Val | some c => .lst (vInts c) | none => .non
structure CodeSt where
  total : List Int
  v6 : Option Val
  v7 : Option Val
  v8 : Option Val
  v9 : Option Val
theorem c_law_code {most : Nat} {rs : List Rm} (ok : SrcOk a b) (h0 : 2 ≤ p) (h1 : p ≤ 31) (hz : z ≤ 6) (hr : ∀ r ∈ rs, RmOk p z pool most r) (hl : 0 < rs.length) (hl2 : rs.length ≤ 100) (hm : most ≤ 10) :
    ∃ (c : Option (List Int)) (a' b' : Int), SrcOk a' b' ∧ (∀ row, c = some row → row.length = z ∧ InP p row) ∧ SrcE m_law_code [.int p, .int z, vRms rs] a b (vCode c) a' b' := by
  obtain ⟨k, a1, b1, ok1, k0, k1, e1⟩ := d_draw ok (lim := 7) (by decide) (by decide)
  by_cases h3 : k < 3
  · refine ⟨none, a1, b1, ok1, (fun row h => by cases h), fun st n hn => mk_set (g := []) rfl ?_ rfl rfl⟩
    simp_arith [b_law_code, t_law_code_law_draw, (e1.first hn).1, h3, List.append_nil, vCode]
  · by_cases h6 : k = 6
    · subst h6
      obtain ⟨row, a2, b2, ok2, l2, p2, e2⟩ := c_law_form ok1 h0 h1 hz
      refine ⟨some row, a2, b2, ok2, (fun r h => by cases h; exact ⟨l2, p2⟩), fun st n hn => mk_set (g := []) rfl ?_ (closed_vInts 0 _) rfl⟩
      simp_arith [b_law_code, t_law_code_law_draw, (e1.first hn).1, h3, t_law_code_law_form, (e2.next hn).1, List.append_nil, vCode]
    · have hp1 : 0 < p - 1 := by omega
      obtain ⟨k', hk'⟩ := pos_of (v := k - 2) (by omega)
      obtain ⟨s', a2, b2, ok2, i2, e2⟩ := forL_src (i := 6) (body := evSs T_law_code G0 b_law_code_2) (β := CodeSt) (Q := fun _ => True)
        (E := fun s n st => [some (.loc n), some (.int p), some (.int z), some (vRms rs), some (.int k), some (.lst (vInts s.total)), s.v6, s.v7, s.v8, s.v9, none]) (I := fun s => s.total.length = z ∧ InP p s.total) (fun s v a b ⟨hs1, hs2⟩ _ ok => by
          obtain ⟨j, a1, b1, ok1, j0, j1, e1⟩ := d_draw ok (lim := (rs.length : Int)) (by omega) (by omega)
          obtain ⟨j, rfl⟩ := pos_of j0
          obtain ⟨r, hr1, hr2⟩ := rm_get (rs := rs) (k := j) (by omega)
          have hrc := hr r hr1
          obtain ⟨f, a2, b2, ok2, f0, f1, e2⟩ := d_draw ok1 (lim := p - 1) hp1 (by omega)
          by_cases hc : 0 < r.clues.length
          · obtain ⟨q, a3, b3, ok3, q0, q1, e3⟩ := d_draw ok2 (lim := (r.clues.length : Int)) (by omega) (by have := hrc.len; omega)
            obtain ⟨q, rfl⟩ := pos_of q0
            obtain ⟨c, hc1, hc2⟩ := row_get (rs := r.clues) (k := q) (by omega)
            obtain ⟨cl1, cl2⟩ := hrc.clues c hc1
            refine ⟨⟨(List.range z).map fun k => (cell s.total k + (1 + f) * cell c k) % p, some v, some (.lst (r.clues.map vRow)), some (.int (1 + f)), some (vRow c)⟩, a3, b3, ok3, ⟨by simp, fun x hx => ?_⟩, fun st n d hn => ?_⟩
            · obtain ⟨k, _, rfl⟩ := List.mem_map.mp hx
              exact ⟨Int.emod_nonneg _ (by omega), Int.emod_lt_of_pos _ (by omega)⟩
            · have hcomp : ∀ env : MP.Env, env[1]? = some (some (.int p)) → env[5]? = some (some (.lst (vInts s.total))) → env[8]? = some (some (.int (1 + f))) → env[9]? = some (some (vRow c)) → env.length = 11 → ∀ s2 : Store, compL (ev T_law_code G0 .no).t (ev T_law_code G0 b_law_code_1).v 10 ((List.range z).map fun (k : Nat) => Val.int k) env s2 = .ok (vInts ((List.range z).map fun k => (cell s.total k + (1 + f) * cell c k) % p), s2) := fun env g1 g5 g8 g9 gl s2 => by
                have := compL_map0 (c := (ev T_law_code G0 .no).t) (e := (ev T_law_code G0 b_law_code_1).v) (x := 10) (env := env) (st := s2) (fun (k : Nat) => Val.int k) (fun k => Val.int ((cell s.total k + (1 + f) * cell c k) % p)) (List.range z) (fun _ _ => rfl) (fun k hk => by
                  have hk' : k < z := List.mem_range.mp hk
                  have hx := cl2 _ (cell_mem (k := k) (by omega))
                  have hmul : mulOk (1 + f) (cell c k) = true := mul_ok (n := 20) (k := 20) (bd_lt (by omega) (by omega)) (bd_lt (by omega) (by omega)) (by decide)
                  have t1 : (env.set 10 (some (Val.int (k : Nat))))[1]? = some (some (.int p)) := by rw [List.getElem?_set_ne (by decide)]; exact g1
                  have t5 : (env.set 10 (some (Val.int (k : Nat))))[5]? = some (some (.lst (vInts s.total))) := by rw [List.getElem?_set_ne (by decide)]; exact g5
                  have t8 : (env.set 10 (some (Val.int (k : Nat))))[8]? = some (some (.int (1 + f))) := by rw [List.getElem?_set_ne (by decide)]; exact g8
                  have t9 : (env.set 10 (some (Val.int (k : Nat))))[9]? = some (some (vRow c)) := by rw [List.getElem?_set_ne (by decide)]; exact g9
                  have t10 : (env.set 10 (some (Val.int (k : Nat))))[10]? = some (some (.int k)) := List.getElem?_set_self (by omega)
                  simp_arith [b_law_code_1, t1, t5, t8, t9, t10, at_ints (show k < s.total.length by omega), vRow, at_ints (show k < c.length by omega), bV_mul hmul, bV_mod (show 0 < p by omega)])
                simpa only [vInts, List.map_map, Function.comp_def] using this
              have ey : ∀ f : Nat → Int, (vInts ((List.range z).map f)).length ≤ szMax := fun f => by rw [vInts_len, List.length_map, List.length_range]; unfold szMax; omega
              have hcl : (0 : Int) < (r.clues.length : Int) := by omega
              simp_arith [b_law_code_2, t_law_code_law_draw, vRms, List.length_map, (e1.next hn).1, atI_n hr2, vRm, (e2.next hn).1, hcl, (e3.next hn).1, atI_n hc2, rng1 (show z ≤ 1000000 by omega), List.length_range, show z ≤ 100000 by omega, hcomp, newL_f _ (ey _)]
          · refine ⟨⟨s.total, some v, some (.lst (r.clues.map vRow)), some (.int (1 + f)), s.v9⟩, a2, b2, ok2, ⟨hs1, hs2⟩, fun st n d hn => ?_⟩
            have hcl : ¬ (0 : Int) < (r.clues.length : Int) := by omega
            simp_arith [b_law_code_2, t_law_code_law_draw, vRms, List.length_map, (e1.next hn).1, atI_n hr2, vRm, (e2.next hn).1, hcl]) ((List.range k').map fun (k : Nat) => Val.int k) ⟨List.replicate z 0, none, none, none, none⟩ a1 b1 ⟨by simp, InP.zeros h0⟩ (fun _ _ => trivial) ok1
      refine ⟨some s'.total, a2, b2, ok2, (fun r h => by cases h; exact i2), fun st n hn => mk_set (g := []) rfl ?_ (closed_vInts 0 _) rfl⟩
      have hl : (vInts (List.replicate z (0 : Int))).length ≤ szMax := by rw [vInts_len, List.length_replicate]; unfold szMax; omega
      simp_arith [b_law_code, t_law_code_law_draw, (e1.first hn).1, h3, h6, zeros_l (show z ≤ 1000 by omega), newL_f _ hl, hk', rng1 (show k' ≤ 1000000 by omega), e2 st n _ hn, List.append_nil, vCode]
end
section
variable {a b p pool : Int} {z : Nat}
structure Dr where
  front : Int
  back : Int
  minutes : Int
  price : Int
  tools : List Int
  code : Option (List Int)
def vDr (d : Dr) : Val := .lst [.int d.front, .int d.back, .int d.minutes, .int d.price, .lst (vInts d.tools), vCode d.code]
structure DrOk (p : Int) (z : Nat) (pool : Int) (count : Nat) (d : Dr) : Prop where
  front : 0 ≤ d.front ∧ d.front < count
  back : 0 ≤ d.back ∧ d.back < count
  ne : d.front ≠ d.back
  minutes : 1 ≤ d.minutes ∧ d.minutes ≤ 60
  price : 0 ≤ d.price ∧ d.price ≤ 9
  tools : ToolsOk pool d.tools
  code : ∀ row, d.code = some row → row.length = z ∧ InP p row
theorem closed_code (n : Nat) (c : Option (List Int)) : closed n (vCode c) = true := by
  cases c with
  | none => rfl
  | some c => exact closed_vInts n c
theorem closed_dr (n : Nat) (d : Dr) : closed n (vDr d) = true := by
  show (true && (true && (true && (true && (closedL n (vInts d.tools) && (closed n (vCode d.code) && true)))))) = true
  rw [closed_vInts, closed_code]; rfl
theorem shift_ne {f d c : Int} (h0 : 0 ≤ f) (h1 : f < c) (d0 : 0 ≤ d) (d1 : d < c - 1) : 0 ≤ (f + 1 + d) % c ∧ (f + 1 + d) % c < c ∧ f ≠ (f + 1 + d) % c := by
  refine ⟨Int.emod_nonneg _ (by omega), Int.emod_lt_of_pos _ (by omega), fun e => ?_⟩
  by_cases h : f + 1 + d < c
  · rw [Int.emod_eq_of_lt (by omega) h] at e; omega
  · have : (f + 1 + d) % c = f + 1 + d - c := by
      rw [← Int.sub_emod_right, Int.emod_eq_of_lt (by omega) (by omega)]
    omega
theorem len_rms {rs : List Rm} {st : Store} : f1V .len (vRms rs) st = .ok (.int rs.length) := by unfold vRms; rw [len_lst, List.length_map]
/-- the door's end: minutes, price, tools, code -/
theorem c_law_door {most : Nat} {rs : List Rm} {at_ : Nat} (ok : SrcOk a b) (h0 : 2 ≤ p) (h1 : p ≤ 31) (hz : z ≤ 6) (g0 : 1 ≤ pool) (g1 : pool ≤ 16) (hr : ∀ r ∈ rs, RmOk p z pool most r) (hl : 1 < rs.length) (hl2 : rs.length ≤ 100) (hm : most ≤ 10) :
    ∃ d a' b', SrcOk a' b' ∧ DrOk p z pool rs.length d ∧ SrcE m_law_door [.int p, .int z, .int pool, vRms rs, .int at_] a b (vDr d) a' b' := by
  obtain ⟨f, a1, b1, ok1, f0, f1, e1⟩ := d_draw ok (lim := (rs.length : Int)) (by omega) (by omega)
  obtain ⟨d, a2, b2, ok2, d0, d1, e2⟩ := d_draw ok1 (lim := (rs.length : Int) - 1) (by omega) (by omega)
  obtain ⟨k, a3, b3, ok3, k0, k1, e3⟩ := d_draw ok2 (lim := 4) (by decide) (by decide)
  have hc1 : (0 : Int) < (rs.length : Int) - 1 := by omega
  have hc2 : (0 : Int) < (rs.length : Int) := by omega
  have fin : ∀ (fr bk : Int) (a4 b4 : Int), SrcOk a4 b4 → 0 ≤ fr ∧ fr < rs.length → 0 ≤ bk ∧ bk < rs.length → fr ≠ bk → ∃ (dr : Dr) (a' b' : Int), SrcOk a' b' ∧ DrOk p z pool rs.length dr ∧ dr.front = fr ∧ dr.back = bk ∧ ∃ (mi w k5 : Int) (a5 b5 a6 b6 a7 b7 : Int), dr.minutes = 1 + mi ∧ dr.price = w ∧ SrcE m_law_draw [.int 60] a4 b4 (.int mi) a5 b5 ∧ SrcE m_law_draw [.int 8] a5 b5 (.int k5) a6 b6 ∧ atI [Val.int 0, .int 0, .int 0, .int 1, .int 1, .int 1, .int 2, .int 9] k5 = some (.int w) ∧ SrcE m_law_needs [.int pool, vRms rs] a6 b6 (.lst (vInts dr.tools)) a7 b7 ∧ SrcE m_law_code [.int p, .int z, vRms rs] a7 b7 (vCode dr.code) a' b' := by
    intro fr bk a4 b4 ok4 hf hb hne
    obtain ⟨mi, a5, b5, ok5, m0, m1, e5⟩ := d_draw ok4 (lim := 60) (by decide) (by decide)
    obtain ⟨k5, a6, b6, ok6, k50, k51, e6⟩ := d_draw ok5 (lim := 8) (by decide) (by decide)
    obtain ⟨w, hw, hwe⟩ := pick8 (ns := [0, 0, 0, 1, 1, 1, 2, 9]) k51 k50
    obtain ⟨ts, a7, b7, ok7, t7, e7⟩ := c_law_needs (z := z) (p := p) (most := most) ok6 g0 g1 hr (by omega) hl2
    obtain ⟨c, a8, b8, ok8, c8, e8⟩ := c_law_code (pool := pool) (most := most) ok7 h0 h1 hz hr (by omega) hl2 hm
    exact ⟨⟨fr, bk, 1 + mi, w, ts, c⟩, a8, b8, ok8, ⟨hf, hb, hne, by show 1 ≤ 1 + mi ∧ 1 + mi ≤ 60; omega, by show 0 ≤ w ∧ w ≤ 9; simp at hw; omega, t7, c8⟩, rfl, rfl, mi, w, k5, a5, b5, a6, b6, a7, b7, rfl, rfl, e5, e6, hwe, e7, e8⟩
  by_cases hk : 0 < k
  · have hb : 0 ≤ (at_ : Int) % ((rs.length : Int) - 1) ∧ (at_ : Int) % ((rs.length : Int) - 1) < (rs.length : Int) - 1 := ⟨Int.emod_nonneg _ (by omega), Int.emod_lt_of_pos _ hc1⟩
    obtain ⟨fr, a4, b4, ok4, fr0, fr1, e4⟩ := d_draw ok3 (lim := 1 + (at_ : Int) % ((rs.length : Int) - 1)) (by omega) (by omega)
    obtain ⟨dr, a', b', ok', hd, hfr, hbk, mi, w, k5, a5, b5, a6, b6, a7, b7, hmi, hw, e5, e6, hwe, e7, e8⟩ := fin fr (1 + (at_ : Int) % ((rs.length : Int) - 1)) a4 b4 ok4 (by omega) (by omega) (by omega)
    refine ⟨dr, a', b', ok', hd, fun st n hn => mk_set (g := []) rfl ?_ (closed_dr 0 _) rfl⟩
    simp_arith [b_law_door, t_law_door_law_draw, len_rms, (e1.first hn).1, (e2.next hn).1, bV_mod hc2, (e3.next hn).1, hk, bV_mod hc1, (e4.next hn).1, (e5.next hn).1, (e6.next hn).1, hwe, t_law_door_law_needs, (e7.next hn).1, t_law_door_law_code, (e8.next hn).1, List.append_nil, vDr, hfr, hbk, hmi, hw]
    first | rfl | skip
  · obtain ⟨s0, s1, s2⟩ := shift_ne f0 f1 d0 d1
    obtain ⟨dr, a', b', ok', hd, hfr, hbk, mi, w, k5, a5, b5, a6, b6, a7, b7, hmi, hw, e5, e6, hwe, e7, e8⟩ := fin f ((f + 1 + d) % rs.length) a3 b3 ok3 ⟨f0, f1⟩ ⟨s0, s1⟩ s2
    refine ⟨dr, a', b', ok', hd, fun st n hn => mk_set (g := []) rfl ?_ (closed_dr 0 _) rfl⟩
    simp_arith [b_law_door, t_law_door_law_draw, len_rms, (e1.first hn).1, (e2.next hn).1, bV_mod hc2, (e3.next hn).1, hk, (e5.next hn).1, (e6.next hn).1, hwe, t_law_door_law_needs, (e7.next hn).1, t_law_door_law_code, (e8.next hn).1, List.append_nil, vDr, hfr, hbk, hmi, hw]
    first | rfl | skip
end
section
variable {p pool : Int} {z : Nat}
/-- stores over st -/
def Pre (st s : Store) : Prop := ∃ g, s = st ++ g
theorem Pre.app {st s : Store} (h : Pre st s) (g : Store) : Pre st (s ++ g) := by obtain ⟨g0, rfl⟩ := h; exact ⟨g0 ++ g, by rw [List.append_assoc]⟩
theorem Pre.set {st s : Store} (h : Pre st s) {i : Nat} (hi : st.length ≤ i) (c : Cell) : Pre st (s.set i c) := by
  obtain ⟨g0, rfl⟩ := h; exact ⟨g0.set (i - st.length) c, by rw [List.set_append_right _ _ hi]⟩
theorem g_lt {s : Store} {i : Nat} {c : Cell} (h : s[i]? = some c) : i < s.length := (List.getElem?_eq_some_iff.mp h).1
/-- a list that is written no more -/
theorem frz_at {st s : Store} {ρ : Nat} {X : List Val} (h : s[ρ]? = some (.lst X) ∨ s[ρ]? = some (.frz X)) (hp : Pre st s) (hρ : st.length ≤ ρ) :
    ∃ s', oFrz s ρ s[ρ]? = .ok (.lst X, s') ∧ s'[ρ]? = some (.frz X) ∧ (∀ i, i ≠ ρ → s'[i]? = s[i]?) ∧ Pre st s' ∧ s'.length = s.length := by
  rcases h with h | h
  · exact ⟨s.set ρ (.frz X), by rw [h]; rfl, g_set h, fun i hi => List.getElem?_set_ne (Ne.symm hi), hp.set hρ _, by simp⟩
  · exact ⟨s, by rw [h]; rfl, h, fun i _ => rfl, hp, rfl⟩
structure HsD where
  prime : Int
  size : Nat
  rooms : List Rm
  doors : List Dr
  last : Int
def vDrs (ds : List Dr) : Val := .lst (ds.map vDr)
def vHs (h : HsD) : Val := .lst [.int h.prime, .int h.size, vRms h.rooms, vDrs h.doors, .int h.last]
def primesL : List Int := [2, 3, 5, 7, 11, 13, 17, 19, 23, 29, 31]
structure HsOk (mr md ms mc : Nat) (h : HsD) : Prop where
  prime : h.prime ∈ primesL
  size : h.size ≤ ms
  rooms : 1 ≤ h.rooms.length ∧ h.rooms.length ≤ mr
  doors : h.doors.length ≤ md
  last : 0 ≤ h.last ∧ h.last < h.rooms.length
  room : ∀ r ∈ h.rooms, RmOk h.prime h.size 16 mc r
  door : ∀ d ∈ h.doors, DrOk h.prime h.size 16 h.rooms.length d
theorem InP.mono {p q : Int} {r : List Int} (h : InP p r) (hq : p ≤ q) : InP q r := fun x hx => ⟨(h x hx).1, by have := (h x hx).2; omega⟩
theorem ToolsOk.mono {q : Int} {r : List Int} (h : ToolsOk pool r) (hq : pool ≤ q) : ToolsOk q r := ⟨h.len, h.rise, h.inp.mono hq⟩
theorem RmOk.mono {most : Nat} {q : Int} {r : Rm} (h : RmOk p z pool most r) (hq : pool ≤ q) : RmOk p z q most r := ⟨h.keys, h.tools.mono hq, h.len, h.clues⟩
theorem DrOk.mono {c : Nat} {q : Int} {r : Dr} (h : DrOk p z pool c r) (hq : pool ≤ q) : DrOk p z q c r := ⟨h.front, h.back, h.ne, h.minutes, h.price, h.tools.mono hq, h.code⟩
theorem closed_rms (n : Nat) : ∀ rs : List Rm, closedL n (rs.map vRm) = true
  | [] => rfl
  | r :: rs => by show (closed n (vRm r) && closedL n (rs.map vRm)) = true; rw [closed_rm n r, closed_rms n rs]; rfl
theorem closed_drs (n : Nat) : ∀ rs : List Dr, closedL n (rs.map vDr) = true
  | [] => rfl
  | r :: rs => by show (closed n (vDr r) && closedL n (rs.map vDr)) = true; rw [closed_dr n r, closed_drs n rs]; rfl
theorem closed_hs (n : Nat) (h : HsD) : closed n (vHs h) = true := by
  show (true && (true && (closedL n (h.rooms.map vRm) && (closedL n (h.doors.map vDr) && (true && true))))) = true
  rw [closed_rms, closed_drs]; rfl
section
variable {ns : List Int} (hns : ∀ z ∈ ns, bd bits z) {start mr md ms mc : Nat} (hs : start ≤ 500) (hmr : mr ≤ 24) (hmd : md ≤ 36) (hmc : mc ≤ 6) (h0 : 2 ≤ p) (h1 : p ≤ 31) (hz : z ≤ 6) (g0 : 1 ≤ pool) (g1 : pool ≤ 16)
include hns hs hmr hmd hmc h0 h1 hz g0 g1
theorem house_room {st s : Store} {σ ρ : Nat} {rs : List Rm} {k : Nat} {c : Cell} {o12 o13 : Option Val} (hk : k < mr) (hl : rs.length = k) (hp : Pre st s) (hρ : st.length ≤ ρ) (hne : σ ≠ ρ) (hσ : s[σ]? = some c) (hR : s[ρ]? = some (.lst (rs.map vRm))) :
    ∃ r s', RmOk p z pool mc r ∧ evSs T_law_house G0 b_law_house_1 [some (.scr (vInts ns)), some (.int start), some (.int mr), some (.int md), some (.int ms), some (.int mc), some (.loc σ), some (.int p), some (.int z), some (.int pool), some (.loc ρ), some (.int k), o12, o13] s
      = .next [some (.scr (vInts ns)), some (.int start), some (.int mr), some (.int md), some (.int ms), some (.int mc), some (.loc σ), some (.int p), some (.int z), some (.int pool), some (.loc ρ), some (.int k), o12, o13] s' ∧ Pre st s' ∧ s'[σ]? = some c ∧ s'[ρ]? = some (.lst ((rs ++ [r]).map vRm)) := by
  obtain ⟨a, b, ok, e0⟩ := c_source ns hns (k := (start : Int) + 1 + k) (by omega) (by omega)
  obtain ⟨r, a2, b2, ok2, hr, e2⟩ := c_law_room ok h0 h1 hz g0 g1 (most := mc) (by omega)
  have er : m_law_room [.loc s.length, .int p, .int z, .int pool, .int mc] (s ++ [srcC a b]) = .ok (vRm r, s ++ [srcC a2 b2]) := by rw [e2 _ _ g_0, s_0]
  refine ⟨r, s.set ρ (.lst ((rs ++ [r]).map vRm)) ++ [srcC a2 b2], hr, ?_, (hp.set hρ _).app _, ?_, ?_⟩
  · have hx : rs.length < 100000 := by omega
    simp_arith [b_law_house_1, hR, e0, t_law_house_law_source, t_law_house_law_room, er, g_old hR, List.length_map, hx, s_old hR, List.map_append]
  · rw [g_old]; rw [List.getElem?_set_ne (Ne.symm hne)]; exact hσ
  · exact g_old (g_set hR)
theorem house_door {st s : Store} {σ ρ δ : Nat} {rs : List Rm} {ds : List Dr} {k : Nat} {c : Cell} {o13 : Option Val} (hk : k < md) (hl : ds.length = k) (hp : Pre st s) (hρ : st.length ≤ ρ) (hδ : st.length ≤ δ) (hne : σ ≠ ρ) (hne2 : σ ≠ δ) (hne3 : ρ ≠ δ) (hσ : s[σ]? = some c)
    (hR : s[ρ]? = some (.lst (rs.map vRm)) ∨ s[ρ]? = some (.frz (rs.map vRm))) (hD : s[δ]? = some (.lst (ds.map vDr))) (hrs : ∀ r ∈ rs, RmOk p z pool mc r) (hrl : 1 < rs.length) (hrl2 : rs.length ≤ mr) :
    ∃ d s' o, DrOk p z pool rs.length d ∧ evSs T_law_house G0 b_law_house_2 [some (.scr (vInts ns)), some (.int start), some (.int mr), some (.int md), some (.int ms), some (.int mc), some (.loc σ), some (.int p), some (.int z), some (.int pool), some (.loc ρ), some (.int k), some (.loc δ), o13] s
      = .next [some (.scr (vInts ns)), some (.int start), some (.int mr), some (.int md), some (.int ms), some (.int mc), some (.loc σ), some (.int p), some (.int z), some (.int pool), some (.loc ρ), some (.int k), some (.loc δ), o] s' ∧ Pre st s' ∧ s'[σ]? = some c ∧ (s'[ρ]? = some (.lst (rs.map vRm)) ∨ s'[ρ]? = some (.frz (rs.map vRm))) ∧ s'[δ]? = some (.lst ((ds ++ [d]).map vDr)) := by
  obtain ⟨a, b, ok, e0⟩ := c_source ns hns (k := (start : Int) + 1 + mr + k) (by omega) (by omega)
  obtain ⟨d, a2, b2, ok2, hd, e2⟩ := c_law_door (at_ := k) ok h0 h1 hz g0 g1 hrs hrl (by omega) (by omega)
  have hρs : ρ < s.length := by rcases hR with h | h <;> exact g_lt h
  have hδs := g_lt hD
  have hσs := g_lt hσ
  have hR1 : (s ++ [srcC a b])[ρ]? = some (.lst (rs.map vRm)) ∨ (s ++ [srcC a b])[ρ]? = some (.frz (rs.map vRm)) := by
    rcases hR with h | h
    · exact .inl (g_old h)
    · exact .inr (g_old h)
  obtain ⟨s2, f1, f2, f3, f4, f5⟩ := frz_at hR1 (hp.app [srcC a b]) hρ
  have t1 : s2[s.length]? = some (srcC a b) := by rw [f3 _ (by omega)]; exact g_0
  have t2 : s2[δ]? = some (.lst (ds.map vDr)) := by rw [f3 _ (Ne.symm hne3)]; exact g_old hD
  have t3 : s2[σ]? = some c := by rw [f3 _ hne]; exact g_old hσ
  have er := e2 s2 s.length t1
  have t4 : (s2.set s.length (srcC a2 b2))[δ]? = some (.lst (ds.map vDr)) := by rw [List.getElem?_set_ne (by omega)]; exact t2
  have hst : st.length ≤ s.length := by obtain ⟨g, rfl⟩ := hp; simp
  refine ⟨d, (s2.set s.length (srcC a2 b2)).set δ (.lst ((ds ++ [d]).map vDr)), some (.loc s.length), hd, ?_, (f4.set hst _).set hδ _, ?_, ?_, g_set t4⟩
  · have hx : ds.length < 100000 := by omega
    have hD1 : (s ++ [srcC a b])[δ]? = some (.lst (ds.map vDr)) := g_old hD
    have er' : m_law_door [.loc s.length, .int p, .int z, .int pool, .lst (rs.map vRm), .int k] s2 = .ok (vDr d, s2.set s.length (srcC a2 b2)) := er
    simp_arith [b_law_house_2, e0, t_law_house_law_source, hD1, f1, t_law_house_law_door, er', t4, List.length_map, hx, List.map_append]
  · rw [List.getElem?_set_ne (Ne.symm hne2), List.getElem?_set_ne (by omega)]; exact t3
  · right; rw [List.getElem?_set_ne (Ne.symm hne3), List.getElem?_set_ne (by omega)]; exact f2
end
end
section
variable {p pool : Int} {z : Nat}
variable {ns : List Int} (hns : ∀ z ∈ ns, bd bits z) {start mr md ms mc : Nat} (hs : start ≤ 500) (hmr : mr ≤ 24) (hmd : md ≤ 36) (hmc : mc ≤ 6) (h0 : 2 ≤ p) (h1 : p ≤ 31) (hz : z ≤ 6) (g0 : 1 ≤ pool) (g1 : pool ≤ 16)
def hEnv (ns : List Int) (start mr md ms mc σ : Nat) (p : Int) (z : Nat) (pool : Int) (ρ : Nat) (o11 o12 o13 : Option Val) : MP.Env := [some (.scr (vInts ns)), some (.int start), some (.int mr), some (.int md), some (.int ms), some (.int mc), some (.loc σ), some (.int p), some (.int z), some (.int pool), some (.loc ρ), o11, o12, o13]
include hns hs hmr hmd hmc h0 h1 hz g0 g1
theorem house_end {st s : Store} {σ ρ δ : Nat} {rs : List Rm} {ds : List Dr} {a b : Int} {o11 o13 : Option Val} (ok : SrcOk a b) (hp : Pre st s) (hσ0 : st.length ≤ σ) (hρ : st.length ≤ ρ) (hδ : st.length ≤ δ) (hne : σ ≠ ρ) (hne2 : σ ≠ δ) (hne3 : ρ ≠ δ) (hσ : s[σ]? = some (srcC a b))
    (hR : s[ρ]? = some (.lst (rs.map vRm)) ∨ s[ρ]? = some (.frz (rs.map vRm))) (hD : s[δ]? = some (.lst (ds.map vDr))) (hrl : 0 < rs.length) (hrl2 : rs.length ≤ mr) :
    ∃ l s', 0 ≤ l ∧ l < (rs.length : Int) ∧ evSs T_law_house G0 b_law_house_c8 (hEnv ns start mr md ms mc σ p z pool ρ o11 (some (.loc δ)) o13) s = .ret (vHs ⟨p, z, rs, ds, l⟩) s' ∧ Pre st s' := by
  obtain ⟨l, a', b', ok', l0, l1, e1⟩ := c_draw ok (lim := (rs.length : Int)) (by omega) (by omega)
  obtain ⟨s2, f1, f2, f3, f4, f5⟩ := frz_at hR hp hρ
  have t2 : s2[δ]? = some (.lst (ds.map vDr)) := by rw [f3 _ (Ne.symm hne3)]; exact hD
  have t3 : (s2.set δ (.frz (ds.map vDr)))[σ]? = some (srcC a b) := by rw [List.getElem?_set_ne (Ne.symm hne2), f3 _ hne]; exact hσ
  have t4 : (s2.set δ (.frz (ds.map vDr)))[ρ]? = some (.frz (rs.map vRm)) := by rw [List.getElem?_set_ne (Ne.symm hne3)]; exact f2
  refine ⟨l, (s2.set δ (.frz (ds.map vDr))).set σ (srcC a' b'), l0, l1, ?_, (f4.set hδ _).set hσ0 _⟩
  simp_arith [b_law_house_c8, hEnv, f1, t2, t4, oSeq, oLen, List.length_map, t_law_house_law_draw, e1 _ _ t3, vHs, vRms, vDrs]
theorem house_doors {st s : Store} {σ ρ : Nat} {rs : List Rm} {a b : Int} {o11 o12 o13 : Option Val} (ok : SrcOk a b) (hp : Pre st s) (hσ0 : st.length ≤ σ) (hρ : st.length ≤ ρ) (hne : σ ≠ ρ) (hσ : s[σ]? = some (srcC a b))
    (hR : s[ρ]? = some (.lst (rs.map vRm))) (hrs : ∀ r ∈ rs, RmOk p z pool mc r) (hrl : 0 < rs.length) (hrl2 : rs.length ≤ mr) :
    ∃ ds l s', 0 ≤ l ∧ l < (rs.length : Int) ∧ ds.length ≤ md ∧ (∀ d ∈ ds, DrOk p z pool rs.length d) ∧ evSs T_law_house G0 b_law_house_c6 (hEnv ns start mr md ms mc σ p z pool ρ o11 o12 o13) s = .ret (vHs ⟨p, z, rs, ds, l⟩) s' ∧ Pre st s' := by
  have hst : st.length ≤ s.length := by obtain ⟨g, rfl⟩ := hp; simp
  by_cases h : 1 < rs.length
  · have hl1 : (1 : Int) < (rs.length : Int) := by omega
    obtain ⟨n, a1, b1, ok1, n0, n1, e1⟩ := c_draw ok (lim := (md : Int) + 1) (by omega) (by omega)
    obtain ⟨n, rfl⟩ := pos_of n0
    have hn : n ≤ md := by omega
    have u1 : (s ++ [Cell.lst []])[σ]? = some (srcC a b) := g_old hσ
    have u2 : (s ++ [Cell.lst []])[ρ]? = some (.lst (rs.map vRm)) := g_old hR
    have hσs := g_lt hσ
    have hρs := g_lt hR
    obtain ⟨e', s', L, k, hk, hx, ds, o, v, hl, hds, rfl, q1, q2, q3, q4⟩ := forL_inv (i := 11) (body := evSs T_law_house G0 b_law_house_2) (fun xs env s' => ∃ k, k ≤ n ∧ xs = ((List.range n).map fun (k : Nat) => Val.int k).drop k ∧ ∃ (ds : List Dr) (o v : Option Val), ds.length = k ∧ (∀ d ∈ ds, DrOk p z pool rs.length d) ∧ env = hEnv ns start mr md ms mc σ p z pool ρ v (some (.loc s.length)) o ∧ Pre st s' ∧ s'[σ]? = some (srcC a1 b1) ∧ (s'[ρ]? = some (.lst (rs.map vRm)) ∨ s'[ρ]? = some (.frz (rs.map vRm))) ∧ s'[s.length]? = some (.lst (ds.map vDr))) (fun x xs env s1 ⟨k, hk, hx, ds, o, v, hl, hds, he, q1, q2, q3, q4⟩ => by
      obtain ⟨d1, d2⟩ := drop_cons hx.symm
      obtain ⟨d3, _⟩ := List.getElem?_eq_some_iff.mp d1
      have hk' : k < n := by simpa using d3
      have hx1 : x = .int k := by
        rw [List.getElem?_map, List.getElem?_range hk'] at d1
        cases d1; rfl
      subst hx1 he
      obtain ⟨d, s2, o2, hd, ed, r1, r2, r3, r4⟩ := house_door hns hs hmr hmd hmc h0 h1 hz g0 g1 (o13 := o) (show k < md by omega) hl q1 hρ hst hne (Nat.ne_of_lt hσs) (Nat.ne_of_lt hρs) q2 q3 q4 hrs h hrl2
      refine ⟨_, s2, ed, k + 1, hk', d2, ds ++ [d], o2, some (.int k), by simp [hl], fun y hy => ?_, rfl, r1, r2, r3, r4⟩
      rcases List.mem_append.mp hy with hy | hy
      · exact hds y hy
      · rw [List.mem_singleton.mp hy]; exact hd) ((List.range n).map fun (k : Nat) => Val.int k) (hEnv ns start mr md ms mc σ p z pool ρ o11 (some (.loc s.length)) o13) ((s ++ [Cell.lst []]).set σ (srcC a1 b1))
      ⟨0, Nat.zero_le _, rfl, [], o13, o11, rfl, (fun d h => by cases h), rfl, (hp.app _).set hσ0 _, g_set u1, .inl (by rw [List.getElem?_set_ne hne]; exact u2), by rw [List.getElem?_set_ne (Nat.ne_of_lt hσs)]; exact g_0⟩
    have hkn : k ≤ md := by omega
    obtain ⟨l, s2, l0, l1, el, pl⟩ := house_end hns hs hmr hmd hmc h0 h1 hz g0 g1 (ms := ms) (start := start) (o11 := v) (o13 := o) ok1 q1 hσ0 hρ hst hne (Nat.ne_of_lt hσs) (Nat.ne_of_lt hρs) q2 q3 q4 hrl hrl2
    refine ⟨ds, l, s2, l0, l1, by omega, hds, ?_, pl⟩
    unfold hEnv at L el ⊢
    simp_arith [b_law_house_c6, hR, u2, oSeq, oLen, List.length_map, hl1, t_law_house_law_draw, e1 _ _ u1, rng1 (show n ≤ 1000000 by omega), L, el]
  · have hl1 : ¬ (1 : Int) < (rs.length : Int) := by omega
    have hσs := g_lt hσ
    have hρs := g_lt hR
    obtain ⟨l, s2, l0, l1, el, pl⟩ := house_end hns hs hmr hmd hmc h0 h1 hz g0 g1 (ms := ms) (start := start) (o11 := o11) (o13 := o13) (ds := []) ok (hp.app [Cell.lst []]) hσ0 hρ hst hne (Nat.ne_of_lt hσs) (Nat.ne_of_lt hρs) (g_old hσ) (.inl (g_old hR)) g_0 hrl hrl2
    refine ⟨[], l, s2, l0, l1, Nat.zero_le _, (fun d h => by cases h), ?_, pl⟩
    unfold hEnv at el ⊢
    have u2 : (s ++ [Cell.lst []])[ρ]? = some (.lst (rs.map vRm)) := g_old hR
    simp_arith [b_law_house_c6, hR, u2, oSeq, oLen, List.length_map, hl1, el]
end
section
variable {ns : List Int}
theorem c_law_house (hns : ∀ z ∈ ns, bd bits z) {start mr md ms mc : Nat} (hs : start ≤ 500) (hmr0 : 0 < mr) (hmr : mr ≤ 24) (hmd : md ≤ 36) (hms : ms ≤ 6) (hmc : mc ≤ 6) (st : Store) :
    ∃ h, HsOk mr md ms mc h ∧ m_law_house [.scr (vInts ns), .int start, .int mr, .int md, .int ms, .int mc] st = .ok (vHs h, st) := by
  obtain ⟨a, b, ok, e0⟩ := c_source ns hns (k := (start : Int)) (by omega) (by omega)
  obtain ⟨i1, a1, b1, ok1, i10, i11, e1⟩ := draw_end ok (lim := 11) (by decide) (by decide) st
  obtain ⟨p, hp, hpe⟩ := pick8 (ns := primesL) i11 i10
  have hpe : atI [Val.int 2, .int 3, .int 5, .int 7, .int 11, .int 13, .int 17, .int 19, .int 23, .int 29, .int 31] i1 = some (.int p) := hpe
  have hpb : 2 ≤ p ∧ p ≤ 31 := by simp [primesL] at hp; omega
  obtain ⟨z, a2, b2, ok2, z0, z1, e2⟩ := draw_end ok1 (lim := (ms : Int) + 1) (by omega) (by omega) st
  obtain ⟨z, rfl⟩ := pos_of z0
  obtain ⟨i3, a3, b3, ok3, i30, i31, e3⟩ := draw_end ok2 (lim := 4) (by decide) (by decide) st
  obtain ⟨pool, hq, hqe⟩ := pick8 (ns := [2, 2, 4, 16]) i31 i30
  have hqe : atI [Val.int 2, .int 2, .int 4, .int 16] i3 = some (.int pool) := hqe
  have hqb : 1 ≤ pool ∧ pool ≤ 16 := by simp at hq; omega
  obtain ⟨n, a4, b4, ok4, n0, n1, e4⟩ := draw_end ok3 (lim := (mr : Int)) (by omega) (by omega) st
  obtain ⟨n, rfl⟩ := pos_of n0
  have hz : z ≤ 6 := by omega
  obtain ⟨e', s', L, k, hk, hx, rs, v, hl, hrs, rfl, q1, q2, q3⟩ := forL_inv (i := 11) (body := evSs T_law_house G0 b_law_house_1) (fun xs env s' => ∃ k, k ≤ n + 1 ∧ xs = ((List.range (n + 1)).map fun (k : Nat) => Val.int k).drop k ∧ ∃ (rs : List Rm) (v : Option Val), rs.length = k ∧ (∀ r ∈ rs, RmOk p z pool mc r) ∧ env = hEnv ns start mr md ms mc st.length p z pool (st.length + 1) v none none ∧ Pre st s' ∧ s'[st.length]? = some (srcC a4 b4) ∧ s'[st.length + 1]? = some (.lst (rs.map vRm))) (fun x xs env s1 ⟨k, hk, hx, rs, v, hl, hrs, he, q1, q2, q3⟩ => by
    obtain ⟨d1, d2⟩ := drop_cons hx.symm
    obtain ⟨d3, _⟩ := List.getElem?_eq_some_iff.mp d1
    have hk' : k < n + 1 := by simpa using d3
    have hx1 : x = .int k := by
      rw [List.getElem?_map, List.getElem?_range hk'] at d1
      cases d1; rfl
    subst hx1 he
    obtain ⟨r, s2, hr, er, r1, r2, r3⟩ := house_room hns hs hmr hmd hmc hpb.1 hpb.2 hz hqb.1 hqb.2 (ms := ms) (o12 := none) (o13 := none) (show k < mr by omega) hl q1 (Nat.le_succ _) (Nat.ne_of_lt (Nat.lt_succ_self _)) q2 q3
    refine ⟨_, s2, er, k + 1, hk', d2, rs ++ [r], some (.int k), by simp [hl], fun y hy => ?_, rfl, r1, r2, r3⟩
    rcases List.mem_append.mp hy with hy | hy
    · exact hrs y hy
    · rw [List.mem_singleton.mp hy]; exact hr) ((List.range (n + 1)).map fun (k : Nat) => Val.int k) (hEnv ns start mr md ms mc st.length p z pool (st.length + 1) none none none) (st ++ [srcC a4 b4, .lst []])
    ⟨0, Nat.zero_le _, rfl, [], none, rfl, (fun d h => by cases h), rfl, ⟨_, rfl⟩, g_0, g_1⟩
  have hkn : k = n + 1 := by
    have := congrArg List.length hx
    simp at this; omega
  obtain ⟨ds, l, s2, l0, l1, dl, hds, ed, q4⟩ := house_doors hns hs hmr hmd hmc hpb.1 hpb.2 hz hqb.1 hqb.2 (ms := ms) (start := start) (o11 := v) (o12 := none) (o13 := none) ok4 q1 (Nat.le_refl _) (Nat.le_succ _) (Nat.ne_of_lt (Nat.lt_succ_self _)) q2 q3 hrs (by omega) (by omega)
  obtain ⟨g, rfl⟩ := q4
  refine ⟨⟨p, z, rs, ds, l⟩, ⟨hp, by show z ≤ ms; omega, by show 1 ≤ rs.length ∧ rs.length ≤ mr; omega, dl, ⟨l0, l1⟩, fun r hr => (hrs r hr).mono hqb.2, fun d hd => (hds d hd).mono hqb.2⟩, mk_pure (g := g) rfl ?_ (closed_hs 0 _)⟩
  have r1 : rngV [.int (1 + (n : Int))] = .ok ((List.range (n + 1)).map fun (k : Nat) => Val.int k) := by
    rw [show (1 + (n : Int)) = ((n + 1 : Nat) : Int) by omega]; exact rng1 (by omega)
  unfold hEnv at L ed
  simp_arith [b_law_house, t_law_house_law_source, e0, t_law_house_law_draw, e1, hpe, e2, e3, hqe, e4, r1, L, ed]
end
/-! house.py: of drawn houses -/
section
variable {st : Store} {p : Int} {z : Nat}
theorem row_l {xs : List Val} : m_is_row [.lst xs] st = .ok (.bl true, st) := mk_pure0 rfl (by simp_arith [b_is_row]) rfl
theorem row_t {xs : List Val} : m_is_row [.tup xs] st = .ok (.bl true, st) := mk_pure0 rfl (by simp_arith [b_is_row]) rfl
def optI : Option Int → Val | some i => .int i | none => .non
theorem c_is_rising {v : Val} {ts : List Int} (hv : IsSeq v ts) (h : ts.Pairwise (· < ·)) (hl : ts.length ≤ 1000) : m_is_rising [v] st = .ok (.bl true, st) := mk_pure0 rfl (by
  have hr : m_is_row [v] st = .ok (.bl true, st) := by rcases hv with rfl | rfl; exact row_l; exact row_t
  obtain ⟨e', s', L, q⟩ := forL_inv (i := 2) (body := evSs T_is_rising G0 b_is_rising_1) (fun xs env s => s = st ∧ ∃ (us : List Int) (o : Option Int) (w : Option Val), xs = vInts us ∧ us.Pairwise (· < ·) ∧ (∀ l, o = some l → ∀ x ∈ us, l < x) ∧ env = [some v, some (optI o), w]) (fun x xs env s ⟨hs, us, o, w, hx, hp, ho, he⟩ => by
    cases us with
    | nil => cases hx
    | cons u us =>
      have hx1 : x = .int u ∧ xs = vInts us := by
        have : x :: xs = .int u :: vInts us := hx
        cases this; exact ⟨rfl, rfl⟩
      obtain ⟨rfl, rfl⟩ := hx1
      obtain ⟨h1, h2⟩ := List.pairwise_cons.mp hp
      subst hs he
      refine ⟨_, _, ?_, rfl, us, some u, some (.int u), rfl, h2, fun l hl x hx => by cases hl; exact h1 x hx, rfl⟩
      cases o with
      | none => simp_arith [b_is_rising_1, t_is_rising_is_whole, c_whole, optI]
      | some l =>
        have hlt : ¬ u ≤ l := by have := ho l rfl u (List.mem_cons_self ..); omega
        simp_arith [b_is_rising_1, t_is_rising_is_whole, c_whole, optI, hlt]) (vInts ts) [some v, some .non, none] st ⟨rfl, ts, none, none, rfl, h, (fun l hl => by cases hl), rfl⟩
  obtain ⟨rfl, us, o, w, hx, hp, ho, rfl⟩ := q
  simp_arith [b_is_rising, t_is_rising_is_row, hr, hv.it, L]) rfl
theorem c_good_tools {v : Val} {pool : Int} {ts : List Int} (hv : IsSeq v ts) (h : ToolsOk pool ts) (hp : pool ≤ 16) : m_good_tools [v] st = .ok (.bl true, st) := mk_pure0 rfl (by
  obtain ⟨o', L⟩ := forL_same (i := 1) (body := evSs T_good_tools G0 b_good_tools_1) (fun o => [some v, o]) st (fun _ _ => rfl) (vInts ts) (fun x hx => by
    obtain ⟨i, hi, rfl⟩ := List.mem_map.mp hx
    have hb := h.inp i hi
    have h1 : 0 ≤ i := hb.1
    have h2 : i ≤ 15 := by omega
    simp_arith [b_good_tools_1, h1, h2]) none
  simp_arith [b_good_tools, t_good_tools_is_rising, c_is_rising hv h.rise (by have := h.len; omega), hv.it, L]) rfl
theorem c_are_numbers {v : Val} {row : List Int} (hv : IsSeq v row) (hl : row.length = z) (h : InP p row) : m_are_numbers [v, .int z, .int 0, .int (p - 1)] st = .ok (.bl true, st) := mk_pure0 rfl (by
  have hr : m_is_row [v] st = .ok (.bl true, st) := by rcases hv with rfl | rfl; exact row_l; exact row_t
  obtain ⟨o', L⟩ := forL_same (i := 4) (body := evSs T_are_numbers G0 b_are_numbers_1) (fun o => [some v, some (.int z), some (.int 0), some (.int (p - 1)), o]) st (fun _ _ => rfl) (vInts row) (fun x hx => by
    obtain ⟨i, hi, rfl⟩ := List.mem_map.mp hx
    have hb := h i hi
    have h1 : 0 ≤ i := hb.1
    have h2 : i ≤ p - 1 := by omega
    simp_arith [b_are_numbers_1, t_are_numbers_is_between, c_between, h1, h2]) none
  subst hl
  simp_arith [b_are_numbers, t_are_numbers_is_row, hr, hv.len, ne_self, hv.it, L]) rfl
theorem c_good_room {most : Nat} {r : Rm} (h : RmOk p z 16 most r) (hm : most ≤ 6) : m_good_room [vRm r, .int p, .int z] st = .ok (.bl true, st) := mk_pure0 rfl (by
  have hs : ∀ env : MP.Env, seqN [3, 4, 5] (vRm r) env st = some (setN [3, 4, 5] [.int r.keys, .lst (vInts r.tools), .lst (r.clues.map vRow)] env) := fun env => seqN_of rfl rfl
  obtain ⟨o', L⟩ := forL_same (i := 6) (body := evSs T_good_room G0 b_good_room_1) (fun o => [some (vRm r), some (.int p), some (.int z), some (.int r.keys), some (.lst (vInts r.tools)), some (.lst (r.clues.map vRow)), o]) st (fun _ _ => rfl) (r.clues.map vRow) (fun x hx => by
    obtain ⟨c, hc, rfl⟩ := List.mem_map.mp hx
    obtain ⟨c1, c2⟩ := h.clues c hc
    simp_arith [b_good_room_1, t_good_room_are_numbers, c_are_numbers (v := vRow c) (.inl rfl) c1 c2]) none
  have hc : ¬ (6 : Int) < (r.clues.length : Int) := by have := h.len; omega
  have hrow : m_is_row [vRm r] st = .ok (.bl true, st) := row_l
  have hlen : f1V .len (vRm r) st = .ok (.int 3) := rfl
  simp_arith [b_good_room, t_good_room_is_row, hrow, hlen, ne_self, hs, t_good_room_is_between, c_between, h.keys.1, h.keys.2, t_good_room_good_tools, c_good_tools (v := .lst (vInts r.tools)) (.inl rfl) h.tools (Int.le_refl _), row_l, List.length_map, hc, L]) rfl
theorem c_good_door {c : Nat} {d : Dr} (h : DrOk p z 16 c d) : m_good_door [vDr d, .int p, .int z, .int c] st = .ok (.bl true, st) := mk_pure0 rfl (by
  have hs : ∀ env : MP.Env, seqN [4, 5, 6, 7, 8, 9] (vDr d) env st = some (setN [4, 5, 6, 7, 8, 9] [.int d.front, .int d.back, .int d.minutes, .int d.price, .lst (vInts d.tools), vCode d.code] env) := fun env => seqN_of rfl rfl
  have hrow : m_is_row [vDr d] st = .ok (.bl true, st) := row_l
  have hlen : f1V .len (vDr d) st = .ok (.int 6) := rfl
  have f1 : d.front ≤ (c : Int) - 1 := by have := h.front; omega
  have f2 : d.back ≤ (c : Int) - 1 := by have := h.back; omega
  have hcode : d.code = none ∨ ∃ row, d.code = some row := by cases d.code; exact .inl rfl; exact .inr ⟨_, rfl⟩
  have ht := c_good_tools (st := st) (v := .lst (vInts d.tools)) (.inl rfl) h.tools (Int.le_refl _)
  rcases hcode with hc | ⟨row, hc⟩
  · rw [hc] at hs
    simp_arith [b_good_door, t_good_door_is_row, hrow, hlen, ne_self, hs, t_good_door_is_between, c_between, h.front.1, f1, h.back.1, f2, h.ne, h.minutes.1, h.minutes.2, h.price.1, h.price.2, t_good_door_good_tools, ht, vCode]
  · rw [hc] at hs
    obtain ⟨c1, c2⟩ := h.code row hc
    simp_arith [b_good_door, t_good_door_is_row, hrow, hlen, ne_self, hs, t_good_door_is_between, c_between, h.front.1, f1, h.back.1, f2, h.ne, h.minutes.1, h.minutes.2, h.price.1, h.price.2, t_good_door_good_tools, ht, vCode, t_good_door_are_numbers, c_are_numbers (v := .lst (vInts row)) (.inl rfl) c1 c2]) rfl
end
section
variable {st : Store} {p : Int} {z : Nat}
theorem sum_of {v : Val} {k : Bool} {ns : List Int} (h : seqOf st v = some (true, vInts ns)) : f1V .sum v st = .ok (.int ns.sum) := by
  show (match seqOf st v with | some (true, xs) => (match asInts xs with | some ns => R.ok (Val.int ns.sum) | none => .stuck) | _ => .stuck) = _
  rw [h]; simp only [asInts_vInts]
theorem c_check_rooms {most : Nat} {rs : List Rm} (h : ∀ r ∈ rs, RmOk p z 16 most r) (hm : most ≤ 6) (hl : rs.length ≤ 24) (hs : (rs.map fun r => (r.clues.length : Int)).sum ≤ 30) : m_check_rooms [vRms rs, .int p, .int z] st = .ok (.non, st) := mk_pure0 rfl (by
  obtain ⟨o', L⟩ := forL_range (i := 3) (body := evSs T_check_rooms G_check_rooms b_check_rooms_1) (fun _ o => [some (vRms rs), some (.int p), some (.int z), o]) (fun _ => st) rs.length (fun _ _ _ => rfl) (fun k hk => by
    obtain ⟨r, hr1, hr2⟩ := rm_get (rs := rs) hk
    have hix : ixV st (vRms rs) (.int k) = .ok (vRm r) := ixL hr2
    simp_arith [b_check_rooms_1, hix, t_check_rooms_good_room, c_good_room (h r hr1) hm]) none
  have hcomp : ∀ env : MP.Env, env.length = 4 → compL (ev T_check_rooms G_check_rooms .no).t (ev T_check_rooms G_check_rooms b_check_rooms_2).v 3 (rs.map vRm) env st = .ok (rs.map fun r => Val.int r.clues.length, st) := fun env hl => by
    refine compL_map0 vRm (fun r => Val.int r.clues.length) rs (fun _ _ => rfl) fun r hr => ?_
    have t3 : (env.set 3 (some (vRm r)))[3]? = some (some (vRm r)) := List.getElem?_set_self (by omega)
    have hix : ixV st (vRm r) (.int 2) = .ok (.lst (r.clues.map vRow)) := rfl
    simp_arith [b_check_rooms_2, t3, hix, List.length_map]
  have hit : kI1 (vRms rs, st) = .ok (rs.map vRm, st) := rfl
  have hsum : f1V .sum (.lst (rs.map fun r => Val.int r.clues.length)) st = .ok (.int (rs.map fun r => (r.clues.length : Int)).sum) := by
    have := sum_of (st := st) (v := .lst (vInts (rs.map fun r => (r.clues.length : Int)))) (k := true) rfl
    rw [show (rs.map fun r => Val.int (r.clues.length : Int)) = vInts (rs.map fun r => (r.clues.length : Int)) by unfold vInts; rw [List.map_map]; rfl]
    exact this
  have hns : ¬ (30 : Int) < (rs.map fun r => (r.clues.length : Int)).sum := by omega
  simp_arith [b_check_rooms, len_rms, rng1 (show rs.length ≤ 1000000 by omega), L, hit, List.length_map, show rs.length ≤ 100000 by omega, hcomp, g_check_rooms_MOST_CLUES, hsum, hns]) rfl
theorem dr_get {ds : List Dr} {k : Nat} (h : k < ds.length) : ∃ r, r ∈ ds ∧ (ds.map vDr)[k]? = some (vDr r) := ⟨ds[k], List.getElem_mem h, by rw [List.getElem?_map, List.getElem?_eq_getElem h]; rfl⟩
theorem len_drs {ds : List Dr} : f1V .len (vDrs ds) st = .ok (.int ds.length) := by unfold vDrs; rw [len_lst, List.length_map]
theorem c_check_doors {c : Nat} {ds : List Dr} (h : ∀ d ∈ ds, DrOk p z 16 c d) (hl : ds.length ≤ 36) : m_check_doors [vDrs ds, .int p, .int z, .int c] st = .ok (.non, st) := mk_pure0 rfl (by
  obtain ⟨o', L⟩ := forL_range (i := 4) (body := evSs T_check_doors G0 b_check_doors_1) (fun _ o => [some (vDrs ds), some (.int p), some (.int z), some (.int c), o]) (fun _ => st) ds.length (fun _ _ _ => rfl) (fun k hk => by
    obtain ⟨d, hd1, hd2⟩ := dr_get (ds := ds) hk
    have hix : ixV st (vDrs ds) (.int k) = .ok (vDr d) := ixL hd2
    simp_arith [b_check_doors_1, hix, t_check_doors_good_door, c_good_door (h d hd1)]) none
  simp_arith [b_check_doors, len_drs, rng1 (show ds.length ≤ 1000000 by omega), L]) rfl
/-! as the house keeps them -/
def tRow (r : List Int) : Val := .tup (vInts r)
def tCode : Option (List Int) → Val | some c => .tup (vInts c) | none => .non
def tRm (r : Rm) : Val := .tup [.int r.keys, .tup (vInts r.tools), .tup (r.clues.map tRow)]
def tDr (d : Dr) : Val := .tup [.int d.front, .int d.back, .int d.minutes, .int d.price, .tup (vInts d.tools), tCode d.code]
theorem closed_trows (n : Nat) : ∀ rs : List (List Int), closedL n (rs.map tRow) = true
  | [] => rfl
  | r :: rs => by show (closedL n (vInts r) && closedL n (rs.map tRow)) = true; rw [closed_vInts n r, closed_trows n rs]; rfl
theorem closed_trm (n : Nat) (r : Rm) : closed n (tRm r) = true := by
  show (true && (closedL n (vInts r.tools) && (closedL n (r.clues.map tRow) && true))) = true
  rw [closed_vInts, closed_trows]; rfl
theorem closed_tcode (n : Nat) (c : Option (List Int)) : closed n (tCode c) = true := by
  cases c with
  | none => rfl
  | some c => exact closed_vInts n c
theorem closed_tdr (n : Nat) (d : Dr) : closed n (tDr d) = true := by
  show (true && (true && (true && (true && (closedL n (vInts d.tools) && (closed n (tCode d.code) && true)))))) = true
  rw [closed_vInts, closed_tcode]; rfl
theorem closed_trms (n : Nat) : ∀ rs : List Rm, closedL n (rs.map tRm) = true
  | [] => rfl
  | r :: rs => by show (closed n (tRm r) && closedL n (rs.map tRm)) = true; rw [closed_trm n r, closed_trms n rs]; rfl
theorem closed_tdrs (n : Nat) : ∀ rs : List Dr, closedL n (rs.map tDr) = true
  | [] => rfl
  | r :: rs => by show (closed n (tDr r) && closedL n (rs.map tDr)) = true; rw [closed_tdr n r, closed_tdrs n rs]; rfl
theorem small_v {ns : List Int} (h : ns.length ≤ 100000) : (vInts ns).length ≤ szMax := by rw [vInts_len]; exact h
theorem c_copied_room {most : Nat} {r : Rm} (h : RmOk p z 16 most r) (hm : most ≤ 6) (hz : z ≤ 6) : m_copied_room [vRm r] st = .ok (tRm r, st) := mk_pure0 rfl (by
  have i0 : ixV st (vRm r) (.int 0) = .ok (.int r.keys) := rfl
  have i1 : ixV st (vRm r) (.int 1) = .ok (.lst (vInts r.tools)) := rfl
  have i2 : ixV st (vRm r) (.int 2) = .ok (.lst (r.clues.map vRow)) := rfl
  have hcomp : compL (ev T_copied_room G0 .no).t (ev T_copied_room G0 b_copied_room_1).v 1 (r.clues.map vRow) [some (vRm r), none] st = .ok (r.clues.map tRow, st) := by
    refine compL_map0 vRow tRow r.clues (fun _ _ => rfl) fun c hc => ?_
    have hc1 := h.clues c hc
    have := gtup_of (m := false) (st := st) (v := vRow c) (k := true) (xs := vInts c) rfl (small_v (by omega))
    simp_arith [b_copied_room_1, this, tRow]
  have hl := h.len
  have ht := h.tools.len
  have e1 : (r.clues.map tRow).length ≤ szMax := by rw [List.length_map]; unfold szMax; omega
  simp_arith [b_copied_room, i0, i1, i2, gtup_of (seqOf_lst _) (small_v (show r.tools.length ≤ 100000 by omega)), List.length_map, show r.clues.length ≤ 100000 by omega, hcomp, newL_f _ e1, gtup_of (seqOf_lst _) e1, tRm]) (closed_trm 0 r)
theorem c_copied_door {c : Nat} {d : Dr} (h : DrOk p z 16 c d) (hz : z ≤ 6) : m_copied_door [vDr d] st = .ok (tDr d, st) := mk_pure0 rfl (by
  have i0 : ixV st (vDr d) (.int 0) = .ok (.int d.front) := rfl
  have i1 : ixV st (vDr d) (.int 1) = .ok (.int d.back) := rfl
  have i2 : ixV st (vDr d) (.int 2) = .ok (.int d.minutes) := rfl
  have i3 : ixV st (vDr d) (.int 3) = .ok (.int d.price) := rfl
  have i4 : ixV st (vDr d) (.int 4) = .ok (.lst (vInts d.tools)) := rfl
  have i5 : ixV st (vDr d) (.int 5) = .ok (vCode d.code) := rfl
  have ht := h.tools.len
  have hcode : d.code = none ∨ ∃ row, d.code = some row := by cases d.code; exact .inl rfl; exact .inr ⟨_, rfl⟩
  rcases hcode with hc | ⟨row, hc⟩
  · rw [hc] at i5
    simp_arith [b_copied_door, i0, i1, i2, i3, i4, i5, vCode, gtup_of (seqOf_lst _) (small_v (show d.tools.length ≤ 100000 by omega)), tDr, hc, tCode]
  · rw [hc] at i5
    obtain ⟨c1, c2⟩ := h.code row hc
    simp_arith [b_copied_door, i0, i1, i2, i3, i4, i5, vCode, gtup_of (seqOf_lst _) (small_v (show d.tools.length ≤ 100000 by omega)), gtup_of (seqOf_lst _) (small_v (show row.length ≤ 100000 by omega)), tDr, hc, tCode]) (closed_tdr 0 d)
end
section
variable {st : Store} {mr md ms mc : Nat} {h : HsD}
def hsNames : List Str := ["prime", "size", "rooms", "doors", "last"]
def vHouse (h : HsD) : Val := .obj "House" ["prime", "size", "rooms", "doors", "last"] [.int h.prime, .int h.size, .tup (h.rooms.map tRm), .tup (h.doors.map tDr), .int h.last]
theorem closed_house (n : Nat) (h : HsD) : closed n (vHouse h) = true := by
  show (true && (true && (closedL n (h.rooms.map tRm) && (closedL n (h.doors.map tDr) && (true && true))))) = true
  rw [closed_trms, closed_tdrs]; rfl
def clN (rs : List Rm) : Int := (rs.map fun r => (r.clues.length : Int)).sum
theorem clN_le {p : Int} {z : Nat} {mc : Nat} : ∀ {rs : List Rm}, (∀ r ∈ rs, RmOk p z 16 mc r) → clN rs ≤ rs.length * mc
  | [], _ => by simp [clN]
  | r :: rs, h => by
    have h1 := (h r (List.mem_cons_self ..)).len
    have h2 := clN_le (rs := rs) fun r hr => h r (List.mem_cons_of_mem _ hr)
    unfold clN at h2 ⊢
    rw [List.map_cons, List.sum_cons, List.length_cons]
    have : ((rs.length + 1 : Nat) : Int) * mc = rs.length * mc + mc := by rw [Int.natCast_add, Int.add_mul]; simp
    omega
theorem c_House_init {n : Nat} (H : HsOk mr md ms mc h) (hmr : mr ≤ 24) (hmd : md ≤ 36) (hms : ms ≤ 6) (hmc : mc ≤ 6) (hs : clN h.rooms ≤ 30) (hn : st[n]? = some (.obj "House" [] [])) :
    m_House_init [.loc n, .int h.prime, .int h.size, vRms h.rooms, vDrs h.doors, .int h.last] st = .ok (.non, st.set n (.obj "House" ["prime", "size", "rooms", "doors", "last"] [.int h.prime, .int h.size, .tup (h.rooms.map tRm), .tup (h.doors.map tDr), .int h.last])) := by
  refine mk_set (g := []) rfl ?_ rfl (by show closedL 0 _ = true; exact closed_house 0 h)
  have hz : h.size ≤ 6 := Nat.le_trans H.size hms
  have hl : h.rooms.length ≤ 24 := Nat.le_trans H.rooms.2 hmr
  have hd : h.doors.length ≤ 36 := Nat.le_trans H.doors hmd
  have hp : cmpV .notin (.int h.prime) (.tup (vInts primesL)) st = .ok false := by rw [notin_of h.prime (seqOf_tup _)]; simp [H.prime]
  have hp : cmpV .notin (.int h.prime) (.tup [.int 2, .int 3, .int 5, .int 7, .int 11, .int 13, .int 17, .int 19, .int 23, .int 29, .int 31]) st = .ok false := hp
  have z0 : (0 : Int) ≤ (h.size : Int) := by omega
  have z6 : (h.size : Int) ≤ 6 := by omega
  have r0 : ¬ (h.rooms.length : Int) = 0 := by have := H.rooms.1; omega
  have r24 : ¬ (24 : Int) < (h.rooms.length : Int) := by omega
  have d36 : ¬ (36 : Int) < (h.doors.length : Int) := by omega
  have l1 : h.last ≤ (h.rooms.length : Int) - 1 := by have := H.last; omega
  have c1 : ∀ (s : Store) (env : MP.Env), env.length = 8 → compL (ev T_House_init G_House_init .no).t (ev T_House_init G_House_init b_House_init_1).v 6 (h.rooms.map vRm) env s = .ok (h.rooms.map tRm, s) := fun s env he => by
    refine compL_map0 vRm tRm h.rooms (fun _ _ => rfl) fun r hr => ?_
    have t6 : (env.set 6 (some (vRm r)))[6]? = some (some (vRm r)) := List.getElem?_set_self (by omega)
    simp_arith [b_House_init_1, t6, t_House_init_copied_room, c_copied_room (H.room r hr) hmc hz]
  have c2 : ∀ (s : Store) (env : MP.Env), env.length = 8 → compL (ev T_House_init G_House_init .no).t (ev T_House_init G_House_init b_House_init_2).v 7 (h.doors.map vDr) env s = .ok (h.doors.map tDr, s) := fun s env he => by
    refine compL_map0 vDr tDr h.doors (fun _ _ => rfl) fun r hr => ?_
    have t6 : (env.set 7 (some (vDr r)))[7]? = some (some (vDr r)) := List.getElem?_set_self (by omega)
    simp_arith [b_House_init_2, t6, t_House_init_copied_door, c_copied_door (H.door r hr) hz]
  have hg : ∀ x : Cell, (st.set n x)[n]? = some x := fun x => g_set hn
  have i1 : ∀ s : Store, kI1 (vRms h.rooms, s) = .ok (h.rooms.map vRm, s) := fun s => rfl
  have i2 : ∀ s : Store, kI1 (vDrs h.doors, s) = .ok (h.doors.map vDr, s) := fun s => rfl
  have e1 : (h.rooms.map tRm).length ≤ szMax := by rw [List.length_map]; unfold szMax; omega
  have e2 : (h.doors.map tDr).length ≤ szMax := by rw [List.length_map]; unfold szMax; omega
  simp_arith [b_House_init, g_House_init_PRIMES, g_House_init_MOST_ROOMS, g_House_init_MOST_DOORS, hp, t_House_init_is_between, c_between, z0, z6, len_rms, len_drs, r0, r24, d36, t_House_init_check_rooms, c_check_rooms H.room hmc hl hs, t_House_init_check_doors, c_check_doors H.door hd, H.last.1, l1,
    hn, hg, fs_House_prime, fs_House_size, fs_House_rooms, fs_House_doors, fs_House_last, List.set_set, i1, i2, List.length_map, show h.rooms.length ≤ 100000 by omega, show h.doors.length ≤ 100000 by omega, c1, c2, newL_f _ e1, newL_f _ e2, gtup_of (seqOf_lst _) e1, gtup_of (seqOf_lst _) e2, List.append_nil]
theorem c_law_made (H : HsOk mr md ms mc h) (hmr : mr ≤ 24) (hmd : md ≤ 36) (hms : ms ≤ 6) (hmc : mc ≤ 6) (hs : clN h.rooms ≤ 30) : m_law_made [vHs h] st = .ok (vHouse h, st) := by
  refine mk_pure (g := [.fob "House" ["prime", "size", "rooms", "doors", "last"] [.int h.prime, .int h.size, .tup (h.rooms.map tRm), .tup (h.doors.map tDr), .int h.last]]) rfl ?_ (closed_house 0 h)
  have i0 : ixV st (vHs h) (.int 0) = .ok (.int h.prime) := rfl
  have i1 : ixV st (vHs h) (.int 1) = .ok (.int h.size) := rfl
  have i2 : ixV st (vHs h) (.int 2) = .ok (vRms h.rooms) := rfl
  have i3 : ixV st (vHs h) (.int 3) = .ok (vDrs h.doors) := rfl
  have i4 : ixV st (vHs h) (.int 4) = .ok (.int h.last) := rfl
  have hi := c_House_init (st := st ++ [Cell.obj "House" [] []]) (n := st.length) H hmr hmd hms hmc hs g_0
  rw [s_0] at hi
  simp_arith [b_law_made, i0, i1, i2, i3, i4, t_law_made_House_init, hi, vHouse]
/-! doors of a house -/
theorem house_doors_f {s : Store} : vFld "House" "doors" (vHouse h) s = .ok (.tup (h.doors.map tDr)) := rfl
theorem c_door_of {k : Nat} (hk : k < h.doors.length) : ∃ d, d ∈ h.doors ∧ (h.doors)[k]? = some d ∧ m_door_of [vHouse h, .int k] st = .ok (tDr d, st) := by
  refine ⟨h.doors[k], List.getElem_mem hk, List.getElem?_eq_getElem hk, mk_pure0 rfl ?_ (closed_tdr 0 _)⟩
  have h0 : (0 : Int) ≤ (k : Int) := by omega
  have h1 : (k : Int) ≤ (h.doors.length : Int) - 1 := by omega
  have hix : atI (h.doors.map tDr) (k : Int) = some (tDr h.doors[k]) := atI_n (by rw [List.getElem?_map, List.getElem?_eq_getElem hk]; rfl)
  simp_arith [b_door_of, house_doors_f, List.length_map, t_door_of_is_between, c_between, h0, h1, hix]
theorem c_door_of_x {d : Int} (hd : ¬ (0 ≤ d ∧ d < h.doors.length)) : m_door_of [vHouse h, .int d] st = .exn "NoDoor" [.int d] st := by
  refine mk_exn0 rfl ?_ rfl
  have hb : (decide (0 ≤ d) && decide (d ≤ (h.doors.length : Int) - 1)) = false := by
    cases q : (decide (0 ≤ d) && decide (d ≤ (h.doors.length : Int) - 1)) with
    | false => rfl
    | true => simp at q; exact absurd ⟨q.1, by omega⟩ hd
  simp_arith [b_door_of, house_doors_f, List.length_map, t_door_of_is_between, c_between, hb]
end
section
variable {st : Store} {h : HsD}
def frontN (h : HsD) (d : Int) : Int := match h.doors[d.toNat]? with | some x => x.front | none => 0
def badD (h : HsD) (d : Int) : Bool := decide (d < 0) || decide ((h.doors.length : Int) ≤ d)
theorem comp_work (env : MP.Env) (he : env.length = 3) (h0 : env[0]? = some (some (vHouse h))) : ∀ ds : List Int, compL (ev T_work_rooms G0 .no).t (ev T_work_rooms G0 b_work_rooms_1).v 2 (vInts ds) env st = match ds.find? (badD h) with | some d => .exn "NoDoor" [.int d] st | none => .ok (vInts (ds.map (frontN h)), st)
  | [] => rfl
  | d :: ds => by
    have ih := comp_work env he h0 ds
    have t0 : (env.set 2 (some (Val.int d)))[0]? = some (some (vHouse h)) := by rw [List.getElem?_set_ne (by decide)]; exact h0
    have t2 : (env.set 2 (some (Val.int d)))[2]? = some (some (.int d)) := List.getElem?_set_self (by omega)
    show compL _ _ 2 (.int d :: vInts ds) env st = _
    have hc : (ev T_work_rooms G0 .no).t (env.set 2 (some (Val.int d))) st = .ok (true, st) := rfl
    by_cases hb : 0 ≤ d ∧ d < h.doors.length
    · have hbf : badD h d = false := by unfold badD; simp; omega
      obtain ⟨k, rfl⟩ := pos_of hb.1
      obtain ⟨x, hx1, hx2, hx3⟩ := c_door_of (st := st) (h := h) (k := k) (by omega)
      have hix : ixV st (tDr x) (.int 0) = .ok (.int x.front) := rfl
      have hf : frontN h (k : Int) = x.front := by unfold frontN; rw [Int.toNat_natCast, hx2]
      have he2 : (ev T_work_rooms G0 b_work_rooms_1).v (env.set 2 (some (Val.int k))) st = .ok (.int x.front, st) := by simp_arith [b_work_rooms_1, t0, t2, t_work_rooms_door_of, hx3, hix]
      rw [List.find?_cons, hbf]
      simp only [compL, hc, R.bind_ok, if_true, he2, ih]
      cases ds.find? (badD h) with
      | some d => rfl
      | none => simp only [R.bind_ok, List.map_cons, hf]; rfl
    · have hbt : badD h d = true := by unfold badD; simp; omega
      have he2 : (ev T_work_rooms G0 b_work_rooms_1).v (env.set 2 (some (Val.int d))) st = .exn "NoDoor" [.int d] st := by simp_arith [b_work_rooms_1, t0, t2, t_work_rooms_door_of, c_door_of_x hb]
      rw [List.find?_cons, hbt]
      simp only [compL, hc, R.bind_ok, if_true, he2, R.bind_exn]
def workV (h : HsD) (ds : List Int) : Val := match ds.find? (badD h) with | some d => .lst [.str "door", .int d] | none => .tup (vInts (ds.map (frontN h)))
theorem c_law_work {ds : List Int} (hl : ds.length ≤ 100) : m_law_work [vHouse h, .lst (vInts ds)] st = .ok (workV h ds, st) := by
  have e1 : (vInts (ds.map (frontN h))).length ≤ szMax := by rw [vInts_len, List.length_map]; unfold szMax; omega
  have hc := comp_work (st := st) (h := h) [some (vHouse h), some (.lst (vInts ds)), none] rfl rfl ds
  unfold workV
  cases hb : ds.find? (badD h) with
  | none =>
    rw [hb] at hc
    have hw : m_work_rooms [vHouse h, .lst (vInts ds)] st = .ok (.tup (vInts (ds.map (frontN h))), st) := mk_pure0 rfl (by simp_arith [b_work_rooms, vInts_len, show ds.length ≤ 100000 by omega, hc, newL_f _ e1, gtup_of (seqOf_lst _) e1]) (closed_vInts 0 _)
    exact mk_pure0 rfl (by simp_arith [b_law_work, t_law_work_work_rooms, hw]) (closed_vInts 0 _)
  | some d =>
    rw [hb] at hc
    have hw : m_work_rooms [vHouse h, .lst (vInts ds)] st = .exn "NoDoor" [.int d] st := mk_exn0 rfl (by simp_arith [b_work_rooms, vInts_len, show ds.length ≤ 100000 by omega, hc]) rfl
    exact mk_pure0 rfl (by simp_arith [b_law_work, t_law_work_work_rooms, hw, hc, LawMP.hc]) rfl
theorem filt_head {p : Int → Bool} : ∀ ds : List Int, (ds.filter p).head? = ds.find? p
  | [] => rfl
  | d :: ds => by
    rw [List.filter_cons, List.find?_cons]
    cases p d with
    | true => rfl
    | false => exact filt_head ds
theorem c_law_work_right {a b : Int} {n mr md ms mc : Nat} (ok : SrcOk a b) (hn : st[n]? = some (srcC a b)) (H : HsOk mr md ms mc h) (hmr : mr ≤ 24) (hmd : md ≤ 36) (hms : ms ≤ 6) (hmc : mc ≤ 6) (hs : clN h.rooms ≤ 30) : ∃ st', m_law_work_right [vHs h, .loc n] st = .ok (.bl true, st') := by
  obtain ⟨t, a1, b1, ok1, t0, t1, e1⟩ := d_draw ok (lim := 7) (by decide) (by decide)
  obtain ⟨t, rfl⟩ := pos_of t0
  have i3 : ∀ s : Store, ixV s (vHs h) (.int 3) = .ok (vDrs h.doors) := fun s => rfl
  have hdl : h.doors.length ≤ 36 := Nat.le_trans H.doors hmd
  obtain ⟨e', s', L, k, hk, hx, ds, a2, b2, o, ok2, hl, rfl, rfl⟩ := forL_inv (i := 5) (body := evSs T_law_work_right G0 b_law_work_right_2) (fun xs env s => ∃ k, k ≤ t ∧ xs = ((List.range t).map fun (k : Nat) => Val.int k).drop k ∧ ∃ (ds : List Int) (a b : Int) (o : Option Val), SrcOk a b ∧ ds.length ≤ k ∧ s = st.set n (srcC a b) ++ [.lst (vInts ds)] ∧ env = [some (vHs h), some (.loc n), some (vHouse h), some (.int h.doors.length), some (.loc st.length), o, none, none, none]) (fun x xs env s ⟨k, hk, hx, ds, a, b, o, ok, hl, hs, he⟩ => by
    obtain ⟨d1, d2⟩ := drop_cons hx.symm
    obtain ⟨d3, _⟩ := List.getElem?_eq_some_iff.mp d1
    have hk' : k < t := by simpa using d3
    subst hs he
    have hlt : (vInts ds).length < 100000 := by rw [vInts_len]; omega
    have app : ∀ i : Int, vInts ds ++ [Val.int i] = vInts (ds ++ [i]) := fun i => by unfold vInts; rw [List.map_append]; rfl
    have els : ∀ a b, SrcOk a b → ∃ ds' a' b', SrcOk a' b' ∧ ds'.length ≤ k + 1 ∧ evSs T_law_work_right G0 (.cons (.ite (.cmp .eq (.call "_law_draw" (.cons (.var 1) (.cons (.int 3) .nil))) (.int 0)) b_law_work_right_1 .nil) .nil) [some (vHs h), some (.loc n), some (vHouse h), some (.int h.doors.length), some (.loc st.length), some x, none, none, none] (st.set n (srcC a b) ++ [.lst (vInts ds)]) = .next [some (vHs h), some (.loc n), some (vHouse h), some (.int h.doors.length), some (.loc st.length), some x, none, none, none] (st.set n (srcC a' b') ++ [.lst (vInts ds')]) := fun a b ok => by
      obtain ⟨v, a1, b1, ok1, v0, v1, e1⟩ := d_draw ok (lim := 3) (by decide) (by decide)
      by_cases hv : v = 0
      · subst hv
        obtain ⟨w, a2, b2, ok2, w0, w1, e2⟩ := d_draw ok1 (lim := 3) (by decide) (by decide)
        obtain ⟨i, hi, hie⟩ := pick8 (ns := [(h.doors.length : Int), -1, 10 ^ 12]) w1 w0
        have hie : atI [Val.int h.doors.length, .int (-1), .int (10 ^ 12)] w = some (.int i) := hie
        refine ⟨ds ++ [i], a2, b2, ok2, by simp; omega, ?_⟩
        simp only [Int.reducePow] at hie
        simp_arith [t_law_work_right_law_draw, (e1.next hn).2, b_law_work_right_1, gs_0, (e2.next hn).2, hie, hlt, ss_0, app]
      · refine ⟨ds, a1, b1, ok1, by omega, ?_⟩
        simp_arith [t_law_work_right_law_draw, (e1.next hn).2, hv]
    by_cases hc : 0 < h.doors.length
    · have hci : (0 : Int) < (h.doors.length : Int) := by omega
      obtain ⟨v, a1, b1, ok1, v0, v1, e1⟩ := d_draw ok (lim := 6) (by decide) (by decide)
      by_cases hv : 0 < v
      · obtain ⟨w, a2, b2, ok2, w0, w1, e2⟩ := d_draw ok1 (lim := (h.doors.length : Int)) hci (by omega)
        refine ⟨_, _, ?_, k + 1, hk', d2, ds ++ [w], a2, b2, some x, ok2, by simp; omega, rfl, rfl⟩
        simp_arith [b_law_work_right_2, hci, t_law_work_right_law_draw, (e1.next hn).2, hv, gs_0, (e2.next hn).2, hlt, ss_0, app]
      · obtain ⟨ds', a2, b2, ok2, l2, e2⟩ := els a1 b1 ok1
        refine ⟨_, _, ?_, k + 1, hk', d2, ds', a2, b2, some x, ok2, l2, rfl, rfl⟩
        simp_arith [t_law_work_right_law_draw] at e2
        simp_arith [b_law_work_right_2, hci, t_law_work_right_law_draw, (e1.next hn).2, hv]
        rw [e2]; rfl
    · have hci : ¬ (0 : Int) < (h.doors.length : Int) := by omega
      obtain ⟨ds', a2, b2, ok2, l2, e2⟩ := els a b ok
      refine ⟨_, _, ?_, k + 1, hk', d2, ds', a2, b2, some x, ok2, l2, rfl, rfl⟩
      simp_arith [t_law_work_right_law_draw] at e2
      simp_arith [b_law_work_right_2, hci, t_law_work_right_law_draw]
      rw [e2]; rfl) ((List.range t).map fun (k : Nat) => Val.int k) [some (vHs h), some (.loc n), some (vHouse h), some (.int h.doors.length), some (.loc st.length), none, none, none, none] (st.set n (srcC a1 b1) ++ [.lst []]) ⟨0, Nat.zero_le _, rfl, [], a1, b1, none, ok1, Nat.le_refl _, rfl, rfl⟩
  have hl6 : ds.length ≤ 6 := by omega
  refine ⟨st.set n (srcC a2 b2), mk_set (g := [.frz (vInts ds)]) rfl ?_ rfl rfl⟩
  have hmade := fun s => c_law_made (st := s) H hmr hmd hms hmc hs
  have hwork := fun s => c_law_work (st := s) (h := h) (ds := ds) (by omega)
  have hfil : ∀ (env : MP.Env) (s : Store), env.length = 9 → env[3]? = some (some (.int h.doors.length)) → compL (ev T_law_work_right G0 b_law_work_right_3).t (ev T_law_work_right G0 (.var 8)).v 8 (vInts ds) env s = .ok (vInts (ds.filter (badD h)), s) := fun env s hl h3 => by
    have := compL_map (c := (ev T_law_work_right G0 b_law_work_right_3).t) (e := (ev T_law_work_right G0 (.var 8)).v) (x := 8) (env := env) (st := s) Val.int (badD h) Val.int ds (fun d hd => by
      have t3 : (env.set 8 (some (Val.int d)))[3]? = some (some (.int h.doors.length)) := by rw [List.getElem?_set_ne (by decide)]; exact h3
      have t8 : (env.set 8 (some (Val.int d)))[8]? = some (some (.int d)) := List.getElem?_set_self (by omega)
      unfold badD
      by_cases q : d < 0
      · simp_arith [b_law_work_right_3, t3, t8, q]
      · simp_arith [b_law_work_right_3, t3, t8, q]) (fun d hd _ => by
      have t8 : (env.set 8 (some (Val.int d)))[8]? = some (some (.int d)) := List.getElem?_set_self (by omega)
      simp_arith [t8])
    exact this
  have hfl : (ds.filter (badD h)).length ≤ 6 := Nat.le_trans (List.length_filter_le ..) hl6
  have ef : (vInts (ds.filter (badD h))).length ≤ szMax := by rw [vInts_len]; unfold szMax; omega
  have ed : (vInts ds).length ≤ szMax := by rw [vInts_len]; unfold szMax; omega
  cases hb : ds.find? (badD h) with
  | some d =>
    have hd : workV h ds = .lst [.str "door", .int d] := by unfold workV; rw [hb]
    have hh := filt_head (p := badD h) ds
    rw [hb] at hh
    obtain ⟨r, hr⟩ : ∃ r, ds.filter (badD h) = d :: r := by
      cases q : ds.filter (badD h) with
      | nil => rw [q] at hh; cases hh
      | cons x r => rw [q] at hh; cases hh; exact ⟨r, rfl⟩
    have hlen : (0 : Int) < ((r.length + 1 : Nat) : Int) := by omega
    rw [hr] at hfil ef
    have hat : atI (vInts (d :: r)) 0 = some (.int d) := at_0
    have heq : ∀ s : Store, cmpV .eq (.lst [.str "door", .int d]) (.lst [.str "door", .int d]) s = .ok true := fun s => MP.eq_self (sz_lst (k := 63) fun x hx => by
      simp only [List.mem_cons, List.not_mem_nil, or_false] at hx
      rcases hx with rfl | rfl
      · decide +kernel
      · exact sz_int _) s
    rw [hd] at hwork
    simp_arith [b_law_work_right, t_law_work_right_law_made, hmade, i3, len_drs, t_law_work_right_law_draw, (e1.first hn).2, rng1 (show t ≤ 1000000 by omega), L, gs_0, ss_0, vInts_len, show ds.length ≤ 100000 by omega, hfil, newL_f _ ef, glist_of (k := true) (xs := vInts ds) (v := .loc st.length) (st := st.set n (srcC a2 b2) ++ [.frz (vInts ds)]) (by simp_arith [gs_0, oSeq]) ed, t_law_work_right_law_work, hwork, hlen, hat, heq]
  | none =>
    have hd : workV h ds = .tup (vInts (ds.map (frontN h))) := by unfold workV; rw [hb]
    have hr : ds.filter (badD h) = [] := by
      have hh := filt_head (p := badD h) ds
      rw [hb] at hh
      cases q : ds.filter (badD h) with
      | nil => rfl
      | cons x r => rw [q] at hh; cases hh
    rw [hr] at hfil ef
    rw [hd] at hwork
    have hgood : ∀ d ∈ ds, badD h d = false := fun d hd => by
      have := List.find?_eq_none.mp hb d hd
      simpa using this
    have hc4 : ∀ (env : MP.Env) (s : Store), env.length = 9 → env[0]? = some (some (vHs h)) → compL (ev T_law_work_right G0 .no).t (ev T_law_work_right G0 b_law_work_right_4).v 8 (vInts ds) env s = .ok (vInts (ds.map (frontN h)), s) := fun env s hl h0 => by
      have := compL_map0 (c := (ev T_law_work_right G0 .no).t) (e := (ev T_law_work_right G0 b_law_work_right_4).v) (x := 8) (env := env) (st := s) Val.int (fun d => Val.int (frontN h d)) ds (fun _ _ => rfl) (fun d hd => by
        have t0 : (env.set 8 (some (Val.int d)))[0]? = some (some (vHs h)) := by rw [List.getElem?_set_ne (by decide)]; exact h0
        have t8 : (env.set 8 (some (Val.int d)))[8]? = some (some (.int d)) := List.getElem?_set_self (by omega)
        have hg := hgood d hd
        have hb2 : 0 ≤ d ∧ d < h.doors.length := by unfold badD at hg; simp at hg; omega
        obtain ⟨k, rfl⟩ := pos_of hb2.1
        obtain ⟨x, hx1, hx2⟩ := dr_get (ds := h.doors) (k := k) (by omega)
        have hix : ixV s (vDrs h.doors) (.int k) = .ok (vDr x) := ixL hx2
        have hix2 : ixV s (vDr x) (.int 0) = .ok (.int x.front) := rfl
        have hf : frontN h (k : Int) = x.front := by
          unfold frontN; rw [Int.toNat_natCast]
          rw [List.getElem?_map] at hx2
          cases q : h.doors[k]? with
          | none => rw [q] at hx2; cases hx2
          | some y =>
            rw [q] at hx2
            have : vDr y = vDr x := by simpa using hx2
            injection this with this
            injection this with t1 t2
            injection t1
        simp_arith [b_law_work_right_4, t0, t8, i3, hix, hix2, hf])
      simpa only [vInts, List.map_map, Function.comp_def] using this
    have em : (vInts (ds.map (frontN h))).length ≤ szMax := by rw [vInts_len, List.length_map]; unfold szMax; omega
    have hlen : ¬ (0 : Int) < ((0 : Nat) : Int) := by omega
    have heq : ∀ s : Store, cmpV .eq (.lst (vInts (ds.map (frontN h)))) (.lst (vInts (ds.map (frontN h)))) s = .ok true := fun s => MP.eq_self (sz_lst (k := 63) (sz_ints _)) s
    simp_arith [b_law_work_right, t_law_work_right_law_made, hmade, i3, len_drs, t_law_work_right_law_draw, (e1.first hn).2, rng1 (show t ≤ 1000000 by omega), L, gs_0, ss_0, vInts_len, show ds.length ≤ 100000 by omega, hfil, newL_f _ ef, glist_of (k := true) (xs := vInts ds) (v := .loc st.length) (st := st.set n (srcC a2 b2) ++ [.frz (vInts ds)]) (by simp_arith [gs_0, oSeq]) ed, t_law_work_right_law_work, hwork, hlen, glist_of (seqOf_tup _) em, hc4, newL_f _ em, heq]
end
/-! routes and slots, good or not -/
section
variable {st : Store}
def isEnd : RS → Bool | .ret _ _ => true | .exn _ _ _ _ => true | _ => false
def scanE {β : Type} (p : β → Nat → Bool) (f : β → Nat → β) : List Nat → β → Option Nat
  | [], _ => none
  | k :: ks, s => if p s k = true then some k else scanE p f ks (f s k)
theorem forL_scan {β : Type} {i : Nat} {body : MP.Env → Store → RS} {E : β → Option Val → MP.Env} {p : β → Nat → Bool} {f : β → Nat → β} {R : Nat → MP.Env → RS} (hR : ∀ k e, isEnd (R k e) = true) (hset : ∀ s o v, (E s o).set i (some v) = E s (some v)) :
    ∀ (ks : List Nat) (s : β) (o : Option Val), (∀ s, ∀ k ∈ ks, body (E s (some (.int k))) st = if p s k = true then R k (E s (some (.int k))) else .next (E (f s k) (some (.int k))) st) →
      ∃ s' o' e', forL i body (ks.map fun (k : Nat) => Val.int k) (E s o) st = match scanE p f ks s with | some k => R k e' | none => .next (E s' o') st
  | [], s, o, _ => ⟨s, o, [], rfl⟩
  | k :: ks, s, o, h => by
    have h1 := h s k (List.mem_cons_self ..)
    cases hp : p s k with
    | true =>
      rw [hp, if_pos rfl] at h1
      refine ⟨s, o, E s (some (.int k)), ?_⟩
      simp only [List.map_cons, forL, hset, h1, scanE, hp, if_true]
      have := hR k (E s (some (.int k)))
      cases hr : R k (E s (some (.int k))) <;> rw [hr] at this <;> first | rfl | cases this
    | false =>
      rw [hp, if_neg Bool.false_ne_true] at h1
      obtain ⟨s', o', e', h2⟩ := forL_scan hR hset ks (f s k) (some (.int k)) fun s q hq => h s q (List.mem_cons_of_mem _ hq)
      refine ⟨s', o', e', ?_⟩
      simp only [List.map_cons, forL, hset, h1, h2, scanE, hp, Bool.false_eq_true, if_false]
/-- a whole number or a truth value -/
def NumB (x : Val) : Prop := (∃ i, x = .int i) ∨ x = .bl true
def btw (l u : Int) : Val → Bool | .int i => decide (l ≤ i) && decide (i ≤ u) | _ => false
theorem c_betweenB {x : Val} (hx : NumB x) (l u : Int) : m_is_between [x, .int l, .int u] st = .ok (.bl (btw l u x), st) := by
  rcases hx with ⟨i, rfl⟩ | rfl
  · exact c_between i l u
  · have hw : m_is_whole [.bl true] st = .ok (.bl false, st) := mk_pure0 rfl (by simp_arith [b_is_whole]) rfl
    exact mk_pure0 rfl (by simp_arith [b_is_between, t_is_between_is_whole, hw, btw]) rfl
theorem c_isintB {x : Val} (hx : NumB x) : m_law_is_integer [x] st = .ok (.bl (match x with | .int _ => true | _ => false), st) := by
  rcases hx with ⟨i, rfl⟩ | rfl
  · exact c_isint i
  · exact mk_pure0 rfl (by simp_arith [b_law_is_integer]) rfl
def IsV (v : Val) (xs : List Val) : Prop := v = .lst xs ∨ v = .tup xs
variable {v w : Val} {xs ys : List Val}
theorem IsV.len (h : IsV v xs) : f1V .len v st = .ok (.int xs.length) := by rcases h with rfl | rfl <;> simp only [len_lst, len_tup]
theorem IsV.ix (h : IsV v xs) {k : Nat} (hk : k < xs.length) : ixV st v (.int k) = .ok (xs.getD k .non) := by
  have e : xs[k]? = some (xs.getD k .non) := by rw [List.getD_eq_getElem?_getD, List.getElem?_eq_getElem hk]; rfl
  rcases h with rfl | rfl
  · exact ixL e
  · exact ixT e
theorem NumB.get (h : ∀ x ∈ xs, NumB x) {k : Nat} (hk : k < xs.length) : NumB (xs.getD k .non) := by
  rw [List.getD_eq_getElem?_getD, List.getElem?_eq_getElem hk]; exact h _ (List.getElem_mem hk)
def badR (xs : List Val) : Option Nat := scanE (fun (_ : Unit) k => !btw 0 99 (xs.getD k .non)) (fun _ _ => ()) (List.range xs.length) ()
def routeF (xs : List Val) : Option (Str × Int) := if xs.length = 0 then some ("BadRoute", 0) else if 60 < xs.length then some ("TooMany", 60) else (badR xs).map fun k => ("BadRoute", (k : Int))
def outF (o : Option (Str × Int)) (st : Store) : RV := match o with | some (c, i) => .exn c [.int i] st | none => .ok (.non, st)
theorem qd_check_route (hv : IsV v xs) (hx : ∀ x ∈ xs, NumB x) (hl : xs.length ≤ 100) : m_check_route [v] st = outF (routeF xs) st := by
  unfold routeF
  by_cases h0 : xs.length = 0
  · rw [if_pos h0]
    have e0 : (xs.length : Int) = 0 := by omega
    exact mk_exn0 rfl (by simp_arith [b_check_route, hv.len, e0]) rfl
  · rw [if_neg h0]
    have e0 : ¬ (xs.length : Int) = 0 := by omega
    by_cases h6 : 60 < xs.length
    · rw [if_pos h6]
      have e6 : (60 : Int) < (xs.length : Int) := by omega
      exact mk_exn0 rfl (by simp_arith [b_check_route, hv.len, e0, g_check_route_MOST_STEPS, e6]) rfl
    · rw [if_neg h6]
      have e6 : ¬ (60 : Int) < (xs.length : Int) := by omega
      obtain ⟨s', o', e', L⟩ := forL_scan (st := st) (i := 1) (body := evSs T_check_route G_check_route b_check_route_1) (E := fun (_ : Unit) o => [some v, o]) (p := fun _ k => !btw 0 99 (xs.getD k .non)) (f := fun _ _ => ()) (R := fun k e => .exn "BadRoute" [.int k] e st) (fun _ _ => rfl) (fun _ _ _ => rfl) (List.range xs.length) () none (fun _ k hk => by
        have hk' := List.mem_range.mp hk
        have hb := c_betweenB (st := st) (NumB.get hx hk') 0 99
        cases hq : btw 0 99 (xs.getD k .non) with
        | true => rw [hq] at hb; simp_arith [b_check_route_1, hv.ix hk', g_check_route_LAST_ROOM, t_check_route_is_between, hb]
        | false => rw [hq] at hb; simp_arith [b_check_route_1, hv.ix hk', g_check_route_LAST_ROOM, t_check_route_is_between, hb])
      change forL 1 _ _ _ _ = (match badR xs with | some k => _ | none => _) at L
      cases hb : badR xs with
      | some k =>
        rw [hb] at L
        exact mk_exn0 rfl (by simp_arith [b_check_route, hv.len, e0, g_check_route_MOST_STEPS, e6, rng1 (show xs.length ≤ 1000000 by omega), L]) rfl
      | none =>
        rw [hb] at L
        exact mk_pure0 rfl (by simp_arith [b_check_route, hv.len, e0, g_check_route_MOST_STEPS, e6, rng1 (show xs.length ≤ 1000000 by omega), L]) rfl
def faultV (o : Option (Str × Int)) : Val := match o with
  | some (c, i) => .lst [.str (if c = "BadRoute" then "route" else if c = "TooMany" then "many" else "tight"), .int i]
  | none => .lst []
theorem d_rooms_fault (hv : IsV v xs) (hx : ∀ x ∈ xs, NumB x) (hl : xs.length ≤ 100) : m_law_rooms_fault [v] st = .ok (faultV (routeF xs), st) := by
  unfold routeF
  by_cases h0 : xs.length = 0
  · rw [if_pos h0]
    have e0 : (xs.length : Int) = 0 := by omega
    exact mk_pure0 rfl (by simp_arith [b_law_rooms_fault, hv.len, e0]; rfl) rfl
  · rw [if_neg h0]
    have e0 : ¬ (xs.length : Int) = 0 := by omega
    by_cases h6 : 60 < xs.length
    · rw [if_pos h6]
      have e6 : (60 : Int) < (xs.length : Int) := by omega
      exact mk_pure0 rfl (by simp_arith [b_law_rooms_fault, hv.len, e0, e6]; rfl) rfl
    · rw [if_neg h6]
      have e6 : ¬ (60 : Int) < (xs.length : Int) := by omega
      obtain ⟨s', o', e', L⟩ := forL_scan (st := st) (i := 1) (body := evSs T_law_rooms_fault G0 b_law_rooms_fault_1) (E := fun (_ : Unit) o => [some v, o]) (p := fun _ k => !btw 0 99 (xs.getD k .non)) (f := fun _ _ => ()) (R := fun k e => .ret (.lst [.str "route", .int k]) st) (fun _ _ => rfl) (fun _ _ _ => rfl) (List.range xs.length) () none (fun _ k hk => by
        have hk' := List.mem_range.mp hk
        have hix := hv.ix (st := st) hk'
        rcases NumB.get hx hk' with ⟨i, hi⟩ | hi
        · rw [hi] at hix ⊢
          by_cases q1 : i < 0
          · have q2 : btw 0 99 (.int i) = false := by unfold btw; simp; omega
            simp_arith [b_law_rooms_fault_1, hix, t_law_rooms_fault_law_is_integer, c_isint, q1, q2]
          · by_cases q3 : 99 < i
            · have q2 : btw 0 99 (.int i) = false := by unfold btw; simp; omega
              simp_arith [b_law_rooms_fault_1, hix, t_law_rooms_fault_law_is_integer, c_isint, q1, q3, q2]
            · have q2 : btw 0 99 (.int i) = true := by unfold btw; simp; omega
              simp_arith [b_law_rooms_fault_1, hix, t_law_rooms_fault_law_is_integer, c_isint, q1, q3, q2]
        · rw [hi] at hix ⊢
          have hw : m_law_is_integer [.bl true] st = .ok (.bl false, st) := c_isintB (.inr rfl)
          simp_arith [b_law_rooms_fault_1, hix, t_law_rooms_fault_law_is_integer, hw, btw])
      change forL 1 _ _ _ _ = (match badR xs with | some k => _ | none => _) at L
      cases hb : badR xs with
      | some k =>
        rw [hb] at L
        exact mk_pure0 rfl (by simp_arith [b_law_rooms_fault, hv.len, e0, e6, rng1 (show xs.length ≤ 1000000 by omega), L]; rfl) rfl
      | none =>
        rw [hb] at L
        exact mk_pure0 rfl (by simp_arith [b_law_rooms_fault, hv.len, e0, e6, rng1 (show xs.length ≤ 1000000 by omega), L]; rfl) rfl
end
section
variable {st : Store} {v w : Val} {xs ys : List Val}
def intOf (x : Val) (d : Int) : Int := match x with | .int i => i | _ => d
def pS (ys : List Val) (s : Int) (k : Nat) : Bool := decide (ys.length ≤ k) || !btw (s + 1) 9999 (ys.getD k .non)
def fS (ys : List Val) (s : Int) (k : Nat) : Int := intOf (ys.getD k .non) s
def wrongN (xs ys : List Val) : Option Nat := match scanE (pS ys) (fS ys) (List.range xs.length) (-1) with | some k => some k | none => if xs.length < ys.length then some xs.length else none
def wrongV : Option Nat → Val | some k => .int k | none => .non
theorem qd_wrong_slot (hv : IsV v xs) (hw : IsV w ys) (hy : ∀ y ∈ ys, NumB y) (hl : xs.length ≤ 100) : m_wrong_slot [v, w] st = .ok (wrongV (wrongN xs ys), st) := by
  have hbody : ∀ (s : Int) (k : Nat), k < xs.length → evSs T_wrong_slot G_wrong_slot b_wrong_slot_1 [some v, some w, some (.int s), some (.int k)] st = if pS ys s k = true then .ret (.int k) st else .next [some v, some w, some (.int (fS ys s k)), some (.int k)] st := fun s k hk => by
    by_cases hk2 : ys.length ≤ k
    · have hki : (ys.length : Int) ≤ (k : Int) := by omega
      have hp : pS ys s k = true := by unfold pS; simp [hk2]
      simp_arith [b_wrong_slot_1, hw.len, hki, hp]
    · have hki : ¬ (ys.length : Int) ≤ (k : Int) := by omega
      have hk3 : k < ys.length := by omega
      have hix := hw.ix (st := st) hk3
      have hb := c_betweenB (st := st) (NumB.get hy hk3) (s + 1) 9999
      have hp : pS ys s k = !btw (s + 1) 9999 (ys.getD k .non) := by unfold pS; simp [hk2]
      rcases NumB.get hy hk3 with ⟨i, hi⟩ | hi
      · rw [hi] at hix hb hp
        have hf : fS ys s k = i := by unfold fS; rw [hi]; rfl
        cases q : btw (s + 1) 9999 (.int i) with
        | true => rw [q] at hb hp; simp_arith [b_wrong_slot_1, hw.len, hki, hix, g_wrong_slot_LAST_SLOT, t_wrong_slot_is_between, hb, hp, hf]
        | false => rw [q] at hb hp; simp_arith [b_wrong_slot_1, hw.len, hki, hix, g_wrong_slot_LAST_SLOT, t_wrong_slot_is_between, hb, hp]
      · rw [hi] at hix hb hp
        have q : btw (s + 1) 9999 (.bl true) = false := rfl
        rw [q] at hb hp
        simp_arith [b_wrong_slot_1, hw.len, hki, hix, g_wrong_slot_LAST_SLOT, t_wrong_slot_is_between, hb, hp]
  obtain ⟨s', o', e', L⟩ := forL_scan (st := st) (i := 3) (body := evSs T_wrong_slot G_wrong_slot b_wrong_slot_1) (E := fun (s : Int) o => [some v, some w, some (.int s), o]) (p := pS ys) (f := fS ys) (R := fun k e => .ret (.int k) st) (fun _ _ => rfl) (fun _ _ _ => rfl) (List.range xs.length) (-1) none (fun s k hk => hbody s k (List.mem_range.mp hk))
  unfold wrongN
  cases hb : scanE (pS ys) (fS ys) (List.range xs.length) (-1) with
  | some k =>
    rw [hb] at L
    exact mk_pure0 rfl (by simp_arith [b_wrong_slot, hv.len, rng1 (show xs.length ≤ 1000000 by omega), L, wrongV]) rfl
  | none =>
    rw [hb] at L
    by_cases q : xs.length < ys.length
    · have qi : (xs.length : Int) < (ys.length : Int) := by omega
      exact mk_pure0 rfl (by simp_arith [b_wrong_slot, hv.len, hw.len, rng1 (show xs.length ≤ 1000000 by omega), L, wrongV, q, qi]) (by dsimp only; rw [if_pos q]; rfl)
    · have qi : ¬ (xs.length : Int) < (ys.length : Int) := by omega
      exact mk_pure0 rfl (by simp_arith [b_wrong_slot, hv.len, hw.len, rng1 (show xs.length ≤ 1000000 by omega), L, wrongV, q, qi]) (by dsimp only; rw [if_neg q]; rfl)
def slotF (xs ys : List Val) : Option (Str × Int) := (wrongN xs ys).map fun k => ("BadRoute", (k : Int))
theorem d_slots_fault (hv : IsV v xs) (hw : IsV w ys) (hy : ∀ y ∈ ys, NumB y) (hl : xs.length ≤ 100) : m_law_slots_fault [v, w] st = .ok (faultV (slotF xs ys), st) := by
  have hbody : ∀ (s : Int) (k : Nat), k < xs.length → evSs T_law_slots_fault G0 b_law_slots_fault_1 [some v, some w, some (.int s), some (.int k)] st = if pS ys s k = true then .ret (.lst [.str "route", .int k]) st else .next [some v, some w, some (.int (fS ys s k)), some (.int k)] st := fun s k hk => by
    by_cases hk2 : ys.length ≤ k
    · have hki : (ys.length : Int) ≤ (k : Int) := by omega
      have hp : pS ys s k = true := by unfold pS; simp [hk2]
      simp_arith [b_law_slots_fault_1, hw.len, hki, hp]
    · have hki : ¬ (ys.length : Int) ≤ (k : Int) := by omega
      have hk3 : k < ys.length := by omega
      have hix := hw.ix (st := st) hk3
      have hp : pS ys s k = !btw (s + 1) 9999 (ys.getD k .non) := by unfold pS; simp [hk2]
      rcases NumB.get hy hk3 with ⟨i, hi⟩ | hi
      · rw [hi] at hix hp
        have hf : fS ys s k = i := by unfold fS; rw [hi]; rfl
        by_cases q1 : i ≤ s
        · have q : btw (s + 1) 9999 (.int i) = false := by unfold btw; simp; omega
          rw [q] at hp
          simp_arith [b_law_slots_fault_1, hw.len, hki, hix, t_law_slots_fault_law_is_integer, c_isint, q1, hp]
        · by_cases q2 : 9999 < i
          · have q : btw (s + 1) 9999 (.int i) = false := by unfold btw; simp; omega
            rw [q] at hp
            simp_arith [b_law_slots_fault_1, hw.len, hki, hix, t_law_slots_fault_law_is_integer, c_isint, q1, q2, hp]
          · have q : btw (s + 1) 9999 (.int i) = true := by unfold btw; simp; omega
            rw [q] at hp
            simp_arith [b_law_slots_fault_1, hw.len, hki, hix, t_law_slots_fault_law_is_integer, c_isint, q1, q2, hp, hf]
      · rw [hi] at hix hp
        have q : btw (s + 1) 9999 (.bl true) = false := rfl
        have hwi : m_law_is_integer [.bl true] st = .ok (.bl false, st) := c_isintB (.inr rfl)
        rw [q] at hp
        simp_arith [b_law_slots_fault_1, hw.len, hki, hix, t_law_slots_fault_law_is_integer, hwi, hp]
  obtain ⟨s', o', e', L⟩ := forL_scan (st := st) (i := 3) (body := evSs T_law_slots_fault G0 b_law_slots_fault_1) (E := fun (s : Int) o => [some v, some w, some (.int s), o]) (p := pS ys) (f := fS ys) (R := fun k e => .ret (.lst [.str "route", .int k]) st) (fun _ _ => rfl) (fun _ _ _ => rfl) (List.range xs.length) (-1) none (fun s k hk => hbody s k (List.mem_range.mp hk))
  unfold slotF wrongN
  cases hb : scanE (pS ys) (fS ys) (List.range xs.length) (-1) with
  | some k =>
    rw [hb] at L
    exact mk_pure0 rfl (by simp_arith [b_law_slots_fault, hv.len, rng1 (show xs.length ≤ 1000000 by omega), L]; rfl) rfl
  | none =>
    rw [hb] at L
    by_cases q : xs.length < ys.length
    · have qi : (xs.length : Int) < (ys.length : Int) := by omega
      dsimp only; rw [if_pos q]
      exact mk_pure0 rfl (by simp_arith [b_law_slots_fault, hv.len, hw.len, rng1 (show xs.length ≤ 1000000 by omega), L, qi]; rfl) rfl
    · have qi : ¬ (xs.length : Int) < (ys.length : Int) := by omega
      dsimp only; rw [if_neg q]
      exact mk_pure0 rfl (by simp_arith [b_law_slots_fault, hv.len, hw.len, rng1 (show xs.length ≤ 1000000 by omega), L, qi]; rfl) rfl
theorem qd_check_slots (hv : IsV v xs) (hw : IsV w ys) (hx : ∀ x ∈ xs, NumB x) (hy : ∀ y ∈ ys, NumB y) (hl : xs.length ≤ 100) : m_check_slots [v, w] st = outF (match routeF xs with | some f => some f | none => slotF xs ys) st := by
  have h1 := qd_check_route (st := st) hv hx hl
  have h2 := qd_wrong_slot (st := st) hv hw hy hl
  cases hr : routeF xs with
  | some f =>
    obtain ⟨c, i⟩ := f
    rw [hr] at h1
    have h1 : m_check_route [v] st = .exn c [.int i] st := h1
    exact mk_exn0 rfl (by simp_arith [b_check_slots, t_check_slots_check_route, h1]) rfl
  | none =>
    rw [hr] at h1
    have h1 : m_check_route [v] st = .ok (.non, st) := h1
    unfold slotF
    cases hw2 : wrongN xs ys with
    | some k =>
      rw [hw2] at h2
      exact mk_exn0 rfl (by simp_arith [b_check_slots, t_check_slots_check_route, h1, t_check_slots_wrong_slot, h2, wrongV]) rfl
    | none =>
      rw [hw2] at h2
      exact mk_pure0 rfl (by simp_arith [b_check_slots, t_check_slots_check_route, h1, t_check_slots_wrong_slot, h2, wrongV]) rfl
def gapF (g least : Int) : Option (Str × Int) := if g < least then some ("TooTight", g) else if 10000 < g then some ("TooMany", 10000) else none
theorem qd_check_gap {g : Int} : m_check_gap [.int g] st = outF (gapF g 1) st := by
  unfold gapF
  by_cases h1 : g < 1
  · rw [if_pos h1]; exact mk_exn0 rfl (by simp_arith [b_check_gap, h1]) rfl
  · rw [if_neg h1]
    by_cases h2 : 10000 < g
    · rw [if_pos h2]; exact mk_exn0 rfl (by simp_arith [b_check_gap, h1, g_check_gap_MOST_GAP, h2]) rfl
    · rw [if_neg h2]; exact mk_pure0 rfl (by simp_arith [b_check_gap, h1, g_check_gap_MOST_GAP, h2]) rfl
theorem d_gap_fault {g l : Int} : m_law_gap_fault [.int g, .int l] st = .ok (faultV (gapF g l), st) := by
  unfold gapF
  by_cases h1 : g < l
  · rw [if_pos h1]; exact mk_pure0 rfl (by simp_arith [b_law_gap_fault, h1]; rfl) rfl
  · rw [if_neg h1]
    by_cases h2 : 10000 < g
    · rw [if_pos h2]; exact mk_pure0 rfl (by simp_arith [b_law_gap_fault, h1, h2]; rfl) rfl
    · rw [if_neg h2]; exact mk_pure0 rfl (by simp_arith [b_law_gap_fault, h1, h2]; rfl) rfl
end
section
variable {st : Store} {v : Val} {rs : List Int}
theorem c_row (hv : IsSeq v rs) : m_is_row [v] st = .ok (.bl true, st) := by
  rcases hv with rfl | rfl <;> exact mk_pure0 rfl (by simp_arith [b_is_row]) rfl
/-- a route -/
structure Rt (rs : List Int) : Prop where
  l0 : 0 < rs.length
  l1 : rs.length ≤ 60
  rm : ∀ r ∈ rs, 0 ≤ r ∧ r ≤ 99
theorem c_check_route (hv : IsSeq v rs) (h : Rt rs) : m_check_route [v] st = .ok (.non, st) := by
  refine mk_pure0 rfl ?_ rfl
  obtain ⟨o, L⟩ := forL_range (i := 1) (body := evSs T_check_route G_check_route b_check_route_1) (fun _ o => [some v, o]) (fun _ => st) rs.length (fun _ _ _ => rfl) (fun k hk => by
    have hb := h.rm _ (cell_mem hk)
    simp_arith [b_check_route_1, hv.ix hk, g_check_route_LAST_ROOM, t_check_route_is_between, c_between, hb.1, hb.2]) none
  have h0 : ¬ (rs.length : Int) = 0 := by have := h.l0; omega
  have h1 : ¬ (60 : Int) < rs.length := by have := h.l1; omega
  simp_arith [b_check_route, hv.len, veq_int, h0, h1, g_check_route_MOST_STEPS, rng1 (show rs.length ≤ 1000000 by have := h.l1; omega), L]
/-- how often a room is visited -/
def cntR (rs : List Int) (r : Int) : Nat := (rs.filter fun x => decide (x = r)).length
theorem cntR_le (rs : List Int) (r : Int) : cntR rs r ≤ rs.length := List.length_filter_le ..
theorem cntR_pos {rs : List Int} {r : Int} (h : r ∈ rs) : 0 < cntR rs r := by
  unfold cntR
  exact List.length_pos_of_mem (List.mem_filter.mpr ⟨h, by simp⟩)
def busyN (rs : List Int) : Int := match rs.map (fun r => (cntR rs r : Int)) with | [] => 0 | n :: ns => maxL n ns
theorem max_cnt (h : 0 < rs.length) : f1V .max (.lst (rs.map fun r => .int (cntR rs r))) st = .ok (.int (busyN rs)) := by
  have e : rs.map (fun r => Val.int (cntR rs r)) = vInts (rs.map fun r => (cntR rs r : Int)) := by simp [vInts]
  rw [e]
  unfold f1V
  simp only [seqOf_lst, asInts_vInts]
  unfold busyN
  cases hq : rs.map (fun r => (cntR rs r : Int)) with
  | nil => cases rs with
    | nil => simp at h
    | cons => cases hq
  | cons n ns => rfl
theorem busy_spec (h : 0 < rs.length) : (∀ r ∈ rs, (cntR rs r : Int) ≤ busyN rs) ∧ 1 ≤ busyN rs ∧ busyN rs ≤ rs.length := by
  unfold busyN
  cases hq : rs.map (fun r => (cntR rs r : Int)) with
  | nil => cases rs with
    | nil => simp at h
    | cons => cases hq
  | cons n ns =>
    obtain ⟨m1, m2⟩ := maxL_spec n ns
    rw [← hq] at m1 m2
    refine ⟨fun r hr => m2 _ (List.mem_map.mpr ⟨r, hr, rfl⟩), ?_, ?_⟩
    · obtain ⟨r, hr, e⟩ := List.mem_map.mp m1
      show 1 ≤ maxL n ns; rw [← e]; have := cntR_pos hr; omega
    · obtain ⟨r, hr, e⟩ := List.mem_map.mp m1
      show maxL n ns ≤ _; rw [← e]; have := cntR_le rs r; omega
theorem c_busiest (hv : IsSeq v rs) (h : Rt rs) : m_busiest [v] st = .ok (.int (busyN rs), st) := by
  refine mk_pure0 rfl ?_ rfl
  have hl : rs.length ≤ 100000 := by have := h.l1; omega
  have L1 := fun (r : Int) (o : Option Val) => compL_map (c := (ev T_busiest G0 b_busiest_1).t) (e := (ev T_busiest G0 (.var 2)).v) (x := 2) (env := [some v, some (.int r), o]) (st := st) Val.int (fun x => decide (x = r)) Val.int rs (fun y _ => by simp_arith [b_busiest_1, veq_int]) (fun y _ _ => by simp_arith [])
  have L := compL_map0 (c := (ev T_busiest G0 .no).t) (e := (ev T_busiest G0 b_busiest_2).v) (x := 1) (env := [some v, none, none]) (st := st) Val.int (fun r => Val.int (cntR rs r)) rs (fun _ _ => rfl) (fun r hr => by
    have hf : (rs.filter fun x => decide (x = r)).length ≤ 100000 := Nat.le_trans (List.length_filter_le ..) hl
    have hv2 : kI1 (v, st) = .ok (rs.map Val.int, st) := hv.it
    simp_arith [b_busiest_2, hv2, List.length_map, hl, L1, hf]
    rfl)
  have hv2 : kI1 (v, st) = .ok (rs.map Val.int, st) := hv.it
  simp_arith [b_busiest, t_busiest_check_route, c_check_route hv h, hv2, List.length_map, hl, L, max_cnt h.l0]
end
/-! waiting as short as can be -/
theorem emod_sub (a b g : Int) : (a - b) % g = 0 ↔ a % g = b % g := (Int.emod_eq_emod_iff_emod_sub_eq_zero).symm
theorem nodup_len : ∀ (xs ys : List Int), xs.Nodup → (∀ x ∈ xs, x ∈ ys) → xs.length ≤ ys.length
  | [], _, _, _ => Nat.zero_le _
  | x :: xs, ys, hn, h => by
    have hx := h x (List.mem_cons_self ..)
    obtain ⟨h1, h2⟩ := List.nodup_cons.mp hn
    have := nodup_len xs (ys.erase x) h2 fun y hy => by
      have hne : y ≠ x := fun e => h1 (e ▸ hy)
      exact (List.mem_erase_of_ne hne).mpr (h y (List.mem_cons_of_mem _ hy))
    rw [List.length_erase_of_mem hx] at this
    have hp := List.length_pos_of_mem hx
    simp only [List.length_cons]; omega
/-- one of the next is free -/
theorem some_free {tk : List Int} {g s : Int} (h : (tk.length : Int) < g) : ∃ i, i ≤ tk.length ∧ (s + (i : Nat)) % g ∉ tk := by
  by_cases hx : ∃ i, i ≤ tk.length ∧ (s + (i : Nat)) % g ∉ tk
  · exact hx
  · have hall : ∀ i, i ≤ tk.length → (s + (i : Nat)) % g ∈ tk := fun i hi => by
      by_cases h : (s + (i : Nat)) % g ∈ tk
      · exact h
      · exact absurd ⟨i, hi, h⟩ hx
    have hl := nodup_len ((List.range (tk.length + 1)).map fun (i : Nat) => (s + (i : Nat)) % g) tk (by
      rw [List.nodup_iff_pairwise_ne, List.pairwise_map]
      refine List.Pairwise.imp_of_mem (fun {a b} ha hb hab => ?_) List.pairwise_lt_range
      have ha := List.mem_range.mp ha
      have hb := List.mem_range.mp hb
      intro e
      have e2 := (emod_sub _ _ _).mpr e
      have e3 : s + (a : Int) - (s + (b : Int)) = -((b : Int) - a) := by omega
      rw [e3, Int.neg_emod, Int.emod_eq_of_lt (by omega) (by omega)] at e2
      split at e2
      · rename_i hd
        have := Int.emod_eq_zero_of_dvd hd
        rw [Int.emod_eq_of_lt (by omega) (by omega)] at this
        omega
      · have : ((g.natAbs : Nat) : Int) = g := by omega
        omega) (fun x hx => by
      obtain ⟨i, hi, rfl⟩ := List.mem_map.mp hx
      exact hall i (by have := List.mem_range.mp hi; omega))
    simp at hl
    omega
/-- the first free one -/
def ff (tk : List Int) (g s : Int) : Nat := ((List.range (tk.length + 1)).find? fun i => decide ((s + (i : Nat)) % g ∉ tk)).getD 0
theorem ff_spec {tk : List Int} {g s : Int} (h : (tk.length : Int) < g) : ff tk g s ≤ tk.length ∧ (s + (ff tk g s : Nat)) % g ∉ tk ∧ ∀ j, j < ff tk g s → (s + (j : Nat)) % g ∈ tk := by
  obtain ⟨i, h1, h2⟩ := some_free (tk := tk) (s := s) h
  cases hf : (List.range (tk.length + 1)).find? fun i => decide ((s + (i : Nat)) % g ∉ tk) with
  | none =>
    rw [List.find?_eq_none] at hf
    exact absurd (decide_eq_true h2) (hf i (List.mem_range.mpr (by omega)))
  | some m =>
    obtain ⟨a, b, c⟩ := List.find?_range_eq_some.mp hf
    have e : ff tk g s = m := by unfold ff; rw [hf]; rfl
    rw [e]
    refine ⟨by have := List.mem_range.mp b; omega, of_decide_eq_true a, fun j hj => ?_⟩
    have := c j hj
    simpa using this
def takenL (rs ss : List Int) (g : Int) : List Int := ((List.range ss.length).filter fun k => decide (cell rs k = cell rs ss.length)).map fun k => cell ss k % g
theorem takenL_mem {rs ss : List Int} {g x : Int} : x ∈ takenL rs ss g ↔ ∃ k, k < ss.length ∧ cell rs k = cell rs ss.length ∧ cell ss k % g = x := by
  unfold takenL
  simp only [List.mem_map, List.mem_filter, List.mem_range, decide_eq_true_eq]
  exact ⟨fun ⟨k, ⟨h1, h2⟩, h3⟩ => ⟨k, h1, h2, h3⟩, fun ⟨k, h1, h2, h3⟩ => ⟨k, ⟨h1, h2⟩, h3⟩⟩
theorem range_map_cell (rs : List Int) : rs = (List.range rs.length).map (cell rs) := by
  refine List.ext_getElem (by simp) fun i h1 h2 => ?_
  simp [cell, List.getD_eq_getElem?_getD, List.getElem?_eq_getElem h1]
theorem takenL_len {rs ss : List Int} {g : Int} (h : ss.length < rs.length) : (takenL rs ss g).length < cntR rs (cell rs ss.length) := by
  have e : cntR rs (cell rs ss.length) = ((List.range rs.length).filter fun k => decide (cell rs k = cell rs ss.length)).length := by
    unfold cntR
    conv => lhs; rw [range_map_cell rs]
    rw [List.filter_map, List.length_map]
    have : cell ((List.range rs.length).map (cell rs)) = cell rs := by rw [← range_map_cell rs]
    rw [this]; rfl
  rw [e]
  unfold takenL
  rw [List.length_map]
  have hr : List.range rs.length = List.range ss.length ++ (List.range (rs.length - ss.length)).map (ss.length + ·) := by
    have : rs.length = ss.length + (rs.length - ss.length) := by omega
    conv => lhs; rw [this]
    rw [List.range_add]
  rw [hr, List.filter_append, List.length_append]
  have : 0 < (List.filter (fun k => decide (cell rs k = cell rs ss.length)) ((List.range (rs.length - ss.length)).map (ss.length + ·))).length := by
    refine List.length_pos_of_mem (a := ss.length) (List.mem_filter.mpr ⟨List.mem_map.mpr ⟨0, List.mem_range.mpr (by omega), rfl⟩, by simp⟩)
  omega
def greedy (rs : List Int) (g : Int) : Nat → List Int × Int
  | 0 => ([], 0)
  | k + 1 => let p := greedy rs g k; let f := p.2 + ff (takenL rs p.1 g) g p.2; (p.1 ++ [f], f + 1)
theorem greedy_len (rs : List Int) (g : Int) : ∀ k, (greedy rs g k).1.length = k
  | 0 => rfl
  | k + 1 => by simp [greedy, greedy_len rs g k]
theorem cell_app {ss : List Int} {x : Int} {k : Nat} (h : k < ss.length) : cell (ss ++ [x]) k = cell ss k := by
  unfold cell; rw [List.getD_eq_getElem?_getD, List.getD_eq_getElem?_getD, List.getElem?_append_left h]
theorem cell_last {ss : List Int} {x : Int} : cell (ss ++ [x]) ss.length = x := by
  unfold cell; rw [List.getD_eq_getElem?_getD, List.getElem?_append_right (Nat.le_refl _)]; simp
/-- what holds of it -/
structure Gr (rs : List Int) (g : Int) (ss : List Int) (s : Int) : Prop where
  s0 : 0 ≤ s
  up : ∀ k, k < ss.length → 0 ≤ cell ss k ∧ cell ss k < s
  inc : ∀ j k, j < k → k < ss.length → cell ss j < cell ss k
  meet : ∀ j k, j < k → k < ss.length → cell rs j = cell rs k → (cell ss k - cell ss j) % g ≠ 0
  fst : 0 < ss.length → cell ss 0 = 0
  bd : s ≤ ss.length * (rs.length + 1)
theorem greedy_ok {rs : List Int} {g : Int} (hg : ∀ r ∈ rs, (cntR rs r : Int) ≤ g) : ∀ k, k ≤ rs.length → Gr rs g (greedy rs g k).1 (greedy rs g k).2
  | 0, _ => ⟨Int.le_refl _, (fun k h => nomatch h), (fun j k _ h => nomatch h), (fun j k _ h => nomatch h), (fun h => nomatch h), (by simp [greedy])⟩
  | k + 1, hk => by
    have ih := greedy_ok hg k (by omega)
    have hl := greedy_len rs g k
    have hlt : (takenL rs (greedy rs g k).1 g).length < cntR rs (cell rs (greedy rs g k).1.length) := takenL_len (by omega)
    have hc := hg _ (cell_mem (ns := rs) (k := (greedy rs g k).1.length) (by omega))
    have hcl := cntR_le rs (cell rs (greedy rs g k).1.length)
    obtain ⟨f1, f2, f3⟩ := ff_spec (tk := takenL rs (greedy rs g k).1 g) (g := g) (s := (greedy rs g k).2) (by omega)
    show Gr rs g ((greedy rs g k).1 ++ [(greedy rs g k).2 + (ff (takenL rs (greedy rs g k).1 g) g (greedy rs g k).2 : Nat)]) ((greedy rs g k).2 + (ff (takenL rs (greedy rs g k).1 g) g (greedy rs g k).2 : Nat) + 1)
    generalize (greedy rs g k).1 = ss at *
    generalize (greedy rs g k).2 = s at *
    generalize ff (takenL rs ss g) g s = i at *
    subst hl
    have hs0 := ih.s0
    refine ⟨by omega, fun j hj => ?_, fun j l hjl hl => ?_, fun j l hjl hl e => ?_, fun _ => ?_, ?_⟩
    · rw [List.length_append, List.length_singleton] at hj
      by_cases h : j < ss.length
      · rw [cell_app h]; have := ih.up j h; omega
      · have : j = ss.length := by omega
        subst this; rw [cell_last]; omega
    · rw [List.length_append, List.length_singleton] at hl
      by_cases h : l < ss.length
      · rw [cell_app h, cell_app (by omega)]; exact ih.inc j l hjl h
      · have : l = ss.length := by omega
        subst this; rw [cell_last, cell_app hjl]; have := ih.up j hjl; omega
    · rw [List.length_append, List.length_singleton] at hl
      by_cases h : l < ss.length
      · rw [cell_app h, cell_app (by omega)]; exact ih.meet j l hjl h e
      · have : l = ss.length := by omega
        subst this; rw [cell_last, cell_app hjl]
        intro z
        exact f2 (takenL_mem.mpr ⟨j, hjl, e, ((emod_sub _ _ _).mp z).symm⟩)
    · by_cases h : 0 < ss.length
      · rw [cell_app h]; exact ih.fst h
      · have h0 : ss.length = 0 := by omega
        have : ss = [] := List.eq_nil_of_length_eq_zero h0
        subst this
        have hs := ih.bd
        have : takenL rs [] g = [] := rfl
        rw [this] at f1
        have hz : (([] : List Int).length : Int) * (rs.length + 1) = 0 := by simp
        have hi : i = 0 := Nat.le_zero.mp f1
        show s + (i : Int) = 0
        omega
    · have hb := ih.bd
      rw [List.length_append, List.length_singleton]
      have : ((ss.length + 1 : Nat) : Int) * (rs.length + 1) = ss.length * (rs.length + 1) + (rs.length + 1) := by rw [Int.natCast_add, Int.add_mul]; simp
      omega
section
variable {st : Store} {v : Val} {rs ss : List Int} {g s : Int}
def takenB (rs ss : List Int) (g s : Int) : Bool := (List.range ss.length).any fun k => decide (cell rs k = cell rs ss.length) && decide ((s - cell ss k) % g = 0)
theorem takenB_iff : takenB rs ss g s = true ↔ s % g ∈ takenL rs ss g := by
  unfold takenB
  rw [takenL_mem, List.any_eq_true]
  constructor
  · rintro ⟨k, hk, h⟩
    rw [Bool.and_eq_true, decide_eq_true_eq, decide_eq_true_eq] at h
    exact ⟨k, List.mem_range.mp hk, h.1, ((emod_sub _ _ _).mp h.2).symm⟩
  · rintro ⟨k, hk, h1, h2⟩
    refine ⟨k, List.mem_range.mpr hk, ?_⟩
    rw [Bool.and_eq_true, decide_eq_true_eq, decide_eq_true_eq]
    exact ⟨h1, (emod_sub _ _ _).mpr h2.symm⟩
theorem c_is_taken {n : Nat} (hv : IsSeq v rs) (h : ss.length < rs.length) (hr : rs.length ≤ 60) (hg : 0 < g) (hn : st[n]? = some (.lst (vInts ss))) : m_is_taken [v, .loc n, .int g, .int s] st = .ok (.bl (takenB rs ss g s), st) := by
  refine mk_pure0 rfl ?_ rfl
  have L := forL_fold (i := 4) (body := evSs T_is_taken G0 b_is_taken_1) (fun (k : Nat) => Val.int k) (fun (_ : Unit) o => [some v, some (.loc n), some (.int g), some (.int s), o]) (fun _ => st) (fun _ k => if (decide (cell rs k = cell rs ss.length) && decide ((s - cell ss k) % g = 0)) = true then Out.ret (.bl true) st else .go ()) (fun _ _ _ => rfl) (List.range ss.length) (fun _ k hk => by
    have hk := List.mem_range.mp hk
    have a1 := hv.ix (st := st) (k := k) (by omega)
    have a2 := hv.ix (st := st) (k := ss.length) h
    by_cases hc : (decide (cell rs k = cell rs ss.length) && decide ((s - cell ss k) % g = 0)) = true
    · simp_arith [b_is_taken_1, a1, a2, hn, at_ints hk, bV_mod hg, vInts_len, hc]
    · simp_arith [b_is_taken_1, a1, a2, hn, at_ints hk, bV_mod hg, vInts_len, hc]) () none
  rw [foldO_any] at L
  change forL _ _ _ _ _ = outS _ _ (if takenB rs ss g s = true then _ else _) at L
  cases hb : takenB rs ss g s with
  | true => rw [hb] at L; simp_arith [b_is_taken, hn, vInts_len, rng1 (show ss.length ≤ 1000000 by omega), L]
  | false => rw [hb] at L; simp_arith [b_is_taken, hn, vInts_len, rng1 (show ss.length ≤ 1000000 by omega), L]
theorem c_stretched (hv : IsSeq v rs) (h : Rt rs) (h1 : busyN rs ≤ g) (h2 : g ≤ 10000) : m_stretched [v, .int g] st = .ok (.tup (vInts (greedy rs g rs.length).1), st) := by
  obtain ⟨hb1, hb2, hb3⟩ := busy_spec h.l0
  have hg0 : 0 < g := by omega
  have hr := h.l1
  refine mk_pure (g := [.lst (vInts (greedy rs g rs.length).1)]) rfl ?_ (closed_vInts 0 _)
  obtain ⟨o, L⟩ := forL_idx (i := 4) (body := evSs T_stretched G_stretched b_stretched_3) (fun k o => [some v, some (.int g), some (.loc st.length), some (.int (greedy rs g k).2), o]) (fun k => st ++ [.lst (vInts (greedy rs g k).1)]) (fun _ _ _ => rfl) (vInts rs) (fun k x hk => by
    have hk : k < rs.length := by
      cases Nat.lt_or_ge k rs.length with
      | inl q => exact q
      | inr q => rw [List.getElem?_eq_none (by simpa [vInts_len] using q)] at hk; cases hk
    have hlen := greedy_len rs g k
    have hlt : (takenL rs (greedy rs g k).1 g).length < cntR rs (cell rs (greedy rs g k).1.length) := takenL_len (by omega)
    have hc := hb1 _ (cell_mem (ns := rs) (k := (greedy rs g k).1.length) (by omega))
    have hcl := cntR_le rs (cell rs (greedy rs g k).1.length)
    obtain ⟨f1, f2, f3⟩ := ff_spec (tk := takenL rs (greedy rs g k).1 g) (g := g) (s := (greedy rs g k).2) (by omega)
    have e1 : (greedy rs g (k + 1)).1 = (greedy rs g k).1 ++ [(greedy rs g k).2 + (ff (takenL rs (greedy rs g k).1 g) g (greedy rs g k).2 : Nat)] := rfl
    have e2 : (greedy rs g (k + 1)).2 = (greedy rs g k).2 + (ff (takenL rs (greedy rs g k).1 g) g (greedy rs g k).2 : Nat) + 1 := rfl
    rw [e1, e2]
    generalize (greedy rs g k).1 = ss at *
    generalize (greedy rs g k).2 = s at *
    generalize ff (takenL rs ss g) g s = i at *
    have hn : (st ++ [Cell.lst (vInts ss)])[st.length]? = some (.lst (vInts ss)) := g_0
    have ct := fun (z : Int) => c_is_taken (s := z) hv (by omega : ss.length < rs.length) hr hg0 hn
    have W := whileL_run (c := (ev T_stretched G_stretched b_stretched_1).t) (body := evSs T_stretched G_stretched b_stretched_2) (fun (j : Nat) => [some v, some (.int g), some (.loc st.length), some (.int (s + j)), some x]) (fun _ => st ++ [.lst (vInts ss)]) i (fun j hj => by
        have : takenB rs ss g (s + j) = true := takenB_iff.mpr (f3 j hj)
        simp_arith [b_stretched_1, t_stretched_is_taken, ct, this]) (fun j hj => by
        simp_arith [b_stretched_2, Int.add_assoc]
        rfl) (by
        have : takenB rs ss g (s + i) = false := by
          rw [Bool.eq_false_iff]; intro z; exact f2 (takenB_iff.mp z)
        simp_arith [b_stretched_1, t_stretched_is_taken, ct, this]) 1000000 (by omega)
    rw [show s + ((0 : Nat) : Int) = s by simp] at W
    simp_arith [b_stretched_3, W, vInts_len, show ss.length < 100000 by omega]
    simp [vInts]) none
  have e0 : (greedy rs g 0).2 = 0 := rfl
  have e1 : vInts (greedy rs g 0).1 = [] := rfl
  rw [e0, e1, vInts_len] at L
  have hz : ¬ g < busyN rs := by omega
  have hz2 : ¬ 10000 < g := by omega
  simp_arith [b_stretched, t_stretched_busiest, c_busiest hv h, hz, g_stretched_MOST_GAP, hz2, hv.it, L, gtup_of (m := false) (show seqOf (st ++ [.lst (vInts (greedy rs g rs.length).1)]) (.loc st.length) = some (true, vInts (greedy rs g rs.length).1) by simp_arith []) (by rw [vInts_len, greedy_len]; unfold szMax; omega)]
theorem c_stretched_x1 (hv : IsSeq v rs) (h : Rt rs) (h1 : g < busyN rs) : m_stretched [v, .int g] st = .exn "TooTight" [.int g] st := by
  refine mk_exn0 rfl ?_ rfl
  simp_arith [b_stretched, t_stretched_busiest, c_busiest hv h, h1]
theorem c_stretched_x2 (hv : IsSeq v rs) (h : Rt rs) (h1 : ¬ g < busyN rs) (h2 : 10000 < g) : m_stretched [v, .int g] st = .exn "TooMany" [.int 10000] st := by
  refine mk_exn0 rfl ?_ rfl
  simp_arith [b_stretched, t_stretched_busiest, c_busiest hv h, h1, g_stretched_MOST_GAP, h2]
end
theorem foldO_some {α β : Type} {f : β → α → Out β} {p : α → Option Val} {h : β → α → β} {st : Store} (hf : ∀ b x, f b x = match p x with | some v => .ret v st | none => .go (h b x)) : ∀ (xs : List α) (b : β), ∃ b', foldO f b xs = match xs.findSome? p with | some v => .ret v st | none => .go b'
  | [], b => ⟨b, rfl⟩
  | x :: xs, b => by
    cases hp : p x with
    | some v => exact ⟨b, by simp only [foldO, hf, hp, List.findSome?_cons]⟩
    | none =>
      obtain ⟨b', h'⟩ := foldO_some hf xs (h b x)
      exact ⟨b', by simp only [foldO, hf, hp, List.findSome?_cons]; exact h'⟩
def condM (rs ss : List Int) (g : Int) (j l : Nat) : Bool := decide (cell rs j = cell rs l) && decide ((cell ss l - cell ss j) % g = 0)
def meetV (rs ss : List Int) (l j : Nat) : Val := .tup [.int (cell ss l), .int (cell rs l), .int j, .int l]
def meetF (rs ss : List Int) (g : Int) (l : Nat) : Option Val := ((List.range l).find? fun j => condM rs ss g j l).map (meetV rs ss l)
def meetN (rs ss : List Int) (g : Int) : Option Val := (List.range rs.length).findSome? (meetF rs ss g)
def optV : Option Val → Val | some v => v | none => .non
theorem meetN_none {rs ss : List Int} {g : Int} : meetN rs ss g = none ↔ ∀ j l, j < l → l < rs.length → condM rs ss g j l = false := by
  unfold meetN meetF
  rw [List.findSome?_eq_none_iff]
  simp only [List.mem_range, Option.map_eq_none_iff, List.find?_eq_none]
  constructor
  · intro h j l hj hl
    have := h l hl j hj
    simpa using this
  · intro h l hl j hj
    simp [h j l hj hl]
theorem meetN_some {rs ss : List Int} {g : Int} {v : Val} (h : meetN rs ss g = some v) : ∃ j l, j < l ∧ l < rs.length ∧ v = meetV rs ss l j ∧ condM rs ss g j l = true ∧ ∀ j' l', j' < l' → l' < l → condM rs ss g j' l' = false := by
  unfold meetN at h
  rw [List.findSome?_eq_some_iff] at h
  obtain ⟨l1, l, l2, e, hf, hn⟩ := h
  have hlen := congrArg List.length e
  simp only [List.length_range, List.length_append, List.length_cons] at hlen
  have el : l = l1.length := by
    have : (List.range rs.length)[l1.length]? = some l := by rw [e]; simp
    rw [List.getElem?_range (by omega)] at this
    cases this; rfl
  unfold meetF at hf
  rw [Option.map_eq_some_iff] at hf
  obtain ⟨j, hj, rfl⟩ := hf
  obtain ⟨a, b, c⟩ := List.find?_range_eq_some.mp hj
  refine ⟨j, l, List.mem_range.mp b, by omega, rfl, a, fun j' l' h1 h2 => ?_⟩
  have hm : l' ∈ l1 := by
    have : (List.range rs.length)[l']? = l1[l']? := by rw [e, List.getElem?_append_left (by omega)]
    rw [List.getElem?_range (by omega)] at this
    exact List.mem_of_getElem? this.symm
  have := hn l' hm
  unfold meetF at this
  rw [Option.map_eq_none_iff, List.find?_eq_none] at this
  simpa using this j' (List.mem_range.mpr h1)
section
variable {st : Store} {v w : Val} {rs ss : List Int} {g s : Int}
theorem run_meeting (hv : IsSeq v rs) (hw : IsSeq w ss) (hl : ss.length = rs.length) (hr : rs.length ≤ 60) (hg : 0 < g) : m_meeting [v, w, .int g] st = .ok (optV (meetN rs ss g), st) := by
  have L1 := fun (l : Nat) (hk : l < rs.length) (b : Option Val) => forL_fold (i := 4) (body := evSs T_meeting G0 b_meeting_1) (fun (k : Nat) => Val.int k) (fun (_ : Unit) o => [some v, some w, some (.int g), some (.int l), o]) (fun _ => st) (fun _ j => if condM rs ss g j l = true then Out.ret (meetV rs ss l j) st else .go ()) (fun _ _ _ => rfl) (List.range l) (fun _ j hj => by
    have hj := List.mem_range.mp hj
    by_cases hc : condM rs ss g j l = true
    · unfold condM at hc
      simp_arith [b_meeting_1, hv.ix hk, hv.ix (show j < rs.length by omega), hw.ix (show j < ss.length by omega), hw.ix (show l < ss.length by omega), bV_mod hg, condM, hc, meetV]
    · unfold condM at hc
      simp_arith [b_meeting_1, hv.ix hk, hv.ix (show j < rs.length by omega), hw.ix (show j < ss.length by omega), hw.ix (show l < ss.length by omega), bV_mod hg, condM, hc, meetV]) () b
  have L2 := forL_fold (i := 3) (body := evSs T_meeting G0 b_meeting_2) (fun (k : Nat) => Val.int k) (fun (b : Option Val) o => [some v, some w, some (.int g), o, b]) (fun _ => st) (fun b l => match meetF rs ss g l with | some v => Out.ret v st | none => .go (lastV (fun (k : Nat) => Val.int k) b (List.range l))) (fun _ _ _ => rfl) (List.range rs.length) (fun b l hl => by
    have hl := List.mem_range.mp hl
    have := L1 l hl b
    rw [foldO_find] at this
    simp_arith [b_meeting_2, rng1 (show l ≤ 1000000 by omega), this]
    unfold meetF
    cases List.find? (fun j => condM rs ss g j l) (List.range l) with
    | some j => rfl
    | none => rfl) none none
  obtain ⟨b', hb⟩ := foldO_some (f := fun (b : Option Val) l => match meetF rs ss g l with | some v => Out.ret v st | none => .go (lastV (fun (k : Nat) => Val.int k) b (List.range l))) (p := meetF rs ss g) (fun b x => rfl) (List.range rs.length) none
  rw [hb] at L2
  change _ = outS _ _ (match meetN rs ss g with | some v => .ret v st | none => .go b') at L2
  cases hm : meetN rs ss g with
  | some u =>
    obtain ⟨j, l, h1, h2, rfl, _⟩ := meetN_some hm
    rw [hm] at L2
    refine mk_pure0 rfl ?_ rfl
    simp_arith [b_meeting, hv.len, rng1 (show rs.length ≤ 1000000 by omega), L2, optV]
  | none =>
    rw [hm] at L2
    refine mk_pure0 rfl ?_ rfl
    simp_arith [b_meeting, hv.len, rng1 (show rs.length ≤ 1000000 by omega), L2, optV]
/-- right slots -/
def okAt (ss : List Int) (k : Nat) : Prop := k < ss.length ∧ (if k = 0 then -1 else cell ss (k - 1)) + 1 ≤ cell ss k ∧ cell ss k ≤ 9999
def Valid (rs ss : List Int) : Prop := ss.length = rs.length ∧ ∀ k, k < rs.length → okAt ss k
theorem c_wrong_slot (hv : IsSeq v rs) (hw : IsSeq w ss) (hr : rs.length ≤ 60) (hr2 : ss.length ≤ 1000) : ∃ r : Option Nat, (∀ st, m_wrong_slot [v, w] st = .ok ((match r with | some k => .int k | none => .non), st)) ∧ (r = none ↔ Valid rs ss) := by
  have I := fun (st : Store) => forL_invR (i := 3) (body := evSs T_wrong_slot G_wrong_slot b_wrong_slot_1) (fun xs env s => ∃ k, k ≤ rs.length ∧ xs = ((List.range rs.length).map fun (k : Nat) => Val.int k).drop k ∧ s = st ∧ (∀ j, j < k → okAt ss j) ∧ ∃ o, env = [some v, some w, some (.int (if k = 0 then -1 else cell ss (k - 1))), o])
    (fun u s => s = st ∧ ∃ k : Nat, k < rs.length ∧ u = .int k ∧ ¬ okAt ss k ∧ ∀ j, j < k → okAt ss j) (fun x xs env s ⟨k, hk, hx, hs, ho, o, he⟩ => by
      obtain ⟨d1, d2⟩ := drop_cons hx.symm
      obtain ⟨d3, _⟩ := List.getElem?_eq_some_iff.mp d1
      rw [List.getElem?_map] at d1
      have hk' : k < rs.length := by simpa using d3
      rw [List.getElem?_range hk'] at d1
      cases d1
      subst he hs
      by_cases hok : okAt ss k
      · refine .inl ⟨[some v, some w, some (.int (if k + 1 = 0 then -1 else cell ss (k + 1 - 1))), some (.int k)], s, .inl ?_, k + 1, hk', d2, rfl, fun j hj => ?_, _, rfl⟩
        · obtain ⟨h1, h2, h3⟩ := hok
          have h4 : ¬ (ss.length : Int) ≤ k := by omega
          simp_arith [b_wrong_slot_1, hw.len, h4, hw.ix h1, g_wrong_slot_LAST_SLOT, t_wrong_slot_is_between, c_between, h2, h3]
          rfl
        · by_cases hjk : j = k
          · subst hjk; exact hok
          · exact ho j (by omega)
      · refine .inr ⟨.int k, s, ?_, rfl, k, hk', rfl, hok, ho⟩
        by_cases h1 : k < ss.length
        · have h4 : ¬ (ss.length : Int) ≤ k := by omega
          by_cases h2 : (if k = 0 then -1 else cell ss (k - 1)) + 1 ≤ cell ss k
          · have h3 : ¬ cell ss k ≤ 9999 := fun z => hok ⟨h1, h2, z⟩
            simp_arith [b_wrong_slot_1, hw.len, h4, hw.ix h1, g_wrong_slot_LAST_SLOT, t_wrong_slot_is_between, c_between, h2, h3]
          · simp_arith [b_wrong_slot_1, hw.len, h4, hw.ix h1, g_wrong_slot_LAST_SLOT, t_wrong_slot_is_between, c_between, h2]
        · have h4 : (ss.length : Int) ≤ k := by omega
          simp_arith [b_wrong_slot_1, hw.len, h4]) ((List.range rs.length).map fun (k : Nat) => Val.int k) [some v, some w, some (.int (-1)), none] st ⟨0, Nat.zero_le _, rfl, rfl, (fun j h => nomatch h), none, rfl⟩
  by_cases hall : ∀ k, k < rs.length → okAt ss k
  · have hge : rs.length ≤ ss.length := by
      cases hz : rs.length with
      | zero => omega
      | succ n => have := (hall n (by omega)).1; omega
    have I2 : ∀ st : Store, ∃ o o2, forL 3 (evSs T_wrong_slot G_wrong_slot b_wrong_slot_1) ((List.range rs.length).map fun (k : Nat) => Val.int k) [some v, some w, some (.int (-1)), none] st = .next [some v, some w, o2, o] st := fun st => by
      rcases I st with ⟨e, s, h1, k, _, _, hs, _, o, he⟩ | ⟨u, s, _, _, k, h2, _, h4, _⟩
      · subst he hs; exact ⟨o, _, h1⟩
      · exact absurd (hall k h2) h4
    by_cases hgt : ss.length > rs.length
    · refine ⟨some rs.length, fun st => mk_pure0 rfl ?_ rfl, by simp [Valid]; omega⟩
      obtain ⟨o, o2, h1⟩ := I2 st
      have h5 : (rs.length : Int) < ss.length := by omega
      simp_arith [b_wrong_slot, hv.len, hw.len, rng1 (show rs.length ≤ 1000000 by omega), h1, h5]
    · refine ⟨none, fun st => mk_pure0 rfl ?_ rfl, by simp only [Valid, true_iff]; exact ⟨by omega, hall⟩⟩
      obtain ⟨o, o2, h1⟩ := I2 st
      have h5 : ¬ (rs.length : Int) < ss.length := by omega
      simp_arith [b_wrong_slot, hv.len, hw.len, rng1 (show rs.length ≤ 1000000 by omega), h1, h5]
  · have hex : ∃ k, k < rs.length ∧ ¬ okAt ss k := by
      by_cases hx : ∃ k, k < rs.length ∧ ¬ okAt ss k
      · exact hx
      · exact absurd (fun k hk => Classical.byContradiction fun z => hx ⟨k, hk, z⟩) hall
    have I2 : ∀ st : Store, ∃ k : Nat, k < rs.length ∧ (¬ okAt ss k ∧ ∀ j, j < k → okAt ss j) ∧ forL 3 (evSs T_wrong_slot G_wrong_slot b_wrong_slot_1) ((List.range rs.length).map fun (k : Nat) => Val.int k) [some v, some w, some (.int (-1)), none] st = .ret (.int k) st := fun st => by
      rcases I st with ⟨e, s, h1, k, hk, hx, hs, ho, o, he⟩ | ⟨u, s, h1, hs, k, h2, rfl, h4, h5⟩
      · have : k = rs.length := by
          have := congrArg List.length hx
          simp at this; omega
        subst this; exact absurd ho hall
      · subst hs; exact ⟨k, h2, ⟨h4, h5⟩, h1⟩
    obtain ⟨k, hk, hbad, _⟩ := I2 []
    refine ⟨some k, fun st => mk_pure0 rfl ?_ rfl, by simp only [Valid, reduceCtorEq, false_iff]; rintro ⟨_, z⟩; exact hbad.1 (z k hk)⟩
    obtain ⟨k', hk', hbad', h1⟩ := I2 st
    have : k' = k := by
      rcases Nat.lt_trichotomy k' k with h | h | h
      · exact absurd (hbad.2 k' h) hbad'.1
      · exact h
      · exact absurd (hbad'.2 k h) hbad.1
    subst this
    simp_arith [b_wrong_slot, hv.len, rng1 (show rs.length ≤ 1000000 by omega), h1]
end
section
variable {st : Store} {v w : Val} {rs ss : List Int} {g s : Int}
theorem c_check_gap (h1 : 1 ≤ g) (h2 : g ≤ 10000) : m_check_gap [.int g] st = .ok (.non, st) := by
  refine mk_pure0 rfl ?_ rfl
  simp_arith [b_check_gap, show ¬ g < 1 by omega, g_check_gap_MOST_GAP, show ¬ 10000 < g by omega]
theorem c_check_slots (hv : IsSeq v rs) (hw : IsSeq w ss) (h : Rt rs) (hs : Valid rs ss) : m_check_slots [v, w] st = .ok (.non, st) := by
  obtain ⟨r, h1, h2⟩ := c_wrong_slot hv hw h.l1 (by have := hs.1; have := h.l1; omega)
  have hr := h2.mpr hs
  subst hr
  refine mk_pure0 rfl ?_ rfl
  simp_arith [b_check_slots, t_check_slots_check_route, c_check_route hv h, t_check_slots_wrong_slot, h1]
theorem c_first_meeting (hv : IsSeq v rs) (hw : IsSeq w ss) (h : Rt rs) (hs : Valid rs ss) (h1 : 1 ≤ g) (h2 : g ≤ 10000) : m_first_meeting [v, w, .int g] st = .ok (optV (meetN rs ss g), st) := by
  refine mk_pure0 rfl ?_ ?_
  · simp_arith [b_first_meeting, t_first_meeting_check_slots, c_check_slots hv hw h hs, t_first_meeting_check_gap, c_check_gap h1 h2, t_first_meeting_meeting, run_meeting hv hw hs.1 h.l1 (by omega : 0 < g)]
  · cases hm : meetN rs ss g with
    | none => rfl
    | some u => obtain ⟨j, l, _, _, rfl, _⟩ := meetN_some hm; rfl
def isNonV : Option Val → Bool | none => true | some _ => false
theorem opt_is (o : Option Val) (ho : ∀ u, o = some u → ∃ l j, u = meetV rs ss l j) : cmpV .is_ (optV o) .non st = .ok (isNonV o) := by
  cases o with
  | none => rfl
  | some u => obtain ⟨l, j, rfl⟩ := ho u rfl; rfl
theorem meet_is : cmpV .is_ (optV (meetN rs ss g)) .non st = .ok (isNonV (meetN rs ss g)) := opt_is (rs := rs) (ss := ss) _ fun u hu => by
  obtain ⟨j, l, _, _, h, _⟩ := meetN_some hu; exact ⟨l, j, h⟩
theorem c_is_clear (hv : IsSeq v rs) (hw : IsSeq w ss) (h : Rt rs) (hs : Valid rs ss) (h1 : 1 ≤ g) (h2 : g ≤ 10000) : m_is_clear [v, w, .int g] st = .ok (.bl (isNonV (meetN rs ss g)), st) := by
  refine mk_pure0 rfl ?_ rfl
  have hm : cmpV .is_ (optV (meetN rs ss g)) .non st = .ok (isNonV (meetN rs ss g)) := meet_is
  cases hc : meetN rs ss g with
  | none => simp_arith [b_is_clear, t_is_clear_first_meeting, c_first_meeting hv hw h hs h1 h2, hc, optV, isNonV]
  | some u =>
    obtain ⟨j, l, _, _, rfl, _⟩ := meetN_some hc
    simp_arith [b_is_clear, t_is_clear_first_meeting, c_first_meeting hv hw h hs h1 h2, hc, optV, isNonV, meetV]
/-- the judge of slots -/
def judgeS (rs ss : List Int) (g : Int) : Prop := Valid rs ss ∧ cell ss 0 = 0 ∧ meetN rs ss g = none
open Classical in
theorem c_are_slots (hv : IsSeq v rs) (hw : IsSeq w ss) (h : Rt rs) (h1 : 1 ≤ g) (h2 : g ≤ 10000) (hl : ss.length ≤ 1000) : m_are_slots [v, .int g, w] st = .ok (.bl (decide (judgeS rs ss g)), st) := by
  obtain ⟨r, e1, e2⟩ := c_wrong_slot hv hw h.l1 hl
  refine mk_pure0 rfl ?_ rfl
  cases r with
  | some k =>
    have hn : ¬ judgeS rs ss g := fun z => by have := e2.mpr z.1; cases this
    simp_arith [b_are_slots, t_are_slots_check_route, c_check_route hv h, t_are_slots_check_gap, c_check_gap h1 h2, t_are_slots_is_row, c_row hw, t_are_slots_wrong_slot, e1, hn]
  | none =>
    have hs := e2.mp rfl
    have hx : ixV st w (.int 0) = .ok (.int (cell ss 0)) := hw.ix (k := 0) (by have := hs.1; have := h.l0; omega)
    have hm := run_meeting (st := st) hv hw hs.1 h.l1 (by omega : 0 < g)
    by_cases h0 : cell ss 0 = 0
    · cases hc : meetN rs ss g with
      | none =>
        have hj : judgeS rs ss g := ⟨hs, h0, hc⟩
        simp_arith [b_are_slots, t_are_slots_check_route, c_check_route hv h, t_are_slots_check_gap, c_check_gap h1 h2, t_are_slots_is_row, c_row hw, t_are_slots_wrong_slot, e1, hx, h0, hj, t_are_slots_meeting, hm, hc, optV]
      | some u =>
        have hj : ¬ judgeS rs ss g := fun z => by rw [z.2.2] at hc; cases hc
        obtain ⟨j, l, _, _, rfl, _⟩ := meetN_some hc
        simp_arith [b_are_slots, t_are_slots_check_route, c_check_route hv h, t_are_slots_check_gap, c_check_gap h1 h2, t_are_slots_is_row, c_row hw, t_are_slots_wrong_slot, e1, hx, h0, hj, t_are_slots_meeting, hm, hc, optV, meetV]
    · have hj : ¬ judgeS rs ss g := fun z => h0 z.2.1
      simp_arith [b_are_slots, t_are_slots_check_route, c_check_route hv h, t_are_slots_check_gap, c_check_gap h1 h2, t_are_slots_is_row, c_row hw, t_are_slots_wrong_slot, e1, hx, h0, hj]
/-! the greedy slots are right -/
theorem slc_init {m : Bool} (hl : 0 < ss.length) (h2 : ss.length ≤ 100000) : slcV m st (.tup (vInts ss)) none (some (-1)) = .ok (.tup (vInts ss.dropLast), st) := by
  show newT (cutA (vInts ss) none (some (-1))) st = _
  have e : cutA (vInts ss) none (some (-1)) = vInts ss.dropLast := by
    unfold cutA
    have a : HT.sIx (vInts ss).length 0 none = 0 := rfl
    have b : HT.sIx (vInts ss).length (vInts ss).length (some (-1)) = ss.length - 1 := by
      show ((-1 : Int) + ((vInts ss).length : Int)).toNat = _
      rw [vInts_len]; omega
    rw [a, b, List.drop_zero, Nat.sub_zero]
    unfold vInts
    rw [← List.map_take, List.dropLast_eq_take]
  rw [e, newT_f _ (by rw [vInts_len, List.length_dropLast]; unfold szMax; omega)]
theorem cell_dropLast {k : Nat} (h : k < ss.length - 1) : cell ss.dropLast k = cell ss k := by
  unfold cell; rw [List.getD_eq_getElem?_getD, List.getD_eq_getElem?_getD, List.getElem?_dropLast]; simp [h]
end
theorem nodup_of_len : ∀ (xs ys : List Int), ys.Nodup → (∀ y ∈ ys, y ∈ xs) → xs.length ≤ ys.length → xs.Nodup
  | [], _, _, _, _ => List.nodup_nil
  | a :: t, ys, hn, h, hl => by
    by_cases ha : a ∈ t
    · have := nodup_len ys t hn fun y hy => by
        rcases List.mem_cons.mp (h y hy) with rfl | h'
        · exact ha
        · exact h'
      simp only [List.length_cons] at hl; omega
    · refine List.nodup_cons.mpr ⟨ha, nodup_of_len t (ys.erase a) (hn.erase a) (fun y hy => ?_) ?_⟩
      · have hy1 := List.mem_of_mem_erase hy
        have hne : y ≠ a := fun e => by subst e; exact (List.Nodup.not_mem_erase hn) hy
        rcases List.mem_cons.mp (h y hy1) with e | h'
        · exact absurd e hne
        · exact h'
      · have := List.length_erase (a := a) (l := ys)
        simp only [List.length_cons] at hl
        split at this <;> omega
theorem nodup_inj {α β : Type} {f : α → β} {j l : α} : ∀ {ks : List α}, (ks.map f).Nodup → j ∈ ks → l ∈ ks → f j = f l → j = l
  | [], _, h, _, _ => nomatch h
  | k :: ks, hn, hj, hl, e => by
    obtain ⟨h1, h2⟩ := List.nodup_cons.mp hn
    rcases List.mem_cons.mp hj with hj | hj <;> rcases List.mem_cons.mp hl with hl | hl
    · rw [hj, hl]
    · rw [hj] at e; exact absurd (List.mem_map.mpr ⟨l, hl, e.symm⟩) h1
    · rw [hl] at e; exact absurd (List.mem_map.mpr ⟨j, hj, e⟩) h1
    · exact nodup_inj h2 hj hl e
theorem crowd_nodup (xs : List Int) : (sortS xs).length < xs.length ↔ ¬ xs.Nodup := by
  have hs : (sortS xs).Nodup := by
    rw [List.nodup_iff_pairwise_ne]
    exact (sortS_up xs).imp fun {a b} h => by omega
  constructor
  · intro h hn
    have := ((List.perm_ext_iff_of_nodup hs hn).mpr fun k => by rw [sortS_mem]).length_eq
    omega
  · intro h
    apply Classical.byContradiction
    intro hl
    exact h (nodup_of_len xs (sortS xs) hs (fun y hy => (sortS_mem xs y).mp hy) (by omega))
def presB (ss : List Int) (g s : Int) (k : Nat) : Bool := decide (0 ≤ s - cell ss k) && decide ((s - cell ss k) % g = 0)
def encP (ss : List Int) (g s : Int) (k : Nat) : Val := .tup [.int ((s - cell ss k) / g), .int k]
def prsN (ss : List Int) (g s : Int) (n : Nat) : List Val := ((List.range n).filter (presB ss g s)).map (encP ss g s)
def ordN (ss : List Int) (g s : Int) (n : Nat) : List Nat := ((List.range n).filter (presB ss g s)).mergeSort fun a b => leV (encP ss g s a) (encP ss g s b)
theorem ord_map (ss : List Int) (g s : Int) (n : Nat) : (prsN ss g s n).mergeSort leV = (ordN ss g s n).map (encP ss g s) := by
  unfold prsN ordN
  exact (List.map_mergeSort (f := encP ss g s) (r := fun a b => leV (encP ss g s a) (encP ss g s b)) (s := leV) fun a _ b _ => rfl).symm
theorem ord_perm (ss : List Int) (g s : Int) (n : Nat) : (ordN ss g s n).Perm ((List.range n).filter (presB ss g s)) := List.mergeSort_perm _ _
theorem ord_mem {ss : List Int} {g s : Int} {n k : Nat} : k ∈ ordN ss g s n ↔ k < n ∧ presB ss g s k = true := by
  rw [(ord_perm ss g s n).mem_iff, List.mem_filter, List.mem_range]
theorem ord_nodup (ss : List Int) (g s : Int) (n : Nat) : (ordN ss g s n).Nodup := (ord_perm ss g s n).nodup_iff.mpr (List.nodup_range.sublist List.filter_sublist)
theorem ord_len (ss : List Int) (g s : Int) (n : Nat) : (ordN ss g s n).length ≤ n := by
  rw [(ord_perm ss g s n).length_eq]
  have := List.length_filter_le (presB ss g s) (List.range n)
  simpa using this
theorem prs_succ (ss : List Int) (g s : Int) (n : Nat) : prsN ss g s (n + 1) = prsN ss g s n ++ (if presB ss g s n = true then [encP ss g s n] else []) := by
  unfold prsN
  rw [List.range_succ, List.filter_append, List.map_append]
  congr 1
  by_cases h : presB ss g s n = true
  · rw [if_pos h, List.filter_cons_of_pos h]; rfl
  · rw [if_neg h, List.filter_cons_of_neg h]; rfl
theorem prs_len (ss : List Int) (g s : Int) (n : Nat) : (prsN ss g s n).length ≤ n := by
  unfold prsN; rw [List.length_map]
  have := List.length_filter_le (presB ss g s) (List.range n)
  simpa using this
section
variable {st : Store} {v w : Val} {rs ss : List Int} {g s : Int}
theorem sort_prs {n m : Nat} {x : Val} (hx : seqOf st x = some (true, prsN ss g s n)) (hn : n ≤ 1000) : g1V false .sorted x st = .ok (.lst ((ordN ss g s n).map (encP ss g s)), st) := by
  rw [← ord_map]
  unfold g1V; dsimp only; rw [hx]; dsimp only
  have hl := prs_len ss g s n
  cases hp : prsN ss g s n with
  | nil => simp only [asInts, sortI, List.map_nil, List.mergeSort_nil]; exact newL_f [] (Nat.zero_le _)
  | cons y ys =>
    have hy : ∀ z ∈ prsN ss g s n, ∃ a b, z = .tup [.int a, .int b] := fun z hz => by
      unfold prsN at hz; obtain ⟨k, _, rfl⟩ := List.mem_map.mp hz; exact ⟨_, _, rfl⟩
    rw [← hp]
    have e1 : asInts (prsN ss g s n) = none := by
      rw [hp]; obtain ⟨a, b, rfl⟩ := hy y (by rw [hp]; exact List.mem_cons_self ..); rfl
    rw [e1]
    have e2 : sortOk (prsN ss g s n) = true := by
      unfold sortOk
      rw [Bool.and_eq_true, Bool.or_eq_true, List.all_eq_true]
      refine ⟨fun z hz => ?_, .inl (List.all_eq_true.mpr fun z hz => ?_)⟩
      · obtain ⟨a, b, rfl⟩ := hy z hz
        rw [Bool.and_eq_true, List.all_eq_true]
        refine ⟨fun u hu => ?_, rfl⟩
        obtain ⟨c, d, rfl⟩ := hy u hu
        simp [toPD, toPDs, PySem.W.alike, PySem.W.alikeAll]
      · obtain ⟨a, b, rfl⟩ := hy z hz; rfl
    dsimp only
    rw [if_pos e2]
    exact newL_f _ (by rw [List.length_mergeSort]; unfold szMax; omega)
def teamsV (ss : List Int) (g s : Int) (n : Nat) : Val := .tup ((ordN ss g s n).map (encP ss g s))
theorem closed_enc (ks : List Nat) : closedL 0 (ks.map (encP ss g s)) = true := by
  induction ks with
  | nil => rfl
  | cons k ks ih => show (true && closedL 0 (ks.map (encP ss g s))) = true; rw [ih]; rfl
theorem c_teams_at (hv : IsSeq v rs) (hw : IsSeq w ss) (h : Rt rs) (hs : Valid rs ss) (h1 : 1 ≤ g) (h2 : g ≤ 10000) : m_teams_at [v, w, .int g, .int s] st = .ok (teamsV ss g s rs.length, st) := by
  have hl := hs.1
  have hr := h.l1
  have hg : 0 < g := by omega
  refine mk_pure (g := [.lst (prsN ss g s rs.length)]) rfl ?_ (closed_enc _)
  obtain ⟨o, L⟩ := forL_range (i := 5) (body := evSs T_teams_at G0 b_teams_at_1) (fun k o => [some v, some w, some (.int g), some (.int s), some (.loc st.length), o, (match k with | 0 => none | k + 1 => some (.int (s - cell ss k)))]) (fun k => st ++ [.lst (prsN ss g s k)]) rs.length (fun _ _ _ => rfl) (fun k hk => by
    have hp := prs_len ss g s k
    by_cases hc : presB ss g s k = true
    · have e := prs_succ ss g s k
      rw [if_pos hc] at e
      unfold presB at hc
      simp_arith [b_teams_at_1, hw.ix (show k < ss.length by omega), bV_mod hg, hc, bV_fdivL hg (show g ≤ 1000000000000 by omega), show (prsN ss g s k).length < 100000 by omega, e, encP]
    · have e := prs_succ ss g s k
      rw [if_neg hc, List.append_nil] at e
      unfold presB at hc
      simp_arith [b_teams_at_1, hw.ix (show k < ss.length by omega), bV_mod hg, hc, e]) none
  have e0 : prsN ss g s 0 = [] := rfl
  rw [e0] at L
  have hsrt := sort_prs (st := st ++ [.lst (prsN ss g s rs.length)]) (ss := ss) (g := g) (s := s) (n := rs.length) (m := 0) (x := .loc st.length) (by simp_arith []) (by omega)
  have ht := gtup_of (m := false) (st := st ++ [.lst (prsN ss g s rs.length)]) (seqOf_lst ((ordN ss g s rs.length).map (encP ss g s))) (by rw [List.length_map]; have := ord_len ss g s rs.length; unfold szMax; omega)
  simp_arith [b_teams_at, t_teams_at_check_slots, c_check_slots hv hw h hs, t_teams_at_check_gap, c_check_gap h1 h2, hw.len, hl, rng1 (show rs.length ≤ 1000000 by omega), L, hsrt, ht, teamsV]
end
theorem ss_inc {rs ss : List Int} (hs : Valid rs ss) : ∀ j l, j < l → l < rs.length → cell ss j < cell ss l := by
  intro j l
  induction l with
  | zero => intro h; cases h
  | succ l ih =>
    intro h hl
    have := (hs.2 (l + 1) hl).2.1
    rw [if_neg (by omega), Nat.add_sub_cancel] at this
    by_cases e : j = l
    · subst e; omega
    · have := ih (by omega) (by omega); omega
theorem presB_iff {ss : List Int} {g s : Int} {k : Nat} : presB ss g s k = true ↔ cell ss k ≤ s ∧ s % g = cell ss k % g := by
  unfold presB
  rw [Bool.and_eq_true, decide_eq_true_eq, decide_eq_true_eq, emod_sub]
  constructor <;> (rintro ⟨a, b⟩; exact ⟨by omega, b⟩)
theorem cond_of {rs ss : List Int} {g s : Int} {j l : Nat} (h1 : presB ss g s j = true) (h2 : presB ss g s l = true) (e : cell rs j = cell rs l) : condM rs ss g j l = true := by
  have a := presB_iff.mp h1
  have b := presB_iff.mp h2
  unfold condM
  rw [Bool.and_eq_true, decide_eq_true_eq, decide_eq_true_eq, emod_sub]
  exact ⟨e, by rw [← b.2, a.2]⟩
section
variable {st : Store} {v w : Val} {rs ss : List Int} {g s : Int}
def gapsL (z : Int) : List Int := (List.range z.toNat).map fun (k : Nat) => 1 + (k : Int)
theorem gapsL_mem {z x : Int} (h0 : 0 ≤ z) : x ∈ gapsL z ↔ 1 ≤ x ∧ x ≤ z := by
  unfold gapsL
  rw [List.mem_map]
  constructor
  · rintro ⟨k, hk, rfl⟩; have := List.mem_range.mp hk; omega
  · rintro ⟨a, b⟩; exact ⟨(x - 1).toNat, List.mem_range.mpr (by omega), by omega⟩
def leastN (rs ss : List Int) : Int := ((gapsL (cell ss (rs.length - 1))).find? fun g => isNonV (meetN rs ss g)).getD (cell ss (rs.length - 1) + 1)
theorem ix_neg (hw : IsSeq w ss) (h0 : 0 < ss.length) : ixV st w (.int (-1)) = .ok (.int (cell ss (ss.length - 1))) := by
  have : atI (vInts ss) (-1) = some (.int (cell ss (ss.length - 1))) := by
    unfold atI; rw [vInts_len, ixN_neg h0]
    exact getD_get (by omega)
  rcases hw with rfl | rfl <;> simp_arith [this]
theorem last_b (h : Rt rs) (hs : Valid rs ss) : 0 ≤ cell ss (rs.length - 1) ∧ cell ss (rs.length - 1) ≤ 9999 := by
  have hr0 := h.l0
  have a := hs.2 (rs.length - 1) (by omega)
  refine ⟨?_, a.2.2⟩
  have b := (hs.2 0 hr0).2.1
  rw [if_pos rfl] at b
  by_cases e : rs.length - 1 = 0
  · rw [e]; omega
  · have := ss_inc hs 0 (rs.length - 1) (by omega) (by omega); omega
theorem c_least_gap (hv : IsSeq v rs) (hw : IsSeq w ss) (h : Rt rs) (hs : Valid rs ss) : m_least_gap [v, w] st = .ok (.int (leastN rs ss), st) := by
  have hl := hs.1
  have hr := h.l1
  have hr0 := h.l0
  obtain ⟨b0, b1⟩ := last_b h hs
  refine mk_pure0 rfl ?_ rfl
  have L := forL_fold (i := 2) (body := evSs T_least_gap G0 b_least_gap_1) Val.int (fun (_ : Unit) o => [some v, some w, o]) (fun _ => st) (fun _ g => if isNonV (meetN rs ss g) = true then Out.ret (.int g) st else .go ()) (fun _ _ _ => rfl) (gapsL (cell ss (rs.length - 1))) (fun _ g hg => by
    have hg := (gapsL_mem b0).mp hg
    have m := run_meeting (st := st) hv hw hl hr (by omega : 0 < g)
    have n : cmpV .is_ (optV (meetN rs ss g)) .non st = .ok (isNonV (meetN rs ss g)) := meet_is
    cases hc : meetN rs ss g with
    | none => rw [hc] at m n; simp_arith [b_least_gap_1, t_least_gap_meeting, m, n, isNonV]
    | some u => rw [hc] at m n; simp_arith [b_least_gap_1, t_least_gap_meeting, m, n, isNonV]) () none
  rw [foldO_find] at L
  have hr1 : rngV [.int 1, .int (cell ss (rs.length - 1) + 1)] = .ok ((gapsL (cell ss (rs.length - 1))).map Val.int) := by
    rw [rng2 (by omega) (by omega) (by omega) (by omega)]
    unfold gapsL
    rw [List.map_map, show cell ss (rs.length - 1) + 1 - 1 = cell ss (rs.length - 1) by omega]; rfl
  have hx := ix_neg (st := st) hw (by omega)
  rw [hl] at hx
  unfold leastN
  cases hf : (gapsL (cell ss (rs.length - 1))).find? fun g => isNonV (meetN rs ss g) with
  | some g => rw [hf] at L; simp_arith [b_least_gap, t_least_gap_check_slots, c_check_slots hv hw h hs, hx, hr1, L, Option.getD_some]
  | none => rw [hf] at L; simp_arith [b_least_gap, t_least_gap_check_slots, c_check_slots hv hw h hs, hx, hr1, L, Option.getD_none]
end
section
variable {st : Store} {v w : Val} {xs ys : List Val}
theorem scan_none {β : Type} {p : β → Nat → Bool} {f : β → Nat → β} {I : Nat → β → Prop} : ∀ (n j : Nat) (s : β), I j s → (∀ k s, I k s → p s k = false → I (k + 1) (f s k)) → scanE p f (List.range' j n) s = none → ∀ k, j ≤ k → k < j + n → ∃ s, I k s ∧ p s k = false
  | 0, j, s, _, _, _, k, h1, h2 => by omega
  | n + 1, j, s, hi, hs, h, k, h1, h2 => by
    rw [List.range'_succ] at h
    unfold scanE at h
    cases hp : p s j with
    | true => rw [hp, if_pos rfl] at h; cases h
    | false =>
      rw [hp, if_neg Bool.false_ne_true] at h
      by_cases hk : k = j
      · subst hk; exact ⟨s, hi, hp⟩
      · exact scan_none n (j + 1) (f s j) (hs j s hi hp) hs h k (by omega) (by omega)
theorem num_int {x : Val} {l u : Int} (h : btw l u x = true) : ∃ i, x = .int i ∧ l ≤ i ∧ i ≤ u := by
  cases x with
  | int i => unfold btw at h; simp at h; exact ⟨i, rfl, h⟩
  | _ => cases h
theorem rt_of (h : routeF xs = none) : ∃ rs, xs = vInts rs ∧ Rt rs := by
  unfold routeF at h
  by_cases h0 : xs.length = 0
  · rw [if_pos h0] at h; cases h
  · rw [if_neg h0] at h
    by_cases h6 : 60 < xs.length
    · rw [if_pos h6] at h; cases h
    · rw [if_neg h6] at h
      have hb : badR xs = none := by
        cases q : badR xs with
        | none => rfl
        | some k => rw [q] at h; cases h
      unfold badR at hb
      rw [List.range_eq_range'] at hb
      have key := scan_none (I := fun _ _ => True) xs.length 0 () trivial (fun _ _ _ _ => trivial) hb
      obtain ⟨rs, e, hr⟩ := ints_of (ys := xs) (P := fun i => 0 ≤ i ∧ i ≤ 99) fun y hy => by
        obtain ⟨k, hk, rfl⟩ := List.mem_iff_getElem.mp hy
        obtain ⟨_, _, hp⟩ := key k (Nat.zero_le _) (by omega)
        have : xs.getD k .non = xs[k] := by rw [List.getD_eq_getElem?_getD, List.getElem?_eq_getElem hk]; rfl
        rw [this] at hp
        obtain ⟨i, hi, h1, h2⟩ := num_int (l := 0) (u := 99) (x := xs[k]) (by simpa using hp)
        exact ⟨i, hi, h1, h2⟩
      refine ⟨rs, e, ?_, ?_, hr⟩
      · have : xs.length = rs.length := by rw [e, vInts_len]
        omega
      · have : xs.length = rs.length := by rw [e, vInts_len]
        omega
theorem getD_ints {ns : List Int} {k : Nat} (h : k < ns.length) : (vInts ns).getD k .non = .int (cell ns k) := by
  rw [List.getD_eq_getElem?_getD, getD_get h]; rfl
theorem valid_of {rs : List Int} (h : wrongN (vInts rs) ys = none) : ∃ ss, ys = vInts ss ∧ Valid rs ss := by
  unfold wrongN at h
  cases hb : scanE (pS ys) (fS ys) (List.range (vInts rs).length) (-1) with
  | some k => rw [hb] at h; cases h
  | none =>
    rw [hb] at h
    have hle : ¬ (vInts rs).length < ys.length := fun q => by dsimp only at h; rw [if_pos q] at h; cases h
    rw [vInts_len] at hb hle
    rw [List.range_eq_range'] at hb
    have key := scan_none (I := fun k s => s = if k = 0 then -1 else intOf (ys.getD (k - 1) .non) (-1)) rs.length 0 (-1) rfl (fun k s hs hp => by
      rw [if_neg (Nat.succ_ne_zero k), Nat.add_sub_cancel]
      unfold pS at hp
      simp only [Bool.or_eq_false_iff, Bool.not_eq_false'] at hp
      obtain ⟨i, hi, _⟩ := num_int hp.2
      unfold fS; rw [hi]; rfl) hb
    have hlen : ys.length = rs.length := by
      by_cases q : rs.length = 0
      · omega
      · obtain ⟨s, _, hp⟩ := key (rs.length - 1) (Nat.zero_le _) (by omega)
        unfold pS at hp
        simp only [Bool.or_eq_false_iff, decide_eq_false_iff_not] at hp
        omega
    obtain ⟨ss, e, hr⟩ := ints_of (ys := ys) (P := fun i => True) fun y hy => by
      obtain ⟨k, hk, rfl⟩ := List.mem_iff_getElem.mp hy
      obtain ⟨s, _, hp⟩ := key k (Nat.zero_le _) (by omega)
      have : ys.getD k .non = ys[k] := by rw [List.getD_eq_getElem?_getD, List.getElem?_eq_getElem hk]; rfl
      unfold pS at hp
      rw [this] at hp
      simp only [Bool.or_eq_false_iff, Bool.not_eq_false'] at hp
      obtain ⟨i, hi, _⟩ := num_int hp.2
      exact ⟨i, hi, trivial⟩
    subst e
    have hl2 : ss.length = rs.length := by rw [vInts_len] at hlen; exact hlen
    refine ⟨ss, rfl, hl2, fun k hk => ?_⟩
    obtain ⟨s, hs, hp⟩ := key k (Nat.zero_le _) (by omega)
    unfold pS at hp
    rw [getD_ints (by omega)] at hp
    simp only [Bool.or_eq_false_iff, Bool.not_eq_false'] at hp
    obtain ⟨i, hi, h1, h2⟩ := num_int hp.2
    injection hi with hi
    subst hi
    refine ⟨by omega, ?_, h2⟩
    by_cases q : k = 0
    · rw [if_pos q] at hs ⊢; omega
    · rw [if_neg q, getD_ints (by omega)] at hs
      rw [if_neg q]
      have : s = cell ss (k - 1) := hs
      omega
/-- what is due -/
def dueF (xs ys : List Val) (g most : Int) (which : Nat) : Option (Str × Int) := match routeF xs with
  | some f => some f
  | none => if which = 0 then none else if which = 1 then gapF g most else if which = 2 then gapF g 1 else if which = 3 then slotF xs ys else (match slotF xs ys with | some f => some f | none => gapF g 1)
end
section
variable {st : Store} {v w : Val} {xs ys : List Val} {g s most : Int}
def CallR (o : Option (Str × Int)) (b : Bool) (r : RV) (st : Store) : Prop := match o with
  | some (c, i) => r = .exn c [.int i] st
  | none => ∃ u, r = .ok (u, st) ∧ closed 0 u = true ∧ (b = true → ∃ t, u = .bl t)
theorem seq_of {rs : List Int} (h : IsV v (vInts rs)) : IsSeq v rs := h
variable (hv : IsV v xs) (hw : IsV w ys) (hx : ∀ x ∈ xs, NumB x) (hy : ∀ y ∈ ys, NumB y) (hl : xs.length ≤ 100) (hl2 : ys.length ≤ 200)
include hv hx hl
theorem e_busiest : CallR (routeF xs) false (m_busiest [v] st) st := by
  have h1 := qd_check_route (st := st) hv hx hl
  cases hr : routeF xs with
  | some f =>
    obtain ⟨c, i⟩ := f
    rw [hr] at h1
    have h1 : m_check_route [v] st = .exn c [.int i] st := h1
    exact mk_exn0 rfl (by simp_arith [b_busiest, t_busiest_check_route, h1]) rfl
  | none =>
    obtain ⟨rs, rfl, hrt⟩ := rt_of hr
    exact ⟨_, c_busiest (st := st) (seq_of hv) hrt, rfl, fun z => by cases z⟩
theorem e_stretched (hm : ∀ rs, xs = vInts rs → Rt rs → most = busyN rs) : CallR (match routeF xs with | some f => some f | none => gapF g most) false (m_stretched [v, .int g] st) st := by
  have h1 := e_busiest (st := st) hv hx hl
  cases hr : routeF xs with
  | some f =>
    obtain ⟨c, i⟩ := f
    rw [hr] at h1
    have h1 : m_busiest [v] st = .exn c [.int i] st := h1
    exact mk_exn0 rfl (by simp_arith [b_stretched, t_stretched_busiest, h1]) rfl
  | none =>
    obtain ⟨rs, rfl, hrt⟩ := rt_of hr
    have hmo := hm rs rfl hrt
    subst hmo
    show CallR (gapF g (busyN rs)) _ _ _
    unfold gapF
    by_cases q1 : g < busyN rs
    · rw [if_pos q1]; exact c_stretched_x1 (seq_of hv) hrt q1
    · rw [if_neg q1]
      by_cases q2 : 10000 < g
      · rw [if_pos q2]; exact c_stretched_x2 (seq_of hv) hrt q1 q2
      · rw [if_neg q2]; exact ⟨_, c_stretched (st := st) (seq_of hv) hrt (by omega) (by omega), closed_vInts 0 _, fun z => by cases z⟩
include hw hy hl2
theorem e_are_slots : CallR (match routeF xs with | some f => some f | none => gapF g 1) true (m_are_slots [v, .int g, w] st) st := by
  have h1 := qd_check_route (st := st) hv hx hl
  have h2 := qd_check_gap (st := st) (g := g)
  cases hr : routeF xs with
  | some f =>
    obtain ⟨c, i⟩ := f
    rw [hr] at h1
    have h1 : m_check_route [v] st = .exn c [.int i] st := h1
    exact mk_exn0 rfl (by simp_arith [b_are_slots, t_are_slots_check_route, h1]) rfl
  | none =>
    rw [hr] at h1
    have h1 : m_check_route [v] st = .ok (.non, st) := h1
    show CallR (gapF g 1) _ _ _
    cases hg : gapF g 1 with
    | some f =>
      obtain ⟨c, i⟩ := f
      rw [hg] at h2
      have h2 : m_check_gap [.int g] st = .exn c [.int i] st := h2
      exact mk_exn0 rfl (by simp_arith [b_are_slots, t_are_slots_check_route, h1, t_are_slots_check_gap, h2]) rfl
    | none =>
      rw [hg] at h2
      have h2 : m_check_gap [.int g] st = .ok (.non, st) := h2
      have hgb : 1 ≤ g ∧ g ≤ 10000 := by
        unfold gapF at hg
        by_cases q1 : g < 1
        · rw [if_pos q1] at hg; cases hg
        · rw [if_neg q1] at hg
          by_cases q2 : 10000 < g
          · rw [if_pos q2] at hg; cases hg
          · omega
      obtain ⟨rs, rfl, hrt⟩ := rt_of hr
      have h3 := qd_wrong_slot (st := st) hv hw hy hl
      cases hq : wrongN (vInts rs) ys with
      | some k =>
        rw [hq] at h3
        have hrow : m_is_row [w] st = .ok (.bl true, st) := by rcases hw with rfl | rfl; exact row_l; exact row_t
        exact ⟨.bl false, mk_pure0 rfl (by simp_arith [b_are_slots, t_are_slots_check_route, h1, t_are_slots_check_gap, h2, t_are_slots_is_row, hrow, t_are_slots_wrong_slot, h3, wrongV]) rfl, rfl, fun _ => ⟨_, rfl⟩⟩
      | none =>
        obtain ⟨ss, rfl, hvd⟩ := valid_of hq
        rw [vInts_len] at hl2
        exact ⟨_, c_are_slots (st := st) (seq_of hv) (seq_of hw) hrt hgb.1 hgb.2 (by omega), rfl, fun _ => ⟨_, rfl⟩⟩
theorem e_slots (hr : (match routeF xs with | some f => some f | none => slotF xs ys) = none) : ∃ rs ss, xs = vInts rs ∧ ys = vInts ss ∧ Rt rs ∧ Valid rs ss := by
  cases h : routeF xs with
  | some f => rw [h] at hr; cases hr
  | none =>
    rw [h] at hr
    obtain ⟨rs, rfl, hrt⟩ := rt_of h
    have hr : slotF (vInts rs) ys = none := hr
    unfold slotF at hr
    have hq : wrongN (vInts rs) ys = none := by
      cases q : wrongN (vInts rs) ys with
      | none => rfl
      | some k => rw [q] at hr; cases hr
    obtain ⟨ss, rfl, hvd⟩ := valid_of hq
    exact ⟨rs, ss, rfl, rfl, hrt, hvd⟩
theorem e_least_gap : CallR (match routeF xs with | some f => some f | none => slotF xs ys) false (m_least_gap [v, w] st) st := by
  have h1 : m_check_slots [v, w] st = outF (match routeF xs with | some f => some f | none => slotF xs ys) st := qd_check_slots (st := st) hv hw hx hy hl
  cases hr : (match routeF xs with | some f => some f | none => slotF xs ys) with
  | some f =>
    obtain ⟨c, i⟩ := f
    rw [hr] at h1
    have h1 : m_check_slots [v, w] st = .exn c [.int i] st := h1
    exact mk_exn0 rfl (by simp_arith [b_least_gap, t_least_gap_check_slots, h1]) rfl
  | none =>
    obtain ⟨rs, ss, rfl, rfl, hrt, hvd⟩ := e_slots hv hw hx hy hl hl2 hr
    exact ⟨_, c_least_gap (st := st) (seq_of hv) (seq_of hw) hrt hvd, rfl, fun z => by cases z⟩
def slotGap (xs ys : List Val) (g : Int) : Option (Str × Int) := match (match routeF xs with | some f => some f | none => slotF xs ys) with | some f => some f | none => gapF g 1
theorem gap_none (hg : gapF g 1 = none) : 1 ≤ g ∧ g ≤ 10000 := by
  unfold gapF at hg
  by_cases q1 : g < 1
  · rw [if_pos q1] at hg; cases hg
  · rw [if_neg q1] at hg
    by_cases q2 : 10000 < g
    · rw [if_pos q2] at hg; cases hg
    · omega
theorem closed_opt {rs ss : List Int} : closed 0 (optV (meetN rs ss g)) = true := by
  cases q : meetN rs ss g with
  | none => rfl
  | some u =>
    obtain ⟨j, l, _, _, rfl, _⟩ := meetN_some q
    rfl
theorem e_first : CallR (slotGap xs ys g) false (m_first_meeting [v, w, .int g] st) st ∧ CallR (slotGap xs ys g) true (m_is_clear [v, w, .int g] st) st ∧ CallR (slotGap xs ys g) false (m_teams_at [v, w, .int g, .int s] st) st := by
  have h1 : m_check_slots [v, w] st = outF (match routeF xs with | some f => some f | none => slotF xs ys) st := qd_check_slots (st := st) hv hw hx hy hl
  have h2 := qd_check_gap (st := st) (g := g)
  unfold slotGap
  cases hr : (match routeF xs with | some f => some f | none => slotF xs ys) with
  | some f =>
    obtain ⟨c, i⟩ := f
    rw [hr] at h1
    have h1 : m_check_slots [v, w] st = .exn c [.int i] st := h1
    have f1 : m_first_meeting [v, w, .int g] st = .exn c [.int i] st := mk_exn0 rfl (by simp_arith [b_first_meeting, t_first_meeting_check_slots, h1]) rfl
    exact ⟨f1, mk_exn0 rfl (by simp_arith [b_is_clear, t_is_clear_first_meeting, f1]) rfl, mk_exn0 rfl (by simp_arith [b_teams_at, t_teams_at_check_slots, h1]) rfl⟩
  | none =>
    rw [hr] at h1
    have h1 : m_check_slots [v, w] st = .ok (.non, st) := h1
    obtain ⟨rs, ss, rfl, rfl, hrt, hvd⟩ := e_slots hv hw hx hy hl hl2 hr
    dsimp only
    cases hg : gapF g 1 with
    | some f =>
      obtain ⟨c, i⟩ := f
      rw [hg] at h2
      have h2 : m_check_gap [.int g] st = .exn c [.int i] st := h2
      have f1 : m_first_meeting [v, w, .int g] st = .exn c [.int i] st := mk_exn0 rfl (by simp_arith [b_first_meeting, t_first_meeting_check_slots, h1, t_first_meeting_check_gap, h2]) rfl
      exact ⟨f1, mk_exn0 rfl (by simp_arith [b_is_clear, t_is_clear_first_meeting, f1]) rfl, mk_exn0 rfl (by simp_arith [b_teams_at, t_teams_at_check_slots, h1, t_teams_at_check_gap, h2]) rfl⟩
    | none =>
      obtain ⟨g1, g2⟩ := gap_none hv hw hx hy hl hl2 hg
      exact ⟨⟨_, c_first_meeting (st := st) (seq_of hv) (seq_of hw) hrt hvd g1 g2, closed_opt hv hw hx hy hl hl2, fun z => by cases z⟩, ⟨_, c_is_clear (st := st) (seq_of hv) (seq_of hw) hrt hvd g1 g2, rfl, fun _ => ⟨_, rfl⟩⟩, ⟨_, c_teams_at (st := st) (seq_of hv) (seq_of hw) hrt hvd g1 g2, closed_enc _, fun z => by cases z⟩⟩
end
section
variable {st : Store} {v w : Val} {xs ys : List Val} {g s most : Int}
theorem lift_call {a5 : List Val} {o : Option (Str × Int)} {b : Bool} {r : RV} (h5 : a5.length = 5) (h : CallR o b r st) (e1 : ∀ c i, r = .exn c [.int i] st → runB T_law_call G0 5 b_law_call a5 st = .exn c [.int i] st) (e2 : ∀ u, r = .ok (u, st) → runB T_law_call G0 5 b_law_call a5 st = .ok (u, st)) : CallR o b (m_law_call a5 st) st := by
  cases o with
  | some f => exact mk_exn0 h5 (e1 f.1 f.2 h) rfl
  | none =>
    obtain ⟨u, h1, h2, h3⟩ := h
    exact ⟨u, mk_pure0 h5 (e2 u h1) h2, h2, h3⟩
def orF (a b : Option (Str × Int)) : Option (Str × Int) := match a with | some f => some f | none => b
def dueN (xs ys : List Val) (g most : Int) : Nat → Option (Str × Int)
  | 0 => routeF xs
  | 1 => orF (routeF xs) (gapF g most)
  | 2 => orF (routeF xs) (gapF g 1)
  | 3 => orF (routeF xs) (slotF xs ys)
  | _ => orF (orF (routeF xs) (slotF xs ys)) (gapF g 1)
theorem e_call (hv : IsV v xs) (hw : IsV w ys) (hx : ∀ x ∈ xs, NumB x) (hy : ∀ y ∈ ys, NumB y) (hl : xs.length ≤ 100) (hl2 : ys.length ≤ 200) (hm : ∀ rs, xs = vInts rs → Rt rs → most = busyN rs) :
    CallR (dueN xs ys g most 0) false (m_law_call [v, w, .int g, .int s, .int 0] st) st ∧ CallR (dueN xs ys g most 1) false (m_law_call [v, w, .int g, .int s, .int 1] st) st ∧ CallR (dueN xs ys g most 2) true (m_law_call [v, w, .int g, .int s, .int 2] st) st ∧ CallR (dueN xs ys g most 3) false (m_law_call [v, w, .int g, .int s, .int 3] st) st ∧ CallR (dueN xs ys g most 4) false (m_law_call [v, w, .int g, .int s, .int 4] st) st ∧ CallR (dueN xs ys g most 5) true (m_law_call [v, w, .int g, .int s, .int 5] st) st ∧ CallR (dueN xs ys g most 6) false (m_law_call [v, w, .int g, .int s, .int 6] st) st := by
  have k0 := e_busiest (st := st) hv hx hl
  have k1 : CallR (orF (routeF xs) (gapF g most)) false (m_stretched [v, .int g] st) st := e_stretched (st := st) hv hx hl hm
  have k2 : CallR (orF (routeF xs) (gapF g 1)) true (m_are_slots [v, .int g, w] st) st := e_are_slots (st := st) hv hw hx hy hl hl2
  have k3 : CallR (orF (routeF xs) (slotF xs ys)) false (m_least_gap [v, w] st) st := e_least_gap (st := st) hv hw hx hy hl hl2
  have k456 : CallR (orF (orF (routeF xs) (slotF xs ys)) (gapF g 1)) false (m_first_meeting [v, w, .int g] st) st ∧ CallR (orF (orF (routeF xs) (slotF xs ys)) (gapF g 1)) true (m_is_clear [v, w, .int g] st) st ∧ CallR (orF (orF (routeF xs) (slotF xs ys)) (gapF g 1)) false (m_teams_at [v, w, .int g, .int s] st) st := e_first (st := st) (g := g) (s := s) hv hw hx hy hl hl2
  obtain ⟨k4, k5, k6⟩ := k456
  refine ⟨lift_call rfl k0 (fun c i h => by simp_arith [b_law_call, t_law_call_busiest, h]) (fun u h => by simp_arith [b_law_call, t_law_call_busiest, h]), lift_call rfl k1 (fun c i h => by simp_arith [b_law_call, t_law_call_stretched, h]) (fun u h => by simp_arith [b_law_call, t_law_call_stretched, h]), lift_call rfl k2 (fun c i h => by simp_arith [b_law_call, t_law_call_are_slots, h]) (fun u h => by simp_arith [b_law_call, t_law_call_are_slots, h]), lift_call rfl k3 (fun c i h => by simp_arith [b_law_call, t_law_call_least_gap, h]) (fun u h => by simp_arith [b_law_call, t_law_call_least_gap, h]), lift_call rfl k4 (fun c i h => by simp_arith [b_law_call, t_law_call_first_meeting, h]) (fun u h => by simp_arith [b_law_call, t_law_call_first_meeting, h]), lift_call rfl k5 (fun c i h => by simp_arith [b_law_call, t_law_call_is_clear, h]) (fun u h => by simp_arith [b_law_call, t_law_call_is_clear, h]), lift_call rfl k6 (fun c i h => by simp_arith [b_law_call, t_law_call_teams_at, h]) (fun u h => by simp_arith [b_law_call, t_law_call_teams_at, h])⟩
def toldT : Option (Str × Int) → Val
  | some (c, i) => .lst [.str (if c = "BadRoute" then "route" else if c = "TooMany" then "many" else "tight"), .int i, .bl true]
  | none => .lst []
def Known (o : Option (Str × Int)) : Prop := ∀ c i, o = some (c, i) → c = "BadRoute" ∨ c = "TooMany" ∨ c = "TooTight"
theorem known_or {a b : Option (Str × Int)} (ha : Known a) (hb : Known b) : Known (orF a b) := fun c i h => by
  cases a with
  | some f => exact ha c i h
  | none => exact hb c i h
theorem known_route : Known (routeF xs) := fun c i h => by
  unfold routeF at h
  split at h
  · cases h; exact .inl rfl
  · split at h
    · cases h; exact .inr (.inl rfl)
    · cases q : badR xs with
      | none => rw [q] at h; cases h
      | some k => rw [q] at h; cases h; exact .inl rfl
theorem known_slot : Known (slotF xs ys) := fun c i h => by
  unfold slotF at h
  cases q : wrongN xs ys with
  | none => rw [q] at h; cases h
  | some k => rw [q] at h; cases h; exact .inl rfl
theorem known_gap {l : Int} : Known (gapF g l) := fun c i h => by
  unfold gapF at h
  split at h
  · cases h; exact .inr (.inr rfl)
  · split at h
    · cases h; exact .inr (.inl rfl)
    · cases h
theorem known_due : ∀ n, Known (dueN xs ys g most n)
  | 0 => known_route
  | 1 => known_or known_route known_gap
  | 2 => known_or known_route known_gap
  | 3 => known_or known_route known_slot
  | _ + 4 => known_or (known_or known_route known_slot) known_gap
theorem e_told {k : Int} {o : Option (Str × Int)} {b : Bool} (hk : k = 2 → b = true) (h : CallR o b (m_law_call [v, w, .int g, .int s, .int k] st) st) (ho : Known o) : m_law_told [v, w, .int g, .int s, .int k] st = .ok (toldT o, st) := by
  cases o with
  | some f =>
    obtain ⟨c, i⟩ := f
    have h : m_law_call [v, w, .int g, .int s, .int k] st = .exn c [.int i] st := h
    rcases ho c i rfl with rfl | rfl | rfl
    · exact mk_pure0 rfl (by simp_arith [b_law_told, b_law_told_1, b_law_told_2, t_law_told_law_call, h, hc]; rfl) rfl
    · exact mk_pure0 rfl (by simp_arith [b_law_told, b_law_told_1, b_law_told_2, t_law_told_law_call, h, hc]; rfl) rfl
    · exact mk_pure0 rfl (by simp_arith [b_law_told, b_law_told_1, b_law_told_2, t_law_told_law_call, h, hc]; rfl) rfl
  | none =>
    obtain ⟨u, h1, h2, h3⟩ := h
    by_cases q : k = 2
    · obtain ⟨t, rfl⟩ := h3 (hk q)
      subst q
      exact mk_pure0 rfl (by simp_arith [b_law_told, t_law_told_law_call, h1, toldT]) rfl
    · exact mk_pure0 rfl (by simp_arith [b_law_told, t_law_told_law_call, h1, q, toldT]) rfl
end
section
variable {st : Store} {v w : Val} {xs ys : List Val} {g s : Int}
theorem closed_fault (o : Option (Str × Int)) : closed 0 (faultV o) = true := by
  cases o with
  | none => rfl
  | some f => rfl
theorem len_fault (o : Option (Str × Int)) : f1V .len (faultV o) st = .ok (.int (if o.isSome then 2 else 0)) := by
  cases o with
  | none => rfl
  | some f => rfl
theorem e_law_first (a b : Option (Str × Int)) : m_law_first [.lst [faultV a, faultV b]] st = .ok (faultV (orF a b), st) := by
  refine mk_pure0 rfl ?_ (closed_fault _)
  cases a with
  | some f =>
    have h := len_fault (st := st) (some f)
    simp only [Option.isSome_some, if_true] at h
    simp_arith [b_law_first, b_law_first_1, forL, h, orF]
  | none =>
    have h := len_fault (st := st) none
    cases b with
    | some f =>
      have h2 := len_fault (st := st) (some f)
      simp only [Option.isSome_some, if_true] at h2
      simp only [Option.isSome_none, Bool.false_eq_true, if_false] at h
      simp_arith [b_law_first, b_law_first_1, forL, h, h2, orF, Int.lt_irrefl]
    | none =>
      simp only [Option.isSome_none, Bool.false_eq_true, if_false] at h
      simp_arith [b_law_first, b_law_first_1, forL, h, orF, Int.lt_irrefl]
      rfl
def mostN (xs : List Val) : Int := busyN (xs.map fun x => intOf x 0)
theorem most_ints {rs : List Int} : mostN (vInts rs) = busyN rs := by
  unfold mostN vInts; rw [List.map_map]; congr 1; exact List.map_id' rs
theorem e_due (hv : IsV v xs) (hw : IsV w ys) (hx : ∀ x ∈ xs, NumB x) (hy : ∀ y ∈ ys, NumB y) (hl : xs.length ≤ 100) :
    ∀ k : Nat, k < 7 → m_law_due [v, w, .int g, .int k] st = .ok (faultV (dueN xs ys g (mostN xs) k), st) := by
  intro k hk
  have h1 := d_rooms_fault (st := st) hv hx hl
  refine mk_pure0 rfl ?_ (closed_fault _)
  cases hr : routeF xs with
  | some f =>
    rw [hr] at h1
    have h2 := len_fault (st := st) (some f)
    simp only [Option.isSome_some, if_true] at h2
    have e : dueN xs ys g (mostN xs) k = some f := by
      match k with
      | 0 => exact hr
      | 1 => unfold dueN; rw [hr]; rfl
      | 2 => unfold dueN; rw [hr]; rfl
      | 3 => unfold dueN; rw [hr]; rfl
      | _ + 4 => unfold dueN; rw [hr]; rfl
    rw [e]
    simp_arith [b_law_due, t_law_due_law_rooms_fault, h1, h2]
  | none =>
    obtain ⟨rs, rfl, hrt⟩ := rt_of hr
    rw [hr] at h1
    have h2 := len_fault (st := st) none
    simp only [Option.isSome_none, Bool.false_eq_true, if_false] at h2
    have hll : rs.length ≤ 100000 := by have := hrt.l1; omega
    have hv2 : kI1 (v, st) = .ok (rs.map Val.int, st) := IsSeq.it (seq_of hv)
    have L1 := fun (r k : Int) (o : Option Val) => compL_map (c := (ev T_law_due G0 b_law_due_1).t) (e := (ev T_law_due G0 (.var 7)).v) (x := 7) (env := [some v, some w, some (.int g), some (.int k), some (.lst []), none, some (.int r), o]) (st := st) Val.int (fun x => decide (x = r)) Val.int rs (fun y _ => by simp_arith [b_law_due_1, veq_int]) (fun y _ _ => by simp_arith [])
    have L := fun k : Int => compL_map0 (c := (ev T_law_due G0 .no).t) (e := (ev T_law_due G0 b_law_due_2).v) (x := 6) (env := [some v, some w, some (.int g), some (.int k), some (.lst []), none, none, none]) (st := st) Val.int (fun r => Val.int (cntR rs r)) rs (fun _ _ => rfl) (fun r hr => by
      have hf : (rs.filter fun x => decide (x = r)).length ≤ 100000 := Nat.le_trans (List.length_filter_le ..) hll
      simp_arith [b_law_due_2, hv2, List.length_map, hll, L1, hf]
      rfl)
    have hz : ¬ (0 : Int) < 0 := by decide
    have hsl := d_slots_fault (st := st) hv hw hy hl
    have hg1 := fun l : Int => d_gap_fault (st := st) (g := g) (l := l)
    have f0 : faultV none = Val.lst [] := rfl
    rw [f0] at h1 h2
    match k, hk with
    | 0, _ =>
      show _ = R.ok (faultV (routeF (vInts rs)), st)
      rw [hr]
      simp_arith [b_law_due, t_law_due_law_rooms_fault, h1, h2, hz, f0, Int.ofNat_zero, Int.cast_ofNat_Int]
    | 1, _ =>
      show _ = R.ok (faultV (orF (routeF (vInts rs)) (gapF g (mostN (vInts rs)))), st)
      rw [hr, most_ints]
      simp_arith [b_law_due, t_law_due_law_rooms_fault, h1, h2, hz, hv2, List.length_map, hll, L, max_cnt hrt.l0, t_law_due_law_gap_fault, hg1, Int.cast_ofNat_Int]
      rfl
    | 2, _ =>
      show _ = R.ok (faultV (orF (routeF (vInts rs)) (gapF g 1)), st)
      rw [hr]
      simp_arith [b_law_due, t_law_due_law_rooms_fault, h1, h2, hz, hv2, List.length_map, hll, L, max_cnt hrt.l0, t_law_due_law_gap_fault, hg1, Int.cast_ofNat_Int]
      rfl
    | 3, _ =>
      show _ = R.ok (faultV (orF (routeF (vInts rs)) (slotF (vInts rs) ys)), st)
      rw [hr]
      simp_arith [b_law_due, t_law_due_law_rooms_fault, h1, h2, hz, hv2, List.length_map, hll, L, max_cnt hrt.l0, t_law_due_law_slots_fault, hsl, Int.cast_ofNat_Int]
      rfl
    | k + 4, hk =>
      show _ = R.ok (faultV (orF (orF (routeF (vInts rs)) (slotF (vInts rs) ys)) (gapF g 1)), st)
      rw [hr]
      have q1 : ¬ ((k + 4 : Nat) : Int) = 0 := by omega
      have q2 : ¬ ((k + 4 : Nat) : Int) = 1 := by omega
      have q3 : ¬ ((k + 4 : Nat) : Int) = 2 := by omega
      have q4 : ¬ ((k + 4 : Nat) : Int) = 3 := by omega
      simp_arith [b_law_due, t_law_due_law_rooms_fault, h1, h2, hz, hv2, List.length_map, hll, L, max_cnt hrt.l0, t_law_due_law_slots_fault, hsl, t_law_due_law_gap_fault, hg1, q1, q2, q3, q4, t_law_due_law_first, e_law_first]
      rfl
end
section
variable {st : Store} {a b : Int}
theorem closed_num {n : Nat} : ∀ {xs : List Val}, (∀ x ∈ xs, NumB x) → closedL n xs = true
  | [], _ => rfl
  | x :: xs, h => by
    have h1 : closed n x = true := by rcases h x (List.mem_cons_self ..) with ⟨i, rfl⟩ | rfl <;> rfl
    show (closed n x && closedL n xs) = true
    rw [h1, closed_num fun y hy => h y (List.mem_cons_of_mem _ hy)]; rfl
theorem num_ints (ns : List Int) : ∀ x ∈ vInts ns, NumB x := fun x hx => by
  obtain ⟨i, _, rfl⟩ := List.mem_map.mp hx
  exact .inl ⟨i, rfl⟩
theorem num_set {xs : List Val} (h : ∀ x ∈ xs, NumB x) {k : Nat} {y : Val} (hy : NumB y) : ∀ x ∈ xs.set k y, NumB x := fun x hx => by
  rcases List.mem_or_eq_of_mem_set hx with q | q
  · exact h x q
  · exact q ▸ hy
theorem pickV {d : Int} {xs : List Val} (h : d < xs.length) (h0 : 0 ≤ d) : ∃ w, w ∈ xs ∧ atI xs d = some w := by
  obtain ⟨k, rfl⟩ := pos_of h0
  exact ⟨xs[k]'(by omega), List.getElem_mem _, atI_n (List.getElem?_eq_getElem (by omega))⟩
theorem c_law_route (ok : SrcOk a b) : ∃ xs a' b', SrcOk a' b' ∧ (∀ x ∈ xs, NumB x) ∧ xs.length ≤ 61 ∧ SrcE m_law_route [] a b (.lst xs) a' b' := by
  obtain ⟨c0, a1, b1, ok1, c00, c01, e1⟩ := d_draw ok (lim := 9) (by decide) (by decide)
  obtain ⟨t, a2, b2, ok2, t0, t1, e2⟩ := d_draw ok1 (lim := 10) (by decide) (by decide)
  obtain ⟨c, hc, hcb⟩ : ∃ c : Nat, (if t = 0 then 61 else c0) = (c : Int) ∧ c ≤ 61 := ⟨(if t = 0 then 61 else c0).toNat, by split <;> omega, by split <;> omega⟩
  have hdr : ∀ (a b : Int) (ok : SrcOk a b), ∃ y a' b', SrcOk a' b' ∧ (∃ i : Int, y = .int i) ∧ ∀ (v c1 : Val) (st : Store) (n : Nat) (d : Cell), st[n]? = some d → ((ev T_law_route G0 b_law_route_1).v [some (.loc n), some c1, none, none, some v] (st.set n (srcC a b)) = .ok (y, st.set n (srcC a' b')) ∧ ∀ g : Store, (ev T_law_route G0 b_law_route_1).v [some (.loc n), some c1, none, none, some v] (st.set n (srcC a b) ++ g) = .ok (y, st.set n (srcC a' b') ++ g)) := fun a b ok => by
    obtain ⟨k, a1, b1, ok1, k0, k1, e1⟩ := d_draw ok (lim := 2) (by decide) (by decide)
    obtain ⟨m, hm, hme⟩ := pick8 (ns := [3, 100]) k1 k0
    have hme : atI [Val.int 3, .int 100] k = some (.int m) := hme
    have hmb : 0 < m ∧ m ≤ 100 := by simp at hm; omega
    obtain ⟨i, a2, b2, ok2, i0, i1, e2⟩ := d_draw ok1 (lim := m) hmb.1 (by omega)
    refine ⟨.int i, a2, b2, ok2, ⟨i, rfl⟩, fun v c1 st n d hn => ?_⟩
    obtain ⟨p1, p2⟩ := e1.next hn
    obtain ⟨q1, q2⟩ := e2.next hn
    exact ⟨by simp_arith [b_law_route_1, t_law_route_law_draw, p1, hme, q1], fun g => by simp_arith [b_law_route_1, t_law_route_law_draw, p2, hme, q2]⟩
  obtain ⟨ys, a3, b3, ok3, l3, p3, e3⟩ := compL_src (c := (ev T_law_route G0 .no).t) (e := (ev T_law_route G0 b_law_route_1).v) (x := 4) (env := fun n st => [some (.loc n), some (.int c), none, none, none]) (Q := fun _ => True) (P := fun y => ∃ i : Int, y = .int i) (fun _ _ _ _ _ => rfl) (fun v a b _ ok => by
    obtain ⟨y, a', b', ok', hy, e⟩ := hdr a b ok
    exact ⟨y, a', b', ok', hy, fun st n d hn => e v (.int c) st n d hn⟩) ((List.range c).map fun (k : Nat) => Val.int k) a2 b2 (fun _ _ => trivial) ok2
  have hys : ∀ y ∈ ys, NumB y := fun y hy => .inl (p3 y hy)
  have ly : ys.length = c := by simpa using l3
  have ey : ys.length ≤ szMax := by unfold szMax; omega
  obtain ⟨r, a4, b4, ok4, r0, r1, e4⟩ := d_draw ok3 (lim := 3) (by decide) (by decide)
  have hcm : ∀ st : Store, (if t = 0 then 61 else c0) = (c : Int) := fun _ => hc
  have head : ∀ (st : Store) (n : Nat), st[n]? = some (srcC a b) → runB T_law_route G0 5 b_law_route [.loc n] st = kRun ((evSs T_law_route G0 (.cons (.ite (.bo true (.cons (.cmp .gt (.var 1) (.int 0)) (.cons (.cmp .eq (.call "_law_draw" (.cons (.var 0) (.cons (.int 3) .nil))) (.int 0)) .nil))) b_law_route_2 .nil) (.cons (.ret (.frz (.var 2))) .nil)) [some (.loc n), some (.int c), some (.loc st.length), none, none] (st.set n (srcC a3 b3) ++ [.lst ys]))) := fun st n hn => by
    by_cases ht : t = 0
    · rw [if_pos ht] at hc
      subst ht
      have hc : (61 : Int) = (c : Int) := hc
      simp_arith [b_law_route, t_law_route_law_draw, (e1.first hn).1, (e2.next hn).1, hc, rng1 (show c ≤ 1000000 by omega), List.length_map, List.length_range, show c ≤ 100000 by omega, (e3 st n _ hn).1, newL_t _ ey, List.length_set]
    · rw [if_neg ht] at hc
      subst hc
      simp_arith [b_law_route, t_law_route_law_draw, (e1.first hn).1, (e2.next hn).1, ht, rng1 (show c ≤ 1000000 by omega), List.length_map, List.length_range, show c ≤ 100000 by omega, (e3 st n _ hn).1, newL_t _ ey, List.length_set]
  by_cases hgo : 0 < c ∧ r = 0
  · obtain ⟨hc0, hr0⟩ := hgo
    subst hr0
    obtain ⟨j, a5, b5, ok5, j0, j1, e5⟩ := d_draw ok4 (lim := (c : Int)) (by omega) (by omega)
    obtain ⟨j, rfl⟩ := pos_of j0
    obtain ⟨u, a6, b6, ok6, u0, u1, e6⟩ := d_draw ok5 (lim := 5) (by decide) (by decide)
    obtain ⟨y, hy, hye⟩ := pickV (xs := [Val.int (-1), .int 100, .int 1000000000000000, .int (-1000000000000000), .bl true]) (d := u) (by simpa using u1) u0
    have hyn : NumB y := by
      simp only [List.mem_cons, List.not_mem_nil, or_false] at hy
      rcases hy with rfl | rfl | rfl | rfl | rfl
      · exact .inl ⟨_, rfl⟩
      · exact .inl ⟨_, rfl⟩
      · exact .inl ⟨_, rfl⟩
      · exact .inl ⟨_, rfl⟩
      · exact .inr rfl
    have hj : j < ys.length := by omega
    refine ⟨ys.set j y, a6, b6, ok6, num_set hys hyn, by rw [List.length_set]; omega, fun st n hn => mk_set (g := [.frz (ys.set j y)]) rfl ?_ (closed_num (num_set hys hyn)) rfl⟩
    rw [head st n hn]
    have hci : (0 : Int) < (c : Int) := by omega
    simp_arith [t_law_route_law_draw, hci, (e4.next hn).2, b_law_route_2, (e5.next hn).2, (e6.next hn).2, hye, gs_0, ss_0, ixN_n hj]
  · refine ⟨ys, (if 0 < c then a4 else a3), (if 0 < c then b4 else b3), by split <;> assumption, hys, by omega, fun st n hn => mk_set (g := [.frz ys]) rfl ?_ (closed_num hys) rfl⟩
    rw [head st n hn]
    by_cases hc0 : 0 < c
    · have hci : (0 : Int) < (c : Int) := by omega
      have hr0 : ¬ r = 0 := fun q => hgo ⟨hc0, q⟩
      rw [if_pos hc0, if_pos hc0]
      simp_arith [t_law_route_law_draw, hci, (e4.next hn).2, hr0, gs_0, ss_0]
    · have hci : ¬ (0 : Int) < (c : Int) := by omega
      rw [if_neg hc0, if_neg hc0]
      simp_arith [t_law_route_law_draw, hci, gs_0, ss_0]
end
section
variable {st : Store} {a b : Int}
theorem num_cut {xs : List Val} (h : ∀ x ∈ xs, NumB x) (lo hi : Option Int) : ∀ x ∈ cutA xs lo hi, NumB x := fun x hx => by
  unfold cutA at hx
  first
    | exact h x (List.mem_of_mem_drop (List.mem_of_mem_take hx))
    | exact h x (List.mem_of_mem_take (List.mem_of_mem_drop hx))
theorem len_cut {xs : List Val} (lo hi : Option Int) : (cutA xs lo hi).length ≤ xs.length := by
  unfold cutA
  simp only [List.length_take, List.length_drop]
  omega
theorem num_app {xs ys : List Val} (h : ∀ x ∈ xs, NumB x) (h2 : ∀ x ∈ ys, NumB x) : ∀ x ∈ xs ++ ys, NumB x := fun x hx => by
  rcases List.mem_append.mp hx with q | q
  · exact h x q
  · exact h2 x q
theorem slc_loc {xs : List Val} {s : Store} {n : Nat} (h : s[n]? = some (.lst xs)) (hl : xs.length ≤ 100000) (lo hi : Option Int) : slcV false s (.loc n) lo hi = .ok (.lst (cutA xs lo hi), s) := by
  have hs : seqOf s (.loc n) = some (true, xs) := by simp_arith [h, oSeq]
  show (match seqOf s (.loc n) with | some (true, xs) => newL false (cutA xs lo hi) s | some (false, xs) => newT (cutA xs lo hi) s | none => .stuck) = _
  rw [hs]
  exact newL_f _ (Nat.le_trans (len_cut lo hi) hl)
theorem c_law_slots {n cnt : Nat} (ok : SrcOk a b) (hn : st[n]? = some (srcC a b)) (hc : cnt ≤ 61) : ∃ ys a' b', (∀ y ∈ ys, NumB y) ∧ ys.length ≤ 200 ∧ m_law_slots [.loc n, .int cnt] st = .ok (.lst ys, st.set n (srcC a' b')) := by
  obtain ⟨z, a1, b1, ok1, z0, z1, e1⟩ := d_draw ok (lim := 4) (by decide) (by decide)
  obtain ⟨e', s', L, k, hk, hx, ss, sl, a2, b2, o, ok2, hl, rfl, rfl⟩ := forL_inv (i := 4) (body := evSs T_law_slots G0 b_law_slots_1) (fun xs env s => ∃ k, k ≤ cnt ∧ xs = ((List.range cnt).map fun (k : Nat) => Val.int k).drop k ∧ ∃ (ss : List Int) (z a b : Int) (o : Option Val), SrcOk a b ∧ ss.length = k ∧ s = st.set n (srcC a b) ++ [.lst (vInts ss)] ∧ env = [some (.loc n), some (.int cnt), some (.loc st.length), some (.int z), o, none, none, none]) (fun x xs env s ⟨k, hk, hx, ss, z, a, b, o, ok, hl, hs, he⟩ => by
    obtain ⟨d1, d2⟩ := drop_cons hx.symm
    obtain ⟨d3, _⟩ := List.getElem?_eq_some_iff.mp d1
    have hk' : k < cnt := by simpa using d3
    obtain ⟨d, a', b', ok', d0, d1', ed⟩ := d_draw ok (lim := 5) (by decide) (by decide)
    subst hs he
    refine ⟨_, _, ?_, k + 1, hk', d2, ss ++ [z], z + 1 + d, a', b', some x, ok', by simp [hl], rfl, rfl⟩
    have app : vInts ss ++ [Val.int z] = vInts (ss ++ [z]) := by unfold vInts; rw [List.map_append]; rfl
    simp_arith [b_law_slots_1, gs_0, ss_0, vInts_len, show ss.length < 100000 by omega, t_law_slots_law_draw, (ed.next hn).2, app]) ((List.range cnt).map fun (k : Nat) => Val.int k) [some (.loc n), some (.int cnt), some (.loc st.length), some (.int z), none, none, none, none] (st.set n (srcC a1 b1) ++ [.lst []]) ⟨0, Nat.zero_le _, rfl, [], z, a1, b1, none, ok1, rfl, rfl, rfl⟩
  have hlc : ss.length ≤ 61 := by omega
  obtain ⟨kd, a3, b3, ok3, kd0, kd1, e3⟩ := d_draw ok2 (lim := 24) (by decide) (by decide)
  have hmx : (1 : Int) ≤ (if (cnt : Int) > 1 then (cnt : Int) else 1) ∧ (if (cnt : Int) > 1 then (cnt : Int) else 1) ≤ 61 := by split <;> omega
  obtain ⟨p, a4, b4, ok4, p0, p1, e4⟩ := d_draw ok3 (lim := (if (cnt : Int) > 1 then (cnt : Int) else 1)) (by omega) (by omega)
  obtain ⟨p, rfl⟩ := pos_of p0
  have hkc : k = cnt := by
    have := congrArg List.length hx
    simp at this; omega
  have hmm : mmV true (.int 1) (.int cnt) = .ok (.int (if (cnt : Int) > 1 then (cnt : Int) else 1)) := mm_int true 1 cnt
  have num : ∀ x ∈ vInts ss, NumB x := num_ints ss
  have hS : ∀ lo hi : Option Int, slcV false (st.set n (srcC a4 b4) ++ [.lst (vInts ss)]) (.loc st.length) lo hi = .ok (.lst (cutA (vInts ss) lo hi), st.set n (srcC a4 b4) ++ [.lst (vInts ss)]) := fun lo hi => slc_loc gs_0 (by rw [vInts_len]; omega) lo hi
  have hcl : ∀ lo hi : Option Int, (cutA (vInts ss) lo hi).length ≤ 61 := fun lo hi => Nat.le_trans (len_cut lo hi) (by rw [vInts_len]; omega)
  by_cases hgo : kd < 7 ∧ 0 < cnt
  · obtain ⟨g1, g2⟩ := hgo
    have hps : p < ss.length := by
      have : (if (cnt : Int) > 1 then (cnt : Int) else 1) ≤ cnt := by split <;> omega
      omega
    obtain ⟨W, hW, hWe⟩ := pickV (xs := [Val.lst [], .lst [.int (cell ss p), .int (cell ss p)], .lst [.int (-1)], .lst [.int 10000], .lst [.int 1000000000000000], .lst [.bl true], .lst [.int (cell ss p + 1), .int (cell ss p)]]) (d := kd) (by simpa using g1) kd0
    obtain ⟨ws, rfl, hws, hwl⟩ : ∃ ws, W = .lst ws ∧ (∀ x ∈ ws, NumB x) ∧ ws.length ≤ 2 := by
      have ni : ∀ i : Int, NumB (.int i) := fun i => .inl ⟨i, rfl⟩
      simp only [List.mem_cons, List.not_mem_nil, or_false] at hW
      rcases hW with rfl | rfl | rfl | rfl | rfl | rfl | rfl
      · exact ⟨_, rfl, (fun x hx => by cases hx), by decide⟩
      · exact ⟨_, rfl, (fun x hx => by simp only [List.mem_cons, List.not_mem_nil, or_false, or_self] at hx; rw [hx]; exact ni _), Nat.le_refl 2⟩
      · exact ⟨_, rfl, (fun x hx => by rw [List.mem_singleton.mp hx]; exact ni _), by decide⟩
      · exact ⟨_, rfl, (fun x hx => by rw [List.mem_singleton.mp hx]; exact ni _), by decide⟩
      · exact ⟨_, rfl, (fun x hx => by rw [List.mem_singleton.mp hx]; exact ni _), by decide⟩
      · exact ⟨_, rfl, (fun x hx => by rw [List.mem_singleton.mp hx]; exact .inr rfl), by decide⟩
      · refine ⟨_, rfl, ?_, Nat.le_refl 2⟩
        intro x hx
        simp only [List.mem_cons, List.not_mem_nil, or_false] at hx
        rcases hx with rfl | rfl
        · exact ni _
        · exact ni _
    have hr := num_app (num_app (num_cut num none (some (p : Int))) hws) (num_cut num (some ((p : Int) + 1)) none)
    have l1 := hcl none (some (p : Int))
    have l2 := hcl (some ((p : Int) + 1)) none
    have e5 : (cutA (vInts ss) none (some (p : Int)) ++ ws).length ≤ szMax := by rw [List.length_append]; unfold szMax; omega
    have e6 : ((cutA (vInts ss) none (some (p : Int)) ++ ws) ++ cutA (vInts ss) (some ((p : Int) + 1)) none).length ≤ szMax := by rw [List.length_append, List.length_append]; unfold szMax; omega
    refine ⟨_, a4, b4, hr, by rw [List.length_append, List.length_append]; omega, mk_set (g := [.lst (vInts ss), .frz ((cutA (vInts ss) none (some (p : Int)) ++ ws) ++ cutA (vInts ss) (some ((p : Int) + 1)) none)]) rfl ?_ (closed_num hr) rfl⟩
    have g2i : (0 : Int) < (cnt : Int) := by omega
    have hne : ¬ kd = 7 := by omega
    have cat1 : ∀ (m : Bool) (s : Store), binV m .add (.lst (cutA (vInts ss) none (some (p : Int)))) (.lst ws) s = newL m (cutA (vInts ss) none (some (p : Int)) ++ ws) s := fun m s => bV_catl
    have cat2 : ∀ (m : Bool) (s : Store), binV m .add (.lst (cutA (vInts ss) none (some (p : Int)) ++ ws)) (.lst (cutA (vInts ss) (some ((p : Int) + 1)) none)) s = newL m ((cutA (vInts ss) none (some (p : Int)) ++ ws) ++ cutA (vInts ss) (some ((p : Int) + 1)) none) s := fun m s => bV_catl
    simp only [List.append_assoc] at cat2 e6 ⊢
    simp_arith [b_law_slots, t_law_slots_law_draw, (e1.first hn).2, rng1 (show cnt ≤ 1000000 by omega), L, (e3.next hn).2, hmm, (e4.next hn).2, g1, g2i, b_law_slots_2, gs_0, oSeq, at_ints hps, hWe, hS, partV, isNo, newL_f _ e5, newL_t _ e6, cat1, cat2, List.length_set, Nat.add_zero, gs_1, ss_1, hne]
  · by_cases h7 : kd = 7
    · subst h7
      have hr : ∀ y ∈ vInts ss ++ [Val.int sl], NumB y := num_app num fun x hx => by rw [List.mem_singleton.mp hx]; exact .inl ⟨_, rfl⟩
      have e6 : (vInts ss ++ [Val.int sl]).length ≤ szMax := by rw [List.length_append, vInts_len]; unfold szMax; simp; omega
      refine ⟨_, a4, b4, hr, by rw [List.length_append, vInts_len]; simp; omega, mk_set (g := [.lst (vInts ss), .frz (vInts ss ++ [Val.int sl])]) rfl ?_ (closed_num hr) rfl⟩
      have cat1 : binV true .add (.loc st.length) (.lst [Val.int sl]) (st.set n (srcC a4 b4) ++ [.lst (vInts ss)]) = newL true (vInts ss ++ [Val.int sl]) (st.set n (srcC a4 b4) ++ [.lst (vInts ss)]) := bV_cat (by simp_arith [gs_0]) rfl
      have h77 : ¬ (7 : Int) < 7 := by decide
      simp_arith [b_law_slots, t_law_slots_law_draw, (e1.first hn).2, rng1 (show cnt ≤ 1000000 by omega), L, (e3.next hn).2, hmm, (e4.next hn).2, h77, cat1, newL_t _ e6, List.length_set, Nat.add_zero, gs_1, ss_1]
    · refine ⟨vInts ss, a4, b4, num, by rw [vInts_len]; omega, mk_set (g := [.frz (vInts ss)]) rfl ?_ (closed_num num) rfl⟩
      by_cases g1 : kd < 7
      · have g2 : ¬ (0 : Int) < (cnt : Int) := fun q => hgo ⟨g1, by omega⟩
        simp_arith [b_law_slots, t_law_slots_law_draw, (e1.first hn).2, rng1 (show cnt ≤ 1000000 by omega), L, (e3.next hn).2, hmm, (e4.next hn).2, g1, g2, h7, gs_0, ss_0]
      · simp_arith [b_law_slots, t_law_slots_law_draw, (e1.first hn).2, rng1 (show cnt ≤ 1000000 by omega), L, (e3.next hn).2, hmm, (e4.next hn).2, g1, h7, gs_0, ss_0]
end
section
theorem eq_told (o : Option (Str × Int)) (st : Store) : cmpV .ne (toldT o) (toldT o) st = .ok false := ne_self (by
  cases o with
  | none => decide +kernel
  | some f =>
    refine sz_lst (k := 63) fun x hx => ?_
    simp only [List.mem_cons, List.not_mem_nil, or_false] at hx
    rcases hx with rfl | rfl | rfl
    · split
      · decide +kernel
      · split <;> decide +kernel
    · exact sz_int _
    · exact sz_bl _) st
theorem which_turn {xs ys : List Val} {g s : Int} {k : Nat} {st : Store} {scr : Val} {σ : Val} {o7 o8 : Option Val} (hx : ∀ x ∈ xs, NumB x) (hy : ∀ y ∈ ys, NumB y) (hl : xs.length ≤ 61) (hl2 : ys.length ≤ 200) (hk : k < 7) :
    ∃ p7 p8, evSs T_law G0 b_law_2 [some scr, some σ, some (.lst xs), some (.lst ys), some (.int g), some (.int s), some (.int k), o7, o8] st = .next [some scr, some σ, some (.lst xs), some (.lst ys), some (.int g), some (.int s), some (.int k), p7, p8] st := by
  have hm : ∀ rs, xs = vInts rs → Rt rs → mostN xs = busyN rs := fun rs e _ => by rw [e, most_ints]
  have hd := e_due (st := st) (g := g) (v := .lst xs) (w := .lst ys) (.inl rfl) (.inl rfl) hx hy (by omega) k hk
  obtain ⟨c0, c1, c2, c3, c4, c5, c6⟩ := e_call (st := st) (g := g) (s := s) (v := .lst xs) (w := .tup ys) (.inl rfl) (.inr rfl) hx hy (by omega) hl2 hm
  have ht : m_law_told [.lst xs, .tup ys, .int g, .int s, .int k] st = .ok (toldT (dueN xs ys g (mostN xs) k), st) := by
    match k, hk with
    | 0, _ => exact e_told (fun h => by cases h) c0 (known_due 0)
    | 1, _ => exact e_told (fun h => by cases h) c1 (known_due 1)
    | 2, _ => exact e_told (fun _ => rfl) c2 (known_due 2)
    | 3, _ => exact e_told (fun h => by cases h) c3 (known_due 3)
    | 4, _ => exact e_told (fun h => by cases h) c4 (known_due 4)
    | 5, _ => exact e_told (fun h => by cases h) c5 (known_due 5)
    | 6, _ => exact e_told (fun h => by cases h) c6 (known_due 6)
  have ex : xs.length ≤ szMax := by unfold szMax; omega
  have ey : ys.length ≤ szMax := by unfold szMax; omega
  generalize dueN xs ys g (mostN xs) k = o at hd ht
  have hne := eq_told o st
  cases o with
  | some f =>
    obtain ⟨c, i⟩ := f
    have hlen := len_fault (st := st) (some (c, i))
    simp only [Option.isSome_some, if_true] at hlen
    have hcat : binV false .add (faultV (some (c, i))) (.lst [.bl true]) st = .ok (toldT (some (c, i)), st) := rfl
    have h20 : ¬ (2 : Int) = 0 := by decide
    have h02 : (0 : Int) < 2 := by decide
    refine ⟨some (faultV (some (c, i))), some (toldT (some (c, i))), ?_⟩
    simp_arith [b_law_2, t_law_law_due, hd, glist_of (seqOf_lst _) ex, gtup_of (seqOf_lst _) ey, t_law_law_told, ht, hlen, h02, hcat, hne, h20]
  | none =>
    have hlen := len_fault (st := st) none
    simp only [Option.isSome_none, Bool.false_eq_true, if_false] at hlen
    have h00 : ¬ (0 : Int) < 0 := by decide
    have hne : cmpV .ne (toldT none) (.lst []) st = .ok false := hne
    refine ⟨some (faultV none), some (toldT none), ?_⟩
    simp_arith [b_law_2, t_law_law_due, hd, glist_of (seqOf_lst _) ex, gtup_of (seqOf_lst _) ey, t_law_law_told, ht, hlen, h00, hne]
theorem c_law (ns : List Int) (hns : ∀ z ∈ ns, bd bits z) : ∃ st', m_law [.scr (vInts ns)] [] = .ok (.bl true, st') := by
  obtain ⟨a, b, ok, e0⟩ := c_source ns hns (k := 0) (by decide) (by decide)
  obtain ⟨a', b', ok', e0'⟩ := c_source ns hns (k := 1) (by decide) (by decide)
  obtain ⟨xs, a1, b1, ok1, hx, hl, e1⟩ := c_law_route ok'
  obtain ⟨a'', b'', ok'', e0''⟩ := c_source ns hns (k := 2) (by decide) (by decide)
  have er : m_law_route [.loc 1] [srcC a b, srcC a' b'] = .ok (.lst xs, [srcC a b, srcC a1 b1]) := e1 [srcC a b, srcC a' b'] 1 rfl
  obtain ⟨ys, a2, b2, hy, hl2, es⟩ := c_law_slots (st := [srcC a b, srcC a1 b1, srcC a'' b'']) (n := 2) ok'' rfl hl
  have es : m_law_slots [.loc 2, .int xs.length] [srcC a b, srcC a1 b1, srcC a'' b''] = .ok (.lst ys, [srcC a b, srcC a1 b1, srcC a2 b2]) := es
  obtain ⟨g0, a3, b3, ok3, g00, g01, e3⟩ := d_draw ok (lim := 9) (by decide) (by decide)
  have e3 : m_law_draw [.loc 0, .int 9] [srcC a b, srcC a1 b1, srcC a2 b2] = .ok (.int g0, [srcC a3 b3, srcC a1 b1, srcC a2 b2]) := e3 _ 0 rfl
  obtain ⟨t, a4, b4, ok4, t0, t1, e4⟩ := d_draw ok3 (lim := 4) (by decide) (by decide)
  have e4 : m_law_draw [.loc 0, .int 4] [srcC a3 b3, srcC a1 b1, srcC a2 b2] = .ok (.int t, [srcC a4 b4, srcC a1 b1, srcC a2 b2]) := e4 _ 0 rfl
  have i0 : m_law_source [.scr (vInts ns), .int 0] [] = .ok (.loc 0, [srcC a b]) := e0 []
  have i1 : m_law_source [.scr (vInts ns), .int 1] [srcC a b] = .ok (.loc 1, [srcC a b, srcC a' b']) := e0' [srcC a b]
  have i2 : m_law_source [.scr (vInts ns), .int 2] [srcC a b, srcC a1 b1] = .ok (.loc 2, [srcC a b, srcC a1 b1, srcC a'' b'']) := e0'' [srcC a b, srcC a1 b1]
  have main : ∀ (g : Int) (a b : Int), SrcOk a b → ∃ st', evSs T_law G0 (.cons (.asg 5 (.call "_law_draw" (.cons (.var 1) (.cons (.int 60) .nil)))) (.cons (.forr 6 (.rng (.cons (.int 7) .nil)) b_law_2) (.cons (.ret (.call "_law_work_right" (.cons (.call "_law_house" (.cons (.var 0) (.cons (.int 4) (.cons (.int 4) (.cons (.int 5) (.cons (.int 1) (.cons (.int 1) .nil))))))) (.cons (.var 1) .nil)))) .nil))) [some (.scr (vInts ns)), some (.loc 0), some (.lst xs), some (.lst ys), some (.int g), none, none, none, none] [srcC a b, srcC a1 b1, srcC a2 b2] = .ret (.bl true) st' := fun g a b ok => by
    obtain ⟨s, a5, b5, ok5, s0, s1, e5⟩ := d_draw ok (lim := 60) (by decide) (by decide)
    have e5 : m_law_draw [.loc 0, .int 60] [srcC a b, srcC a1 b1, srcC a2 b2] = .ok (.int s, [srcC a5 b5, srcC a1 b1, srcC a2 b2]) := e5 _ 0 rfl
    obtain ⟨e', s', L, k, hk, hxx, o6, o7, o8, rfl, rfl⟩ := forL_inv (i := 6) (body := evSs T_law G0 b_law_2) (fun zs env st => ∃ k, k ≤ 7 ∧ zs = ((List.range 7).map fun (k : Nat) => Val.int k).drop k ∧ ∃ o6 o7 o8, st = [srcC a5 b5, srcC a1 b1, srcC a2 b2] ∧ env = [some (.scr (vInts ns)), some (.loc 0), some (.lst xs), some (.lst ys), some (.int g), some (.int s), o6, o7, o8]) (fun x zs env st ⟨k, hk, hxx, o6, o7, o8, hs, he⟩ => by
      obtain ⟨d1, d2⟩ := drop_cons hxx.symm
      obtain ⟨d3, _⟩ := List.getElem?_eq_some_iff.mp d1
      have hk' : k < 7 := by simpa using d3
      have hx1 : x = .int k := by
        rw [List.getElem?_map, List.getElem?_range hk'] at d1
        cases d1; rfl
      subst hx1 hs he
      obtain ⟨p7, p8, hp⟩ := which_turn (g := g) (s := s) (scr := .scr (vInts ns)) (σ := .loc 0) (o7 := o7) (o8 := o8) (st := [srcC a5 b5, srcC a1 b1, srcC a2 b2]) hx hy hl hl2 hk'
      exact ⟨_, _, hp, k + 1, hk', d2, some (.int k), p7, p8, rfl, rfl⟩) ((List.range 7).map fun (k : Nat) => Val.int k) [some (.scr (vInts ns)), some (.loc 0), some (.lst xs), some (.lst ys), some (.int g), some (.int s), none, none, none] [srcC a5 b5, srcC a1 b1, srcC a2 b2] ⟨0, Nat.zero_le _, rfl, none, none, none, rfl, rfl⟩
    obtain ⟨h, H, eh⟩ := c_law_house hns (start := 4) (mr := 4) (md := 5) (ms := 1) (mc := 1) (by decide) (by decide) (by decide) (by decide) (by decide) (by decide) [srcC a5 b5, srcC a1 b1, srcC a2 b2]
    have eh : m_law_house [.scr (vInts ns), .int 4, .int 4, .int 5, .int 1, .int 1] [srcC a5 b5, srcC a1 b1, srcC a2 b2] = .ok (vHs h, [srcC a5 b5, srcC a1 b1, srcC a2 b2]) := eh
    have hcl : clN h.rooms ≤ 30 := by
      have h1 := clN_le H.room
      have h2 := H.rooms.2
      have : (h.rooms.length : Int) * ((1 : Nat) : Int) = h.rooms.length := by simp
      omega
    obtain ⟨st', ew⟩ := c_law_work_right (st := [srcC a5 b5, srcC a1 b1, srcC a2 b2]) (n := 0) ok5 rfl H (by decide) (by decide) (by decide) (by decide) hcl
    have r7 : rngV [.int 7] = .ok ((List.range 7).map fun (k : Nat) => Val.int k) := rng1 (n := 7) (by decide)
    refine ⟨st', ?_⟩
    simp_arith [t_law_law_draw, e5, r7, L, t_law_law_house, eh, t_law_law_work_right, ew]
  have fin : ∃ st', runB T_law G0 9 b_law [.scr (vInts ns)] [] = .ok (.bl true, st') := by
    by_cases ht : t = 0
    · subst ht
      obtain ⟨u, a5, b5, ok5, u0, u1, e5⟩ := d_draw ok4 (lim := 6) (by decide) (by decide)
      have e5 : m_law_draw [.loc 0, .int 6] [srcC a4 b4, srcC a1 b1, srcC a2 b2] = .ok (.int u, [srcC a5 b5, srcC a1 b1, srcC a2 b2]) := e5 _ 0 rfl
      obtain ⟨g, hg, hge⟩ := pick8 (ns := [0, -1, 10000, 10001, 1000000000000000, -1000000000000000]) (d := u) (by simpa using u1) u0
      have hge : atI [Val.int 0, .int (-1), .int 10000, .int 10001, .int 1000000000000000, .int (-1000000000000000)] u = some (.int g) := hge
      obtain ⟨st', em⟩ := main g a5 b5 ok5
      refine ⟨st', ?_⟩
      simp_arith [t_law_law_draw] at em
      simp_arith [b_law, b_law_c4, t_law_law_source, i0, i1, t_law_law_route, er, i2, t_law_law_slots, es, t_law_law_draw, e3, e4, b_law_1, e5, hge, em]
    · obtain ⟨st', em⟩ := main (1 + g0) a4 b4 ok4
      refine ⟨st', ?_⟩
      simp_arith [t_law_law_draw] at em
      simp_arith [b_law, b_law_c4, t_law_law_source, i0, i1, t_law_law_route, er, i2, t_law_law_slots, es, t_law_law_draw, e3, e4, ht, em]
  obtain ⟨st', hf⟩ := fin
  refine ⟨_, mk_pure (g := st') rfl (by rw [hf]; rfl) rfl⟩
theorem law_true : ∀ ns : List Int, ns.length ≤ 63 → (∀ z ∈ ns, Builtin.Int.intBits z ≤ 1048576) → ∃ st', m_law [.scr (ns.map .int)] [] = .ok (.bl true, st') := fun ns _ h => c_law ns fun z hz => bd_bits (h z hz)
end
def top (i : Nat) : Stmt := PySem.Challenge.pw_lastdoor_k67_refusals_of_routes.main.body.getD i (.Pass ⟨0, 0, 0, 0⟩)
def bs : List Str := ["abs", "bool", "int", "isinstance", "len", "list", "max", "range", "set", "sorted", "sum", "tuple"]
def xn : List (Str × List Str) := [("TooMany", ["limit"]), ("NoDoor", ["door"]), ("BadRoute", ["step"]), ("TooTight", ["gap"]), ("BadHouse", ["part", "number"])]
def sub : List (Str × List Str) := [("BadRoute", ["BadRoute"]), ("NoDoor", ["NoDoor"]), ("RiddleError", ["TooMany", "NoDoor", "BadRoute", "TooTight", "BadHouse"]), ("TooMany", ["TooMany"]), ("TooTight", ["TooTight"])]
def xinit (i j : Nat) : Stmt := match top i with | .ClassDef _ _ _ b _ _ _ _ _ _ _ => b.getD j (.Pass ⟨0, 0, 0, 0⟩) | s => s
def cs : List (Str × List Str) := [("House", ["prime", "size", "rooms", "doors", "last"])]
noncomputable def d_law_source : Def := { x := "_law_source", st := top 48, ps := ["script", "k"], N := ["script", "k", "cell"], lv := 0, fs := [], body := b_law_source, Φ := T_law_source, G := G0, hfs := [], hot := false }
noncomputable def d_law_draw : Def := { x := "_law_draw", st := top 49, ps := ["source", "limit"], N := ["source", "limit", "value"], lv := 0, fs := [], body := b_law_draw, Φ := T_law_draw, G := G0, hfs := [], hot := false }
noncomputable def d_law_route : Def := { x := "_law_route", st := top 59, ps := ["source"], N := ["source", "count", "rooms", "place", "k"], lv := 1, fs := ["_law_draw"], body := b_law_route, Φ := T_law_route, G := G0, hfs := [], hot := false }
noncomputable def d_law_slots : Def := { x := "_law_slots", st := top 60, ps := ["source", "count"], N := ["source", "count", "slots", "slot", "step", "kind", "place", "wrong"], lv := 1, fs := ["_law_draw"], body := b_law_slots, Φ := T_law_slots, G := G0, hfs := [], hot := false }
noncomputable def d_law_is_integer : Def := { x := "_law_is_integer", st := top 50, ps := ["actual"], N := ["actual"], lv := 0, fs := [], body := b_law_is_integer, Φ := T_law_is_integer, G := G0, hfs := [], hot := false }
noncomputable def d_law_rooms_fault : Def := { x := "_law_rooms_fault", st := top 61, ps := ["rooms"], N := ["rooms", "step"], lv := 1, fs := ["_law_is_integer"], body := b_law_rooms_fault, Φ := T_law_rooms_fault, G := G0, hfs := [], hot := false }
noncomputable def d_law_gap_fault : Def := { x := "_law_gap_fault", st := top 63, ps := ["gap", "least"], N := ["gap", "least"], lv := 0, fs := [], body := b_law_gap_fault, Φ := T_law_gap_fault, G := G0, hfs := [], hot := false }
noncomputable def d_law_slots_fault : Def := { x := "_law_slots_fault", st := top 62, ps := ["rooms", "slots"], N := ["rooms", "slots", "last", "step"], lv := 1, fs := ["_law_is_integer"], body := b_law_slots_fault, Φ := T_law_slots_fault, G := G0, hfs := [], hot := false }
noncomputable def d_law_first : Def := { x := "_law_first", st := top 64, ps := ["faults"], N := ["faults", "fault"], lv := 0, fs := [], body := b_law_first, Φ := T_law_first, G := G0, hfs := [], hot := false }
noncomputable def d_law_due : Def := { x := "_law_due", st := top 67, ps := ["rooms", "slots", "gap", "which"], N := ["rooms", "slots", "gap", "which", "first", "most", "other", "room"], lv := 2, fs := ["_law_rooms_fault", "_law_gap_fault", "_law_slots_fault", "_law_first"], body := b_law_due, Φ := T_law_due, G := G0, hfs := [], hot := false }
noncomputable def d_is_whole : Def := { x := "is_whole", st := top 9, ps := ["value"], N := ["value"], lv := 0, fs := [], body := b_is_whole, Φ := T_is_whole, G := G0, hfs := [], hot := false }
noncomputable def d_is_between : Def := { x := "is_between", st := top 11, ps := ["value", "low", "high"], N := ["value", "low", "high"], lv := 1, fs := ["is_whole"], body := b_is_between, Φ := T_is_between, G := G0, hfs := [], hot := false }
noncomputable def d_check_route : Def := { x := "check_route", st := top 33, ps := ["rooms"], N := ["rooms", "step"], lv := 2, fs := ["is_between"], body := b_check_route, Φ := T_check_route, G := G_check_route, hfs := [], hot := false }
noncomputable def d_busiest : Def := { x := "busiest", st := top 37, ps := ["rooms"], N := ["rooms", "room", "step"], lv := 3, fs := ["check_route"], body := b_busiest, Φ := T_busiest, G := G0, hfs := [], hot := false }
noncomputable def d_is_taken : Def := { x := "is_taken", st := top 43, ps := ["rooms", "slots", "gap", "slot"], N := ["rooms", "slots", "gap", "slot", "step"], lv := 0, fs := [], body := b_is_taken, Φ := T_is_taken, G := G0, hfs := [], hot := false }
noncomputable def d_stretched : Def := { x := "stretched", st := top 44, ps := ["rooms", "gap"], N := ["rooms", "gap", "slots", "slot", "_"], lv := 4, fs := ["busiest", "is_taken"], body := b_stretched, Φ := T_stretched, G := G_stretched, hfs := [], hot := false }
noncomputable def d_check_gap : Def := { x := "check_gap", st := top 36, ps := ["gap"], N := ["gap"], lv := 0, fs := [], body := b_check_gap, Φ := T_check_gap, G := G_check_gap, hfs := [], hot := false }
noncomputable def d_is_row : Def := { x := "is_row", st := top 10, ps := ["value"], N := ["value"], lv := 0, fs := [], body := b_is_row, Φ := T_is_row, G := G0, hfs := [], hot := false }
noncomputable def d_wrong_slot : Def := { x := "wrong_slot", st := top 34, ps := ["rooms", "slots"], N := ["rooms", "slots", "last", "step"], lv := 2, fs := ["is_between"], body := b_wrong_slot, Φ := T_wrong_slot, G := G_wrong_slot, hfs := [], hot := false }
noncomputable def d_meeting : Def := { x := "meeting", st := top 38, ps := ["rooms", "slots", "gap"], N := ["rooms", "slots", "gap", "later", "step"], lv := 0, fs := [], body := b_meeting, Φ := T_meeting, G := G0, hfs := [], hot := false }
noncomputable def d_are_slots : Def := { x := "are_slots", st := top 45, ps := ["rooms", "gap", "slots"], N := ["rooms", "gap", "slots"], lv := 3, fs := ["check_route", "check_gap", "is_row", "wrong_slot", "meeting"], body := b_are_slots, Φ := T_are_slots, G := G0, hfs := [], hot := false }
noncomputable def d_check_slots : Def := { x := "check_slots", st := top 35, ps := ["rooms", "slots"], N := ["rooms", "slots", "wrong"], lv := 3, fs := ["check_route", "wrong_slot"], body := b_check_slots, Φ := T_check_slots, G := G0, hfs := [], hot := false }
noncomputable def d_least_gap : Def := { x := "least_gap", st := top 41, ps := ["rooms", "slots"], N := ["rooms", "slots", "gap"], lv := 4, fs := ["check_slots", "meeting"], body := b_least_gap, Φ := T_least_gap, G := G0, hfs := [], hot := false }
noncomputable def d_first_meeting : Def := { x := "first_meeting", st := top 39, ps := ["rooms", "slots", "gap"], N := ["rooms", "slots", "gap"], lv := 4, fs := ["check_slots", "check_gap", "meeting"], body := b_first_meeting, Φ := T_first_meeting, G := G0, hfs := [], hot := false }
noncomputable def d_is_clear : Def := { x := "is_clear", st := top 40, ps := ["rooms", "slots", "gap"], N := ["rooms", "slots", "gap"], lv := 5, fs := ["first_meeting"], body := b_is_clear, Φ := T_is_clear, G := G0, hfs := [], hot := false }
noncomputable def d_teams_at : Def := { x := "teams_at", st := top 42, ps := ["rooms", "slots", "gap", "slot"], N := ["rooms", "slots", "gap", "slot", "pairs", "step", "since"], lv := 4, fs := ["check_slots", "check_gap"], body := b_teams_at, Φ := T_teams_at, G := G0, hfs := [], hot := false }
noncomputable def d_law_call : Def := { x := "_law_call", st := top 65, ps := ["rooms", "slots", "gap", "slot", "which"], N := ["rooms", "slots", "gap", "slot", "which"], lv := 6, fs := ["busiest", "stretched", "are_slots", "least_gap", "first_meeting", "is_clear", "teams_at"], body := b_law_call, Φ := T_law_call, G := G0, hfs := [], hot := false }
noncomputable def d_law_told : Def := { x := "_law_told", st := top 66, ps := ["rooms", "slots", "gap", "slot", "which"], N := ["rooms", "slots", "gap", "slot", "which", "answer", "e"], lv := 7, fs := ["_law_call"], body := b_law_told, Φ := T_law_told, G := G0, hfs := [], hot := false }
noncomputable def d_is_rising : Def := { x := "is_rising", st := top 13, ps := ["value"], N := ["value", "last", "number"], lv := 1, fs := ["is_row", "is_whole"], body := b_is_rising, Φ := T_is_rising, G := G0, hfs := [], hot := false }
noncomputable def d_good_tools : Def := { x := "good_tools", st := top 19, ps := ["value"], N := ["value", "tool"], lv := 2, fs := ["is_rising"], body := b_good_tools, Φ := T_good_tools, G := G0, hfs := [], hot := false }
noncomputable def d_are_numbers : Def := { x := "are_numbers", st := top 12, ps := ["value", "count", "low", "high"], N := ["value", "count", "low", "high", "number"], lv := 2, fs := ["is_row", "is_between"], body := b_are_numbers, Φ := T_are_numbers, G := G0, hfs := [], hot := false }
noncomputable def d_good_room : Def := { x := "good_room", st := top 20, ps := ["value", "prime", "size"], N := ["value", "prime", "size", "keys", "tools", "clues", "clue"], lv := 3, fs := ["is_row", "is_between", "good_tools", "are_numbers"], body := b_good_room, Φ := T_good_room, G := G0, hfs := [], hot := false }
noncomputable def d_check_rooms : Def := { x := "check_rooms", st := top 22, ps := ["rooms", "prime", "size"], N := ["rooms", "prime", "size", "room"], lv := 4, fs := ["good_room"], body := b_check_rooms, Φ := T_check_rooms, G := G_check_rooms, hfs := [], hot := false }
noncomputable def d_good_door : Def := { x := "good_door", st := top 21, ps := ["value", "prime", "size", "count"], N := ["value", "prime", "size", "count", "front", "back", "minutes", "price", "tools", "code"], lv := 3, fs := ["is_row", "is_between", "good_tools", "are_numbers"], body := b_good_door, Φ := T_good_door, G := G0, hfs := [], hot := false }
noncomputable def d_check_doors : Def := { x := "check_doors", st := top 23, ps := ["doors", "prime", "size", "count"], N := ["doors", "prime", "size", "count", "door"], lv := 4, fs := ["good_door"], body := b_check_doors, Φ := T_check_doors, G := G0, hfs := [], hot := false }
noncomputable def d_copied_room : Def := { x := "copied_room", st := top 24, ps := ["room"], N := ["room", "clue"], lv := 0, fs := [], body := b_copied_room, Φ := T_copied_room, G := G0, hfs := [], hot := false }
noncomputable def d_copied_door : Def := { x := "copied_door", st := top 25, ps := ["door"], N := ["door", "code"], lv := 0, fs := [], body := b_copied_door, Φ := T_copied_door, G := G0, hfs := [], hot := false }
noncomputable def d_House_init : Def := { x := "House.__init__", st := xinit 26 0, ps := ["self", "prime", "size", "rooms", "doors", "last"], N := ["self", "prime", "size", "rooms", "doors", "last", "room", "door"], lv := 5, fs := ["is_between", "check_rooms", "check_doors", "copied_room", "copied_door"], body := b_House_init, Φ := T_House_init, G := G_House_init, hfs := [], hot := false, nm := "__init__", cl := some "House", cs := cs, nw := [], ms := [] }
noncomputable def d_law_made : Def := { x := "_law_made", st := top 58, ps := ["house"], N := ["house"], lv := 7, fs := [], body := b_law_made, Φ := T_law_made, G := G0, hfs := [], hot := false, cs := cs, nw := ["House"], ms := [] }
noncomputable def d_door_of : Def := { x := "door_of", st := top 27, ps := ["house", "door"], N := ["house", "door"], lv := 2, fs := ["is_between"], body := b_door_of, Φ := T_door_of, G := G0, hfs := [], hot := false, cs := cs, nw := [], ms := [] }
noncomputable def d_work_rooms : Def := { x := "work_rooms", st := top 46, ps := ["house", "doors"], N := ["house", "doors", "door"], lv := 3, fs := ["door_of"], body := b_work_rooms, Φ := T_work_rooms, G := G0, hfs := [], hot := false }
noncomputable def d_law_work : Def := { x := "_law_work", st := top 68, ps := ["made", "doors"], N := ["made", "doors", "e"], lv := 4, fs := ["work_rooms"], body := b_law_work, Φ := T_law_work, G := G0, hfs := [], hot := false }
noncomputable def d_law_work_right : Def := { x := "_law_work_right", st := top 69, ps := ["house", "source"], N := ["house", "source", "made", "count", "doors", "k", "wrong", "told", "door"], lv := 8, fs := ["_law_made", "_law_draw", "_law_work"], body := b_law_work_right, Φ := T_law_work_right, G := G0, hfs := [], hot := false }
noncomputable def d_law_tools : Def := { x := "_law_tools", st := top 52, ps := ["source", "pool"], N := ["source", "pool", "k"], lv := 1, fs := ["_law_draw"], body := b_law_tools, Φ := T_law_tools, G := G0, hfs := [], hot := false }
noncomputable def d_law_form : Def := { x := "_law_form", st := top 51, ps := ["source", "prime", "size"], N := ["source", "prime", "size", "row", "kind", "place", "k"], lv := 1, fs := ["_law_draw"], body := b_law_form, Φ := T_law_form, G := G0, hfs := [], hot := false }
noncomputable def d_law_room : Def := { x := "_law_room", st := top 53, ps := ["source", "prime", "size", "pool", "most"], N := ["source", "prime", "size", "pool", "most", "keys", "tools", "clues", "k"], lv := 2, fs := ["_law_draw", "_law_tools", "_law_form"], body := b_law_room, Φ := T_law_room, G := G0, hfs := [], hot := false }
noncomputable def d_law_needs : Def := { x := "_law_needs", st := top 55, ps := ["source", "pool", "rooms"], N := ["source", "pool", "rooms", "kind"], lv := 2, fs := ["_law_draw", "_law_tools"], body := b_law_needs, Φ := T_law_needs, G := G0, hfs := [], hot := false }
noncomputable def d_law_code : Def := { x := "_law_code", st := top 54, ps := ["source", "prime", "size", "rooms"], N := ["source", "prime", "size", "rooms", "kind", "total", "turn", "clues", "factor", "clue", "k"], lv := 2, fs := ["_law_draw", "_law_form"], body := b_law_code, Φ := T_law_code, G := G0, hfs := [], hot := false }
noncomputable def d_law_door : Def := { x := "_law_door", st := top 56, ps := ["source", "prime", "size", "pool", "rooms", "at"], N := ["source", "prime", "size", "pool", "rooms", "at", "count", "front", "back", "minutes", "price", "tools"], lv := 3, fs := ["_law_draw", "_law_needs", "_law_code"], body := b_law_door, Φ := T_law_door, G := G0, hfs := [], hot := false }
noncomputable def d_law_house : Def := { x := "_law_house", st := top 57, ps := ["script", "start", "most_rooms", "most_doors", "most_size", "most_clues"], N := ["script", "start", "most_rooms", "most_doors", "most_size", "most_clues", "source", "prime", "size", "pool", "rooms", "at", "doors", "other"], lv := 4, fs := ["_law_source", "_law_draw", "_law_room", "_law_door"], body := b_law_house, Φ := T_law_house, G := G0, hfs := [], hot := false }
noncomputable def d_law : Def := { x := "law", st := top 70, ps := ["script"], N := ["script", "source", "rooms", "slots", "gap", "slot", "which", "due", "told"], lv := 9, fs := ["_law_source", "_law_route", "_law_slots", "_law_draw", "_law_due", "_law_told", "_law_work_right", "_law_house"], body := b_law, Φ := T_law, G := G0, hfs := [], hot := false }
noncomputable def tab : List Def := [d_law_source, d_law_draw, d_law_route, d_law_slots, d_law_is_integer, d_law_rooms_fault, d_law_gap_fault, d_law_slots_fault, d_law_first, d_law_due, d_is_whole, d_is_between, d_check_route, d_busiest, d_is_taken, d_stretched, d_check_gap, d_is_row, d_wrong_slot, d_meeting, d_are_slots, d_check_slots, d_least_gap, d_first_meeting, d_is_clear, d_teams_at, d_law_call, d_law_told, d_is_rising, d_good_tools, d_are_numbers, d_good_room, d_check_rooms, d_good_door, d_check_doors, d_copied_room, d_copied_door, d_House_init, d_law_made, d_door_of, d_work_rooms, d_law_work, d_law_work_right, d_law_tools, d_law_form, d_law_room, d_law_needs, d_law_code, d_law_door, d_law_house, d_law]
theorem in_law_source : d_law_source ∈ tab := by simp only [tab, List.mem_cons, true_or, or_true]
theorem in_law_draw : d_law_draw ∈ tab := by simp only [tab, List.mem_cons, true_or, or_true]
theorem in_law_route : d_law_route ∈ tab := by simp only [tab, List.mem_cons, true_or, or_true]
theorem in_law_slots : d_law_slots ∈ tab := by simp only [tab, List.mem_cons, true_or, or_true]
theorem in_law_is_integer : d_law_is_integer ∈ tab := by simp only [tab, List.mem_cons, true_or, or_true]
theorem in_law_rooms_fault : d_law_rooms_fault ∈ tab := by simp only [tab, List.mem_cons, true_or, or_true]
theorem in_law_gap_fault : d_law_gap_fault ∈ tab := by simp only [tab, List.mem_cons, true_or, or_true]
theorem in_law_slots_fault : d_law_slots_fault ∈ tab := by simp only [tab, List.mem_cons, true_or, or_true]
theorem in_law_first : d_law_first ∈ tab := by simp only [tab, List.mem_cons, true_or, or_true]
theorem in_law_due : d_law_due ∈ tab := by simp only [tab, List.mem_cons, true_or, or_true]
theorem in_is_whole : d_is_whole ∈ tab := by simp only [tab, List.mem_cons, true_or, or_true]
theorem in_is_between : d_is_between ∈ tab := by simp only [tab, List.mem_cons, true_or, or_true]
theorem in_check_route : d_check_route ∈ tab := by simp only [tab, List.mem_cons, true_or, or_true]
theorem in_busiest : d_busiest ∈ tab := by simp only [tab, List.mem_cons, true_or, or_true]
theorem in_is_taken : d_is_taken ∈ tab := by simp only [tab, List.mem_cons, true_or, or_true]
theorem in_stretched : d_stretched ∈ tab := by simp only [tab, List.mem_cons, true_or, or_true]
theorem in_check_gap : d_check_gap ∈ tab := by simp only [tab, List.mem_cons, true_or, or_true]
theorem in_is_row : d_is_row ∈ tab := by simp only [tab, List.mem_cons, true_or, or_true]
theorem in_wrong_slot : d_wrong_slot ∈ tab := by simp only [tab, List.mem_cons, true_or, or_true]
theorem in_meeting : d_meeting ∈ tab := by simp only [tab, List.mem_cons, true_or, or_true]
theorem in_are_slots : d_are_slots ∈ tab := by simp only [tab, List.mem_cons, true_or, or_true]
theorem in_check_slots : d_check_slots ∈ tab := by simp only [tab, List.mem_cons, true_or, or_true]
theorem in_least_gap : d_least_gap ∈ tab := by simp only [tab, List.mem_cons, true_or, or_true]
theorem in_first_meeting : d_first_meeting ∈ tab := by simp only [tab, List.mem_cons, true_or, or_true]
theorem in_is_clear : d_is_clear ∈ tab := by simp only [tab, List.mem_cons, true_or, or_true]
theorem in_teams_at : d_teams_at ∈ tab := by simp only [tab, List.mem_cons, true_or, or_true]
theorem in_law_call : d_law_call ∈ tab := by simp only [tab, List.mem_cons, true_or, or_true]
theorem in_law_told : d_law_told ∈ tab := by simp only [tab, List.mem_cons, true_or, or_true]
theorem in_is_rising : d_is_rising ∈ tab := by simp only [tab, List.mem_cons, true_or, or_true]
theorem in_good_tools : d_good_tools ∈ tab := by simp only [tab, List.mem_cons, true_or, or_true]
theorem in_are_numbers : d_are_numbers ∈ tab := by simp only [tab, List.mem_cons, true_or, or_true]
theorem in_good_room : d_good_room ∈ tab := by simp only [tab, List.mem_cons, true_or, or_true]
theorem in_check_rooms : d_check_rooms ∈ tab := by simp only [tab, List.mem_cons, true_or, or_true]
theorem in_good_door : d_good_door ∈ tab := by simp only [tab, List.mem_cons, true_or, or_true]
theorem in_check_doors : d_check_doors ∈ tab := by simp only [tab, List.mem_cons, true_or, or_true]
theorem in_copied_room : d_copied_room ∈ tab := by simp only [tab, List.mem_cons, true_or, or_true]
theorem in_copied_door : d_copied_door ∈ tab := by simp only [tab, List.mem_cons, true_or, or_true]
theorem in_House_init : d_House_init ∈ tab := by simp only [tab, List.mem_cons, true_or, or_true]
theorem in_law_made : d_law_made ∈ tab := by simp only [tab, List.mem_cons, true_or, or_true]
theorem in_door_of : d_door_of ∈ tab := by simp only [tab, List.mem_cons, true_or, or_true]
theorem in_work_rooms : d_work_rooms ∈ tab := by simp only [tab, List.mem_cons, true_or, or_true]
theorem in_law_work : d_law_work ∈ tab := by simp only [tab, List.mem_cons, true_or, or_true]
theorem in_law_work_right : d_law_work_right ∈ tab := by simp only [tab, List.mem_cons, true_or, or_true]
theorem in_law_tools : d_law_tools ∈ tab := by simp only [tab, List.mem_cons, true_or, or_true]
theorem in_law_form : d_law_form ∈ tab := by simp only [tab, List.mem_cons, true_or, or_true]
theorem in_law_room : d_law_room ∈ tab := by simp only [tab, List.mem_cons, true_or, or_true]
theorem in_law_needs : d_law_needs ∈ tab := by simp only [tab, List.mem_cons, true_or, or_true]
theorem in_law_code : d_law_code ∈ tab := by simp only [tab, List.mem_cons, true_or, or_true]
theorem in_law_door : d_law_door ∈ tab := by simp only [tab, List.mem_cons, true_or, or_true]
theorem in_law_house : d_law_house ∈ tab := by simp only [tab, List.mem_cons, true_or, or_true]
theorem in_law : d_law ∈ tab := by simp only [tab, List.mem_cons, true_or, or_true]
theorem chk_all : ∀ d ∈ tab, defB bs xn sub d = true := by decide +kernel
theorem call_all : ∀ d ∈ tab, ∀ f ∈ d.fs, ∃ d', d' ∈ tab ∧ d'.x = f ∧ d'.lv < d.lv ∧ d.Φ f = some d'.m ∧ (d.hot = true → d'.hot = true) ∧ d'.cl = none := by
  intro d hd
  simp only [tab, List.mem_cons, List.not_mem_nil, or_false] at hd
  rcases hd with rfl | rfl | rfl | rfl | rfl | rfl | rfl | rfl | rfl | rfl | rfl | rfl | rfl | rfl | rfl | rfl | rfl | rfl | rfl | rfl | rfl | rfl | rfl | rfl | rfl | rfl | rfl | rfl | rfl | rfl | rfl | rfl | rfl | rfl | rfl | rfl | rfl | rfl | rfl | rfl | rfl | rfl | rfl | rfl | rfl | rfl | rfl | rfl | rfl | rfl | rfl
  · intro f hf
    simp only [d_law_source, List.mem_cons, List.not_mem_nil, or_false] at hf
  · intro f hf
    simp only [d_law_draw, List.mem_cons, List.not_mem_nil, or_false] at hf
  · intro f hf
    simp only [d_law_route, List.mem_cons, List.not_mem_nil, or_false] at hf
    rcases hf with rfl
    · exact ⟨d_law_draw, in_law_draw, rfl, by decide, t_law_route_law_draw, by decide, rfl⟩
  · intro f hf
    simp only [d_law_slots, List.mem_cons, List.not_mem_nil, or_false] at hf
    rcases hf with rfl
    · exact ⟨d_law_draw, in_law_draw, rfl, by decide, t_law_slots_law_draw, by decide, rfl⟩
  · intro f hf
    simp only [d_law_is_integer, List.mem_cons, List.not_mem_nil, or_false] at hf
  · intro f hf
    simp only [d_law_rooms_fault, List.mem_cons, List.not_mem_nil, or_false] at hf
    rcases hf with rfl
    · exact ⟨d_law_is_integer, in_law_is_integer, rfl, by decide, t_law_rooms_fault_law_is_integer, by decide, rfl⟩
  · intro f hf
    simp only [d_law_gap_fault, List.mem_cons, List.not_mem_nil, or_false] at hf
  · intro f hf
    simp only [d_law_slots_fault, List.mem_cons, List.not_mem_nil, or_false] at hf
    rcases hf with rfl
    · exact ⟨d_law_is_integer, in_law_is_integer, rfl, by decide, t_law_slots_fault_law_is_integer, by decide, rfl⟩
  · intro f hf
    simp only [d_law_first, List.mem_cons, List.not_mem_nil, or_false] at hf
  · intro f hf
    simp only [d_law_due, List.mem_cons, List.not_mem_nil, or_false] at hf
    rcases hf with rfl | rfl | rfl | rfl
    · exact ⟨d_law_rooms_fault, in_law_rooms_fault, rfl, by decide, t_law_due_law_rooms_fault, by decide, rfl⟩
    · exact ⟨d_law_gap_fault, in_law_gap_fault, rfl, by decide, t_law_due_law_gap_fault, by decide, rfl⟩
    · exact ⟨d_law_slots_fault, in_law_slots_fault, rfl, by decide, t_law_due_law_slots_fault, by decide, rfl⟩
    · exact ⟨d_law_first, in_law_first, rfl, by decide, t_law_due_law_first, by decide, rfl⟩
  · intro f hf
    simp only [d_is_whole, List.mem_cons, List.not_mem_nil, or_false] at hf
  · intro f hf
    simp only [d_is_between, List.mem_cons, List.not_mem_nil, or_false] at hf
    rcases hf with rfl
    · exact ⟨d_is_whole, in_is_whole, rfl, by decide, t_is_between_is_whole, by decide, rfl⟩
  · intro f hf
    simp only [d_check_route, List.mem_cons, List.not_mem_nil, or_false] at hf
    rcases hf with rfl
    · exact ⟨d_is_between, in_is_between, rfl, by decide, t_check_route_is_between, by decide, rfl⟩
  · intro f hf
    simp only [d_busiest, List.mem_cons, List.not_mem_nil, or_false] at hf
    rcases hf with rfl
    · exact ⟨d_check_route, in_check_route, rfl, by decide, t_busiest_check_route, by decide, rfl⟩
  · intro f hf
    simp only [d_is_taken, List.mem_cons, List.not_mem_nil, or_false] at hf
  · intro f hf
    simp only [d_stretched, List.mem_cons, List.not_mem_nil, or_false] at hf
    rcases hf with rfl | rfl
    · exact ⟨d_busiest, in_busiest, rfl, by decide, t_stretched_busiest, by decide, rfl⟩
    · exact ⟨d_is_taken, in_is_taken, rfl, by decide, t_stretched_is_taken, by decide, rfl⟩
  · intro f hf
    simp only [d_check_gap, List.mem_cons, List.not_mem_nil, or_false] at hf
  · intro f hf
    simp only [d_is_row, List.mem_cons, List.not_mem_nil, or_false] at hf
  · intro f hf
    simp only [d_wrong_slot, List.mem_cons, List.not_mem_nil, or_false] at hf
    rcases hf with rfl
    · exact ⟨d_is_between, in_is_between, rfl, by decide, t_wrong_slot_is_between, by decide, rfl⟩
  · intro f hf
    simp only [d_meeting, List.mem_cons, List.not_mem_nil, or_false] at hf
  · intro f hf
    simp only [d_are_slots, List.mem_cons, List.not_mem_nil, or_false] at hf
    rcases hf with rfl | rfl | rfl | rfl | rfl
    · exact ⟨d_check_route, in_check_route, rfl, by decide, t_are_slots_check_route, by decide, rfl⟩
    · exact ⟨d_check_gap, in_check_gap, rfl, by decide, t_are_slots_check_gap, by decide, rfl⟩
    · exact ⟨d_is_row, in_is_row, rfl, by decide, t_are_slots_is_row, by decide, rfl⟩
    · exact ⟨d_wrong_slot, in_wrong_slot, rfl, by decide, t_are_slots_wrong_slot, by decide, rfl⟩
    · exact ⟨d_meeting, in_meeting, rfl, by decide, t_are_slots_meeting, by decide, rfl⟩
  · intro f hf
    simp only [d_check_slots, List.mem_cons, List.not_mem_nil, or_false] at hf
    rcases hf with rfl | rfl
    · exact ⟨d_check_route, in_check_route, rfl, by decide, t_check_slots_check_route, by decide, rfl⟩
    · exact ⟨d_wrong_slot, in_wrong_slot, rfl, by decide, t_check_slots_wrong_slot, by decide, rfl⟩
  · intro f hf
    simp only [d_least_gap, List.mem_cons, List.not_mem_nil, or_false] at hf
    rcases hf with rfl | rfl
    · exact ⟨d_check_slots, in_check_slots, rfl, by decide, t_least_gap_check_slots, by decide, rfl⟩
    · exact ⟨d_meeting, in_meeting, rfl, by decide, t_least_gap_meeting, by decide, rfl⟩
  · intro f hf
    simp only [d_first_meeting, List.mem_cons, List.not_mem_nil, or_false] at hf
    rcases hf with rfl | rfl | rfl
    · exact ⟨d_check_slots, in_check_slots, rfl, by decide, t_first_meeting_check_slots, by decide, rfl⟩
    · exact ⟨d_check_gap, in_check_gap, rfl, by decide, t_first_meeting_check_gap, by decide, rfl⟩
    · exact ⟨d_meeting, in_meeting, rfl, by decide, t_first_meeting_meeting, by decide, rfl⟩
  · intro f hf
    simp only [d_is_clear, List.mem_cons, List.not_mem_nil, or_false] at hf
    rcases hf with rfl
    · exact ⟨d_first_meeting, in_first_meeting, rfl, by decide, t_is_clear_first_meeting, by decide, rfl⟩
  · intro f hf
    simp only [d_teams_at, List.mem_cons, List.not_mem_nil, or_false] at hf
    rcases hf with rfl | rfl
    · exact ⟨d_check_slots, in_check_slots, rfl, by decide, t_teams_at_check_slots, by decide, rfl⟩
    · exact ⟨d_check_gap, in_check_gap, rfl, by decide, t_teams_at_check_gap, by decide, rfl⟩
  · intro f hf
    simp only [d_law_call, List.mem_cons, List.not_mem_nil, or_false] at hf
    rcases hf with rfl | rfl | rfl | rfl | rfl | rfl | rfl
    · exact ⟨d_busiest, in_busiest, rfl, by decide, t_law_call_busiest, by decide, rfl⟩
    · exact ⟨d_stretched, in_stretched, rfl, by decide, t_law_call_stretched, by decide, rfl⟩
    · exact ⟨d_are_slots, in_are_slots, rfl, by decide, t_law_call_are_slots, by decide, rfl⟩
    · exact ⟨d_least_gap, in_least_gap, rfl, by decide, t_law_call_least_gap, by decide, rfl⟩
    · exact ⟨d_first_meeting, in_first_meeting, rfl, by decide, t_law_call_first_meeting, by decide, rfl⟩
    · exact ⟨d_is_clear, in_is_clear, rfl, by decide, t_law_call_is_clear, by decide, rfl⟩
    · exact ⟨d_teams_at, in_teams_at, rfl, by decide, t_law_call_teams_at, by decide, rfl⟩
  · intro f hf
    simp only [d_law_told, List.mem_cons, List.not_mem_nil, or_false] at hf
    rcases hf with rfl
    · exact ⟨d_law_call, in_law_call, rfl, by decide, t_law_told_law_call, by decide, rfl⟩
  · intro f hf
    simp only [d_is_rising, List.mem_cons, List.not_mem_nil, or_false] at hf
    rcases hf with rfl | rfl
    · exact ⟨d_is_row, in_is_row, rfl, by decide, t_is_rising_is_row, by decide, rfl⟩
    · exact ⟨d_is_whole, in_is_whole, rfl, by decide, t_is_rising_is_whole, by decide, rfl⟩
  · intro f hf
    simp only [d_good_tools, List.mem_cons, List.not_mem_nil, or_false] at hf
    rcases hf with rfl
    · exact ⟨d_is_rising, in_is_rising, rfl, by decide, t_good_tools_is_rising, by decide, rfl⟩
  · intro f hf
    simp only [d_are_numbers, List.mem_cons, List.not_mem_nil, or_false] at hf
    rcases hf with rfl | rfl
    · exact ⟨d_is_row, in_is_row, rfl, by decide, t_are_numbers_is_row, by decide, rfl⟩
    · exact ⟨d_is_between, in_is_between, rfl, by decide, t_are_numbers_is_between, by decide, rfl⟩
  · intro f hf
    simp only [d_good_room, List.mem_cons, List.not_mem_nil, or_false] at hf
    rcases hf with rfl | rfl | rfl | rfl
    · exact ⟨d_is_row, in_is_row, rfl, by decide, t_good_room_is_row, by decide, rfl⟩
    · exact ⟨d_is_between, in_is_between, rfl, by decide, t_good_room_is_between, by decide, rfl⟩
    · exact ⟨d_good_tools, in_good_tools, rfl, by decide, t_good_room_good_tools, by decide, rfl⟩
    · exact ⟨d_are_numbers, in_are_numbers, rfl, by decide, t_good_room_are_numbers, by decide, rfl⟩
  · intro f hf
    simp only [d_check_rooms, List.mem_cons, List.not_mem_nil, or_false] at hf
    rcases hf with rfl
    · exact ⟨d_good_room, in_good_room, rfl, by decide, t_check_rooms_good_room, by decide, rfl⟩
  · intro f hf
    simp only [d_good_door, List.mem_cons, List.not_mem_nil, or_false] at hf
    rcases hf with rfl | rfl | rfl | rfl
    · exact ⟨d_is_row, in_is_row, rfl, by decide, t_good_door_is_row, by decide, rfl⟩
    · exact ⟨d_is_between, in_is_between, rfl, by decide, t_good_door_is_between, by decide, rfl⟩
    · exact ⟨d_good_tools, in_good_tools, rfl, by decide, t_good_door_good_tools, by decide, rfl⟩
    · exact ⟨d_are_numbers, in_are_numbers, rfl, by decide, t_good_door_are_numbers, by decide, rfl⟩
  · intro f hf
    simp only [d_check_doors, List.mem_cons, List.not_mem_nil, or_false] at hf
    rcases hf with rfl
    · exact ⟨d_good_door, in_good_door, rfl, by decide, t_check_doors_good_door, by decide, rfl⟩
  · intro f hf
    simp only [d_copied_room, List.mem_cons, List.not_mem_nil, or_false] at hf
  · intro f hf
    simp only [d_copied_door, List.mem_cons, List.not_mem_nil, or_false] at hf
  · intro f hf
    simp only [d_House_init, List.mem_cons, List.not_mem_nil, or_false] at hf
    rcases hf with rfl | rfl | rfl | rfl | rfl
    · exact ⟨d_is_between, in_is_between, rfl, by decide, t_House_init_is_between, by decide, rfl⟩
    · exact ⟨d_check_rooms, in_check_rooms, rfl, by decide, t_House_init_check_rooms, by decide, rfl⟩
    · exact ⟨d_check_doors, in_check_doors, rfl, by decide, t_House_init_check_doors, by decide, rfl⟩
    · exact ⟨d_copied_room, in_copied_room, rfl, by decide, t_House_init_copied_room, by decide, rfl⟩
    · exact ⟨d_copied_door, in_copied_door, rfl, by decide, t_House_init_copied_door, by decide, rfl⟩
  · intro f hf
    simp only [d_law_made, List.mem_cons, List.not_mem_nil, or_false] at hf
  · intro f hf
    simp only [d_door_of, List.mem_cons, List.not_mem_nil, or_false] at hf
    rcases hf with rfl
    · exact ⟨d_is_between, in_is_between, rfl, by decide, t_door_of_is_between, by decide, rfl⟩
  · intro f hf
    simp only [d_work_rooms, List.mem_cons, List.not_mem_nil, or_false] at hf
    rcases hf with rfl
    · exact ⟨d_door_of, in_door_of, rfl, by decide, t_work_rooms_door_of, by decide, rfl⟩
  · intro f hf
    simp only [d_law_work, List.mem_cons, List.not_mem_nil, or_false] at hf
    rcases hf with rfl
    · exact ⟨d_work_rooms, in_work_rooms, rfl, by decide, t_law_work_work_rooms, by decide, rfl⟩
  · intro f hf
    simp only [d_law_work_right, List.mem_cons, List.not_mem_nil, or_false] at hf
    rcases hf with rfl | rfl | rfl
    · exact ⟨d_law_made, in_law_made, rfl, by decide, t_law_work_right_law_made, by decide, rfl⟩
    · exact ⟨d_law_draw, in_law_draw, rfl, by decide, t_law_work_right_law_draw, by decide, rfl⟩
    · exact ⟨d_law_work, in_law_work, rfl, by decide, t_law_work_right_law_work, by decide, rfl⟩
  · intro f hf
    simp only [d_law_tools, List.mem_cons, List.not_mem_nil, or_false] at hf
    rcases hf with rfl
    · exact ⟨d_law_draw, in_law_draw, rfl, by decide, t_law_tools_law_draw, by decide, rfl⟩
  · intro f hf
    simp only [d_law_form, List.mem_cons, List.not_mem_nil, or_false] at hf
    rcases hf with rfl
    · exact ⟨d_law_draw, in_law_draw, rfl, by decide, t_law_form_law_draw, by decide, rfl⟩
  · intro f hf
    simp only [d_law_room, List.mem_cons, List.not_mem_nil, or_false] at hf
    rcases hf with rfl | rfl | rfl
    · exact ⟨d_law_draw, in_law_draw, rfl, by decide, t_law_room_law_draw, by decide, rfl⟩
    · exact ⟨d_law_tools, in_law_tools, rfl, by decide, t_law_room_law_tools, by decide, rfl⟩
    · exact ⟨d_law_form, in_law_form, rfl, by decide, t_law_room_law_form, by decide, rfl⟩
  · intro f hf
    simp only [d_law_needs, List.mem_cons, List.not_mem_nil, or_false] at hf
    rcases hf with rfl | rfl
    · exact ⟨d_law_draw, in_law_draw, rfl, by decide, t_law_needs_law_draw, by decide, rfl⟩
    · exact ⟨d_law_tools, in_law_tools, rfl, by decide, t_law_needs_law_tools, by decide, rfl⟩
  · intro f hf
    simp only [d_law_code, List.mem_cons, List.not_mem_nil, or_false] at hf
    rcases hf with rfl | rfl
    · exact ⟨d_law_draw, in_law_draw, rfl, by decide, t_law_code_law_draw, by decide, rfl⟩
    · exact ⟨d_law_form, in_law_form, rfl, by decide, t_law_code_law_form, by decide, rfl⟩
  · intro f hf
    simp only [d_law_door, List.mem_cons, List.not_mem_nil, or_false] at hf
    rcases hf with rfl | rfl | rfl
    · exact ⟨d_law_draw, in_law_draw, rfl, by decide, t_law_door_law_draw, by decide, rfl⟩
    · exact ⟨d_law_needs, in_law_needs, rfl, by decide, t_law_door_law_needs, by decide, rfl⟩
    · exact ⟨d_law_code, in_law_code, rfl, by decide, t_law_door_law_code, by decide, rfl⟩
  · intro f hf
    simp only [d_law_house, List.mem_cons, List.not_mem_nil, or_false] at hf
    rcases hf with rfl | rfl | rfl | rfl
    · exact ⟨d_law_source, in_law_source, rfl, by decide, t_law_house_law_source, by decide, rfl⟩
    · exact ⟨d_law_draw, in_law_draw, rfl, by decide, t_law_house_law_draw, by decide, rfl⟩
    · exact ⟨d_law_room, in_law_room, rfl, by decide, t_law_house_law_room, by decide, rfl⟩
    · exact ⟨d_law_door, in_law_door, rfl, by decide, t_law_house_law_door, by decide, rfl⟩
  · intro f hf
    simp only [d_law, List.mem_cons, List.not_mem_nil, or_false] at hf
    rcases hf with rfl | rfl | rfl | rfl | rfl | rfl | rfl | rfl
    · exact ⟨d_law_source, in_law_source, rfl, by decide, t_law_law_source, by decide, rfl⟩
    · exact ⟨d_law_route, in_law_route, rfl, by decide, t_law_law_route, by decide, rfl⟩
    · exact ⟨d_law_slots, in_law_slots, rfl, by decide, t_law_law_slots, by decide, rfl⟩
    · exact ⟨d_law_draw, in_law_draw, rfl, by decide, t_law_law_draw, by decide, rfl⟩
    · exact ⟨d_law_due, in_law_due, rfl, by decide, t_law_law_due, by decide, rfl⟩
    · exact ⟨d_law_told, in_law_told, rfl, by decide, t_law_law_told, by decide, rfl⟩
    · exact ⟨d_law_work_right, in_law_work_right, rfl, by decide, t_law_law_work_right, by decide, rfl⟩
    · exact ⟨d_law_house, in_law_house, rfl, by decide, t_law_law_house, by decide, rfl⟩
theorem hcall_all : ∀ d ∈ tab, ∀ f ∈ d.hfs, ∃ d', d' ∈ tab ∧ d'.x = f ∧ d'.lv < d.lv ∧ d.Φ f = some d'.m ∧ d'.hot = true ∧ d'.cl = none := by
  intro d hd
  simp only [tab, List.mem_cons, List.not_mem_nil, or_false] at hd
  rcases hd with rfl | rfl | rfl | rfl | rfl | rfl | rfl | rfl | rfl | rfl | rfl | rfl | rfl | rfl | rfl | rfl | rfl | rfl | rfl | rfl | rfl | rfl | rfl | rfl | rfl | rfl | rfl | rfl | rfl | rfl | rfl | rfl | rfl | rfl | rfl | rfl | rfl | rfl | rfl | rfl | rfl | rfl | rfl | rfl | rfl | rfl | rfl | rfl | rfl | rfl | rfl
  · intro f hf
    simp only [d_law_source, List.mem_cons, List.not_mem_nil, or_false] at hf
  · intro f hf
    simp only [d_law_draw, List.mem_cons, List.not_mem_nil, or_false] at hf
  · intro f hf
    simp only [d_law_route, List.mem_cons, List.not_mem_nil, or_false] at hf
  · intro f hf
    simp only [d_law_slots, List.mem_cons, List.not_mem_nil, or_false] at hf
  · intro f hf
    simp only [d_law_is_integer, List.mem_cons, List.not_mem_nil, or_false] at hf
  · intro f hf
    simp only [d_law_rooms_fault, List.mem_cons, List.not_mem_nil, or_false] at hf
  · intro f hf
    simp only [d_law_gap_fault, List.mem_cons, List.not_mem_nil, or_false] at hf
  · intro f hf
    simp only [d_law_slots_fault, List.mem_cons, List.not_mem_nil, or_false] at hf
  · intro f hf
    simp only [d_law_first, List.mem_cons, List.not_mem_nil, or_false] at hf
  · intro f hf
    simp only [d_law_due, List.mem_cons, List.not_mem_nil, or_false] at hf
  · intro f hf
    simp only [d_is_whole, List.mem_cons, List.not_mem_nil, or_false] at hf
  · intro f hf
    simp only [d_is_between, List.mem_cons, List.not_mem_nil, or_false] at hf
  · intro f hf
    simp only [d_check_route, List.mem_cons, List.not_mem_nil, or_false] at hf
  · intro f hf
    simp only [d_busiest, List.mem_cons, List.not_mem_nil, or_false] at hf
  · intro f hf
    simp only [d_is_taken, List.mem_cons, List.not_mem_nil, or_false] at hf
  · intro f hf
    simp only [d_stretched, List.mem_cons, List.not_mem_nil, or_false] at hf
  · intro f hf
    simp only [d_check_gap, List.mem_cons, List.not_mem_nil, or_false] at hf
  · intro f hf
    simp only [d_is_row, List.mem_cons, List.not_mem_nil, or_false] at hf
  · intro f hf
    simp only [d_wrong_slot, List.mem_cons, List.not_mem_nil, or_false] at hf
  · intro f hf
    simp only [d_meeting, List.mem_cons, List.not_mem_nil, or_false] at hf
  · intro f hf
    simp only [d_are_slots, List.mem_cons, List.not_mem_nil, or_false] at hf
  · intro f hf
    simp only [d_check_slots, List.mem_cons, List.not_mem_nil, or_false] at hf
  · intro f hf
    simp only [d_least_gap, List.mem_cons, List.not_mem_nil, or_false] at hf
  · intro f hf
    simp only [d_first_meeting, List.mem_cons, List.not_mem_nil, or_false] at hf
  · intro f hf
    simp only [d_is_clear, List.mem_cons, List.not_mem_nil, or_false] at hf
  · intro f hf
    simp only [d_teams_at, List.mem_cons, List.not_mem_nil, or_false] at hf
  · intro f hf
    simp only [d_law_call, List.mem_cons, List.not_mem_nil, or_false] at hf
  · intro f hf
    simp only [d_law_told, List.mem_cons, List.not_mem_nil, or_false] at hf
  · intro f hf
    simp only [d_is_rising, List.mem_cons, List.not_mem_nil, or_false] at hf
  · intro f hf
    simp only [d_good_tools, List.mem_cons, List.not_mem_nil, or_false] at hf
  · intro f hf
    simp only [d_are_numbers, List.mem_cons, List.not_mem_nil, or_false] at hf
  · intro f hf
    simp only [d_good_room, List.mem_cons, List.not_mem_nil, or_false] at hf
  · intro f hf
    simp only [d_check_rooms, List.mem_cons, List.not_mem_nil, or_false] at hf
  · intro f hf
    simp only [d_good_door, List.mem_cons, List.not_mem_nil, or_false] at hf
  · intro f hf
    simp only [d_check_doors, List.mem_cons, List.not_mem_nil, or_false] at hf
  · intro f hf
    simp only [d_copied_room, List.mem_cons, List.not_mem_nil, or_false] at hf
  · intro f hf
    simp only [d_copied_door, List.mem_cons, List.not_mem_nil, or_false] at hf
  · intro f hf
    simp only [d_House_init, List.mem_cons, List.not_mem_nil, or_false] at hf
  · intro f hf
    simp only [d_law_made, List.mem_cons, List.not_mem_nil, or_false] at hf
  · intro f hf
    simp only [d_door_of, List.mem_cons, List.not_mem_nil, or_false] at hf
  · intro f hf
    simp only [d_work_rooms, List.mem_cons, List.not_mem_nil, or_false] at hf
  · intro f hf
    simp only [d_law_work, List.mem_cons, List.not_mem_nil, or_false] at hf
  · intro f hf
    simp only [d_law_work_right, List.mem_cons, List.not_mem_nil, or_false] at hf
  · intro f hf
    simp only [d_law_tools, List.mem_cons, List.not_mem_nil, or_false] at hf
  · intro f hf
    simp only [d_law_form, List.mem_cons, List.not_mem_nil, or_false] at hf
  · intro f hf
    simp only [d_law_room, List.mem_cons, List.not_mem_nil, or_false] at hf
  · intro f hf
    simp only [d_law_needs, List.mem_cons, List.not_mem_nil, or_false] at hf
  · intro f hf
    simp only [d_law_code, List.mem_cons, List.not_mem_nil, or_false] at hf
  · intro f hf
    simp only [d_law_door, List.mem_cons, List.not_mem_nil, or_false] at hf
  · intro f hf
    simp only [d_law_house, List.mem_cons, List.not_mem_nil, or_false] at hf
  · intro f hf
    simp only [d_law, List.mem_cons, List.not_mem_nil, or_false] at hf
theorem cs_all : ∀ d ∈ tab, d.cs = cs ∨ d.cs = [] := by
  intro d hd
  simp only [tab, List.mem_cons, List.not_mem_nil, or_false] at hd
  rcases hd with rfl | rfl | rfl | rfl | rfl | rfl | rfl | rfl | rfl | rfl | rfl | rfl | rfl | rfl | rfl | rfl | rfl | rfl | rfl | rfl | rfl | rfl | rfl | rfl | rfl | rfl | rfl | rfl | rfl | rfl | rfl | rfl | rfl | rfl | rfl | rfl | rfl | rfl | rfl | rfl | rfl | rfl | rfl | rfl | rfl | rfl | rfl | rfl | rfl | rfl | rfl
  · exact .inr rfl
  · exact .inr rfl
  · exact .inr rfl
  · exact .inr rfl
  · exact .inr rfl
  · exact .inr rfl
  · exact .inr rfl
  · exact .inr rfl
  · exact .inr rfl
  · exact .inr rfl
  · exact .inr rfl
  · exact .inr rfl
  · exact .inr rfl
  · exact .inr rfl
  · exact .inr rfl
  · exact .inr rfl
  · exact .inr rfl
  · exact .inr rfl
  · exact .inr rfl
  · exact .inr rfl
  · exact .inr rfl
  · exact .inr rfl
  · exact .inr rfl
  · exact .inr rfl
  · exact .inr rfl
  · exact .inr rfl
  · exact .inr rfl
  · exact .inr rfl
  · exact .inr rfl
  · exact .inr rfl
  · exact .inr rfl
  · exact .inr rfl
  · exact .inr rfl
  · exact .inr rfl
  · exact .inr rfl
  · exact .inr rfl
  · exact .inr rfl
  · exact .inl rfl
  · exact .inl rfl
  · exact .inl rfl
  · exact .inr rfl
  · exact .inr rfl
  · exact .inr rfl
  · exact .inr rfl
  · exact .inr rfl
  · exact .inr rfl
  · exact .inr rfl
  · exact .inr rfl
  · exact .inr rfl
  · exact .inr rfl
  · exact .inr rfl
theorem new_all : ∀ d ∈ tab, ∀ c ∈ d.nw, ∃ d', d' ∈ tab ∧ d'.cl = some c ∧ d'.nm = "__init__" ∧ d'.lv + 1 < d.lv ∧ d.Φ (mName c "__init__") = some d'.m := by
  intro d hd
  simp only [tab, List.mem_cons, List.not_mem_nil, or_false] at hd
  rcases hd with rfl | rfl | rfl | rfl | rfl | rfl | rfl | rfl | rfl | rfl | rfl | rfl | rfl | rfl | rfl | rfl | rfl | rfl | rfl | rfl | rfl | rfl | rfl | rfl | rfl | rfl | rfl | rfl | rfl | rfl | rfl | rfl | rfl | rfl | rfl | rfl | rfl | rfl | rfl | rfl | rfl | rfl | rfl | rfl | rfl | rfl | rfl | rfl | rfl | rfl | rfl
  · intro f hf
    simp only [d_law_source, List.mem_cons, List.not_mem_nil, or_false] at hf
  · intro f hf
    simp only [d_law_draw, List.mem_cons, List.not_mem_nil, or_false] at hf
  · intro f hf
    simp only [d_law_route, List.mem_cons, List.not_mem_nil, or_false] at hf
  · intro f hf
    simp only [d_law_slots, List.mem_cons, List.not_mem_nil, or_false] at hf
  · intro f hf
    simp only [d_law_is_integer, List.mem_cons, List.not_mem_nil, or_false] at hf
  · intro f hf
    simp only [d_law_rooms_fault, List.mem_cons, List.not_mem_nil, or_false] at hf
  · intro f hf
    simp only [d_law_gap_fault, List.mem_cons, List.not_mem_nil, or_false] at hf
  · intro f hf
    simp only [d_law_slots_fault, List.mem_cons, List.not_mem_nil, or_false] at hf
  · intro f hf
    simp only [d_law_first, List.mem_cons, List.not_mem_nil, or_false] at hf
  · intro f hf
    simp only [d_law_due, List.mem_cons, List.not_mem_nil, or_false] at hf
  · intro f hf
    simp only [d_is_whole, List.mem_cons, List.not_mem_nil, or_false] at hf
  · intro f hf
    simp only [d_is_between, List.mem_cons, List.not_mem_nil, or_false] at hf
  · intro f hf
    simp only [d_check_route, List.mem_cons, List.not_mem_nil, or_false] at hf
  · intro f hf
    simp only [d_busiest, List.mem_cons, List.not_mem_nil, or_false] at hf
  · intro f hf
    simp only [d_is_taken, List.mem_cons, List.not_mem_nil, or_false] at hf
  · intro f hf
    simp only [d_stretched, List.mem_cons, List.not_mem_nil, or_false] at hf
  · intro f hf
    simp only [d_check_gap, List.mem_cons, List.not_mem_nil, or_false] at hf
  · intro f hf
    simp only [d_is_row, List.mem_cons, List.not_mem_nil, or_false] at hf
  · intro f hf
    simp only [d_wrong_slot, List.mem_cons, List.not_mem_nil, or_false] at hf
  · intro f hf
    simp only [d_meeting, List.mem_cons, List.not_mem_nil, or_false] at hf
  · intro f hf
    simp only [d_are_slots, List.mem_cons, List.not_mem_nil, or_false] at hf
  · intro f hf
    simp only [d_check_slots, List.mem_cons, List.not_mem_nil, or_false] at hf
  · intro f hf
    simp only [d_least_gap, List.mem_cons, List.not_mem_nil, or_false] at hf
  · intro f hf
    simp only [d_first_meeting, List.mem_cons, List.not_mem_nil, or_false] at hf
  · intro f hf
    simp only [d_is_clear, List.mem_cons, List.not_mem_nil, or_false] at hf
  · intro f hf
    simp only [d_teams_at, List.mem_cons, List.not_mem_nil, or_false] at hf
  · intro f hf
    simp only [d_law_call, List.mem_cons, List.not_mem_nil, or_false] at hf
  · intro f hf
    simp only [d_law_told, List.mem_cons, List.not_mem_nil, or_false] at hf
  · intro f hf
    simp only [d_is_rising, List.mem_cons, List.not_mem_nil, or_false] at hf
  · intro f hf
    simp only [d_good_tools, List.mem_cons, List.not_mem_nil, or_false] at hf
  · intro f hf
    simp only [d_are_numbers, List.mem_cons, List.not_mem_nil, or_false] at hf
  · intro f hf
    simp only [d_good_room, List.mem_cons, List.not_mem_nil, or_false] at hf
  · intro f hf
    simp only [d_check_rooms, List.mem_cons, List.not_mem_nil, or_false] at hf
  · intro f hf
    simp only [d_good_door, List.mem_cons, List.not_mem_nil, or_false] at hf
  · intro f hf
    simp only [d_check_doors, List.mem_cons, List.not_mem_nil, or_false] at hf
  · intro f hf
    simp only [d_copied_room, List.mem_cons, List.not_mem_nil, or_false] at hf
  · intro f hf
    simp only [d_copied_door, List.mem_cons, List.not_mem_nil, or_false] at hf
  · intro f hf
    simp only [d_House_init, List.mem_cons, List.not_mem_nil, or_false] at hf
  · intro f hf
    simp only [d_law_made, List.mem_cons, List.not_mem_nil, or_false] at hf
    rcases hf with rfl
    · exact ⟨d_House_init, in_House_init, rfl, rfl, by decide, t_law_made_House_init⟩
  · intro f hf
    simp only [d_door_of, List.mem_cons, List.not_mem_nil, or_false] at hf
  · intro f hf
    simp only [d_work_rooms, List.mem_cons, List.not_mem_nil, or_false] at hf
  · intro f hf
    simp only [d_law_work, List.mem_cons, List.not_mem_nil, or_false] at hf
  · intro f hf
    simp only [d_law_work_right, List.mem_cons, List.not_mem_nil, or_false] at hf
  · intro f hf
    simp only [d_law_tools, List.mem_cons, List.not_mem_nil, or_false] at hf
  · intro f hf
    simp only [d_law_form, List.mem_cons, List.not_mem_nil, or_false] at hf
  · intro f hf
    simp only [d_law_room, List.mem_cons, List.not_mem_nil, or_false] at hf
  · intro f hf
    simp only [d_law_needs, List.mem_cons, List.not_mem_nil, or_false] at hf
  · intro f hf
    simp only [d_law_code, List.mem_cons, List.not_mem_nil, or_false] at hf
  · intro f hf
    simp only [d_law_door, List.mem_cons, List.not_mem_nil, or_false] at hf
  · intro f hf
    simp only [d_law_house, List.mem_cons, List.not_mem_nil, or_false] at hf
  · intro f hf
    simp only [d_law, List.mem_cons, List.not_mem_nil, or_false] at hf
theorem met_all : ∀ d ∈ tab, ∀ p ∈ d.ms, ∃ d', d' ∈ tab ∧ d'.cl = some p.1 ∧ d'.nm = p.2 ∧ p.2 ≠ "__init__" ∧ d'.lv < d.lv ∧ d.Φ (mName p.1 p.2) = some d'.m := by
  intro d hd
  simp only [tab, List.mem_cons, List.not_mem_nil, or_false] at hd
  rcases hd with rfl | rfl | rfl | rfl | rfl | rfl | rfl | rfl | rfl | rfl | rfl | rfl | rfl | rfl | rfl | rfl | rfl | rfl | rfl | rfl | rfl | rfl | rfl | rfl | rfl | rfl | rfl | rfl | rfl | rfl | rfl | rfl | rfl | rfl | rfl | rfl | rfl | rfl | rfl | rfl | rfl | rfl | rfl | rfl | rfl | rfl | rfl | rfl | rfl | rfl | rfl
  · intro f hf
    simp only [d_law_source, List.mem_cons, List.not_mem_nil, or_false] at hf
  · intro f hf
    simp only [d_law_draw, List.mem_cons, List.not_mem_nil, or_false] at hf
  · intro f hf
    simp only [d_law_route, List.mem_cons, List.not_mem_nil, or_false] at hf
  · intro f hf
    simp only [d_law_slots, List.mem_cons, List.not_mem_nil, or_false] at hf
  · intro f hf
    simp only [d_law_is_integer, List.mem_cons, List.not_mem_nil, or_false] at hf
  · intro f hf
    simp only [d_law_rooms_fault, List.mem_cons, List.not_mem_nil, or_false] at hf
  · intro f hf
    simp only [d_law_gap_fault, List.mem_cons, List.not_mem_nil, or_false] at hf
  · intro f hf
    simp only [d_law_slots_fault, List.mem_cons, List.not_mem_nil, or_false] at hf
  · intro f hf
    simp only [d_law_first, List.mem_cons, List.not_mem_nil, or_false] at hf
  · intro f hf
    simp only [d_law_due, List.mem_cons, List.not_mem_nil, or_false] at hf
  · intro f hf
    simp only [d_is_whole, List.mem_cons, List.not_mem_nil, or_false] at hf
  · intro f hf
    simp only [d_is_between, List.mem_cons, List.not_mem_nil, or_false] at hf
  · intro f hf
    simp only [d_check_route, List.mem_cons, List.not_mem_nil, or_false] at hf
  · intro f hf
    simp only [d_busiest, List.mem_cons, List.not_mem_nil, or_false] at hf
  · intro f hf
    simp only [d_is_taken, List.mem_cons, List.not_mem_nil, or_false] at hf
  · intro f hf
    simp only [d_stretched, List.mem_cons, List.not_mem_nil, or_false] at hf
  · intro f hf
    simp only [d_check_gap, List.mem_cons, List.not_mem_nil, or_false] at hf
  · intro f hf
    simp only [d_is_row, List.mem_cons, List.not_mem_nil, or_false] at hf
  · intro f hf
    simp only [d_wrong_slot, List.mem_cons, List.not_mem_nil, or_false] at hf
  · intro f hf
    simp only [d_meeting, List.mem_cons, List.not_mem_nil, or_false] at hf
  · intro f hf
    simp only [d_are_slots, List.mem_cons, List.not_mem_nil, or_false] at hf
  · intro f hf
    simp only [d_check_slots, List.mem_cons, List.not_mem_nil, or_false] at hf
  · intro f hf
    simp only [d_least_gap, List.mem_cons, List.not_mem_nil, or_false] at hf
  · intro f hf
    simp only [d_first_meeting, List.mem_cons, List.not_mem_nil, or_false] at hf
  · intro f hf
    simp only [d_is_clear, List.mem_cons, List.not_mem_nil, or_false] at hf
  · intro f hf
    simp only [d_teams_at, List.mem_cons, List.not_mem_nil, or_false] at hf
  · intro f hf
    simp only [d_law_call, List.mem_cons, List.not_mem_nil, or_false] at hf
  · intro f hf
    simp only [d_law_told, List.mem_cons, List.not_mem_nil, or_false] at hf
  · intro f hf
    simp only [d_is_rising, List.mem_cons, List.not_mem_nil, or_false] at hf
  · intro f hf
    simp only [d_good_tools, List.mem_cons, List.not_mem_nil, or_false] at hf
  · intro f hf
    simp only [d_are_numbers, List.mem_cons, List.not_mem_nil, or_false] at hf
  · intro f hf
    simp only [d_good_room, List.mem_cons, List.not_mem_nil, or_false] at hf
  · intro f hf
    simp only [d_check_rooms, List.mem_cons, List.not_mem_nil, or_false] at hf
  · intro f hf
    simp only [d_good_door, List.mem_cons, List.not_mem_nil, or_false] at hf
  · intro f hf
    simp only [d_check_doors, List.mem_cons, List.not_mem_nil, or_false] at hf
  · intro f hf
    simp only [d_copied_room, List.mem_cons, List.not_mem_nil, or_false] at hf
  · intro f hf
    simp only [d_copied_door, List.mem_cons, List.not_mem_nil, or_false] at hf
  · intro f hf
    simp only [d_House_init, List.mem_cons, List.not_mem_nil, or_false] at hf
  · intro f hf
    simp only [d_law_made, List.mem_cons, List.not_mem_nil, or_false] at hf
  · intro f hf
    simp only [d_door_of, List.mem_cons, List.not_mem_nil, or_false] at hf
  · intro f hf
    simp only [d_work_rooms, List.mem_cons, List.not_mem_nil, or_false] at hf
  · intro f hf
    simp only [d_law_work, List.mem_cons, List.not_mem_nil, or_false] at hf
  · intro f hf
    simp only [d_law_work_right, List.mem_cons, List.not_mem_nil, or_false] at hf
  · intro f hf
    simp only [d_law_tools, List.mem_cons, List.not_mem_nil, or_false] at hf
  · intro f hf
    simp only [d_law_form, List.mem_cons, List.not_mem_nil, or_false] at hf
  · intro f hf
    simp only [d_law_room, List.mem_cons, List.not_mem_nil, or_false] at hf
  · intro f hf
    simp only [d_law_needs, List.mem_cons, List.not_mem_nil, or_false] at hf
  · intro f hf
    simp only [d_law_code, List.mem_cons, List.not_mem_nil, or_false] at hf
  · intro f hf
    simp only [d_law_door, List.mem_cons, List.not_mem_nil, or_false] at hf
  · intro f hf
    simp only [d_law_house, List.mem_cons, List.not_mem_nil, or_false] at hf
  · intro f hf
    simp only [d_law, List.mem_cons, List.not_mem_nil, or_false] at hf
open PyProof.Rows
set_option maxHeartbeats 0 in
theorem all_mk {P : Program} {w : World} {K : PySem.W.Frag} {h : Heap} {mg : Str → Option Value} {fa : Addr} (X : K.In h) (G : h.Ns mainGlobals mg) (hfa : mg "law" = some (.ref fa))
    {A_House : Addr}
    {f0 : Addr} {od0 an0 : Option Addr} {sl0 : Array (Option Value)} {oc0 kV0 dc0 pm0 cd0 ct0 : Value}
    {f1 : Addr} {od1 an1 : Option Addr} {sl1 : Array (Option Value)} {oc1 kV1 dc1 pm1 cd1 ct1 : Value}
    {f2 : Addr} {od2 an2 : Option Addr} {sl2 : Array (Option Value)} {oc2 kV2 dc2 pm2 cd2 ct2 : Value}
    {f3 : Addr} {od3 an3 : Option Addr} {sl3 : Array (Option Value)} {oc3 kV3 dc3 pm3 cd3 ct3 : Value}
    {f4 : Addr} {od4 an4 : Option Addr} {sl4 : Array (Option Value)} {oc4 kV4 dc4 pm4 cd4 ct4 : Value}
    {f5 : Addr} {od5 an5 : Option Addr} {sl5 : Array (Option Value)} {oc5 kV5 dc5 pm5 cd5 ct5 : Value}
    {f6 : Addr} {od6 an6 : Option Addr} {sl6 : Array (Option Value)} {oc6 kV6 dc6 pm6 cd6 ct6 : Value}
    {f7 : Addr} {od7 an7 : Option Addr} {sl7 : Array (Option Value)} {oc7 kV7 dc7 pm7 cd7 ct7 : Value}
    {f8 : Addr} {od8 an8 : Option Addr} {sl8 : Array (Option Value)} {oc8 kV8 dc8 pm8 cd8 ct8 : Value}
    {f9 : Addr} {od9 an9 : Option Addr} {sl9 : Array (Option Value)} {oc9 kV9 dc9 pm9 cd9 ct9 : Value}
    {f10 : Addr} {od10 an10 : Option Addr} {sl10 : Array (Option Value)} {oc10 kV10 dc10 pm10 cd10 ct10 : Value}
    {f11 : Addr} {od11 an11 : Option Addr} {sl11 : Array (Option Value)} {oc11 kV11 dc11 pm11 cd11 ct11 : Value}
    {f12 : Addr} {od12 an12 : Option Addr} {sl12 : Array (Option Value)} {oc12 kV12 dc12 pm12 cd12 ct12 : Value}
    {f13 : Addr} {od13 an13 : Option Addr} {sl13 : Array (Option Value)} {oc13 kV13 dc13 pm13 cd13 ct13 : Value}
    {f14 : Addr} {od14 an14 : Option Addr} {sl14 : Array (Option Value)} {oc14 kV14 dc14 pm14 cd14 ct14 : Value}
    {f15 : Addr} {od15 an15 : Option Addr} {sl15 : Array (Option Value)} {oc15 kV15 dc15 pm15 cd15 ct15 : Value}
    {f16 : Addr} {od16 an16 : Option Addr} {sl16 : Array (Option Value)} {oc16 kV16 dc16 pm16 cd16 ct16 : Value}
    {f17 : Addr} {od17 an17 : Option Addr} {sl17 : Array (Option Value)} {oc17 kV17 dc17 pm17 cd17 ct17 : Value}
    {f18 : Addr} {od18 an18 : Option Addr} {sl18 : Array (Option Value)} {oc18 kV18 dc18 pm18 cd18 ct18 : Value}
    {f19 : Addr} {od19 an19 : Option Addr} {sl19 : Array (Option Value)} {oc19 kV19 dc19 pm19 cd19 ct19 : Value}
    {f20 : Addr} {od20 an20 : Option Addr} {sl20 : Array (Option Value)} {oc20 kV20 dc20 pm20 cd20 ct20 : Value}
    {f21 : Addr} {od21 an21 : Option Addr} {sl21 : Array (Option Value)} {oc21 kV21 dc21 pm21 cd21 ct21 : Value}
    {f22 : Addr} {od22 an22 : Option Addr} {sl22 : Array (Option Value)} {oc22 kV22 dc22 pm22 cd22 ct22 : Value}
    {f23 : Addr} {od23 an23 : Option Addr} {sl23 : Array (Option Value)} {oc23 kV23 dc23 pm23 cd23 ct23 : Value}
    {f24 : Addr} {od24 an24 : Option Addr} {sl24 : Array (Option Value)} {oc24 kV24 dc24 pm24 cd24 ct24 : Value}
    {f25 : Addr} {od25 an25 : Option Addr} {sl25 : Array (Option Value)} {oc25 kV25 dc25 pm25 cd25 ct25 : Value}
    {f26 : Addr} {od26 an26 : Option Addr} {sl26 : Array (Option Value)} {oc26 kV26 dc26 pm26 cd26 ct26 : Value}
    {f27 : Addr} {od27 an27 : Option Addr} {sl27 : Array (Option Value)} {oc27 kV27 dc27 pm27 cd27 ct27 : Value}
    {f28 : Addr} {od28 an28 : Option Addr} {sl28 : Array (Option Value)} {oc28 kV28 dc28 pm28 cd28 ct28 : Value}
    {f29 : Addr} {od29 an29 : Option Addr} {sl29 : Array (Option Value)} {oc29 kV29 dc29 pm29 cd29 ct29 : Value}
    {f30 : Addr} {od30 an30 : Option Addr} {sl30 : Array (Option Value)} {oc30 kV30 dc30 pm30 cd30 ct30 : Value}
    {f31 : Addr} {od31 an31 : Option Addr} {sl31 : Array (Option Value)} {oc31 kV31 dc31 pm31 cd31 ct31 : Value}
    {f32 : Addr} {od32 an32 : Option Addr} {sl32 : Array (Option Value)} {oc32 kV32 dc32 pm32 cd32 ct32 : Value}
    {f33 : Addr} {od33 an33 : Option Addr} {sl33 : Array (Option Value)} {oc33 kV33 dc33 pm33 cd33 ct33 : Value}
    {f34 : Addr} {od34 an34 : Option Addr} {sl34 : Array (Option Value)} {oc34 kV34 dc34 pm34 cd34 ct34 : Value}
    {f35 : Addr} {od35 an35 : Option Addr} {sl35 : Array (Option Value)} {oc35 kV35 dc35 pm35 cd35 ct35 : Value}
    {f36 : Addr} {od36 an36 : Option Addr} {sl36 : Array (Option Value)} {oc36 kV36 dc36 pm36 cd36 ct36 : Value}
    {f37 : Addr} {od37 an37 : Option Addr} {sl37 : Array (Option Value)} {oc37 kV37 dc37 pm37 cd37 ct37 : Value}
    {f38 : Addr} {od38 an38 : Option Addr} {sl38 : Array (Option Value)} {oc38 kV38 dc38 pm38 cd38 ct38 : Value}
    {f39 : Addr} {od39 an39 : Option Addr} {sl39 : Array (Option Value)} {oc39 kV39 dc39 pm39 cd39 ct39 : Value}
    {f40 : Addr} {od40 an40 : Option Addr} {sl40 : Array (Option Value)} {oc40 kV40 dc40 pm40 cd40 ct40 : Value}
    {f41 : Addr} {od41 an41 : Option Addr} {sl41 : Array (Option Value)} {oc41 kV41 dc41 pm41 cd41 ct41 : Value}
    {f42 : Addr} {od42 an42 : Option Addr} {sl42 : Array (Option Value)} {oc42 kV42 dc42 pm42 cd42 ct42 : Value}
    {f43 : Addr} {od43 an43 : Option Addr} {sl43 : Array (Option Value)} {oc43 kV43 dc43 pm43 cd43 ct43 : Value}
    {f44 : Addr} {od44 an44 : Option Addr} {sl44 : Array (Option Value)} {oc44 kV44 dc44 pm44 cd44 ct44 : Value}
    {f45 : Addr} {od45 an45 : Option Addr} {sl45 : Array (Option Value)} {oc45 kV45 dc45 pm45 cd45 ct45 : Value}
    {f46 : Addr} {od46 an46 : Option Addr} {sl46 : Array (Option Value)} {oc46 kV46 dc46 pm46 cd46 ct46 : Value}
    {f47 : Addr} {od47 an47 : Option Addr} {sl47 : Array (Option Value)} {oc47 kV47 dc47 pm47 cd47 ct47 : Value}
    {f48 : Addr} {od48 an48 : Option Addr} {sl48 : Array (Option Value)} {oc48 kV48 dc48 pm48 cd48 ct48 : Value}
    {f49 : Addr} {od49 an49 : Option Addr} {sl49 : Array (Option Value)} {oc49 kV49 dc49 pm49 cd49 ct49 : Value}
    {f50 : Addr} {od50 an50 : Option Addr} {sl50 : Array (Option Value)} {oc50 kV50 dc50 pm50 cd50 ct50 : Value}
    {u_MOST_STEPS : Tok}
    {u_LAST_ROOM : Tok}
    {u_MOST_GAP : Tok}
    {u_LAST_SLOT : Tok}
    {u_MOST_CLUES : Tok}
    {u_PRIMES : Addr} {o_PRIMES : Obj} {i_PRIMES : Array Value} {e_PRIMES : Nat}
    {u_MOST_ROOMS : Tok}
    {u_MOST_DOORS : Tok}
    {A_TooMany : Addr}
    {A_NoDoor : Addr}
    {A_BadRoute : Addr}
    {A_TooTight : Addr}
    {A_BadHouse : Addr}
    {A_RiddleError : Addr}
    {D_TooMany I_TooMany : Addr}
    {D_NoDoor I_NoDoor : Addr}
    {D_BadRoute I_BadRoute : Addr}
    {D_TooTight I_TooTight : Addr}
    {D_BadHouse I_BadHouse : Addr}
    (n_House : PySem.W.nsIn K mainGlobals "House" = some (some (.ref A_House)))
    (u_House : PySem.W.plainGet K A_House Str.empty = true) (v_House : PySem.W.hasDictIn K A_House = true) (w_House : PySem.W.plainOver K A_House = true) (h_House : PySem.W.findIn K (.ref A_House) "__setattr__" = some (some (.builtin "object.__setattr__")))
    (j_House_prime : PySem.W.findIn K (.ref A_House) "prime" = some none)
    (j_House_size : PySem.W.findIn K (.ref A_House) "size" = some none)
    (j_House_rooms : PySem.W.findIn K (.ref A_House) "rooms" = some none)
    (j_House_doors : PySem.W.findIn K (.ref A_House) "doors" = some none)
    (j_House_last : PySem.W.findIn K (.ref A_House) "last" = some none)
    (mk_House : PySem.W.makesIn K A_House = true) (kp_House : PySem.W.keepIn K (.ref A_House) = true)
    (a0 : PySem.W.nsIn K mainGlobals "_law_source" = some (some (.ref f0)))
    (l0 : K.lookup f0 = some ⟨oc0, od0, .func (PySem.W.fnOf "_law_source" "_law_source" (defArgs d_law_source.st) (defBody d_law_source.st) (defScope d_law_source.st) .none kV0 dc0 pm0 an0 cd0 ct0), sl0⟩)
    (c0 : PySem.W.codeIn K cd0 "_law_source" = true) (k0 : PySem.W.keepIn K (.ref f0) = true)
    (a1 : PySem.W.nsIn K mainGlobals "_law_draw" = some (some (.ref f1)))
    (l1 : K.lookup f1 = some ⟨oc1, od1, .func (PySem.W.fnOf "_law_draw" "_law_draw" (defArgs d_law_draw.st) (defBody d_law_draw.st) (defScope d_law_draw.st) .none kV1 dc1 pm1 an1 cd1 ct1), sl1⟩)
    (c1 : PySem.W.codeIn K cd1 "_law_draw" = true) (k1 : PySem.W.keepIn K (.ref f1) = true)
    (a2 : PySem.W.nsIn K mainGlobals "_law_route" = some (some (.ref f2)))
    (l2 : K.lookup f2 = some ⟨oc2, od2, .func (PySem.W.fnOf "_law_route" "_law_route" (defArgs d_law_route.st) (defBody d_law_route.st) (defScope d_law_route.st) .none kV2 dc2 pm2 an2 cd2 ct2), sl2⟩)
    (c2 : PySem.W.codeIn K cd2 "_law_route" = true) (k2 : PySem.W.keepIn K (.ref f2) = true)
    (a3 : PySem.W.nsIn K mainGlobals "_law_slots" = some (some (.ref f3)))
    (l3 : K.lookup f3 = some ⟨oc3, od3, .func (PySem.W.fnOf "_law_slots" "_law_slots" (defArgs d_law_slots.st) (defBody d_law_slots.st) (defScope d_law_slots.st) .none kV3 dc3 pm3 an3 cd3 ct3), sl3⟩)
    (c3 : PySem.W.codeIn K cd3 "_law_slots" = true) (k3 : PySem.W.keepIn K (.ref f3) = true)
    (a4 : PySem.W.nsIn K mainGlobals "_law_is_integer" = some (some (.ref f4)))
    (l4 : K.lookup f4 = some ⟨oc4, od4, .func (PySem.W.fnOf "_law_is_integer" "_law_is_integer" (defArgs d_law_is_integer.st) (defBody d_law_is_integer.st) (defScope d_law_is_integer.st) .none kV4 dc4 pm4 an4 cd4 ct4), sl4⟩)
    (c4 : PySem.W.codeIn K cd4 "_law_is_integer" = true) (k4 : PySem.W.keepIn K (.ref f4) = true)
    (a5 : PySem.W.nsIn K mainGlobals "_law_rooms_fault" = some (some (.ref f5)))
    (l5 : K.lookup f5 = some ⟨oc5, od5, .func (PySem.W.fnOf "_law_rooms_fault" "_law_rooms_fault" (defArgs d_law_rooms_fault.st) (defBody d_law_rooms_fault.st) (defScope d_law_rooms_fault.st) .none kV5 dc5 pm5 an5 cd5 ct5), sl5⟩)
    (c5 : PySem.W.codeIn K cd5 "_law_rooms_fault" = true) (k5 : PySem.W.keepIn K (.ref f5) = true)
    (a6 : PySem.W.nsIn K mainGlobals "_law_gap_fault" = some (some (.ref f6)))
    (l6 : K.lookup f6 = some ⟨oc6, od6, .func (PySem.W.fnOf "_law_gap_fault" "_law_gap_fault" (defArgs d_law_gap_fault.st) (defBody d_law_gap_fault.st) (defScope d_law_gap_fault.st) .none kV6 dc6 pm6 an6 cd6 ct6), sl6⟩)
    (c6 : PySem.W.codeIn K cd6 "_law_gap_fault" = true) (k6 : PySem.W.keepIn K (.ref f6) = true)
    (a7 : PySem.W.nsIn K mainGlobals "_law_slots_fault" = some (some (.ref f7)))
    (l7 : K.lookup f7 = some ⟨oc7, od7, .func (PySem.W.fnOf "_law_slots_fault" "_law_slots_fault" (defArgs d_law_slots_fault.st) (defBody d_law_slots_fault.st) (defScope d_law_slots_fault.st) .none kV7 dc7 pm7 an7 cd7 ct7), sl7⟩)
    (c7 : PySem.W.codeIn K cd7 "_law_slots_fault" = true) (k7 : PySem.W.keepIn K (.ref f7) = true)
    (a8 : PySem.W.nsIn K mainGlobals "_law_first" = some (some (.ref f8)))
    (l8 : K.lookup f8 = some ⟨oc8, od8, .func (PySem.W.fnOf "_law_first" "_law_first" (defArgs d_law_first.st) (defBody d_law_first.st) (defScope d_law_first.st) .none kV8 dc8 pm8 an8 cd8 ct8), sl8⟩)
    (c8 : PySem.W.codeIn K cd8 "_law_first" = true) (k8 : PySem.W.keepIn K (.ref f8) = true)
    (a9 : PySem.W.nsIn K mainGlobals "_law_due" = some (some (.ref f9)))
    (l9 : K.lookup f9 = some ⟨oc9, od9, .func (PySem.W.fnOf "_law_due" "_law_due" (defArgs d_law_due.st) (defBody d_law_due.st) (defScope d_law_due.st) .none kV9 dc9 pm9 an9 cd9 ct9), sl9⟩)
    (c9 : PySem.W.codeIn K cd9 "_law_due" = true) (k9 : PySem.W.keepIn K (.ref f9) = true)
    (a10 : PySem.W.nsIn K mainGlobals "is_whole" = some (some (.ref f10)))
    (l10 : K.lookup f10 = some ⟨oc10, od10, .func (PySem.W.fnOf "is_whole" "is_whole" (defArgs d_is_whole.st) (defBody d_is_whole.st) (defScope d_is_whole.st) .none kV10 dc10 pm10 an10 cd10 ct10), sl10⟩)
    (c10 : PySem.W.codeIn K cd10 "is_whole" = true) (k10 : PySem.W.keepIn K (.ref f10) = true)
    (a11 : PySem.W.nsIn K mainGlobals "is_between" = some (some (.ref f11)))
    (l11 : K.lookup f11 = some ⟨oc11, od11, .func (PySem.W.fnOf "is_between" "is_between" (defArgs d_is_between.st) (defBody d_is_between.st) (defScope d_is_between.st) .none kV11 dc11 pm11 an11 cd11 ct11), sl11⟩)
    (c11 : PySem.W.codeIn K cd11 "is_between" = true) (k11 : PySem.W.keepIn K (.ref f11) = true)
    (a12 : PySem.W.nsIn K mainGlobals "check_route" = some (some (.ref f12)))
    (l12 : K.lookup f12 = some ⟨oc12, od12, .func (PySem.W.fnOf "check_route" "check_route" (defArgs d_check_route.st) (defBody d_check_route.st) (defScope d_check_route.st) .none kV12 dc12 pm12 an12 cd12 ct12), sl12⟩)
    (c12 : PySem.W.codeIn K cd12 "check_route" = true) (k12 : PySem.W.keepIn K (.ref f12) = true)
    (a13 : PySem.W.nsIn K mainGlobals "busiest" = some (some (.ref f13)))
    (l13 : K.lookup f13 = some ⟨oc13, od13, .func (PySem.W.fnOf "busiest" "busiest" (defArgs d_busiest.st) (defBody d_busiest.st) (defScope d_busiest.st) .none kV13 dc13 pm13 an13 cd13 ct13), sl13⟩)
    (c13 : PySem.W.codeIn K cd13 "busiest" = true) (k13 : PySem.W.keepIn K (.ref f13) = true)
    (a14 : PySem.W.nsIn K mainGlobals "is_taken" = some (some (.ref f14)))
    (l14 : K.lookup f14 = some ⟨oc14, od14, .func (PySem.W.fnOf "is_taken" "is_taken" (defArgs d_is_taken.st) (defBody d_is_taken.st) (defScope d_is_taken.st) .none kV14 dc14 pm14 an14 cd14 ct14), sl14⟩)
    (c14 : PySem.W.codeIn K cd14 "is_taken" = true) (k14 : PySem.W.keepIn K (.ref f14) = true)
    (a15 : PySem.W.nsIn K mainGlobals "stretched" = some (some (.ref f15)))
    (l15 : K.lookup f15 = some ⟨oc15, od15, .func (PySem.W.fnOf "stretched" "stretched" (defArgs d_stretched.st) (defBody d_stretched.st) (defScope d_stretched.st) .none kV15 dc15 pm15 an15 cd15 ct15), sl15⟩)
    (c15 : PySem.W.codeIn K cd15 "stretched" = true) (k15 : PySem.W.keepIn K (.ref f15) = true)
    (a16 : PySem.W.nsIn K mainGlobals "check_gap" = some (some (.ref f16)))
    (l16 : K.lookup f16 = some ⟨oc16, od16, .func (PySem.W.fnOf "check_gap" "check_gap" (defArgs d_check_gap.st) (defBody d_check_gap.st) (defScope d_check_gap.st) .none kV16 dc16 pm16 an16 cd16 ct16), sl16⟩)
    (c16 : PySem.W.codeIn K cd16 "check_gap" = true) (k16 : PySem.W.keepIn K (.ref f16) = true)
    (a17 : PySem.W.nsIn K mainGlobals "is_row" = some (some (.ref f17)))
    (l17 : K.lookup f17 = some ⟨oc17, od17, .func (PySem.W.fnOf "is_row" "is_row" (defArgs d_is_row.st) (defBody d_is_row.st) (defScope d_is_row.st) .none kV17 dc17 pm17 an17 cd17 ct17), sl17⟩)
    (c17 : PySem.W.codeIn K cd17 "is_row" = true) (k17 : PySem.W.keepIn K (.ref f17) = true)
    (a18 : PySem.W.nsIn K mainGlobals "wrong_slot" = some (some (.ref f18)))
    (l18 : K.lookup f18 = some ⟨oc18, od18, .func (PySem.W.fnOf "wrong_slot" "wrong_slot" (defArgs d_wrong_slot.st) (defBody d_wrong_slot.st) (defScope d_wrong_slot.st) .none kV18 dc18 pm18 an18 cd18 ct18), sl18⟩)
    (c18 : PySem.W.codeIn K cd18 "wrong_slot" = true) (k18 : PySem.W.keepIn K (.ref f18) = true)
    (a19 : PySem.W.nsIn K mainGlobals "meeting" = some (some (.ref f19)))
    (l19 : K.lookup f19 = some ⟨oc19, od19, .func (PySem.W.fnOf "meeting" "meeting" (defArgs d_meeting.st) (defBody d_meeting.st) (defScope d_meeting.st) .none kV19 dc19 pm19 an19 cd19 ct19), sl19⟩)
    (c19 : PySem.W.codeIn K cd19 "meeting" = true) (k19 : PySem.W.keepIn K (.ref f19) = true)
    (a20 : PySem.W.nsIn K mainGlobals "are_slots" = some (some (.ref f20)))
    (l20 : K.lookup f20 = some ⟨oc20, od20, .func (PySem.W.fnOf "are_slots" "are_slots" (defArgs d_are_slots.st) (defBody d_are_slots.st) (defScope d_are_slots.st) .none kV20 dc20 pm20 an20 cd20 ct20), sl20⟩)
    (c20 : PySem.W.codeIn K cd20 "are_slots" = true) (k20 : PySem.W.keepIn K (.ref f20) = true)
    (a21 : PySem.W.nsIn K mainGlobals "check_slots" = some (some (.ref f21)))
    (l21 : K.lookup f21 = some ⟨oc21, od21, .func (PySem.W.fnOf "check_slots" "check_slots" (defArgs d_check_slots.st) (defBody d_check_slots.st) (defScope d_check_slots.st) .none kV21 dc21 pm21 an21 cd21 ct21), sl21⟩)
    (c21 : PySem.W.codeIn K cd21 "check_slots" = true) (k21 : PySem.W.keepIn K (.ref f21) = true)
    (a22 : PySem.W.nsIn K mainGlobals "least_gap" = some (some (.ref f22)))
    (l22 : K.lookup f22 = some ⟨oc22, od22, .func (PySem.W.fnOf "least_gap" "least_gap" (defArgs d_least_gap.st) (defBody d_least_gap.st) (defScope d_least_gap.st) .none kV22 dc22 pm22 an22 cd22 ct22), sl22⟩)
    (c22 : PySem.W.codeIn K cd22 "least_gap" = true) (k22 : PySem.W.keepIn K (.ref f22) = true)
    (a23 : PySem.W.nsIn K mainGlobals "first_meeting" = some (some (.ref f23)))
    (l23 : K.lookup f23 = some ⟨oc23, od23, .func (PySem.W.fnOf "first_meeting" "first_meeting" (defArgs d_first_meeting.st) (defBody d_first_meeting.st) (defScope d_first_meeting.st) .none kV23 dc23 pm23 an23 cd23 ct23), sl23⟩)
    (c23 : PySem.W.codeIn K cd23 "first_meeting" = true) (k23 : PySem.W.keepIn K (.ref f23) = true)
    (a24 : PySem.W.nsIn K mainGlobals "is_clear" = some (some (.ref f24)))
    (l24 : K.lookup f24 = some ⟨oc24, od24, .func (PySem.W.fnOf "is_clear" "is_clear" (defArgs d_is_clear.st) (defBody d_is_clear.st) (defScope d_is_clear.st) .none kV24 dc24 pm24 an24 cd24 ct24), sl24⟩)
    (c24 : PySem.W.codeIn K cd24 "is_clear" = true) (k24 : PySem.W.keepIn K (.ref f24) = true)
    (a25 : PySem.W.nsIn K mainGlobals "teams_at" = some (some (.ref f25)))
    (l25 : K.lookup f25 = some ⟨oc25, od25, .func (PySem.W.fnOf "teams_at" "teams_at" (defArgs d_teams_at.st) (defBody d_teams_at.st) (defScope d_teams_at.st) .none kV25 dc25 pm25 an25 cd25 ct25), sl25⟩)
    (c25 : PySem.W.codeIn K cd25 "teams_at" = true) (k25 : PySem.W.keepIn K (.ref f25) = true)
    (a26 : PySem.W.nsIn K mainGlobals "_law_call" = some (some (.ref f26)))
    (l26 : K.lookup f26 = some ⟨oc26, od26, .func (PySem.W.fnOf "_law_call" "_law_call" (defArgs d_law_call.st) (defBody d_law_call.st) (defScope d_law_call.st) .none kV26 dc26 pm26 an26 cd26 ct26), sl26⟩)
    (c26 : PySem.W.codeIn K cd26 "_law_call" = true) (k26 : PySem.W.keepIn K (.ref f26) = true)
    (a27 : PySem.W.nsIn K mainGlobals "_law_told" = some (some (.ref f27)))
    (l27 : K.lookup f27 = some ⟨oc27, od27, .func (PySem.W.fnOf "_law_told" "_law_told" (defArgs d_law_told.st) (defBody d_law_told.st) (defScope d_law_told.st) .none kV27 dc27 pm27 an27 cd27 ct27), sl27⟩)
    (c27 : PySem.W.codeIn K cd27 "_law_told" = true) (k27 : PySem.W.keepIn K (.ref f27) = true)
    (a28 : PySem.W.nsIn K mainGlobals "is_rising" = some (some (.ref f28)))
    (l28 : K.lookup f28 = some ⟨oc28, od28, .func (PySem.W.fnOf "is_rising" "is_rising" (defArgs d_is_rising.st) (defBody d_is_rising.st) (defScope d_is_rising.st) .none kV28 dc28 pm28 an28 cd28 ct28), sl28⟩)
    (c28 : PySem.W.codeIn K cd28 "is_rising" = true) (k28 : PySem.W.keepIn K (.ref f28) = true)
    (a29 : PySem.W.nsIn K mainGlobals "good_tools" = some (some (.ref f29)))
    (l29 : K.lookup f29 = some ⟨oc29, od29, .func (PySem.W.fnOf "good_tools" "good_tools" (defArgs d_good_tools.st) (defBody d_good_tools.st) (defScope d_good_tools.st) .none kV29 dc29 pm29 an29 cd29 ct29), sl29⟩)
    (c29 : PySem.W.codeIn K cd29 "good_tools" = true) (k29 : PySem.W.keepIn K (.ref f29) = true)
    (a30 : PySem.W.nsIn K mainGlobals "are_numbers" = some (some (.ref f30)))
    (l30 : K.lookup f30 = some ⟨oc30, od30, .func (PySem.W.fnOf "are_numbers" "are_numbers" (defArgs d_are_numbers.st) (defBody d_are_numbers.st) (defScope d_are_numbers.st) .none kV30 dc30 pm30 an30 cd30 ct30), sl30⟩)
    (c30 : PySem.W.codeIn K cd30 "are_numbers" = true) (k30 : PySem.W.keepIn K (.ref f30) = true)
    (a31 : PySem.W.nsIn K mainGlobals "good_room" = some (some (.ref f31)))
    (l31 : K.lookup f31 = some ⟨oc31, od31, .func (PySem.W.fnOf "good_room" "good_room" (defArgs d_good_room.st) (defBody d_good_room.st) (defScope d_good_room.st) .none kV31 dc31 pm31 an31 cd31 ct31), sl31⟩)
    (c31 : PySem.W.codeIn K cd31 "good_room" = true) (k31 : PySem.W.keepIn K (.ref f31) = true)
    (a32 : PySem.W.nsIn K mainGlobals "check_rooms" = some (some (.ref f32)))
    (l32 : K.lookup f32 = some ⟨oc32, od32, .func (PySem.W.fnOf "check_rooms" "check_rooms" (defArgs d_check_rooms.st) (defBody d_check_rooms.st) (defScope d_check_rooms.st) .none kV32 dc32 pm32 an32 cd32 ct32), sl32⟩)
    (c32 : PySem.W.codeIn K cd32 "check_rooms" = true) (k32 : PySem.W.keepIn K (.ref f32) = true)
    (a33 : PySem.W.nsIn K mainGlobals "good_door" = some (some (.ref f33)))
    (l33 : K.lookup f33 = some ⟨oc33, od33, .func (PySem.W.fnOf "good_door" "good_door" (defArgs d_good_door.st) (defBody d_good_door.st) (defScope d_good_door.st) .none kV33 dc33 pm33 an33 cd33 ct33), sl33⟩)
    (c33 : PySem.W.codeIn K cd33 "good_door" = true) (k33 : PySem.W.keepIn K (.ref f33) = true)
    (a34 : PySem.W.nsIn K mainGlobals "check_doors" = some (some (.ref f34)))
    (l34 : K.lookup f34 = some ⟨oc34, od34, .func (PySem.W.fnOf "check_doors" "check_doors" (defArgs d_check_doors.st) (defBody d_check_doors.st) (defScope d_check_doors.st) .none kV34 dc34 pm34 an34 cd34 ct34), sl34⟩)
    (c34 : PySem.W.codeIn K cd34 "check_doors" = true) (k34 : PySem.W.keepIn K (.ref f34) = true)
    (a35 : PySem.W.nsIn K mainGlobals "copied_room" = some (some (.ref f35)))
    (l35 : K.lookup f35 = some ⟨oc35, od35, .func (PySem.W.fnOf "copied_room" "copied_room" (defArgs d_copied_room.st) (defBody d_copied_room.st) (defScope d_copied_room.st) .none kV35 dc35 pm35 an35 cd35 ct35), sl35⟩)
    (c35 : PySem.W.codeIn K cd35 "copied_room" = true) (k35 : PySem.W.keepIn K (.ref f35) = true)
    (a36 : PySem.W.nsIn K mainGlobals "copied_door" = some (some (.ref f36)))
    (l36 : K.lookup f36 = some ⟨oc36, od36, .func (PySem.W.fnOf "copied_door" "copied_door" (defArgs d_copied_door.st) (defBody d_copied_door.st) (defScope d_copied_door.st) .none kV36 dc36 pm36 an36 cd36 ct36), sl36⟩)
    (c36 : PySem.W.codeIn K cd36 "copied_door" = true) (k36 : PySem.W.keepIn K (.ref f36) = true)
    (a37 : PySem.W.findIn K (.ref A_House) "__init__" = some (some (.ref f37))) (i37 : PySem.W.isFn K (.ref f37) = true)
    (l37 : K.lookup f37 = some ⟨oc37, od37, .func (PySem.W.fnOf "__init__" "House.__init__" (defArgs d_House_init.st) (defBody d_House_init.st) (defScope d_House_init.st) .none kV37 dc37 pm37 an37 cd37 ct37), sl37⟩)
    (c37 : PySem.W.codeIn K cd37 "House.__init__" = true) (k37 : PySem.W.keepIn K (.ref f37) = true)
    (a38 : PySem.W.nsIn K mainGlobals "_law_made" = some (some (.ref f38)))
    (l38 : K.lookup f38 = some ⟨oc38, od38, .func (PySem.W.fnOf "_law_made" "_law_made" (defArgs d_law_made.st) (defBody d_law_made.st) (defScope d_law_made.st) .none kV38 dc38 pm38 an38 cd38 ct38), sl38⟩)
    (c38 : PySem.W.codeIn K cd38 "_law_made" = true) (k38 : PySem.W.keepIn K (.ref f38) = true)
    (a39 : PySem.W.nsIn K mainGlobals "door_of" = some (some (.ref f39)))
    (l39 : K.lookup f39 = some ⟨oc39, od39, .func (PySem.W.fnOf "door_of" "door_of" (defArgs d_door_of.st) (defBody d_door_of.st) (defScope d_door_of.st) .none kV39 dc39 pm39 an39 cd39 ct39), sl39⟩)
    (c39 : PySem.W.codeIn K cd39 "door_of" = true) (k39 : PySem.W.keepIn K (.ref f39) = true)
    (a40 : PySem.W.nsIn K mainGlobals "work_rooms" = some (some (.ref f40)))
    (l40 : K.lookup f40 = some ⟨oc40, od40, .func (PySem.W.fnOf "work_rooms" "work_rooms" (defArgs d_work_rooms.st) (defBody d_work_rooms.st) (defScope d_work_rooms.st) .none kV40 dc40 pm40 an40 cd40 ct40), sl40⟩)
    (c40 : PySem.W.codeIn K cd40 "work_rooms" = true) (k40 : PySem.W.keepIn K (.ref f40) = true)
    (a41 : PySem.W.nsIn K mainGlobals "_law_work" = some (some (.ref f41)))
    (l41 : K.lookup f41 = some ⟨oc41, od41, .func (PySem.W.fnOf "_law_work" "_law_work" (defArgs d_law_work.st) (defBody d_law_work.st) (defScope d_law_work.st) .none kV41 dc41 pm41 an41 cd41 ct41), sl41⟩)
    (c41 : PySem.W.codeIn K cd41 "_law_work" = true) (k41 : PySem.W.keepIn K (.ref f41) = true)
    (a42 : PySem.W.nsIn K mainGlobals "_law_work_right" = some (some (.ref f42)))
    (l42 : K.lookup f42 = some ⟨oc42, od42, .func (PySem.W.fnOf "_law_work_right" "_law_work_right" (defArgs d_law_work_right.st) (defBody d_law_work_right.st) (defScope d_law_work_right.st) .none kV42 dc42 pm42 an42 cd42 ct42), sl42⟩)
    (c42 : PySem.W.codeIn K cd42 "_law_work_right" = true) (k42 : PySem.W.keepIn K (.ref f42) = true)
    (a43 : PySem.W.nsIn K mainGlobals "_law_tools" = some (some (.ref f43)))
    (l43 : K.lookup f43 = some ⟨oc43, od43, .func (PySem.W.fnOf "_law_tools" "_law_tools" (defArgs d_law_tools.st) (defBody d_law_tools.st) (defScope d_law_tools.st) .none kV43 dc43 pm43 an43 cd43 ct43), sl43⟩)
    (c43 : PySem.W.codeIn K cd43 "_law_tools" = true) (k43 : PySem.W.keepIn K (.ref f43) = true)
    (a44 : PySem.W.nsIn K mainGlobals "_law_form" = some (some (.ref f44)))
    (l44 : K.lookup f44 = some ⟨oc44, od44, .func (PySem.W.fnOf "_law_form" "_law_form" (defArgs d_law_form.st) (defBody d_law_form.st) (defScope d_law_form.st) .none kV44 dc44 pm44 an44 cd44 ct44), sl44⟩)
    (c44 : PySem.W.codeIn K cd44 "_law_form" = true) (k44 : PySem.W.keepIn K (.ref f44) = true)
    (a45 : PySem.W.nsIn K mainGlobals "_law_room" = some (some (.ref f45)))
    (l45 : K.lookup f45 = some ⟨oc45, od45, .func (PySem.W.fnOf "_law_room" "_law_room" (defArgs d_law_room.st) (defBody d_law_room.st) (defScope d_law_room.st) .none kV45 dc45 pm45 an45 cd45 ct45), sl45⟩)
    (c45 : PySem.W.codeIn K cd45 "_law_room" = true) (k45 : PySem.W.keepIn K (.ref f45) = true)
    (a46 : PySem.W.nsIn K mainGlobals "_law_needs" = some (some (.ref f46)))
    (l46 : K.lookup f46 = some ⟨oc46, od46, .func (PySem.W.fnOf "_law_needs" "_law_needs" (defArgs d_law_needs.st) (defBody d_law_needs.st) (defScope d_law_needs.st) .none kV46 dc46 pm46 an46 cd46 ct46), sl46⟩)
    (c46 : PySem.W.codeIn K cd46 "_law_needs" = true) (k46 : PySem.W.keepIn K (.ref f46) = true)
    (a47 : PySem.W.nsIn K mainGlobals "_law_code" = some (some (.ref f47)))
    (l47 : K.lookup f47 = some ⟨oc47, od47, .func (PySem.W.fnOf "_law_code" "_law_code" (defArgs d_law_code.st) (defBody d_law_code.st) (defScope d_law_code.st) .none kV47 dc47 pm47 an47 cd47 ct47), sl47⟩)
    (c47 : PySem.W.codeIn K cd47 "_law_code" = true) (k47 : PySem.W.keepIn K (.ref f47) = true)
    (a48 : PySem.W.nsIn K mainGlobals "_law_door" = some (some (.ref f48)))
    (l48 : K.lookup f48 = some ⟨oc48, od48, .func (PySem.W.fnOf "_law_door" "_law_door" (defArgs d_law_door.st) (defBody d_law_door.st) (defScope d_law_door.st) .none kV48 dc48 pm48 an48 cd48 ct48), sl48⟩)
    (c48 : PySem.W.codeIn K cd48 "_law_door" = true) (k48 : PySem.W.keepIn K (.ref f48) = true)
    (a49 : PySem.W.nsIn K mainGlobals "_law_house" = some (some (.ref f49)))
    (l49 : K.lookup f49 = some ⟨oc49, od49, .func (PySem.W.fnOf "_law_house" "_law_house" (defArgs d_law_house.st) (defBody d_law_house.st) (defScope d_law_house.st) .none kV49 dc49 pm49 an49 cd49 ct49), sl49⟩)
    (c49 : PySem.W.codeIn K cd49 "_law_house" = true) (k49 : PySem.W.keepIn K (.ref f49) = true)
    (a50 : PySem.W.nsIn K mainGlobals "law" = some (some (.ref f50)))
    (l50 : K.lookup f50 = some ⟨oc50, od50, .func (PySem.W.fnOf "law" "law" (defArgs d_law.st) (defBody d_law.st) (defScope d_law.st) .none kV50 dc50 pm50 an50 cd50 ct50), sl50⟩)
    (c50 : PySem.W.codeIn K cd50 "law" = true) (k50 : PySem.W.keepIn K (.ref f50) = true)
    (z0 : PySem.W.nsIn K mainGlobals "abs" = some none)
    (z1 : PySem.W.nsIn K mainGlobals "bool" = some none)
    (z2 : PySem.W.nsIn K mainGlobals "int" = some none)
    (z3 : PySem.W.nsIn K mainGlobals "isinstance" = some none)
    (z4 : PySem.W.nsIn K mainGlobals "len" = some none)
    (z5 : PySem.W.nsIn K mainGlobals "list" = some none)
    (z6 : PySem.W.nsIn K mainGlobals "max" = some none)
    (z7 : PySem.W.nsIn K mainGlobals "range" = some none)
    (z8 : PySem.W.nsIn K mainGlobals "set" = some none)
    (z9 : PySem.W.nsIn K mainGlobals "sorted" = some none)
    (z10 : PySem.W.nsIn K mainGlobals "sum" = some none)
    (z11 : PySem.W.nsIn K mainGlobals "tuple" = some none)
    (y_MOST_STEPS : PySem.W.nsIn K mainGlobals "MOST_STEPS" = some (some (.int 60 u_MOST_STEPS)))
    (y_LAST_ROOM : PySem.W.nsIn K mainGlobals "LAST_ROOM" = some (some (.int 99 u_LAST_ROOM)))
    (y_MOST_GAP : PySem.W.nsIn K mainGlobals "MOST_GAP" = some (some (.int 10000 u_MOST_GAP)))
    (y_LAST_SLOT : PySem.W.nsIn K mainGlobals "LAST_SLOT" = some (some (.int 9999 u_LAST_SLOT)))
    (y_MOST_CLUES : PySem.W.nsIn K mainGlobals "MOST_CLUES" = some (some (.int 30 u_MOST_CLUES)))
    (y_PRIMES : PySem.W.nsIn K mainGlobals "PRIMES" = some (some (.ref u_PRIMES))) (r_PRIMES : K.lookup u_PRIMES = some o_PRIMES) (s_PRIMES : o_PRIMES.cls = .type "tuple" ∧ o_PRIMES.data = .seq i_PRIMES e_PRIMES ∧ MP.tupInts i_PRIMES.toList [2, 3, 5, 7, 11, 13, 17, 19, 23, 29, 31] = true ∧ i_PRIMES.size ≤ sizeLine)
    (y_MOST_ROOMS : PySem.W.nsIn K mainGlobals "MOST_ROOMS" = some (some (.int 24 u_MOST_ROOMS)))
    (y_MOST_DOORS : PySem.W.nsIn K mainGlobals "MOST_DOORS" = some (some (.int 36 u_MOST_DOORS)))
    (n_TooMany : PySem.W.nsIn K mainGlobals "TooMany" = some (some (.ref A_TooMany)))
    (n_NoDoor : PySem.W.nsIn K mainGlobals "NoDoor" = some (some (.ref A_NoDoor)))
    (n_BadRoute : PySem.W.nsIn K mainGlobals "BadRoute" = some (some (.ref A_BadRoute)))
    (n_TooTight : PySem.W.nsIn K mainGlobals "TooTight" = some (some (.ref A_TooTight)))
    (n_BadHouse : PySem.W.nsIn K mainGlobals "BadHouse" = some (some (.ref A_BadHouse)))
    (n_RiddleError : PySem.W.nsIn K mainGlobals "RiddleError" = some (some (.ref A_RiddleError)))
    (t_TooMany : SupTxt P K mg A_TooMany D_TooMany I_TooMany (xinit 4 0) ["limit"]) (x_TooMany : ExIs K A_TooMany)
    (t_NoDoor : SupTxt P K mg A_NoDoor D_NoDoor I_NoDoor (xinit 5 0) ["door"]) (x_NoDoor : ExIs K A_NoDoor)
    (t_BadRoute : SupTxt P K mg A_BadRoute D_BadRoute I_BadRoute (xinit 6 0) ["step"]) (x_BadRoute : ExIs K A_BadRoute)
    (t_TooTight : SupTxt P K mg A_TooTight D_TooTight I_TooTight (xinit 7 0) ["gap"]) (x_TooTight : ExIs K A_TooTight)
    (t_BadHouse : SupTxt P K mg A_BadHouse D_BadHouse I_BadHouse (xinit 3 0) ["part", "number"]) (x_BadHouse : ExIs K A_BadHouse)
    (p_TooMany_BadRoute : PySem.W.exmOne K (.ref A_TooMany) (.ref A_BadRoute) = some false) (q_TooMany_BadRoute : PySem.W.kitOne K (.ref A_TooMany) (.ref A_BadRoute) = some false)
    (p_TooMany_NoDoor : PySem.W.exmOne K (.ref A_TooMany) (.ref A_NoDoor) = some false) (q_TooMany_NoDoor : PySem.W.kitOne K (.ref A_TooMany) (.ref A_NoDoor) = some false)
    (p_TooMany_RiddleError : PySem.W.exmOne K (.ref A_TooMany) (.ref A_RiddleError) = some true) (q_TooMany_RiddleError : PySem.W.kitOne K (.ref A_TooMany) (.ref A_RiddleError) = some true)
    (p_TooMany_TooMany : PySem.W.exmOne K (.ref A_TooMany) (.ref A_TooMany) = some true) (q_TooMany_TooMany : PySem.W.kitOne K (.ref A_TooMany) (.ref A_TooMany) = some true)
    (p_TooMany_TooTight : PySem.W.exmOne K (.ref A_TooMany) (.ref A_TooTight) = some false) (q_TooMany_TooTight : PySem.W.kitOne K (.ref A_TooMany) (.ref A_TooTight) = some false)
    (p_NoDoor_BadRoute : PySem.W.exmOne K (.ref A_NoDoor) (.ref A_BadRoute) = some false) (q_NoDoor_BadRoute : PySem.W.kitOne K (.ref A_NoDoor) (.ref A_BadRoute) = some false)
    (p_NoDoor_NoDoor : PySem.W.exmOne K (.ref A_NoDoor) (.ref A_NoDoor) = some true) (q_NoDoor_NoDoor : PySem.W.kitOne K (.ref A_NoDoor) (.ref A_NoDoor) = some true)
    (p_NoDoor_RiddleError : PySem.W.exmOne K (.ref A_NoDoor) (.ref A_RiddleError) = some true) (q_NoDoor_RiddleError : PySem.W.kitOne K (.ref A_NoDoor) (.ref A_RiddleError) = some true)
    (p_NoDoor_TooMany : PySem.W.exmOne K (.ref A_NoDoor) (.ref A_TooMany) = some false) (q_NoDoor_TooMany : PySem.W.kitOne K (.ref A_NoDoor) (.ref A_TooMany) = some false)
    (p_NoDoor_TooTight : PySem.W.exmOne K (.ref A_NoDoor) (.ref A_TooTight) = some false) (q_NoDoor_TooTight : PySem.W.kitOne K (.ref A_NoDoor) (.ref A_TooTight) = some false)
    (p_BadRoute_BadRoute : PySem.W.exmOne K (.ref A_BadRoute) (.ref A_BadRoute) = some true) (q_BadRoute_BadRoute : PySem.W.kitOne K (.ref A_BadRoute) (.ref A_BadRoute) = some true)
    (p_BadRoute_NoDoor : PySem.W.exmOne K (.ref A_BadRoute) (.ref A_NoDoor) = some false) (q_BadRoute_NoDoor : PySem.W.kitOne K (.ref A_BadRoute) (.ref A_NoDoor) = some false)
    (p_BadRoute_RiddleError : PySem.W.exmOne K (.ref A_BadRoute) (.ref A_RiddleError) = some true) (q_BadRoute_RiddleError : PySem.W.kitOne K (.ref A_BadRoute) (.ref A_RiddleError) = some true)
    (p_BadRoute_TooMany : PySem.W.exmOne K (.ref A_BadRoute) (.ref A_TooMany) = some false) (q_BadRoute_TooMany : PySem.W.kitOne K (.ref A_BadRoute) (.ref A_TooMany) = some false)
    (p_BadRoute_TooTight : PySem.W.exmOne K (.ref A_BadRoute) (.ref A_TooTight) = some false) (q_BadRoute_TooTight : PySem.W.kitOne K (.ref A_BadRoute) (.ref A_TooTight) = some false)
    (p_TooTight_BadRoute : PySem.W.exmOne K (.ref A_TooTight) (.ref A_BadRoute) = some false) (q_TooTight_BadRoute : PySem.W.kitOne K (.ref A_TooTight) (.ref A_BadRoute) = some false)
    (p_TooTight_NoDoor : PySem.W.exmOne K (.ref A_TooTight) (.ref A_NoDoor) = some false) (q_TooTight_NoDoor : PySem.W.kitOne K (.ref A_TooTight) (.ref A_NoDoor) = some false)
    (p_TooTight_RiddleError : PySem.W.exmOne K (.ref A_TooTight) (.ref A_RiddleError) = some true) (q_TooTight_RiddleError : PySem.W.kitOne K (.ref A_TooTight) (.ref A_RiddleError) = some true)
    (p_TooTight_TooMany : PySem.W.exmOne K (.ref A_TooTight) (.ref A_TooMany) = some false) (q_TooTight_TooMany : PySem.W.kitOne K (.ref A_TooTight) (.ref A_TooMany) = some false)
    (p_TooTight_TooTight : PySem.W.exmOne K (.ref A_TooTight) (.ref A_TooTight) = some true) (q_TooTight_TooTight : PySem.W.kitOne K (.ref A_TooTight) (.ref A_TooTight) = some true)
    (p_BadHouse_BadRoute : PySem.W.exmOne K (.ref A_BadHouse) (.ref A_BadRoute) = some false) (q_BadHouse_BadRoute : PySem.W.kitOne K (.ref A_BadHouse) (.ref A_BadRoute) = some false)
    (p_BadHouse_NoDoor : PySem.W.exmOne K (.ref A_BadHouse) (.ref A_NoDoor) = some false) (q_BadHouse_NoDoor : PySem.W.kitOne K (.ref A_BadHouse) (.ref A_NoDoor) = some false)
    (p_BadHouse_RiddleError : PySem.W.exmOne K (.ref A_BadHouse) (.ref A_RiddleError) = some true) (q_BadHouse_RiddleError : PySem.W.kitOne K (.ref A_BadHouse) (.ref A_RiddleError) = some true)
    (p_BadHouse_TooMany : PySem.W.exmOne K (.ref A_BadHouse) (.ref A_TooMany) = some false) (q_BadHouse_TooMany : PySem.W.kitOne K (.ref A_BadHouse) (.ref A_TooMany) = some false)
    (p_BadHouse_TooTight : PySem.W.exmOne K (.ref A_BadHouse) (.ref A_TooTight) = some false) (q_BadHouse_TooTight : PySem.W.kitOne K (.ref A_BadHouse) (.ref A_TooTight) = some false)
    : ∃ fd : FuncData, (∀ (s : Shared) (u : Value), BindsTo s fd ⟨[u], []⟩ [("script", u)]) ∧ ∀ base : Heap, K.In base → base.Ns mainGlobals mg → FnOk P w K mg base (L2.CX P w) 201 fa fd [("script" : Str)] (MP.spLaw K) := by
  have e := hfa.symm.trans (PySem.W.mg_of X G a50)
  cases e
  have s0 : Stands K mg d_law_source := MP.stand_mk X G d_law_source a0 l0 c0 k0 rfl rfl fun _ _ _ _ _ _ us hl => match us, hl with | [_, _], _ => rfl
  have s1 : Stands K mg d_law_draw := MP.stand_mk X G d_law_draw a1 l1 c1 k1 rfl rfl fun _ _ _ _ _ _ us hl => match us, hl with | [_, _], _ => rfl
  have s2 : Stands K mg d_law_route := MP.stand_mk X G d_law_route a2 l2 c2 k2 rfl rfl fun _ _ _ _ _ _ us hl => match us, hl with | [_], _ => rfl
  have s3 : Stands K mg d_law_slots := MP.stand_mk X G d_law_slots a3 l3 c3 k3 rfl rfl fun _ _ _ _ _ _ us hl => match us, hl with | [_, _], _ => rfl
  have s4 : Stands K mg d_law_is_integer := MP.stand_mk X G d_law_is_integer a4 l4 c4 k4 rfl rfl fun _ _ _ _ _ _ us hl => match us, hl with | [_], _ => rfl
  have s5 : Stands K mg d_law_rooms_fault := MP.stand_mk X G d_law_rooms_fault a5 l5 c5 k5 rfl rfl fun _ _ _ _ _ _ us hl => match us, hl with | [_], _ => rfl
  have s6 : Stands K mg d_law_gap_fault := MP.stand_mk X G d_law_gap_fault a6 l6 c6 k6 rfl rfl fun _ _ _ _ _ _ us hl => match us, hl with | [_, _], _ => rfl
  have s7 : Stands K mg d_law_slots_fault := MP.stand_mk X G d_law_slots_fault a7 l7 c7 k7 rfl rfl fun _ _ _ _ _ _ us hl => match us, hl with | [_, _], _ => rfl
  have s8 : Stands K mg d_law_first := MP.stand_mk X G d_law_first a8 l8 c8 k8 rfl rfl fun _ _ _ _ _ _ us hl => match us, hl with | [_], _ => rfl
  have s9 : Stands K mg d_law_due := MP.stand_mk X G d_law_due a9 l9 c9 k9 rfl rfl fun _ _ _ _ _ _ us hl => match us, hl with | [_, _, _, _], _ => rfl
  have s10 : Stands K mg d_is_whole := MP.stand_mk X G d_is_whole a10 l10 c10 k10 rfl rfl fun _ _ _ _ _ _ us hl => match us, hl with | [_], _ => rfl
  have s11 : Stands K mg d_is_between := MP.stand_mk X G d_is_between a11 l11 c11 k11 rfl rfl fun _ _ _ _ _ _ us hl => match us, hl with | [_, _, _], _ => rfl
  have s12 : Stands K mg d_check_route := MP.stand_mk X G d_check_route a12 l12 c12 k12 rfl rfl fun _ _ _ _ _ _ us hl => match us, hl with | [_], _ => rfl
  have s13 : Stands K mg d_busiest := MP.stand_mk X G d_busiest a13 l13 c13 k13 rfl rfl fun _ _ _ _ _ _ us hl => match us, hl with | [_], _ => rfl
  have s14 : Stands K mg d_is_taken := MP.stand_mk X G d_is_taken a14 l14 c14 k14 rfl rfl fun _ _ _ _ _ _ us hl => match us, hl with | [_, _, _, _], _ => rfl
  have s15 : Stands K mg d_stretched := MP.stand_mk X G d_stretched a15 l15 c15 k15 rfl rfl fun _ _ _ _ _ _ us hl => match us, hl with | [_, _], _ => rfl
  have s16 : Stands K mg d_check_gap := MP.stand_mk X G d_check_gap a16 l16 c16 k16 rfl rfl fun _ _ _ _ _ _ us hl => match us, hl with | [_], _ => rfl
  have s17 : Stands K mg d_is_row := MP.stand_mk X G d_is_row a17 l17 c17 k17 rfl rfl fun _ _ _ _ _ _ us hl => match us, hl with | [_], _ => rfl
  have s18 : Stands K mg d_wrong_slot := MP.stand_mk X G d_wrong_slot a18 l18 c18 k18 rfl rfl fun _ _ _ _ _ _ us hl => match us, hl with | [_, _], _ => rfl
  have s19 : Stands K mg d_meeting := MP.stand_mk X G d_meeting a19 l19 c19 k19 rfl rfl fun _ _ _ _ _ _ us hl => match us, hl with | [_, _, _], _ => rfl
  have s20 : Stands K mg d_are_slots := MP.stand_mk X G d_are_slots a20 l20 c20 k20 rfl rfl fun _ _ _ _ _ _ us hl => match us, hl with | [_, _, _], _ => rfl
  have s21 : Stands K mg d_check_slots := MP.stand_mk X G d_check_slots a21 l21 c21 k21 rfl rfl fun _ _ _ _ _ _ us hl => match us, hl with | [_, _], _ => rfl
  have s22 : Stands K mg d_least_gap := MP.stand_mk X G d_least_gap a22 l22 c22 k22 rfl rfl fun _ _ _ _ _ _ us hl => match us, hl with | [_, _], _ => rfl
  have s23 : Stands K mg d_first_meeting := MP.stand_mk X G d_first_meeting a23 l23 c23 k23 rfl rfl fun _ _ _ _ _ _ us hl => match us, hl with | [_, _, _], _ => rfl
  have s24 : Stands K mg d_is_clear := MP.stand_mk X G d_is_clear a24 l24 c24 k24 rfl rfl fun _ _ _ _ _ _ us hl => match us, hl with | [_, _, _], _ => rfl
  have s25 : Stands K mg d_teams_at := MP.stand_mk X G d_teams_at a25 l25 c25 k25 rfl rfl fun _ _ _ _ _ _ us hl => match us, hl with | [_, _, _, _], _ => rfl
  have s26 : Stands K mg d_law_call := MP.stand_mk X G d_law_call a26 l26 c26 k26 rfl rfl fun _ _ _ _ _ _ us hl => match us, hl with | [_, _, _, _, _], _ => rfl
  have s27 : Stands K mg d_law_told := MP.stand_mk X G d_law_told a27 l27 c27 k27 rfl rfl fun _ _ _ _ _ _ us hl => match us, hl with | [_, _, _, _, _], _ => rfl
  have s28 : Stands K mg d_is_rising := MP.stand_mk X G d_is_rising a28 l28 c28 k28 rfl rfl fun _ _ _ _ _ _ us hl => match us, hl with | [_], _ => rfl
  have s29 : Stands K mg d_good_tools := MP.stand_mk X G d_good_tools a29 l29 c29 k29 rfl rfl fun _ _ _ _ _ _ us hl => match us, hl with | [_], _ => rfl
  have s30 : Stands K mg d_are_numbers := MP.stand_mk X G d_are_numbers a30 l30 c30 k30 rfl rfl fun _ _ _ _ _ _ us hl => match us, hl with | [_, _, _, _], _ => rfl
  have s31 : Stands K mg d_good_room := MP.stand_mk X G d_good_room a31 l31 c31 k31 rfl rfl fun _ _ _ _ _ _ us hl => match us, hl with | [_, _, _], _ => rfl
  have s32 : Stands K mg d_check_rooms := MP.stand_mk X G d_check_rooms a32 l32 c32 k32 rfl rfl fun _ _ _ _ _ _ us hl => match us, hl with | [_, _, _], _ => rfl
  have s33 : Stands K mg d_good_door := MP.stand_mk X G d_good_door a33 l33 c33 k33 rfl rfl fun _ _ _ _ _ _ us hl => match us, hl with | [_, _, _, _], _ => rfl
  have s34 : Stands K mg d_check_doors := MP.stand_mk X G d_check_doors a34 l34 c34 k34 rfl rfl fun _ _ _ _ _ _ us hl => match us, hl with | [_, _, _, _], _ => rfl
  have s35 : Stands K mg d_copied_room := MP.stand_mk X G d_copied_room a35 l35 c35 k35 rfl rfl fun _ _ _ _ _ _ us hl => match us, hl with | [_], _ => rfl
  have s36 : Stands K mg d_copied_door := MP.stand_mk X G d_copied_door a36 l36 c36 k36 rfl rfl fun _ _ _ _ _ _ us hl => match us, hl with | [_], _ => rfl
  have s37 : Stands K mg d_House_init := MP.stand_in X G d_House_init rfl rfl n_House ⟨u_House, v_House, w_House, h_House⟩ ⟨mk_House, a37, i37, kp_House⟩ l37 c37 k37 fun _ _ _ _ _ _ us hl => match us, hl with | [_, _, _, _, _, _], _ => rfl
  have s38 : Stands K mg d_law_made := MP.stand_mk X G d_law_made a38 l38 c38 k38 rfl rfl fun _ _ _ _ _ _ us hl => match us, hl with | [_], _ => rfl
  have s39 : Stands K mg d_door_of := MP.stand_mk X G d_door_of a39 l39 c39 k39 rfl rfl fun _ _ _ _ _ _ us hl => match us, hl with | [_, _], _ => rfl
  have s40 : Stands K mg d_work_rooms := MP.stand_mk X G d_work_rooms a40 l40 c40 k40 rfl rfl fun _ _ _ _ _ _ us hl => match us, hl with | [_, _], _ => rfl
  have s41 : Stands K mg d_law_work := MP.stand_mk X G d_law_work a41 l41 c41 k41 rfl rfl fun _ _ _ _ _ _ us hl => match us, hl with | [_, _], _ => rfl
  have s42 : Stands K mg d_law_work_right := MP.stand_mk X G d_law_work_right a42 l42 c42 k42 rfl rfl fun _ _ _ _ _ _ us hl => match us, hl with | [_, _], _ => rfl
  have s43 : Stands K mg d_law_tools := MP.stand_mk X G d_law_tools a43 l43 c43 k43 rfl rfl fun _ _ _ _ _ _ us hl => match us, hl with | [_, _], _ => rfl
  have s44 : Stands K mg d_law_form := MP.stand_mk X G d_law_form a44 l44 c44 k44 rfl rfl fun _ _ _ _ _ _ us hl => match us, hl with | [_, _, _], _ => rfl
  have s45 : Stands K mg d_law_room := MP.stand_mk X G d_law_room a45 l45 c45 k45 rfl rfl fun _ _ _ _ _ _ us hl => match us, hl with | [_, _, _, _, _], _ => rfl
  have s46 : Stands K mg d_law_needs := MP.stand_mk X G d_law_needs a46 l46 c46 k46 rfl rfl fun _ _ _ _ _ _ us hl => match us, hl with | [_, _, _], _ => rfl
  have s47 : Stands K mg d_law_code := MP.stand_mk X G d_law_code a47 l47 c47 k47 rfl rfl fun _ _ _ _ _ _ us hl => match us, hl with | [_, _, _, _], _ => rfl
  have s48 : Stands K mg d_law_door := MP.stand_mk X G d_law_door a48 l48 c48 k48 rfl rfl fun _ _ _ _ _ _ us hl => match us, hl with | [_, _, _, _, _, _], _ => rfl
  have s49 : Stands K mg d_law_house := MP.stand_mk X G d_law_house a49 l49 c49 k49 rfl rfl fun _ _ _ _ _ _ us hl => match us, hl with | [_, _, _, _, _, _], _ => rfl
  have s50 : Stands K mg d_law := MP.stand_mk X G d_law a50 l50 c50 k50 rfl rfl fun _ _ _ _ _ _ us hl => match us, hl with | [_], _ => rfl
  have m_TooMany := PySem.W.mg_of X G n_TooMany
  have m_NoDoor := PySem.W.mg_of X G n_NoDoor
  have m_BadRoute := PySem.W.mg_of X G n_BadRoute
  have m_TooTight := PySem.W.mg_of X G n_TooTight
  have m_BadHouse := PySem.W.mg_of X G n_BadHouse
  have m_RiddleError := PySem.W.mg_of X G n_RiddleError
  have p : Prg P ⟨K, mg, fun c => xn.lookup c, false, 0, .none, none, none, [], 0⟩ (fun d => d ∈ tab) bs xn sub := by
    refine ⟨chk_all, call_all, hcall_all, ?_, ?_, new_all, met_all, ?_, ?_, rfl, ?_⟩
    · intro d hd
      simp only [tab, List.mem_cons, List.not_mem_nil, or_false] at hd
      rcases hd with rfl | rfl | rfl | rfl | rfl | rfl | rfl | rfl | rfl | rfl | rfl | rfl | rfl | rfl | rfl | rfl | rfl | rfl | rfl | rfl | rfl | rfl | rfl | rfl | rfl | rfl | rfl | rfl | rfl | rfl | rfl | rfl | rfl | rfl | rfl | rfl | rfl | rfl | rfl | rfl | rfl | rfl | rfl | rfl | rfl | rfl | rfl | rfl | rfl | rfl | rfl
      · exact s0
      · exact s1
      · exact s2
      · exact s3
      · exact s4
      · exact s5
      · exact s6
      · exact s7
      · exact s8
      · exact s9
      · exact s10
      · exact s11
      · exact s12
      · exact s13
      · exact s14
      · exact s15
      · exact s16
      · exact s17
      · exact s18
      · exact s19
      · exact s20
      · exact s21
      · exact s22
      · exact s23
      · exact s24
      · exact s25
      · exact s26
      · exact s27
      · exact s28
      · exact s29
      · exact s30
      · exact s31
      · exact s32
      · exact s33
      · exact s34
      · exact s35
      · exact s36
      · exact s37
      · exact s38
      · exact s39
      · exact s40
      · exact s41
      · exact s42
      · exact s43
      · exact s44
      · exact s45
      · exact s46
      · exact s47
      · exact s48
      · exact s49
      · exact s50
    · intro d hd c l hc
      rcases cs_all d hd with e | e
      · rw [e] at hc
        have hc2 := PySem.mem_of_lookup hc
        simp only [cs, List.mem_cons, List.not_mem_nil, or_false, Prod.mk.injEq] at hc2
        rcases hc2 with ⟨rfl, rfl⟩
        · refine ⟨A_House, PySem.W.mg_of X G n_House, ⟨u_House, v_House, w_House, h_House⟩, fun f hf => ?_⟩
          simp only [List.mem_cons, List.not_mem_nil, or_false] at hf
          rcases hf with rfl | rfl | rfl | rfl | rfl
          · exact j_House_prime
          · exact j_House_size
          · exact j_House_rooms
          · exact j_House_doors
          · exact j_House_last
      · rw [e] at hc; cases hc
    · intro d hd
      simp only [tab, List.mem_cons, List.not_mem_nil, or_false] at hd
      rcases hd with rfl | rfl | rfl | rfl | rfl | rfl | rfl | rfl | rfl | rfl | rfl | rfl | rfl | rfl | rfl | rfl | rfl | rfl | rfl | rfl | rfl | rfl | rfl | rfl | rfl | rfl | rfl | rfl | rfl | rfl | rfl | rfl | rfl | rfl | rfl | rfl | rfl | rfl | rfl | rfl | rfl | rfl | rfl | rfl | rfl | rfl | rfl | rfl | rfl | rfl | rfl
      · intro x v e; cases e
      · intro x v e; cases e
      · intro x v e; cases e
      · intro x v e; cases e
      · intro x v e; cases e
      · intro x v e; cases e
      · intro x v e; cases e
      · intro x v e; cases e
      · intro x v e; cases e
      · intro x v e; cases e
      · intro x v e; cases e
      · intro x v e; cases e
      · refine MP.lk_all (l := ([("MOST_STEPS", Val.int 60), ("LAST_ROOM", Val.int 99)] : List (Str × Val))) ?_
        intro x v hx
        simp only [List.mem_cons, List.not_mem_nil, or_false, Prod.mk.injEq] at hx
        rcases hx with ⟨rfl, rfl⟩ | ⟨rfl, rfl⟩
        · exact MP.gl_int (PySem.W.mg_of X G y_MOST_STEPS)
        · exact MP.gl_int (PySem.W.mg_of X G y_LAST_ROOM)
      · intro x v e; cases e
      · intro x v e; cases e
      · refine MP.lk_all (l := ([("MOST_GAP", Val.int 10000)] : List (Str × Val))) ?_
        intro x v hx
        simp only [List.mem_cons, List.not_mem_nil, or_false, Prod.mk.injEq] at hx
        rcases hx with ⟨rfl, rfl⟩
        · exact MP.gl_int (PySem.W.mg_of X G y_MOST_GAP)
      · refine MP.lk_all (l := ([("MOST_GAP", Val.int 10000)] : List (Str × Val))) ?_
        intro x v hx
        simp only [List.mem_cons, List.not_mem_nil, or_false, Prod.mk.injEq] at hx
        rcases hx with ⟨rfl, rfl⟩
        · exact MP.gl_int (PySem.W.mg_of X G y_MOST_GAP)
      · intro x v e; cases e
      · refine MP.lk_all (l := ([("LAST_SLOT", Val.int 9999)] : List (Str × Val))) ?_
        intro x v hx
        simp only [List.mem_cons, List.not_mem_nil, or_false, Prod.mk.injEq] at hx
        rcases hx with ⟨rfl, rfl⟩
        · exact MP.gl_int (PySem.W.mg_of X G y_LAST_SLOT)
      · intro x v e; cases e
      · intro x v e; cases e
      · intro x v e; cases e
      · intro x v e; cases e
      · intro x v e; cases e
      · intro x v e; cases e
      · intro x v e; cases e
      · intro x v e; cases e
      · intro x v e; cases e
      · intro x v e; cases e
      · intro x v e; cases e
      · intro x v e; cases e
      · intro x v e; cases e
      · refine MP.lk_all (l := ([("MOST_CLUES", Val.int 30)] : List (Str × Val))) ?_
        intro x v hx
        simp only [List.mem_cons, List.not_mem_nil, or_false, Prod.mk.injEq] at hx
        rcases hx with ⟨rfl, rfl⟩
        · exact MP.gl_int (PySem.W.mg_of X G y_MOST_CLUES)
      · intro x v e; cases e
      · intro x v e; cases e
      · intro x v e; cases e
      · intro x v e; cases e
      · refine MP.lk_all (l := ([("PRIMES", Val.tup [Val.int 2, Val.int 3, Val.int 5, Val.int 7, Val.int 11, Val.int 13, Val.int 17, Val.int 19, Val.int 23, Val.int 29, Val.int 31]), ("MOST_ROOMS", Val.int 24), ("MOST_DOORS", Val.int 36)] : List (Str × Val))) ?_
        intro x v hx
        simp only [List.mem_cons, List.not_mem_nil, or_false, Prod.mk.injEq] at hx
        rcases hx with ⟨rfl, rfl⟩ | ⟨rfl, rfl⟩ | ⟨rfl, rfl⟩
        · exact MP.gl_tup (PySem.W.mg_of X G y_PRIMES) r_PRIMES s_PRIMES
        · exact MP.gl_int (PySem.W.mg_of X G y_MOST_ROOMS)
        · exact MP.gl_int (PySem.W.mg_of X G y_MOST_DOORS)
      · intro x v e; cases e
      · intro x v e; cases e
      · intro x v e; cases e
      · intro x v e; cases e
      · intro x v e; cases e
      · intro x v e; cases e
      · intro x v e; cases e
      · intro x v e; cases e
      · intro x v e; cases e
      · intro x v e; cases e
      · intro x v e; cases e
      · intro x v e; cases e
      · intro x v e; cases e
    · intro x hx
      simp only [bs, List.mem_cons, List.not_mem_nil, or_false] at hx
      rcases hx with rfl | rfl | rfl | rfl | rfl | rfl | rfl | rfl | rfl | rfl | rfl | rfl
      · exact PySem.W.mg_none_of X G z0
      · exact PySem.W.mg_none_of X G z1
      · exact PySem.W.mg_none_of X G z2
      · exact PySem.W.mg_none_of X G z3
      · exact PySem.W.mg_none_of X G z4
      · exact PySem.W.mg_none_of X G z5
      · exact PySem.W.mg_none_of X G z6
      · exact PySem.W.mg_none_of X G z7
      · exact PySem.W.mg_none_of X G z8
      · exact PySem.W.mg_none_of X G z9
      · exact PySem.W.mg_none_of X G z10
      · exact PySem.W.mg_none_of X G z11
    · refine MP.xt_mk (hX := rfl) ?_ ?_
      · intro c ns hc
        simp only [xn, List.mem_cons, List.not_mem_nil, or_false, Prod.mk.injEq] at hc
        rcases hc with ⟨rfl, rfl⟩ | ⟨rfl, rfl⟩ | ⟨rfl, rfl⟩ | ⟨rfl, rfl⟩ | ⟨rfl, rfl⟩
        · exact ⟨_, _, _, _, m_TooMany, t_TooMany, by decide, x_TooMany⟩
        · exact ⟨_, _, _, _, m_NoDoor, t_NoDoor, by decide, x_NoDoor⟩
        · exact ⟨_, _, _, _, m_BadRoute, t_BadRoute, by decide, x_BadRoute⟩
        · exact ⟨_, _, _, _, m_TooTight, t_TooTight, by decide, x_TooTight⟩
        · exact ⟨_, _, _, _, m_BadHouse, t_BadHouse, by decide, x_BadHouse⟩
      · intro y D hD
        simp only [sub, List.mem_cons, List.not_mem_nil, or_false, Prod.mk.injEq] at hD
        rcases hD with ⟨rfl, rfl⟩ | ⟨rfl, rfl⟩ | ⟨rfl, rfl⟩ | ⟨rfl, rfl⟩ | ⟨rfl, rfl⟩
        · refine ⟨.ref A_BadRoute, .ref A_BadRoute, .own _, rfl, .inl m_BadRoute, fun c ns cls hc hm => ?_⟩
          simp only [xn, List.mem_cons, List.not_mem_nil, or_false, Prod.mk.injEq] at hc
          rcases hc with ⟨rfl, rfl⟩ | ⟨rfl, rfl⟩ | ⟨rfl, rfl⟩ | ⟨rfl, rfl⟩ | ⟨rfl, rfl⟩
          · cases m_TooMany.symm.trans hm; exact ⟨p_TooMany_BadRoute, q_TooMany_BadRoute⟩
          · cases m_NoDoor.symm.trans hm; exact ⟨p_NoDoor_BadRoute, q_NoDoor_BadRoute⟩
          · cases m_BadRoute.symm.trans hm; exact ⟨p_BadRoute_BadRoute, q_BadRoute_BadRoute⟩
          · cases m_TooTight.symm.trans hm; exact ⟨p_TooTight_BadRoute, q_TooTight_BadRoute⟩
          · cases m_BadHouse.symm.trans hm; exact ⟨p_BadHouse_BadRoute, q_BadHouse_BadRoute⟩
        · refine ⟨.ref A_NoDoor, .ref A_NoDoor, .own _, rfl, .inl m_NoDoor, fun c ns cls hc hm => ?_⟩
          simp only [xn, List.mem_cons, List.not_mem_nil, or_false, Prod.mk.injEq] at hc
          rcases hc with ⟨rfl, rfl⟩ | ⟨rfl, rfl⟩ | ⟨rfl, rfl⟩ | ⟨rfl, rfl⟩ | ⟨rfl, rfl⟩
          · cases m_TooMany.symm.trans hm; exact ⟨p_TooMany_NoDoor, q_TooMany_NoDoor⟩
          · cases m_NoDoor.symm.trans hm; exact ⟨p_NoDoor_NoDoor, q_NoDoor_NoDoor⟩
          · cases m_BadRoute.symm.trans hm; exact ⟨p_BadRoute_NoDoor, q_BadRoute_NoDoor⟩
          · cases m_TooTight.symm.trans hm; exact ⟨p_TooTight_NoDoor, q_TooTight_NoDoor⟩
          · cases m_BadHouse.symm.trans hm; exact ⟨p_BadHouse_NoDoor, q_BadHouse_NoDoor⟩
        · refine ⟨.ref A_RiddleError, .ref A_RiddleError, .own _, rfl, .inl m_RiddleError, fun c ns cls hc hm => ?_⟩
          simp only [xn, List.mem_cons, List.not_mem_nil, or_false, Prod.mk.injEq] at hc
          rcases hc with ⟨rfl, rfl⟩ | ⟨rfl, rfl⟩ | ⟨rfl, rfl⟩ | ⟨rfl, rfl⟩ | ⟨rfl, rfl⟩
          · cases m_TooMany.symm.trans hm; exact ⟨p_TooMany_RiddleError, q_TooMany_RiddleError⟩
          · cases m_NoDoor.symm.trans hm; exact ⟨p_NoDoor_RiddleError, q_NoDoor_RiddleError⟩
          · cases m_BadRoute.symm.trans hm; exact ⟨p_BadRoute_RiddleError, q_BadRoute_RiddleError⟩
          · cases m_TooTight.symm.trans hm; exact ⟨p_TooTight_RiddleError, q_TooTight_RiddleError⟩
          · cases m_BadHouse.symm.trans hm; exact ⟨p_BadHouse_RiddleError, q_BadHouse_RiddleError⟩
        · refine ⟨.ref A_TooMany, .ref A_TooMany, .own _, rfl, .inl m_TooMany, fun c ns cls hc hm => ?_⟩
          simp only [xn, List.mem_cons, List.not_mem_nil, or_false, Prod.mk.injEq] at hc
          rcases hc with ⟨rfl, rfl⟩ | ⟨rfl, rfl⟩ | ⟨rfl, rfl⟩ | ⟨rfl, rfl⟩ | ⟨rfl, rfl⟩
          · cases m_TooMany.symm.trans hm; exact ⟨p_TooMany_TooMany, q_TooMany_TooMany⟩
          · cases m_NoDoor.symm.trans hm; exact ⟨p_NoDoor_TooMany, q_NoDoor_TooMany⟩
          · cases m_BadRoute.symm.trans hm; exact ⟨p_BadRoute_TooMany, q_BadRoute_TooMany⟩
          · cases m_TooTight.symm.trans hm; exact ⟨p_TooTight_TooMany, q_TooTight_TooMany⟩
          · cases m_BadHouse.symm.trans hm; exact ⟨p_BadHouse_TooMany, q_BadHouse_TooMany⟩
        · refine ⟨.ref A_TooTight, .ref A_TooTight, .own _, rfl, .inl m_TooTight, fun c ns cls hc hm => ?_⟩
          simp only [xn, List.mem_cons, List.not_mem_nil, or_false, Prod.mk.injEq] at hc
          rcases hc with ⟨rfl, rfl⟩ | ⟨rfl, rfl⟩ | ⟨rfl, rfl⟩ | ⟨rfl, rfl⟩ | ⟨rfl, rfl⟩
          · cases m_TooMany.symm.trans hm; exact ⟨p_TooMany_TooTight, q_TooMany_TooTight⟩
          · cases m_NoDoor.symm.trans hm; exact ⟨p_NoDoor_TooTight, q_NoDoor_TooTight⟩
          · cases m_BadRoute.symm.trans hm; exact ⟨p_BadRoute_TooTight, q_BadRoute_TooTight⟩
          · cases m_TooTight.symm.trans hm; exact ⟨p_TooTight_TooTight, q_TooTight_TooTight⟩
          · cases m_BadHouse.symm.trans hm; exact ⟨p_BadHouse_TooTight, q_BadHouse_TooTight⟩
  have F := fun_mk (x := "law") (qual := "law") (st := d_law.st) l50 c50 k50
  exact ⟨_, fun s v => .of_eq rfl, fun base _ _ => MP.law_fn p (d := d_law) in_law (by decide) rfl law_true F⟩
end LawMP
open PySem PySem.W PyProof.Rows in
set_option maxRecDepth 100000 in
set_option maxHeartbeats 0 in
theorem PySem.Challenge.cw_lastdoor_k67_refusals_of_routes_holds : PySem.Challenge.rw_lastdoor_k67_refusals_of_routes.Holds := by
  w_on; o_law; k_head; (case hw => w_witness2)
  k_fill
  refine MP.walk_mp (l := PySem.Challenge.rw_lastdoor_k67_refusals_of_routes) rfl rfl (fun w h Y => PySem.W.kIn_of Y) ?F
  case F =>
    intro w mg fa h KX G hmg
    refine' LawMP.all_mk KX G hmg ?n_House ?u_House ?v_House ?w_House ?h_House ?j_House_prime ?j_House_size ?j_House_rooms ?j_House_doors ?j_House_last ?mk_House ?kp_House ?a0 ?l0 ?c0 ?k0 ?a1 ?l1 ?c1 ?k1 ?a2 ?l2 ?c2 ?k2 ?a3 ?l3 ?c3 ?k3 ?a4 ?l4 ?c4 ?k4 ?a5 ?l5 ?c5 ?k5 ?a6 ?l6 ?c6 ?k6 ?a7 ?l7 ?c7 ?k7 ?a8 ?l8 ?c8 ?k8 ?a9 ?l9 ?c9 ?k9 ?a10 ?l10 ?c10 ?k10 ?a11 ?l11 ?c11 ?k11 ?a12 ?l12 ?c12 ?k12 ?a13 ?l13 ?c13 ?k13 ?a14 ?l14 ?c14 ?k14 ?a15 ?l15 ?c15 ?k15 ?a16 ?l16 ?c16 ?k16 ?a17 ?l17 ?c17 ?k17 ?a18 ?l18 ?c18 ?k18 ?a19 ?l19 ?c19 ?k19 ?a20 ?l20 ?c20 ?k20 ?a21 ?l21 ?c21 ?k21 ?a22 ?l22 ?c22 ?k22 ?a23 ?l23 ?c23 ?k23 ?a24 ?l24 ?c24 ?k24 ?a25 ?l25 ?c25 ?k25 ?a26 ?l26 ?c26 ?k26 ?a27 ?l27 ?c27 ?k27 ?a28 ?l28 ?c28 ?k28 ?a29 ?l29 ?c29 ?k29 ?a30 ?l30 ?c30 ?k30 ?a31 ?l31 ?c31 ?k31 ?a32 ?l32 ?c32 ?k32 ?a33 ?l33 ?c33 ?k33 ?a34 ?l34 ?c34 ?k34 ?a35 ?l35 ?c35 ?k35 ?a36 ?l36 ?c36 ?k36 ?a37 ?i37 ?l37 ?c37 ?k37 ?a38 ?l38 ?c38 ?k38 ?a39 ?l39 ?c39 ?k39 ?a40 ?l40 ?c40 ?k40 ?a41 ?l41 ?c41 ?k41 ?a42 ?l42 ?c42 ?k42 ?a43 ?l43 ?c43 ?k43 ?a44 ?l44 ?c44 ?k44 ?a45 ?l45 ?c45 ?k45 ?a46 ?l46 ?c46 ?k46 ?a47 ?l47 ?c47 ?k47 ?a48 ?l48 ?c48 ?k48 ?a49 ?l49 ?c49 ?k49 ?a50 ?l50 ?c50 ?k50 ?z0 ?z1 ?z2 ?z3 ?z4 ?z5 ?z6 ?z7 ?z8 ?z9 ?z10 ?z11 ?y_MOST_STEPS ?y_LAST_ROOM ?y_MOST_GAP ?y_LAST_SLOT ?y_MOST_CLUES ?y_PRIMES ?r_PRIMES ?s_PRIMES ?y_MOST_ROOMS ?y_MOST_DOORS ?n_TooMany ?n_NoDoor ?n_BadRoute ?n_TooTight ?n_BadHouse ?n_RiddleError ?t_TooMany ?x_TooMany ?t_NoDoor ?x_NoDoor ?t_BadRoute ?x_BadRoute ?t_TooTight ?x_TooTight ?t_BadHouse ?x_BadHouse ?p_TooMany_BadRoute ?q_TooMany_BadRoute ?p_TooMany_NoDoor ?q_TooMany_NoDoor ?p_TooMany_RiddleError ?q_TooMany_RiddleError ?p_TooMany_TooMany ?q_TooMany_TooMany ?p_TooMany_TooTight ?q_TooMany_TooTight ?p_NoDoor_BadRoute ?q_NoDoor_BadRoute ?p_NoDoor_NoDoor ?q_NoDoor_NoDoor ?p_NoDoor_RiddleError ?q_NoDoor_RiddleError ?p_NoDoor_TooMany ?q_NoDoor_TooMany ?p_NoDoor_TooTight ?q_NoDoor_TooTight ?p_BadRoute_BadRoute ?q_BadRoute_BadRoute ?p_BadRoute_NoDoor ?q_BadRoute_NoDoor ?p_BadRoute_RiddleError ?q_BadRoute_RiddleError ?p_BadRoute_TooMany ?q_BadRoute_TooMany ?p_BadRoute_TooTight ?q_BadRoute_TooTight ?p_TooTight_BadRoute ?q_TooTight_BadRoute ?p_TooTight_NoDoor ?q_TooTight_NoDoor ?p_TooTight_RiddleError ?q_TooTight_RiddleError ?p_TooTight_TooMany ?q_TooTight_TooMany ?p_TooTight_TooTight ?q_TooTight_TooTight ?p_BadHouse_BadRoute ?q_BadHouse_BadRoute ?p_BadHouse_NoDoor ?q_BadHouse_NoDoor ?p_BadHouse_RiddleError ?q_BadHouse_RiddleError ?p_BadHouse_TooMany ?q_BadHouse_TooMany ?p_BadHouse_TooTight ?q_BadHouse_TooTight
    (case n_House => k_is)
    (case u_House => k_is)
    (case v_House => k_is)
    (case w_House => k_is)
    (case h_House => k_is)
    (case j_House_prime => k_is)
    (case j_House_size => k_is)
    (case j_House_rooms => k_is)
    (case j_House_doors => k_is)
    (case j_House_last => k_is)
    (case mk_House => k_is)
    (case kp_House => k_is)
    (case a0 => k_is)
    (case l0 => k_is)
    (case c0 => k_is)
    (case k0 => k_is)
    (case a1 => k_is)
    (case l1 => k_is)
    (case c1 => k_is)
    (case k1 => k_is)
    (case a2 => k_is)
    (case l2 => k_is)
    (case c2 => k_is)
    (case k2 => k_is)
    (case a3 => k_is)
    (case l3 => k_is)
    (case c3 => k_is)
    (case k3 => k_is)
    (case a4 => k_is)
    (case l4 => k_is)
    (case c4 => k_is)
    (case k4 => k_is)
    (case a5 => k_is)
    (case l5 => k_is)
    (case c5 => k_is)
    (case k5 => k_is)
    (case a6 => k_is)
    (case l6 => k_is)
    (case c6 => k_is)
    (case k6 => k_is)
    (case a7 => k_is)
    (case l7 => k_is)
    (case c7 => k_is)
    (case k7 => k_is)
    (case a8 => k_is)
    (case l8 => k_is)
    (case c8 => k_is)
    (case k8 => k_is)
    (case a9 => k_is)
    (case l9 => k_is)
    (case c9 => k_is)
    (case k9 => k_is)
    (case a10 => k_is)
    (case l10 => k_is)
    (case c10 => k_is)
    (case k10 => k_is)
    (case a11 => k_is)
    (case l11 => k_is)
    (case c11 => k_is)
    (case k11 => k_is)
    (case a12 => k_is)
    (case l12 => k_is)
    (case c12 => k_is)
    (case k12 => k_is)
    (case a13 => k_is)
    (case l13 => k_is)
    (case c13 => k_is)
    (case k13 => k_is)
    (case a14 => k_is)
    (case l14 => k_is)
    (case c14 => k_is)
    (case k14 => k_is)
    (case a15 => k_is)
    (case l15 => k_is)
    (case c15 => k_is)
    (case k15 => k_is)
    (case a16 => k_is)
    (case l16 => k_is)
    (case c16 => k_is)
    (case k16 => k_is)
    (case a17 => k_is)
    (case l17 => k_is)
    (case c17 => k_is)
    (case k17 => k_is)
    (case a18 => k_is)
    (case l18 => k_is)
    (case c18 => k_is)
    (case k18 => k_is)
    (case a19 => k_is)
    (case l19 => k_is)
    (case c19 => k_is)
    (case k19 => k_is)
    (case a20 => k_is)
    (case l20 => k_is)
    (case c20 => k_is)
    (case k20 => k_is)
    (case a21 => k_is)
    (case l21 => k_is)
    (case c21 => k_is)
    (case k21 => k_is)
    (case a22 => k_is)
    (case l22 => k_is)
    (case c22 => k_is)
    (case k22 => k_is)
    (case a23 => k_is)
    (case l23 => k_is)
    (case c23 => k_is)
    (case k23 => k_is)
    (case a24 => k_is)
    (case l24 => k_is)
    (case c24 => k_is)
    (case k24 => k_is)
    (case a25 => k_is)
    (case l25 => k_is)
    (case c25 => k_is)
    (case k25 => k_is)
    (case a26 => k_is)
    (case l26 => k_is)
    (case c26 => k_is)
    (case k26 => k_is)
    (case a27 => k_is)
    (case l27 => k_is)
    (case c27 => k_is)
    (case k27 => k_is)
    (case a28 => k_is)
    (case l28 => k_is)
    (case c28 => k_is)
    (case k28 => k_is)
    (case a29 => k_is)
    (case l29 => k_is)
    (case c29 => k_is)
    (case k29 => k_is)
    (case a30 => k_is)
    (case l30 => k_is)
    (case c30 => k_is)
    (case k30 => k_is)
    (case a31 => k_is)
    (case l31 => k_is)
    (case c31 => k_is)
    (case k31 => k_is)
    (case a32 => k_is)
    (case l32 => k_is)
    (case c32 => k_is)
    (case k32 => k_is)
    (case a33 => k_is)
    (case l33 => k_is)
    (case c33 => k_is)
    (case k33 => k_is)
    (case a34 => k_is)
    (case l34 => k_is)
    (case c34 => k_is)
    (case k34 => k_is)
    (case a35 => k_is)
    (case l35 => k_is)
    (case c35 => k_is)
    (case k35 => k_is)
    (case a36 => k_is)
    (case l36 => k_is)
    (case c36 => k_is)
    (case k36 => k_is)
    (case a37 => k_is)
    (case i37 => k_is)
    (case l37 => k_is)
    (case c37 => k_is)
    (case k37 => k_is)
    (case a38 => k_is)
    (case l38 => k_is)
    (case c38 => k_is)
    (case k38 => k_is)
    (case a39 => k_is)
    (case l39 => k_is)
    (case c39 => k_is)
    (case k39 => k_is)
    (case a40 => k_is)
    (case l40 => k_is)
    (case c40 => k_is)
    (case k40 => k_is)
    (case a41 => k_is)
    (case l41 => k_is)
    (case c41 => k_is)
    (case k41 => k_is)
    (case a42 => k_is)
    (case l42 => k_is)
    (case c42 => k_is)
    (case k42 => k_is)
    (case a43 => k_is)
    (case l43 => k_is)
    (case c43 => k_is)
    (case k43 => k_is)
    (case a44 => k_is)
    (case l44 => k_is)
    (case c44 => k_is)
    (case k44 => k_is)
    (case a45 => k_is)
    (case l45 => k_is)
    (case c45 => k_is)
    (case k45 => k_is)
    (case a46 => k_is)
    (case l46 => k_is)
    (case c46 => k_is)
    (case k46 => k_is)
    (case a47 => k_is)
    (case l47 => k_is)
    (case c47 => k_is)
    (case k47 => k_is)
    (case a48 => k_is)
    (case l48 => k_is)
    (case c48 => k_is)
    (case k48 => k_is)
    (case a49 => k_is)
    (case l49 => k_is)
    (case c49 => k_is)
    (case k49 => k_is)
    (case a50 => k_is)
    (case l50 => k_is)
    (case c50 => k_is)
    (case k50 => k_is)
    (case z0 => k_is)
    (case z1 => k_is)
    (case z2 => k_is)
    (case z3 => k_is)
    (case z4 => k_is)
    (case z5 => k_is)
    (case z6 => k_is)
    (case z7 => k_is)
    (case z8 => k_is)
    (case z9 => k_is)
    (case z10 => k_is)
    (case z11 => k_is)
    (case y_MOST_STEPS => k_is)
    (case y_LAST_ROOM => k_is)
    (case y_MOST_GAP => k_is)
    (case y_LAST_SLOT => k_is)
    (case y_MOST_CLUES => k_is)
    (case y_PRIMES => k_is)
    (case r_PRIMES => k_is)
    (case s_PRIMES => exact ⟨rfl, rfl, by decide +kernel, by decide +kernel⟩)
    (case y_MOST_ROOMS => k_is)
    (case y_MOST_DOORS => k_is)
    (case n_TooMany => k_is)
    (case n_NoDoor => k_is)
    (case n_BadRoute => k_is)
    (case n_TooTight => k_is)
    (case n_BadHouse => k_is)
    (case n_RiddleError => k_is)
    (case t_TooMany => (refine' MP.sup_mk KX G ?b1 ?b2 ?b3 ?b4 ?b5 ?b6 ?b7 ?b8 ?b9 ?c0 ?f1 ?f2 ?f3 ?f4 ?f5 ?f6 ?f7 ?f8 ?f9 ?g1 ?g2 ?g3 ?g4 ?g5 ?g6 ?g7 ?g8; (case b1 => k_is); (case b2 => exact rfl); (case b3 => k_is); (case b4 => k_is); (case b5 => k_is); (case b6 => k_is); (case b7 => k_is); (case b8 => k_is); (case b9 => k_is); (case c0 => first | (refine MP.all1 ?_; k_is) | (refine MP.all2 ?_ ?_ <;> k_is) | (refine MP.all3 ?_ ?_ ?_ <;> k_is)); (case f1 => k_is); (case f2 => k_is); (case f3 => k_is); (case f4 => exact rfl); (case f5 => decide +kernel); (case f6 => k_is); (case f7 => k_is); (case f8 => k_is); (case f9 => ks_is); (case g1 => k_is); (case g2 => decide +kernel); (case g3 => k_is); (case g4 => decide +kernel); (case g5 => decide +kernel); (case g6 => exact rfl); (case g7 => decide +kernel); (case g8 => (first | (exact fun _ _ _ _ _ _ _ _ us hl => (match us, hl with | [_, _], _ => rfl)) | (exact fun _ _ _ _ _ _ _ _ us hl => (match us, hl with | [_, _, _], _ => rfl)) | (exact fun _ _ _ _ _ _ _ _ us hl => (match us, hl with | [_, _, _, _], _ => rfl))))))
    (case x_TooMany => (refine' MP.exis_mk ?e1 ?e2 ?e3 ?e4 ?e5 ?e6 ?e7 ?e8 ?e9; (case e1 => k_is); (case e2 => k_is); (case e3 => k_is); (case e4 => k_is); (case e5 => k_is); (case e6 => k_is); (case e7 => k_is); (case e8 => k_is); (case e9 => k_is)))
    (case t_NoDoor => (refine' MP.sup_mk KX G ?b1 ?b2 ?b3 ?b4 ?b5 ?b6 ?b7 ?b8 ?b9 ?c0 ?f1 ?f2 ?f3 ?f4 ?f5 ?f6 ?f7 ?f8 ?f9 ?g1 ?g2 ?g3 ?g4 ?g5 ?g6 ?g7 ?g8; (case b1 => k_is); (case b2 => exact rfl); (case b3 => k_is); (case b4 => k_is); (case b5 => k_is); (case b6 => k_is); (case b7 => k_is); (case b8 => k_is); (case b9 => k_is); (case c0 => first | (refine MP.all1 ?_; k_is) | (refine MP.all2 ?_ ?_ <;> k_is) | (refine MP.all3 ?_ ?_ ?_ <;> k_is)); (case f1 => k_is); (case f2 => k_is); (case f3 => k_is); (case f4 => exact rfl); (case f5 => decide +kernel); (case f6 => k_is); (case f7 => k_is); (case f8 => k_is); (case f9 => ks_is); (case g1 => k_is); (case g2 => decide +kernel); (case g3 => k_is); (case g4 => decide +kernel); (case g5 => decide +kernel); (case g6 => exact rfl); (case g7 => decide +kernel); (case g8 => (first | (exact fun _ _ _ _ _ _ _ _ us hl => (match us, hl with | [_, _], _ => rfl)) | (exact fun _ _ _ _ _ _ _ _ us hl => (match us, hl with | [_, _, _], _ => rfl)) | (exact fun _ _ _ _ _ _ _ _ us hl => (match us, hl with | [_, _, _, _], _ => rfl))))))
    (case x_NoDoor => (refine' MP.exis_mk ?e1 ?e2 ?e3 ?e4 ?e5 ?e6 ?e7 ?e8 ?e9; (case e1 => k_is); (case e2 => k_is); (case e3 => k_is); (case e4 => k_is); (case e5 => k_is); (case e6 => k_is); (case e7 => k_is); (case e8 => k_is); (case e9 => k_is)))
    (case t_BadRoute => (refine' MP.sup_mk KX G ?b1 ?b2 ?b3 ?b4 ?b5 ?b6 ?b7 ?b8 ?b9 ?c0 ?f1 ?f2 ?f3 ?f4 ?f5 ?f6 ?f7 ?f8 ?f9 ?g1 ?g2 ?g3 ?g4 ?g5 ?g6 ?g7 ?g8; (case b1 => k_is); (case b2 => exact rfl); (case b3 => k_is); (case b4 => k_is); (case b5 => k_is); (case b6 => k_is); (case b7 => k_is); (case b8 => k_is); (case b9 => k_is); (case c0 => first | (refine MP.all1 ?_; k_is) | (refine MP.all2 ?_ ?_ <;> k_is) | (refine MP.all3 ?_ ?_ ?_ <;> k_is)); (case f1 => k_is); (case f2 => k_is); (case f3 => k_is); (case f4 => exact rfl); (case f5 => decide +kernel); (case f6 => k_is); (case f7 => k_is); (case f8 => k_is); (case f9 => ks_is); (case g1 => k_is); (case g2 => decide +kernel); (case g3 => k_is); (case g4 => decide +kernel); (case g5 => decide +kernel); (case g6 => exact rfl); (case g7 => decide +kernel); (case g8 => (first | (exact fun _ _ _ _ _ _ _ _ us hl => (match us, hl with | [_, _], _ => rfl)) | (exact fun _ _ _ _ _ _ _ _ us hl => (match us, hl with | [_, _, _], _ => rfl)) | (exact fun _ _ _ _ _ _ _ _ us hl => (match us, hl with | [_, _, _, _], _ => rfl))))))
    (case x_BadRoute => (refine' MP.exis_mk ?e1 ?e2 ?e3 ?e4 ?e5 ?e6 ?e7 ?e8 ?e9; (case e1 => k_is); (case e2 => k_is); (case e3 => k_is); (case e4 => k_is); (case e5 => k_is); (case e6 => k_is); (case e7 => k_is); (case e8 => k_is); (case e9 => k_is)))
    (case t_TooTight => (refine' MP.sup_mk KX G ?b1 ?b2 ?b3 ?b4 ?b5 ?b6 ?b7 ?b8 ?b9 ?c0 ?f1 ?f2 ?f3 ?f4 ?f5 ?f6 ?f7 ?f8 ?f9 ?g1 ?g2 ?g3 ?g4 ?g5 ?g6 ?g7 ?g8; (case b1 => k_is); (case b2 => exact rfl); (case b3 => k_is); (case b4 => k_is); (case b5 => k_is); (case b6 => k_is); (case b7 => k_is); (case b8 => k_is); (case b9 => k_is); (case c0 => first | (refine MP.all1 ?_; k_is) | (refine MP.all2 ?_ ?_ <;> k_is) | (refine MP.all3 ?_ ?_ ?_ <;> k_is)); (case f1 => k_is); (case f2 => k_is); (case f3 => k_is); (case f4 => exact rfl); (case f5 => decide +kernel); (case f6 => k_is); (case f7 => k_is); (case f8 => k_is); (case f9 => ks_is); (case g1 => k_is); (case g2 => decide +kernel); (case g3 => k_is); (case g4 => decide +kernel); (case g5 => decide +kernel); (case g6 => exact rfl); (case g7 => decide +kernel); (case g8 => (first | (exact fun _ _ _ _ _ _ _ _ us hl => (match us, hl with | [_, _], _ => rfl)) | (exact fun _ _ _ _ _ _ _ _ us hl => (match us, hl with | [_, _, _], _ => rfl)) | (exact fun _ _ _ _ _ _ _ _ us hl => (match us, hl with | [_, _, _, _], _ => rfl))))))
    (case x_TooTight => (refine' MP.exis_mk ?e1 ?e2 ?e3 ?e4 ?e5 ?e6 ?e7 ?e8 ?e9; (case e1 => k_is); (case e2 => k_is); (case e3 => k_is); (case e4 => k_is); (case e5 => k_is); (case e6 => k_is); (case e7 => k_is); (case e8 => k_is); (case e9 => k_is)))
    (case t_BadHouse => (refine' MP.sup_mk KX G ?b1 ?b2 ?b3 ?b4 ?b5 ?b6 ?b7 ?b8 ?b9 ?c0 ?f1 ?f2 ?f3 ?f4 ?f5 ?f6 ?f7 ?f8 ?f9 ?g1 ?g2 ?g3 ?g4 ?g5 ?g6 ?g7 ?g8; (case b1 => k_is); (case b2 => exact rfl); (case b3 => k_is); (case b4 => k_is); (case b5 => k_is); (case b6 => k_is); (case b7 => k_is); (case b8 => k_is); (case b9 => k_is); (case c0 => first | (refine MP.all1 ?_; k_is) | (refine MP.all2 ?_ ?_ <;> k_is) | (refine MP.all3 ?_ ?_ ?_ <;> k_is)); (case f1 => k_is); (case f2 => k_is); (case f3 => k_is); (case f4 => exact rfl); (case f5 => decide +kernel); (case f6 => k_is); (case f7 => k_is); (case f8 => k_is); (case f9 => ks_is); (case g1 => k_is); (case g2 => decide +kernel); (case g3 => k_is); (case g4 => decide +kernel); (case g5 => decide +kernel); (case g6 => exact rfl); (case g7 => decide +kernel); (case g8 => (first | (exact fun _ _ _ _ _ _ _ _ us hl => (match us, hl with | [_, _], _ => rfl)) | (exact fun _ _ _ _ _ _ _ _ us hl => (match us, hl with | [_, _, _], _ => rfl)) | (exact fun _ _ _ _ _ _ _ _ us hl => (match us, hl with | [_, _, _, _], _ => rfl))))))
    (case x_BadHouse => (refine' MP.exis_mk ?e1 ?e2 ?e3 ?e4 ?e5 ?e6 ?e7 ?e8 ?e9; (case e1 => k_is); (case e2 => k_is); (case e3 => k_is); (case e4 => k_is); (case e5 => k_is); (case e6 => k_is); (case e7 => k_is); (case e8 => k_is); (case e9 => k_is)))
    (case p_TooMany_BadRoute => kts_exm)
    (case q_TooMany_BadRoute => kit_is)
    (case p_TooMany_NoDoor => kts_exm)
    (case q_TooMany_NoDoor => kit_is)
    (case p_TooMany_RiddleError => kts_exm)
    (case q_TooMany_RiddleError => kit_is)
    (case p_TooMany_TooMany => kts_exm)
    (case q_TooMany_TooMany => kit_is)
    (case p_TooMany_TooTight => kts_exm)
    (case q_TooMany_TooTight => kit_is)
    (case p_NoDoor_BadRoute => kts_exm)
    (case q_NoDoor_BadRoute => kit_is)
    (case p_NoDoor_NoDoor => kts_exm)
    (case q_NoDoor_NoDoor => kit_is)
    (case p_NoDoor_RiddleError => kts_exm)
    (case q_NoDoor_RiddleError => kit_is)
    (case p_NoDoor_TooMany => kts_exm)
    (case q_NoDoor_TooMany => kit_is)
    (case p_NoDoor_TooTight => kts_exm)
    (case q_NoDoor_TooTight => kit_is)
    (case p_BadRoute_BadRoute => kts_exm)
    (case q_BadRoute_BadRoute => kit_is)
    (case p_BadRoute_NoDoor => kts_exm)
    (case q_BadRoute_NoDoor => kit_is)
    (case p_BadRoute_RiddleError => kts_exm)
    (case q_BadRoute_RiddleError => kit_is)
    (case p_BadRoute_TooMany => kts_exm)
    (case q_BadRoute_TooMany => kit_is)
    (case p_BadRoute_TooTight => kts_exm)
    (case q_BadRoute_TooTight => kit_is)
    (case p_TooTight_BadRoute => kts_exm)
    (case q_TooTight_BadRoute => kit_is)
    (case p_TooTight_NoDoor => kts_exm)
    (case q_TooTight_NoDoor => kit_is)
    (case p_TooTight_RiddleError => kts_exm)
    (case q_TooTight_RiddleError => kit_is)
    (case p_TooTight_TooMany => kts_exm)
    (case q_TooTight_TooMany => kit_is)
    (case p_TooTight_TooTight => kts_exm)
    (case q_TooTight_TooTight => kit_is)
    (case p_BadHouse_BadRoute => kts_exm)
    (case q_BadHouse_BadRoute => kit_is)
    (case p_BadHouse_NoDoor => kts_exm)
    (case q_BadHouse_NoDoor => kit_is)
    (case p_BadHouse_RiddleError => kts_exm)
    (case q_BadHouse_RiddleError => kit_is)
    (case p_BadHouse_TooMany => kts_exm)
    (case q_BadHouse_TooMany => kit_is)
    (case p_BadHouse_TooTight => kts_exm)
    (case q_BadHouse_TooTight => kit_is)
#print axioms PySem.Challenge.cw_lastdoor_k67_refusals_of_routes_holds
