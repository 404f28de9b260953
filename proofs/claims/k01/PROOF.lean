import PyProof.Rows.All
import Wide.All
import OpenK.AllK
import Wide.FinOn
import HandS.ForMost
import HandS.ForExc
import HandS.IsInst
import HandS.Strs
import HandS.SortInts
import HandS.TupAny
import HandS.TupMul
import HandS.Wide
import HandS.SetFor
import HandS.EndBits
import KE.KSortedM
import PySem.Challenge.RW_lastdoor_k01_rows
set_option Elab.async false
set_option linter.all false
set_option maxRecDepth 100000
/-! MiniPy: a small language of Python texts with data as trees; its meaning as plain functions. -/
namespace MP
open PySem L2

inductive Val where
  | non | bl (b : Bool) | int (i : Int) | str (s : Str)
  | tup (xs : List Val) | lst (xs : List Val) | loc (n : Nat) | scr (xs : List Val)

inductive Cell where
  | lst (xs : List Val) | frz (xs : List Val) | dk (kvs : List (Key × Val)) | dead
abbrev Store := List Cell
abbrev Env := List (Option Val)
inductive R (α : Type) where
  | ok (a : α) | exn (c : Str) (fs : List Val) (st : Store) | stuck
abbrev RV := R (Val × Store)
abbrev Mir := List Val → Store → RV
abbrev Tab := Str → Option Mir

def R.bind {α β : Type} (r : R α) (f : α → R β) : R β := match r with
  | .ok a => f a
  | .exn c fs st => .exn c fs st
  | .stuck => .stuck
@[simp] theorem R.bind_ok {α β : Type} (a : α) (f : α → R β) : (R.ok a).bind f = f a := rfl
@[simp] theorem R.bind_exn {α β : Type} (c : Str) (fs : List Val) (st : Store) (f : α → R β) : (R.exn c fs st).bind f = .exn c fs st := rfl
@[simp] theorem R.bind_stuck {α β : Type} (f : α → R β) : (R.stuck : R α).bind f = .stuck := rfl

/-- the largest length of a list, a tuple, a text that is made -/
def szMax : Nat := 100000

inductive BOp where | add | sub | mul | fdiv | mod | pow
  deriving DecidableEq
inductive COp where | eq | ne | lt | le | gt | ge | is_ | isnot | in_ | notin
  deriving DecidableEq
inductive Ty where | int | bool | str | tuple | list
  deriving DecidableEq
/-- built-in functions of one argument that give a plain value -/
inductive F1 where | len | int | abs | bool | sum | min | max
  deriving DecidableEq
/-- .. that give a new list or tuple -/
inductive G1 where | list | tuple | sorted | sortset
  deriving DecidableEq

mutual
inductive E where
  | var (i : Nat) | int (i : Int) | bl (b : Bool) | non | str (s : Str) | glob (x : Str)
  | tup (es : Es) | lst (m : Bool) (es : Es)
  | bin (m : Bool) (op : BOp) (a b : E) | neg (a : E) | not (a : E)
  | cmp (op : COp) (a b : E) | chain (op op' : COp) (a b c : E)
  | bo (k : Bool) (es : Es) | ifx (c a b : E)
  | call (f : Str) (es : Es)
  | isi (a : E) (t : Ty) | isi2 (a : E) (t u : Ty)
  | f1 (f : F1) (a : E) | mm (k : Bool) (a b : E) | g1 (m : Bool) (f : G1) (a : E)
  | sub (a i : E) | slc (m : Bool) (a lo hi : E) | no
  | rng (es : Es)
  | comp (m : Bool) (x : Nat) (it c elt : E)
  | frz (a : E)
  | app (o a : E)
inductive Es where
  | nil | cons (e : E) (r : Es)
end

mutual
inductive S where
  | asg (i : Nat) (e : E)
  | sto (o i e : E)
  | expr (e : E)
  | ite (c : E) (a b : Ss)
  | forr (i : Nat) (it : E) (body : Ss)
  | whil (n : Nat) (c : E) (body : Ss)
  | ret (e : E) | retn | pass | brk | cnt | never
inductive Ss where
  | nil | cons (s : S) (r : Ss)
end

/-! ### values -/
/-- the items of a list or a tuple; true: a list -/
def seqOf (st : Store) : Val → Option (Bool × List Val)
  | .tup xs => some (false, xs)
  | .lst xs => some (true, xs)
  | .scr xs => some (true, xs)
  | .loc n => match st[n]? with
    | some (.lst xs) => some (true, xs)
    | some (.frz xs) => some (true, xs)
    | _ => none
  | _ => none
/-- the items of a list that was made by the program -/
def lstOf (st : Store) : Val → Option (List Val)
  | .lst xs => some xs
  | .loc n => match st[n]? with
    | some (.lst xs) => some xs
    | some (.frz xs) => some xs
    | _ => none
  | _ => none

mutual
def toPD : Val → PyData
  | .non => .none
  | .bl b => .bool b
  | .int i => .int i
  | .str s => .str s
  | .tup xs => .tuple (toPDs xs)
  | .lst xs => .list (toPDs xs)
  | .scr xs => .list (toPDs xs)
  | .loc _ => .dict []
def toPDs : List Val → List PyData
  | [] => []
  | x :: xs => toPD x :: toPDs xs
end

def newL (m : Bool) (xs : List Val) (st : Store) : RV :=
  if xs.length ≤ szMax then (if m then .ok (.loc st.length, st ++ [.lst xs]) else .ok (.lst xs, st)) else .stuck
def newT (xs : List Val) (st : Store) : RV := if xs.length ≤ szMax then .ok (.tup xs, st) else .stuck

def mulOk (i j : Int) : Bool := decide (i.natAbs.log2 + j.natAbs.log2 < 1000000)
def binV (m : Bool) (op : BOp) (x y : Val) (st : Store) : RV := match op, x, y with
  | .add, .int i, .int j => .ok (.int (i + j), st)
  | .sub, .int i, .int j => .ok (.int (i - j), st)
  | .mul, .int i, .int j => if mulOk i j then .ok (.int (i * j), st) else .stuck
  | .fdiv, .int i, .int j => if 0 < j ∧ j.natAbs.log2 < 9000 then .ok (.int (i / j), st) else .stuck
  | .mod, .int i, .int j => if 0 < j then .ok (.int (i % j), st) else .stuck
  | .pow, .int i, .int j => if 0 ≤ j ∧ j ≤ 1000000 ∧ i.natAbs < 2 ^ 64 then .ok (.int (i ^ j.toNat), st) else .stuck
  | .add, .str a, .str b => if a.length + b.length ≤ szMax then .ok (.str (a ++ b), st) else .stuck
  | .add, .tup xs, .tup ys => newT (xs ++ ys) st
  | .mul, .tup xs, .int k => if xs.isEmpty = false ∧ 2 ≤ k ∧ k ≤ 1000 ∧ xs.length ≤ 100 then newT (List.replicate k.toNat xs).flatten st else .stuck
  | .add, a, b => match lstOf st a, lstOf st b with
    | some xs, some ys => newL m (xs ++ ys) st
    | _, _ => .stuck
  | .mul, a, .int k => match lstOf st a with
    | some xs => if xs.length * k.toNat ≤ szMax ∧ k ≤ 1000000 ∧ -1000000 ≤ k then newL m (List.replicate k.toNat xs).flatten st else .stuck
    | none => .stuck
  | _, _, _ => .stuck

def flat : Val → Bool
  | .non => true | .bl _ => true | .int _ => true | .str _ => true | _ => false
/-- == of flat things, as Python has it -/
def eqF (x y : Val) : Bool := PyData.eqv (toPD x) (toPD y)
def cmpV (op : COp) (x y : Val) (st : Store) : R Bool := match op with
  | .eq => if SeqAt.shaped (toPD x) && SeqAt.shaped (toPD y) then .ok (PyData.eqv (toPD x) (toPD y)) else .stuck
  | .ne => if SeqAt.shaped (toPD x) && SeqAt.shaped (toPD y) then .ok (!PyData.eqv (toPD x) (toPD y)) else .stuck
  | .lt => match x, y with | .int i, .int j => .ok (decide (i < j)) | _, _ => .stuck
  | .le => match x, y with | .int i, .int j => .ok (decide (i ≤ j)) | _, _ => .stuck
  | .gt => match x, y with | .int i, .int j => .ok (decide (j < i)) | _, _ => .stuck
  | .ge => match x, y with | .int i, .int j => .ok (decide (j ≤ i)) | _, _ => .stuck
  | .is_ => match y with | .non => .ok (match x with | .non => true | _ => false) | _ => .stuck
  | .isnot => match y with | .non => .ok (match x with | .non => false | _ => true) | _ => .stuck
  | .in_ => match seqOf st y with
    | some (_, xs) => if flat x && xs.all flat then .ok (xs.any fun z => eqF z x) else .stuck
    | none => .stuck
  | .notin => match seqOf st y with
    | some (_, xs) => if flat x && xs.all flat then .ok (!(xs.any fun z => eqF z x)) else .stuck
    | none => .stuck

def truth (st : Store) (x : Val) : R Bool := match x with
  | .non => .ok false
  | .bl b => .ok b
  | .int i => .ok (i != 0)
  | .str y => if y.length ≤ szMax then .ok ((y.length : Int) != 0) else .stuck
  | v => match seqOf st v with
    | some (_, xs) => .ok (!xs.isEmpty)
    | none => .stuck

def isL : Ty → Bool
  | .list => true
  | _ => false
def isTy (st : Store) (t : Ty) : Val → Option Bool
  | .non => some false
  | .bl _ => some (match t with | .bool => true | .int => true | _ => false)
  | .int _ => some (match t with | .int => true | _ => false)
  | .str _ => some (match t with | .str => true | _ => false)
  | .tup _ => some (match t with | .tuple => true | _ => false)
  | .lst _ => some (isL t)
  | .scr _ => some (isL t)
  | .loc n => match st[n]? with
    | some (.lst _) => some (isL t)
    | some (.frz _) => some (isL t)
    | _ => none

def asInts : List Val → Option (List Int)
  | [] => some []
  | .int i :: xs => (asInts xs).map (i :: ·)
  | _ :: _ => none
def minL (k : Int) : List Int → Int
  | [] => k
  | x :: xs => minL (if x < k then x else k) xs
def maxL (k : Int) : List Int → Int
  | [] => k
  | x :: xs => maxL (if k < x then x else k) xs
def insI (k : Int) : List Int → List Int
  | [] => [k]
  | x :: xs => if k ≤ x then k :: x :: xs else x :: insI k xs
def sortI : List Int → List Int
  | [] => []
  | x :: xs => insI x (sortI xs)
def insS (k : Int) : List Int → List Int
  | [] => [k]
  | x :: xs => if k < x then k :: x :: xs else if k = x then x :: xs else x :: insS k xs
def sortS : List Int → List Int
  | [] => []
  | x :: xs => insS x (sortS xs)

def f1V (f : F1) (x : Val) (st : Store) : R Val := match f with
  | .len => match x with
    | .str y => if y.length ≤ szMax then .ok (.int y.length) else .stuck
    | v => match seqOf st v with
      | some (_, xs) => .ok (.int xs.length)
      | none => .stuck
  | .int => match x with | .int i => .ok (.int i) | .bl b => .ok (.int (if b then 1 else 0)) | _ => .stuck
  | .abs => match x with | .int i => .ok (.int (if i < 0 then -i else i)) | _ => .stuck
  | .bool => match x with | .int i => .ok (.bl (i != 0)) | .bl b => .ok (.bl b) | _ => .stuck
  | .sum => match seqOf st x with
    | some (true, xs) => match asInts xs with | some ns => .ok (.int ns.sum) | none => .stuck
    | _ => .stuck
  | .min => match seqOf st x with
    | some (true, xs) => match asInts xs with | some (n :: ns) => .ok (.int (minL n ns)) | _ => .stuck
    | _ => .stuck
  | .max => match seqOf st x with
    | some (true, xs) => match asInts xs with | some (n :: ns) => .ok (.int (maxL n ns)) | _ => .stuck
    | _ => .stuck
def mmV (k : Bool) (x y : Val) : R Val := match x, y with
  | .int i, .int j => .ok (.int (if k then (if j > i then j else i) else (if j < i then j else i)))
  | _, _ => .stuck
def g1V (m : Bool) (f : G1) (x : Val) (st : Store) : RV := match f with
  | .list => match seqOf st x with | some (_, xs) => newL m xs st | none => .stuck
  | .tuple => match seqOf st x with | some (_, xs) => newT xs st | none => .stuck
  | .sorted => match seqOf st x with
    | some (true, xs) => match asInts xs with | some ns => newL m ((sortI ns).map .int) st | none => .stuck
    | _ => .stuck
  | .sortset => match seqOf st x with
    | some (true, xs) => match asInts xs with
      | some ns => if ns.length < 64 then newL m ((sortS ns).map .int) st else .stuck
      | none => .stuck
    | _ => .stuck

/-- x[i] -/
def ixV (st : Store) (x i : Val) : R Val := match i with
  | .int k => match x with
    | .str z => if z.length ≤ szMax then (match atI z.cps.toList k with | some c => .ok (.str ⟨#[c]⟩) | none => .stuck) else .stuck
    | v => match seqOf st v with
      | some (_, xs) => match atI xs k with | some y => .ok y | none => .stuck
      | none => .stuck
  | _ => .stuck
def partV (absent : Bool) (v : Val) : R (Option Int) := if absent then .ok none else match v with | .int i => .ok (some i) | _ => .stuck
def cutA (xs : List Val) (lo hi : Option Int) : List Val := (xs.drop (HT.sIx xs.length 0 lo)).take (HT.sIx xs.length xs.length hi - HT.sIx xs.length 0 lo)
def slcV (m : Bool) (st : Store) (x : Val) (lo hi : Option Int) : RV := match x with
  | .str z => .stuck
  | v => match seqOf st v with
    | some (true, xs) => newL m (cutA xs lo hi) st
    | some (false, xs) => newT (cutA xs lo hi) st
    | none => .stuck

def rangeL (lo : Int) (n : Nat) : List Val := (List.range n).map fun i => Val.int (lo + (i : Nat))
def rngOk (i : Int) : Bool := decide (-1000000 ≤ i ∧ i ≤ 1000000)
def rngV : List Val → R (List Val)
  | [.int j] => if rngOk j then .ok (rangeL 0 j.toNat) else .stuck
  | [.int i, .int j] => if rngOk i && rngOk j then .ok (rangeL i (j - i).toNat) else .stuck
  | _ => .stuck

/-- the loop of a comprehension -/
def compL (c : Env → Store → R (Bool × Store)) (e : Env → Store → RV) (x : Nat) : List Val → Env → Store → R (List Val × Store)
  | [], _, st => .ok ([], st)
  | v :: vs, env, st => (c (env.set x (some v)) st).bind fun (b, st1) => if b then
      (e (env.set x (some v)) st1).bind fun (y, st2) => (compL c e x vs env st2).bind fun (ys, st3) => .ok (y :: ys, st3)
    else compL c e x vs env st1
def noExn {α : Type} : R α → R α
  | .ok a => .ok a
  | _ => .stuck

def isNo : E → Bool
  | .no => true
  | _ => false

/-! ### the meaning of expressions -/
/-- what an expression gives as a value, as a test, as a thing to walk -/
structure Ev where
  v : Env → Store → RV
  t : Env → Store → R (Bool × Store)
  i : Env → Store → R (List Val × Store)
def tOf (v : Env → Store → RV) : Env → Store → R (Bool × Store) := fun env st => (v env st).bind fun p => (truth p.2 p.1).bind fun b => .ok (b, p.2)
def iOf (v : Env → Store → RV) : Env → Store → R (List Val × Store) := fun env st => (v env st).bind fun p => match p.1 with
  | .tup xs => .ok (xs, p.2)
  | .lst xs => .ok (xs, p.2)
  | .scr xs => .ok (xs, p.2)
  | _ => .stuck
def mk (v : Env → Store → RV) : Ev := ⟨v, tOf v, iOf v⟩
def mkN (v : Env → Store → RV) : Ev := ⟨v, fun _ _ => .stuck, iOf v⟩

def vVar (i : Nat) : Env → Store → RV := fun env st => match env[i]? with | some (some v) => .ok (v, st) | _ => .stuck
def vFrz (x : Val) (st : Store) : RV := match x with
  | .loc n => match st[n]? with
    | some (.lst xs) => .ok (.lst xs, st.set n (.frz xs))
    | some (.frz xs) => .ok (.lst xs, st)
    | _ => .stuck
  | v => .ok (v, st)
def isCell (st : Store) : Val → Bool
  | .loc n => match st[n]? with | some (.lst _) => true | _ => false
  | _ => false
def vApp (x y : Val) (st : Store) : RV := match x with
  | .loc n => match st[n]? with
    | some (.lst xs) => if xs.length < szMax then .ok (.non, st.set n (.lst (xs ++ [y]))) else .stuck
    | _ => .stuck
  | _ => .stuck
section
variable (Φ : Tab) (G : Str → Option Val)
mutual
def ev : E → Ev
  | .var i => mk (vVar i)
  | .int i => mk fun _ st => .ok (.int i, st)
  | .bl b => mk fun _ st => .ok (.bl b, st)
  | .non => mk fun _ st => .ok (.non, st)
  | .str s => mk fun _ st => .ok (.str s, st)
  | .glob x => mk fun _ st => match G x with | some v => .ok (v, st) | none => .stuck
  | .tup es => mk fun env st => (evs es env st).bind fun p => newT p.1 p.2
  | .lst m es => mk fun env st => (evs es env st).bind fun p => newL m p.1 p.2
  | .bin m op a b => mk fun env st => ((ev a).v env st).bind fun p => ((ev b).v env p.2).bind fun q => binV m op p.1 q.1 q.2
  | .neg a => mk fun env st => ((ev a).v env st).bind fun p => match p.1 with | .int i => .ok (.int (-i), p.2) | _ => .stuck
  | .not a => ⟨fun env st => ((ev a).v env st).bind fun p => match p.1 with | .bl b => .ok (.bl (!b), p.2) | _ => .stuck, fun env st => ((ev a).t env st).bind fun p => .ok (!p.1, p.2), fun _ _ => .stuck⟩
  | .cmp op a b => mk fun env st => ((ev a).v env st).bind fun p => ((ev b).v env p.2).bind fun q => (cmpV op p.1 q.1 q.2).bind fun k => .ok (.bl k, q.2)
  | .chain op op' a b c => mk fun env st => ((ev a).v env st).bind fun p => ((ev b).v env p.2).bind fun q => (cmpV op p.1 q.1 q.2).bind fun k =>
      if k then ((ev c).v env q.2).bind fun r => (cmpV op' q.1 r.1 r.2).bind fun k' => .ok (.bl k', r.2) else .ok (.bl false, q.2)
  | .bo k es => ⟨evBo k es, evBoT k es, fun _ _ => .stuck⟩
  | .ifx c a b => mkN fun env st => ((ev c).t env st).bind fun p => if p.1 then (ev a).v env p.2 else (ev b).v env p.2
  | .call f es => mk fun env st => (evs es env st).bind fun p => match Φ f with | some m => m p.1 p.2 | none => .stuck
  | .isi a t => mk fun env st => ((ev a).v env st).bind fun p => match isTy p.2 t p.1 with | some b => .ok (.bl b, p.2) | none => .stuck
  | .isi2 a t u => mk fun env st => ((ev a).v env st).bind fun p => match isTy p.2 t p.1, isTy p.2 u p.1 with | some b, some b' => .ok (.bl (b || b'), p.2) | _, _ => .stuck
  | .f1 f a => mk fun env st => ((ev a).v env st).bind fun p => (f1V f p.1 p.2).bind fun y => .ok (y, p.2)
  | .mm k a b => mk fun env st => ((ev a).v env st).bind fun p => ((ev b).v env p.2).bind fun q => (mmV k p.1 q.1).bind fun z => .ok (z, q.2)
  | .g1 m f a => mk fun env st => ((ev a).v env st).bind fun p => g1V m f p.1 p.2
  | .sub a i => mk fun env st => ((ev a).v env st).bind fun p => ((ev i).v env p.2).bind fun q => (ixV q.2 p.1 q.1).bind fun y => .ok (y, q.2)
  | .slc m a lo hi => mk fun env st => ((ev a).v env st).bind fun p => ((ev lo).v env p.2).bind fun q => (partV (isNo lo) q.1).bind fun l' =>
      ((ev hi).v env q.2).bind fun r => (partV (isNo hi) r.1).bind fun h' => slcV m r.2 p.1 l' h'
  | .no => ⟨fun _ st => .ok (.non, st), fun _ st => .ok (true, st), fun _ _ => .stuck⟩
  | .rng es => ⟨fun _ _ => .stuck, fun _ _ => .stuck, fun env st => (evs es env st).bind fun p => (rngV p.1).bind fun xs => .ok (xs, p.2)⟩
  | .comp m x it c elt => mk fun env st => ((ev it).i env st).bind fun p => if p.1.length ≤ szMax then
      noExn ((compL (ev c).t (ev elt).v x p.1 env p.2).bind fun q => newL m q.1 q.2) else .stuck
  | .frz a => mkN fun env st => ((ev a).v env st).bind fun p => vFrz p.1 p.2
  | .app o a => mkN fun env st => ((ev o).v env st).bind fun p => if isCell p.2 p.1 then ((ev a).v env p.2).bind fun q => vApp p.1 q.1 q.2 else .stuck
def evs : Es → Env → Store → R (List Val × Store)
  | .nil, _, st => .ok ([], st)
  | .cons e r, env, st => ((ev e).v env st).bind fun p => (evs r env p.2).bind fun q => .ok (p.1 :: q.1, q.2)
/-- and, or as values: all but the last are booleans -/
def evBo : Bool → Es → Env → Store → RV
  | _, .nil, _, _ => .stuck
  | k, .cons e r, env, st => match r with
    | .nil => (ev e).v env st
    | .cons _ _ => ((ev e).v env st).bind fun p => match p.1 with
      | .bl b => if b = k then evBo k r env p.2 else .ok (.bl b, p.2)
      | _ => .stuck
def evBoT : Bool → Es → Env → Store → R (Bool × Store)
  | _, .nil, _, _ => .stuck
  | k, .cons e r, env, st => match r with
    | .nil => (ev e).t env st
    | .cons _ _ => ((ev e).t env st).bind fun p => if p.1 = k then evBoT k r env p.2 else .ok (p.1, p.2)
end
end
/-! ### the meaning of statements -/
inductive RS where
  | next (env : Env) (st : Store) | ret (v : Val) (st : Store) | brk (env : Env) (st : Store) | cnt (env : Env) (st : Store)
  | exn (c : Str) (fs : List Val) (env : Env) (st : Store) | stuck
def RS.bind (r : RS) (f : Env → Store → RS) : RS := match r with
  | .next env st => f env st
  | r => r
@[simp] theorem RS.bind_next (env : Env) (st : Store) (f : Env → Store → RS) : (RS.next env st).bind f = f env st := rfl
@[simp] theorem RS.bind_ret (v : Val) (st : Store) (f : Env → Store → RS) : (RS.ret v st).bind f = .ret v st := rfl
@[simp] theorem RS.bind_stuck (f : Env → Store → RS) : RS.stuck.bind f = .stuck := rfl
@[simp] theorem RS.bind_brk (env : Env) (st : Store) (f : Env → Store → RS) : (RS.brk env st).bind f = .brk env st := rfl
@[simp] theorem RS.bind_cnt (env : Env) (st : Store) (f : Env → Store → RS) : (RS.cnt env st).bind f = .cnt env st := rfl
@[simp] theorem RS.bind_exn (c : Str) (fs : List Val) (env : Env) (st : Store) (f : Env → Store → RS) : (RS.exn c fs env st).bind f = .exn c fs env st := rfl
/-- an expression's end, in a statement -/
def R.st {α : Type} (r : R α) (env : Env) (f : α → RS) : RS := match r with
  | .ok a => f a
  | .exn c fs st => .exn c fs env st
  | .stuck => .stuck
@[simp] theorem R.st_ok {α : Type} (a : α) (env : Env) (f : α → RS) : (R.ok a).st env f = f a := rfl
@[simp] theorem R.st_stuck {α : Type} (env : Env) (f : α → RS) : (R.stuck : R α).st env f = .stuck := rfl
@[simp] theorem R.st_exn {α : Type} (c : Str) (fs : List Val) (st : Store) (env : Env) (f : α → RS) : (R.exn c fs st : R α).st env f = .exn c fs env st := rfl
def forL (i : Nat) (body : Env → Store → RS) : List Val → Env → Store → RS
  | [], env, st => .next env st
  | v :: vs, env, st => match body (env.set i (some v)) st with
    | .next env' st' => forL i body vs env' st'
    | .cnt env' st' => forL i body vs env' st'
    | .brk env' st' => .next env' st'
    | r => r
def whileL (c : Env → Store → R (Bool × Store)) (body : Env → Store → RS) : Nat → Env → Store → RS
  | 0, _, _ => .stuck
  | n + 1, env, st => (c env st).st env fun p => if p.1 then (match body env p.2 with
    | .next env' st' => whileL c body n env' st'
    | .cnt env' st' => whileL c body n env' st'
    | .brk env' st' => .next env' st'
    | r => r) else .next env p.2
def vSto (x k y : Val) (st : Store) : R Store := match x, k with
  | .loc n, .int j => match st[n]? with
    | some (.lst xs) => match ixN xs.length j with
      | some m => .ok (st.set n (.lst (xs.set m y)))
      | none => .stuck
    | _ => .stuck
  | _, _ => .stuck
section
variable (Φ : Tab) (G : Str → Option Val)
mutual
def evS : S → Env → Store → RS
  | .asg i e, env, st => ((ev Φ G e).v env st).st env fun p => .next (env.set i (some p.1)) p.2
  | .sto o i e, env, st => ((ev Φ G e).v env st).st env fun p => ((ev Φ G o).v env p.2).st env fun q => ((ev Φ G i).v env q.2).st env fun r =>
      (vSto q.1 r.1 p.1 r.2).st env fun st' => .next env st'
  | .expr e, env, st => ((ev Φ G e).v env st).st env fun p => .next env p.2
  | .ite c a b, env, st => ((ev Φ G c).t env st).st env fun p => if p.1 then evSs a env p.2 else evSs b env p.2
  | .forr i it body, env, st => ((ev Φ G it).i env st).st env fun p => forL i (evSs body) p.1 env p.2
  | .whil n c body, env, st => whileL (ev Φ G c).t (evSs body) n env st
  | .ret e, env, st => ((ev Φ G e).v env st).st env fun p => .ret p.1 p.2
  | .retn, _, st => .ret .non st
  | .pass, env, st => .next env st
  | .brk, env, st => .brk env st
  | .cnt, env, st => .cnt env st
  | .never, _, _ => .stuck
def evSs : Ss → Env → Store → RS
  | .nil, env, st => .next env st
  | .cons s r, env, st => (evS s env st).bind (evSs r)
end
end
/-- a def: its number of names, its body -/
def runB (Φ : Tab) (G : Str → Option Val) (n : Nat) (body : Ss) (vs : List Val) (st : Store) : RV :=
  match evSs Φ G body (vs.map some ++ List.replicate (n - vs.length) none) st with
  | .next _ st' => .ok (.non, st')
  | .ret v st' => .ok (v, st')
  | .exn c fs _ st' => .exn c fs st'
  | _ => .stuck
end MP
/-! MiniPy: how trees and stores lie in the abstract heap. -/
namespace MP
open PySem L2

section
variable (K : PySem.W.Frag) (F : Hp) (μ : Nat → Addr) (n : Nat)
mutual
def RepV : Val → V → Prop
  | .non, v => v = .non
  | .bl b, v => v = .bl b
  | .int i, v => v = .int i
  | .str s, v => v = .str s
  | .tup xs, v => ∃ a vs, v = .ref a ∧ SqT K F a vs ∧ RepL xs vs
  | .lst xs, v => ∃ a vs, v = .ref a ∧ F a = some (.lst vs) ∧ RepL xs vs
  | .scr xs, v => ∃ a vs, v = .ref a ∧ SqL K F a vs ∧ RepL xs vs
  | .loc m, v => v = .ref (μ m) ∧ m < n
def RepL : List Val → List V → Prop
  | [], vs => vs = []
  | x :: xs, vs => ∃ v r, vs = v :: r ∧ RepV x v ∧ RepL xs r
end
end

theorem sqL_mono {K : PySem.W.Frag} {F F' : Hp} {a : Addr} {xs : List V} (e : Same F F') (h : SqL K F a xs) : SqL K F' a xs := e.seq h
theorem sqT_mono {K : PySem.W.Frag} {F F' : Hp} {a : Addr} {xs : List V} (e : Same F F') (h : SqT K F a xs) : SqT K F' a xs := by
  rcases h with (h | ⟨o, h⟩) | h
  · exact .inl (.inl (e _ _ h))
  · exact .inl (.inr ⟨o, e _ _ h⟩)
  · exact .inr h

section
variable {K : PySem.W.Frag} {F F' : Hp} {μ μ' : Nat → Addr} {n n' : Nat}
mutual
theorem RepV.mono (e : Same F F') (m : ∀ i, i < n → μ' i = μ i) (l : n ≤ n') : ∀ {x : Val} {v : V}, RepV K F μ n x v → RepV K F' μ' n' x v
  | .non, _, h => h
  | .bl _, _, h => h
  | .int _, _, h => h
  | .str _, _, h => h
  | .tup xs, _, ⟨a, vs, h1, h2, h3⟩ => ⟨a, vs, h1, sqT_mono e h2, RepL.mono e m l h3⟩
  | .lst xs, _, ⟨a, vs, h1, h2, h3⟩ => ⟨a, vs, h1, e _ _ h2, RepL.mono e m l h3⟩
  | .scr xs, _, ⟨a, vs, h1, h2, h3⟩ => ⟨a, vs, h1, sqL_mono e h2, RepL.mono e m l h3⟩
  | .loc k, _, ⟨h1, h2⟩ => ⟨by rw [h1, m k h2], Nat.lt_of_lt_of_le h2 l⟩
theorem RepL.mono (e : Same F F') (m : ∀ i, i < n → μ' i = μ i) (l : n ≤ n') : ∀ {xs : List Val} {vs : List V}, RepL K F μ n xs vs → RepL K F' μ' n' xs vs
  | [], _, h => h
  | x :: xs, _, ⟨v, r, h1, h2, h3⟩ => ⟨v, r, h1, RepV.mono e m l h2, RepL.mono e m l h3⟩
end
theorem RepL.len : ∀ {xs : List Val} {vs : List V}, RepL K F μ n xs vs → vs.length = xs.length
  | [], _, h => by cases h; rfl
  | x :: xs, _, ⟨v, r, h1, _, h3⟩ => by subst h1; simp [RepL.len h3]
theorem RepL.get : ∀ {xs : List Val} {vs : List V} {i : Nat} {x : Val}, RepL K F μ n xs vs → xs[i]? = some x → ∃ v, vs[i]? = some v ∧ RepV K F μ n x v
  | [], _, _, _, _, e => by simp at e
  | y :: ys, _, 0, x, ⟨v, r, h1, h2, _⟩, e => by
    simp at e; subst e; subst h1; exact ⟨v, rfl, h2⟩
  | y :: ys, _, i + 1, x, ⟨v, r, h1, _, h3⟩, e => by
    subst h1
    obtain ⟨w, h4, h5⟩ := RepL.get (i := i) (x := x) h3 (by simpa using e)
    exact ⟨w, by simpa using h4, h5⟩
theorem RepL.getV : ∀ {xs : List Val} {vs : List V} {i : Nat} {v : V}, RepL K F μ n xs vs → vs[i]? = some v → ∃ x, xs[i]? = some x ∧ RepV K F μ n x v
  | [], _, _, _, h, e => by cases h; simp at e
  | y :: ys, _, 0, x, ⟨v, r, h1, h2, _⟩, e => by
    subst h1; simp at e; subst e; exact ⟨y, rfl, h2⟩
  | y :: ys, _, i + 1, x, ⟨v, r, h1, _, h3⟩, e => by
    subst h1
    obtain ⟨w, h4, h5⟩ := RepL.getV (i := i) (v := x) h3 (by simpa using e)
    exact ⟨w, by simpa using h4, h5⟩
theorem RepL.append : ∀ {xs ys : List Val} {vs ws : List V}, RepL K F μ n xs vs → RepL K F μ n ys ws → RepL K F μ n (xs ++ ys) (vs ++ ws)
  | [], _, _, _, h, q => by cases h; exact q
  | x :: xs, _, _, _, ⟨v, r, h1, h2, h3⟩, q => by subst h1; exact ⟨v, _, rfl, h2, RepL.append h3 q⟩
theorem RepL.set {y : Val} {w : V} (hy : RepV K F μ n y w) : ∀ {xs : List Val} {vs : List V} (i : Nat), RepL K F μ n xs vs → RepL K F μ n (xs.set i y) (vs.set i w)
  | [], _, _, h => by cases h; rfl
  | x :: xs, _, 0, ⟨v, r, h1, h2, h3⟩ => by subst h1; exact ⟨w, r, rfl, hy, h3⟩
  | x :: xs, _, i + 1, ⟨v, r, h1, h2, h3⟩ => by subst h1; exact ⟨v, _, rfl, h2, RepL.set hy i h3⟩
theorem RepL.take : ∀ {xs : List Val} {vs : List V} (i : Nat), RepL K F μ n xs vs → RepL K F μ n (xs.take i) (vs.take i)
  | _, _, 0, _ => by rw [List.take_zero, List.take_zero]; rfl
  | [], _, i + 1, h => by cases h; rfl
  | x :: xs, _, i + 1, ⟨v, r, h1, h2, h3⟩ => by subst h1; exact ⟨v, _, rfl, h2, RepL.take i h3⟩
theorem RepL.drop : ∀ {xs : List Val} {vs : List V} (i : Nat), RepL K F μ n xs vs → RepL K F μ n (xs.drop i) (vs.drop i)
  | _, _, 0, h => h
  | [], _, i + 1, h => by cases h; rfl
  | x :: xs, _, i + 1, ⟨v, r, h1, h2, h3⟩ => by subst h1; exact RepL.drop i h3
theorem RepL.rep {xs : List Val} {vs : List V} (h : RepL K F μ n xs vs) : ∀ k : Nat, RepL K F μ n (List.replicate k xs).flatten (List.replicate k vs).flatten
  | 0 => by simp [RepL]
  | k + 1 => by simpa [List.replicate_succ] using h.append (RepL.rep h k)
theorem RepL.ints : ∀ {ns : List Int} {vs : List V}, RepL K F μ n (ns.map Val.int) vs → vs = ns.map V.int
  | [], _, h => h
  | i :: ns, _, ⟨v, r, h1, h2, h3⟩ => by subst h1; rw [RepL.ints h3]; cases h2; rfl
theorem repL_ints : ∀ (ns : List Int), RepL K F μ n (ns.map Val.int) (ns.map V.int)
  | [] => rfl
  | i :: ns => ⟨_, _, rfl, rfl, repL_ints ns⟩
theorem repL_nil : RepL K F μ n [] [] := rfl
theorem RepL.nil_iff {xs : List Val} {vs : List V} (h : RepL K F μ n xs vs) : vs = [] ↔ xs = [] := by
  have e := h.len
  constructor
  · intro q; subst q; cases xs with
    | nil => rfl
    | cons => simp at e
  · intro q; subst q; exact h

/-! closed: every place of the store that stands in it lies below n -/
mutual
def closed (n : Nat) : Val → Bool
  | .loc m => decide (m < n)
  | .tup xs => closedL n xs
  | .lst xs => closedL n xs
  | .scr xs => closedL n xs
  | .non => true | .bl _ => true | .int _ => true | .str _ => true
def closedL (n : Nat) : List Val → Bool
  | [] => true
  | x :: xs => closed n x && closedL n xs
end
mutual
theorem RepV.closed : ∀ {x : Val} {v : V}, RepV K F μ n x v → MP.closed n x = true
  | .non, _, _ => rfl
  | .bl _, _, _ => rfl
  | .int _, _, _ => rfl
  | .str _, _, _ => rfl
  | .tup xs, _, ⟨a, vs, h1, h2, h3⟩ => RepL.closed h3
  | .lst xs, _, ⟨a, vs, h1, h2, h3⟩ => RepL.closed h3
  | .scr xs, _, ⟨a, vs, h1, h2, h3⟩ => RepL.closed h3
  | .loc k, _, ⟨h1, h2⟩ => decide_eq_true h2
theorem RepL.closed : ∀ {xs : List Val} {vs : List V}, RepL K F μ n xs vs → MP.closedL n xs = true
  | [], _, _ => rfl
  | x :: xs, _, ⟨v, r, h1, h2, h3⟩ => by
    show (MP.closed n x && MP.closedL n xs) = true
    rw [RepV.closed h2, RepL.closed h3]; rfl
end
mutual
theorem RepV.shut : ∀ {x : Val} {v : V}, RepV K F μ n x v → MP.closed n' x = true → RepV K F μ n' x v
  | .non, _, h, _ => h
  | .bl _, _, h, _ => h
  | .int _, _, h, _ => h
  | .str _, _, h, _ => h
  | .tup xs, _, ⟨a, vs, h1, h2, h3⟩, c => ⟨a, vs, h1, h2, RepL.shut h3 c⟩
  | .lst xs, _, ⟨a, vs, h1, h2, h3⟩, c => ⟨a, vs, h1, h2, RepL.shut h3 c⟩
  | .scr xs, _, ⟨a, vs, h1, h2, h3⟩, c => ⟨a, vs, h1, h2, RepL.shut h3 c⟩
  | .loc k, _, ⟨h1, h2⟩, c => ⟨h1, of_decide_eq_true c⟩
theorem RepL.shut : ∀ {xs : List Val} {vs : List V}, RepL K F μ n xs vs → MP.closedL n' xs = true → RepL K F μ n' xs vs
  | [], _, h, _ => h
  | x :: xs, _, ⟨v, r, h1, h2, h3⟩, c => by
    have c' : (MP.closed n' x && MP.closedL n' xs) = true := c
    rw [Bool.and_eq_true] at c'
    exact ⟨v, r, h1, RepV.shut h2 c'.1, RepL.shut h3 c'.2⟩
end
mutual
theorem closed_mono (l : n ≤ n') : ∀ {x : Val}, MP.closed n x = true → MP.closed n' x = true
  | .non, _ => rfl
  | .bl _, _ => rfl
  | .int _, _ => rfl
  | .str _, _ => rfl
  | .tup xs, h => closedL_mono l h
  | .lst xs, h => closedL_mono l h
  | .scr xs, h => closedL_mono l h
  | .loc k, h => decide_eq_true (Nat.lt_of_lt_of_le (of_decide_eq_true h) l)
theorem closedL_mono (l : n ≤ n') : ∀ {xs : List Val}, MP.closedL n xs = true → MP.closedL n' xs = true
  | [], _ => rfl
  | x :: xs, h => by
    have c' : (MP.closed n x && MP.closedL n xs) = true := h
    rw [Bool.and_eq_true] at c'
    show (MP.closed n' x && MP.closedL n' xs) = true
    rw [closed_mono l c'.1, closedL_mono l c'.2]; rfl
end

/-- dicts: the same keys in the same order -/
def RepK (K : PySem.W.Frag) (F : Hp) (μ : Nat → Addr) (n : Nat) : List (Key × Val) → List (Key × V) → Prop
  | [], r => r = []
  | (k, x) :: xs, r => ∃ v q, r = (k, v) :: q ∧ RepV K F μ n x v ∧ RepK K F μ n xs q
theorem RepK.mono (e : Same F F') (m : ∀ i, i < n → μ' i = μ i) (l : n ≤ n') : ∀ {xs : List (Key × Val)} {vs : List (Key × V)}, RepK K F μ n xs vs → RepK K F' μ' n' xs vs
  | [], _, h => h
  | (k, x) :: xs, _, ⟨v, r, h1, h2, h3⟩ => ⟨v, r, h1, h2.mono e m l, RepK.mono e m l h3⟩
def closedK (n : Nat) (kvs : List (Key × Val)) : Bool := kvs.all fun p => closed n p.2
theorem RepK.closed : ∀ {xs : List (Key × Val)} {vs : List (Key × V)}, RepK K F μ n xs vs → closedK n xs = true
  | [], _, _ => rfl
  | (k, x) :: xs, _, ⟨v, r, h1, h2, h3⟩ => by
    show (MP.closed n x && closedK n xs) = true
    rw [RepV.closed h2, RepK.closed h3]; rfl
theorem RepK.shut : ∀ {xs : List (Key × Val)} {vs : List (Key × V)}, RepK K F μ n xs vs → closedK n' xs = true → RepK K F μ n' xs vs
  | [], _, h, _ => h
  | (k, x) :: xs, _, ⟨v, r, h1, h2, h3⟩, c => by
    have c' : (MP.closed n' x && closedK n' xs) = true := c
    rw [Bool.and_eq_true] at c'
    exact ⟨v, r, h1, h2.shut c'.1, RepK.shut h3 c'.2⟩
theorem closedK_mono (l : n ≤ n') : ∀ {xs : List (Key × Val)}, closedK n xs = true → closedK n' xs = true
  | [], _ => rfl
  | (k, x) :: xs, h => by
    have c' : (MP.closed n x && closedK n xs) = true := h
    rw [Bool.and_eq_true] at c'
    show (MP.closed n' x && closedK n' xs) = true
    rw [closed_mono l c'.1, closedK_mono l c'.2]; rfl
end

/-! ### the store -/
def CellOk (K : PySem.W.Frag) (F : Hp) (μ : Nat → Addr) (n : Nat) (H : Hp) (a : Addr) : Cell → Prop
  | .lst xs => F a = none ∧ ∃ vs, H a = some (.lst vs) ∧ RepL K F μ n xs vs
  | .frz xs => ∃ vs, F a = some (.lst vs) ∧ RepL K F μ n xs vs
  | .dk kvs => F a = none ∧ ∃ r, H a = some (.dK r) ∧ RepK K F μ n kvs r
  | .dead => True
def closedC (n : Nat) : Cell → Bool
  | .lst xs => closedL n xs
  | .frz xs => closedL n xs
  | .dk kvs => closedK n kvs
  | .dead => true
/-- a cell that may change -/
def live : Cell → Bool
  | .lst _ => true | .dk _ => true | _ => false
structure StOk (K : PySem.W.Frag) (F : Hp) (μ : Nat → Addr) (st : Store) (H : Hp) : Prop where
  cell : ∀ i c, st[i]? = some c → CellOk K F μ st.length H (μ i) c
  inj : ∀ i j c d, st[i]? = some c → st[j]? = some d → live c = true → live d = true → μ i = μ j → i = j
/-- a is no place of a cell that may change -/
def Quiet (μ : Nat → Addr) (st : Store) (a : Addr) : Prop := ∀ i c, st[i]? = some c → live c = true → μ i ≠ a
/-- what lies behind lies also here -/
structure Ext (F : Hp) (μ : Nat → Addr) (st : Store) (H : Hp) (F' : Hp) (μ' : Nat → Addr) (st' : Store) (H' : Hp) : Prop where
  same : Same F F'
  mu : ∀ i, i < st.length → μ' i = μ i
  len : st.length ≤ st'.length
  frm : ∀ a o, H a = some o → Quiet μ st a → H' a = some o
  new : ∀ i c, st'[i]? = some c → live c = true → (∃ d, st[i]? = some d ∧ live d = true) ∨ H (μ' i) = none
  dom : ∀ a o, H a = some o → ∃ o', H' a = some o'
  fz : ∀ a o, F' a = some o → F a = some o ∨ H a = none ∨ ∃ i c, st[i]? = some c ∧ live c = true ∧ μ i = a
theorem Ext.refl {F : Hp} {μ : Nat → Addr} {st : Store} {H : Hp} : Ext F μ st H F μ st H := ⟨Same.refl F, fun _ _ => rfl, Nat.le_refl _, fun _ _ h _ => h, fun _ c h l => .inl ⟨c, h, l⟩, fun _ o h => ⟨o, h⟩, fun _ _ h => .inl h⟩
theorem Ext.trans {F F1 F2 : Hp} {μ μ1 μ2 : Nat → Addr} {st st1 st2 : Store} {H H1 H2 : Hp} (a : Ext F μ st H F1 μ1 st1 H1) (b : Ext F1 μ1 st1 H1 F2 μ2 st2 H2) : Ext F μ st H F2 μ2 st2 H2 where
  same := a.same.trans b.same
  mu := fun i h => (b.mu i (Nat.lt_of_lt_of_le h a.len)).trans (a.mu i h)
  len := Nat.le_trans a.len b.len
  frm := fun x o h q => b.frm x o (a.frm x o h q) fun i c hc hl z => by
    rcases a.new i c hc hl with ⟨d, hd, ld⟩ | hn
    · have hi := (List.getElem?_eq_some_iff.mp hd).1
      rw [a.mu i hi] at z
      exact q i d hd ld z
    · rw [z, h] at hn; cases hn
  new := fun i c hc hl => by
    rcases b.new i c hc hl with ⟨d, hd, ld⟩ | hn
    · rcases a.new i d hd ld with ⟨d', hd', ld'⟩ | hn
      · exact .inl ⟨d', hd', ld'⟩
      · have hi := (List.getElem?_eq_some_iff.mp hd).1
        exact .inr (by rw [b.mu i hi]; exact hn)
    · refine .inr ?_
      cases q : H (μ2 i) with
      | none => rfl
      | some o =>
        obtain ⟨o', h'⟩ := a.dom _ o q
        rw [hn] at h'; cases h'
  dom := fun x o h => let ⟨o1, h1⟩ := a.dom x o h; b.dom x o1 h1
  fz := fun x o h => by
    rcases b.fz x o h with h1 | h1 | ⟨i, c, hc, hl, hx⟩
    · exact a.fz x o h1
    · refine .inr (.inl ?_)
      cases q : H x with
      | none => rfl
      | some u => obtain ⟨u', hu⟩ := a.dom x u q; rw [h1] at hu; cases hu
    · rcases a.new i c hc hl with ⟨d, hd, ld⟩ | hn
      · have hi := (List.getElem?_eq_some_iff.mp hd).1
        exact .inr (.inr ⟨i, d, hd, ld, by rw [← a.mu i hi]; exact hx⟩)
      · exact .inr (.inl (by rw [← hx]; exact hn))
section
variable {K : PySem.W.Frag} {F F' : Hp} {μ μ' : Nat → Addr} {st st' : Store} {H H' : Hp}
theorem Ext.v (e : Ext F μ st H F' μ' st' H') {x : Val} {v : V} (h : RepV K F μ st.length x v) : RepV K F' μ' st'.length x v := h.mono e.same e.mu e.len
theorem Ext.l (e : Ext F μ st H F' μ' st' H') {x : List Val} {v : List V} (h : RepL K F μ st.length x v) : RepL K F' μ' st'.length x v := h.mono e.same e.mu e.len
/-- the frame's names -/
def EnvOk (K : PySem.W.Frag) (F : Hp) (μ : Nat → Addr) (n : Nat) (env : Env) (σ : L2.St) : Prop :=
  env.length = σ.length ∧ ∀ (i : Nat) (x : Val), env[i]? = some (some x) → ∃ v, σ[i]? = some (some v) ∧ RepV K F μ n x v
theorem Ext.env (e : Ext F μ st H F' μ' st' H') {env : Env} {σ : L2.St} (h : EnvOk K F μ st.length env σ) : EnvOk K F' μ' st'.length env σ :=
  ⟨h.1, fun i x q => let ⟨v, h1, h2⟩ := h.2 i x q; ⟨v, h1, e.v h2⟩⟩
theorem EnvOk.set {n : Nat} {env : Env} {σ : L2.St} (h : EnvOk K F μ n env σ) {x : Val} {v : V} (r : RepV K F μ n x v) (i : Nat) : EnvOk K F μ n (env.set i (some x)) (σ.set i (some v)) := by
  refine ⟨by rw [List.length_set, List.length_set]; exact h.1, fun j y e => ?_⟩
  by_cases hj : i = j
  · subst hj
    by_cases hl : i < env.length
    · rw [List.getElem?_set_self hl] at e
      have hl' : i < σ.length := by rw [← h.1]; exact hl
      rw [List.getElem?_set_self hl']
      cases e
      exact ⟨v, rfl, r⟩
    · rw [List.getElem?_eq_none (by simp; omega)] at e; cases e
  · rw [List.getElem?_set_ne hj] at e
    rw [List.getElem?_set_ne hj]
    exact h.2 j y e
/-- all together -/
structure Good (K : PySem.W.Frag) (F : Hp) (μ : Nat → Addr) (st : Store) (H : Hp) : Prop where
  same : Same F H
  st : StOk K F μ st H

theorem CellOk.mono {n n' : Nat} {a : Addr} {c : Cell} (e : Same F F') (m : ∀ i, i < n → μ' i = μ i) (l : n ≤ n') (h : CellOk K F μ n H a c) (hF : live c = true → F' a = none) (hH : live c = true → H' a = H a) : CellOk K F' μ' n' H' a c := by
  cases c with
  | lst xs =>
    obtain ⟨h1, vs, h2, h3⟩ := h
    exact ⟨hF rfl, vs, (hH rfl).trans h2, h3.mono e m l⟩
  | frz xs =>
    obtain ⟨vs, h2, h3⟩ := h
    exact ⟨vs, e _ _ h2, h3.mono e m l⟩
  | dk kvs =>
    obtain ⟨h1, vs, h2, h3⟩ := h
    exact ⟨hF rfl, vs, (hH rfl).trans h2, h3.mono e m l⟩
  | dead => trivial
theorem CellOk.there {n : Nat} {a : Addr} {c : Cell} (h : CellOk K F μ n H a c) (hl : live c = true) : ∃ o, H a = some o := by
  cases c with
  | lst xs => obtain ⟨_, vs, h2, _⟩ := h; exact ⟨_, h2⟩
  | frz xs => cases hl
  | dk kvs => obtain ⟨_, vs, h2, _⟩ := h; exact ⟨_, h2⟩
  | dead => cases hl
theorem CellOk.free {n : Nat} {a : Addr} {c : Cell} (h : CellOk K F μ n H a c) (hl : live c = true) : F a = none := by
  cases c with
  | lst xs => exact h.1
  | frz xs => cases hl
  | dk kvs => exact h.1
  | dead => cases hl

/-- a new object, frozen at once -/
theorem Good.frozen (g : Good K F μ st H) {p : Addr} {o : HO} (hp : H p = none) : Good K (upd F p o) μ st (upd H p o) ∧ Ext F μ st H (upd F p o) μ st (upd H p o) := by
  have hF : F p = none := g.same.free hp
  have sm : Same F (upd F p o) := fun b u e => by rw [upd_ne (ne_of_none e hF)]; exact e
  refine ⟨⟨fun b u e => ?_, ⟨fun i c e => ?_, g.st.inj⟩⟩, ⟨sm, fun _ _ => rfl, Nat.le_refl _, fun a u h _ => by rw [upd_ne (ne_of_none h hp)]; exact h, fun _ c h l => .inl ⟨c, h, l⟩, fun a u h => ⟨u, by rw [upd_ne (ne_of_none h hp)]; exact h⟩, fun a u h => by
    by_cases ha : a = p
    · exact .inr (.inl (by rw [ha]; exact hp))
    · rw [upd_ne ha] at h; exact .inl h⟩⟩
  · by_cases hb : b = p
    · subst hb; rw [upd_same] at e ⊢; exact e
    · rw [upd_ne hb] at e ⊢; exact g.same _ _ e
  · have ck := g.st.cell i c e
    refine ck.mono sm (fun _ _ => rfl) (Nat.le_refl _) (fun hl => ?_) fun hl => ?_
    · obtain ⟨u, hu⟩ := ck.there hl
      rw [upd_ne (ne_of_none hu hp)]
      exact ck.free hl
    · obtain ⟨u, hu⟩ := ck.there hl
      rw [upd_ne (ne_of_none hu hp)]
/-- other things laid beside -/
theorem Good.beside (g : Good K F μ st H) {p : Addr} {o : HO} (hp : H p = none) : Good K F μ st (upd H p o) := by
  have hF : F p = none := g.same.free hp
  refine ⟨fun b u e => ?_, ⟨fun i c e => ?_, g.st.inj⟩⟩
  · rw [upd_ne (ne_of_none e hF)]; exact g.same _ _ e
  · have ck := g.st.cell i c e
    refine ck.mono (Same.refl _) (fun _ _ => rfl) (Nat.le_refl _) (fun hl => ck.free hl) fun hl => ?_
    obtain ⟨u, hu⟩ := ck.there hl
    rw [upd_ne (ne_of_none hu hp)]
/-- a new cell -/
def muSet (μ : Nat → Addr) (i : Nat) (a : Addr) : Nat → Addr := fun k => if k = i then a else μ k
theorem Good.celled {H0 : Hp} {o : HO} (g0 : Good K F μ st H0) {p : Addr} {c : Cell} (hp : H0 p = none) (eH : H = upd H0 p o) (hc : CellOk K F μ st.length H p c) :
    Good K F (muSet μ st.length p) (st ++ [c]) H ∧ Ext F μ st H0 F (muSet μ st.length p) (st ++ [c]) H ∧ RepV K F (muSet μ st.length p) (st ++ [c]).length (.loc st.length) (.ref p) := by
  have g : Good K F μ st H := by rw [eH]; exact g0.beside hp
  have hF : F p = none := g0.same.free hp
  have hnew : ∀ i d, st[i]? = some d → live d = true → μ i ≠ p := fun i d e hl z => by
    obtain ⟨u, hu⟩ := (g0.st.cell i d e).there hl
    rw [z, hp] at hu; cases hu
  have mu : ∀ i, i < st.length → muSet μ st.length p i = μ i := fun i h => by unfold muSet; rw [if_neg (Nat.ne_of_lt h)]
  have mp : muSet μ st.length p st.length = p := by unfold muSet; rw [if_pos rfl]
  have ln : (st ++ [c]).length = st.length + 1 := by simp
  refine ⟨⟨g.same, ⟨fun i d e => ?_, fun i j d d' e1 e2 l1 l2 q => ?_⟩⟩, ⟨Same.refl _, mu, by omega, fun a u h _ => by rw [eH, upd_ne (ne_of_none h hp)]; exact h, fun i d e l => ?_, fun a u h => ⟨u, by rw [eH, upd_ne (ne_of_none h hp)]; exact h⟩, fun _ _ h => .inl h⟩, ?_⟩
  · rw [ln]
    by_cases hi : i < st.length
    · rw [List.getElem?_append_left hi] at e
      rw [mu i hi]
      exact (g.st.cell i d e).mono (Same.refl _) mu (Nat.le_succ _) (fun hl => (g.st.cell i d e).free hl) fun _ => rfl
    · have hi' : i = st.length := by
        have := (List.getElem?_eq_some_iff.mp e).1
        rw [ln] at this; omega
      subst hi'
      simp at e
      subst e
      rw [mp]
      exact hc.mono (Same.refl _) mu (Nat.le_succ _) (fun hl => hF) fun _ => rfl
  · have key : ∀ k d, (st ++ [c])[k]? = some d → k ≠ st.length → st[k]? = some d ∧ k < st.length := fun k d e hk => by
      have h1 := (List.getElem?_eq_some_iff.mp e).1
      rw [ln] at h1
      have h2 : k < st.length := by omega
      rw [List.getElem?_append_left h2] at e
      exact ⟨e, h2⟩
    by_cases hi : i = st.length
    · by_cases hj : j = st.length
      · rw [hi, hj]
      · obtain ⟨e2, hj2⟩ := key j d' e2 hj
        rw [hi, mp, mu j hj2] at q
        exact absurd q.symm (hnew j d' e2 l2)
    · obtain ⟨e1, hi2⟩ := key i d e1 hi
      by_cases hj : j = st.length
      · rw [hj, mp, mu i hi2] at q
        exact absurd q (hnew i d e1 l1)
      · obtain ⟨e2, hj2⟩ := key j d' e2 hj
        rw [mu i hi2, mu j hj2] at q
        exact g.st.inj i j d d' e1 e2 l1 l2 q
  · by_cases hi : i < st.length
    · rw [List.getElem?_append_left hi] at e
      exact .inl ⟨d, e, l⟩
    · have h1 := (List.getElem?_eq_some_iff.mp e).1
      rw [ln] at h1
      have e2 : i = st.length := by omega
      exact .inr (by rw [e2, mp]; exact hp)
  · refine ⟨by rw [mp], by rw [ln]; omega⟩
theorem Good.fresh (g : Good K F μ st H) {p : Addr} (hp : H p = none) : ∀ i d, st[i]? = some d → live d = true → μ i ≠ p := fun i d e hl z => by
  obtain ⟨o, ho⟩ := (g.st.cell i d e).there hl
  rw [z, hp] at ho; cases ho
/-- a live cell is written -/
theorem Good.write (g : Good K F μ st H) {i : Nat} {c c' : Cell} {o : HO} (hc : st[i]? = some c) (hl : live c = true) (hl' : live c' = true)
    (hn : CellOk K F μ st.length (upd H (μ i) o) (μ i) c') : Good K F μ (st.set i c') (upd H (μ i) o) ∧ Ext F μ st H F μ (st.set i c') (upd H (μ i) o) := by
  have ck := g.st.cell i c hc
  have hF := ck.free hl
  have hi : i < st.length := (List.getElem?_eq_some_iff.mp hc).1
  refine ⟨⟨fun b u e => ?_, ⟨fun j d e => ?_, fun j k d d' e1 e2 l1 l2 q => ?_⟩⟩, ⟨Same.refl _, fun _ _ => rfl, by simp, fun a u h q => by rw [upd_ne (Ne.symm (q i c hc hl))]; exact h, fun j d e l => ?_, fun a u h => ?_, fun _ _ h => .inl h⟩⟩
  · rw [upd_ne (ne_of_none e hF)]; exact g.same _ _ e
  · rw [List.length_set]
    by_cases hj : i = j
    · subst hj
      rw [List.getElem?_set_self hi] at e
      cases e
      exact hn
    · rw [List.getElem?_set_ne hj] at e
      have cj := g.st.cell j d e
      refine cj.mono (Same.refl _) (fun _ _ => rfl) (Nat.le_refl _) (fun h => cj.free h) fun h => ?_
      have : μ j ≠ μ i := fun z => hj (g.st.inj i j c d hc e hl h z.symm)
      rw [upd_ne this]
  · have fix : ∀ k d, (st.set i c')[k]? = some d → live d = true → ∃ d0, st[k]? = some d0 ∧ live d0 = true := fun k d e l => by
      by_cases hk : i = k
      · subst hk; exact ⟨c, hc, hl⟩
      · rw [List.getElem?_set_ne hk] at e; exact ⟨d, e, l⟩
    obtain ⟨d0, a1, a2⟩ := fix j d e1 l1
    obtain ⟨d1, b1, b2⟩ := fix k d' e2 l2
    exact g.st.inj j k d0 d1 a1 b1 a2 b2 q
  · by_cases hj : i = j
    · subst hj; exact .inl ⟨c, hc, hl⟩
    · rw [List.getElem?_set_ne hj] at e; exact .inl ⟨d, e, l⟩
  · by_cases ha : a = μ i
    · subst ha; exact ⟨o, upd_same⟩
    · exact ⟨u, by rw [upd_ne ha]; exact h⟩
/-- a list's cell is frozen -/
theorem Good.freeze (g : Good K F μ st H) {i : Nat} {xs : List Val} (hc : st[i]? = some (.lst xs)) :
    ∃ F', Good K F' μ (st.set i (.frz xs)) H ∧ Ext F μ st H F' μ (st.set i (.frz xs)) H ∧ RepV K F' μ (st.set i (.frz xs)).length (.lst xs) (.ref (μ i)) := by
  have ck := g.st.cell i _ hc
  obtain ⟨hF, vs, hH, hr⟩ := ck
  have hi : i < st.length := (List.getElem?_eq_some_iff.mp hc).1
  have sm : Same F (upd F (μ i) (.lst vs)) := fun b u e => by rw [upd_ne (ne_of_none e hF)]; exact e
  have hr' : RepL K (upd F (μ i) (.lst vs)) μ (st.set i (.frz xs)).length xs vs := hr.mono sm (fun _ _ => rfl) (by simp)
  refine ⟨upd F (μ i) (.lst vs), ⟨fun b u e => ?_, ⟨fun j d e => ?_, fun j k d d' e1 e2 l1 l2 q => ?_⟩⟩, ⟨sm, fun _ _ => rfl, by simp, fun _ _ h _ => h, fun j d e l => ?_, fun _ u h => ⟨u, h⟩, fun a u h => ?_⟩, ⟨_, vs, rfl, upd_same, hr'⟩⟩
  · by_cases hb : b = μ i
    · subst hb; rw [upd_same] at e; cases e; exact hH
    · rw [upd_ne hb] at e; exact g.same _ _ e
  · by_cases hj : i = j
    · subst hj
      rw [List.getElem?_set_self hi] at e
      cases e
      exact ⟨vs, upd_same, hr'⟩
    · rw [List.getElem?_set_ne hj] at e
      have cj := g.st.cell j d e
      refine cj.mono sm (fun _ _ => rfl) (by simp) (fun h => ?_) fun h => rfl
      have : μ j ≠ μ i := fun z => hj (g.st.inj i j _ d hc e rfl h z.symm)
      rw [upd_ne this]
      exact cj.free h
  · have fix : ∀ k d, (st.set i (.frz xs))[k]? = some d → live d = true → st[k]? = some d := fun k d e l => by
      by_cases hk : i = k
      · subst hk
        rw [List.getElem?_set_self hi] at e
        cases e; cases l
      · rw [List.getElem?_set_ne hk] at e; exact e
    exact g.st.inj j k d d' (fix j d e1 l1) (fix k d' e2 l2) l1 l2 q
  · by_cases hj : i = j
    · subst hj
      rw [List.getElem?_set_self hi] at e
      cases e; cases l
    · rw [List.getElem?_set_ne hj] at e; exact .inl ⟨d, e, l⟩
  · by_cases ha : a = μ i
    · exact .inr (.inr ⟨i, _, hc, rfl, ha.symm⟩)
    · rw [upd_ne ha] at h; exact .inl h
/-- an object taken out -/
def era (H : Hp) (D : Addr) : Hp := fun a => if a = D then none else H a
theorem era_same {D : Addr} : era H D D = none := if_pos rfl
theorem era_ne {D a : Addr} (h : a ≠ D) : era H D a = H a := if_neg h
theorem upd_era {D : Addr} {o : HO} : upd (era H D) D o = upd H D o := by
  funext a
  by_cases h : a = D
  · subst h; rw [upd_same, upd_same]
  · rw [upd_ne h, upd_ne h, era_ne h]
/-- what was done beside an object D, without it -/
theorem Ext.ghost {D : Addr} {o : HO} (g : Good K F μ st H) (hD : H D = none) (e : Ext F μ st (upd H D o) F' μ' st' H') (g' : Good K F' μ' st' H') :
    H' D = some o ∧ Ext F μ st H F' μ' st' (era H' D) ∧ Good K F' μ' st' (era H' D) := by
  have hF : F D = none := g.same.free hD
  have hQ : Quiet μ st D := fun i c hc hl => g.fresh hD i c hc hl
  have hF' : F' D = none := by
    cases q : F' D with
    | none => rfl
    | some u =>
      rcases e.fz D u q with h | h | ⟨i, c, hc, hl, hx⟩
      · rw [hF] at h; cases h
      · rw [upd_same] at h; cases h
      · exact absurd hx (hQ i c hc hl)
  have hQ' : ∀ i c, st'[i]? = some c → live c = true → μ' i ≠ D := fun i c hc hl z => by
    rcases e.new i c hc hl with ⟨d, hd, ld⟩ | hn
    · have hi := (List.getElem?_eq_some_iff.mp hd).1
      exact hQ i d hd ld (by rw [← e.mu i hi]; exact z)
    · rw [z, upd_same] at hn; cases hn
  refine ⟨e.frm D o upd_same hQ, ⟨e.same, e.mu, e.len, fun a u h q => ?_, fun i c hc hl => ?_, fun a u h => ?_, fun a u h => ?_⟩, ⟨fun b u h => ?_, ⟨fun i c hc => ?_, g'.st.inj⟩⟩⟩
  · have ha := ne_of_none h hD
    rw [era_ne ha]
    exact e.frm a u (by rw [upd_ne ha]; exact h) q
  · rcases e.new i c hc hl with h | h
    · exact .inl h
    · have ha := hQ' i c hc hl
      rw [upd_ne ha] at h
      exact .inr h
  · have ha := ne_of_none h hD
    rw [era_ne ha]
    exact e.dom a u (by rw [upd_ne ha]; exact h)
  · rcases e.fz a u h with h1 | h1 | h1
    · exact .inl h1
    · by_cases ha : a = D
      · rw [ha, hF'] at h; cases h
      · rw [upd_ne ha] at h1; exact .inr (.inl h1)
    · exact .inr (.inr h1)
  · rw [era_ne (ne_of_none h hF')]; exact g'.same _ _ h
  · have ck := g'.st.cell i c hc
    exact ck.mono (Same.refl _) (fun _ _ => rfl) (Nat.le_refl _) (fun hl => ck.free hl) fun hl => era_ne (hQ' i c hc hl)

/-! ### reading sequences -/
theorem seqOf_rep (g : Good K F μ st H) {x : Val} {v : V} {k : Bool} {xs : List Val} (h : RepV K F μ st.length x v) (e : seqOf st x = some (k, xs)) :
    ∃ a vs, v = .ref a ∧ RepL K F μ st.length xs vs ∧ (if k = true then SqL K H a vs else SqT K H a vs) := by
  cases x with
  | tup ys =>
    obtain ⟨a, vs, h1, h2, h3⟩ := h
    cases e
    exact ⟨a, vs, h1, h3, by rw [if_neg Bool.false_ne_true]; exact sqT_mono g.same h2⟩
  | lst ys =>
    obtain ⟨a, vs, h1, h2, h3⟩ := h
    cases e
    exact ⟨a, vs, h1, h3, by rw [if_pos rfl]; exact SqL.of (g.same _ _ h2)⟩
  | scr ys =>
    obtain ⟨a, vs, h1, h2, h3⟩ := h
    cases e
    exact ⟨a, vs, h1, h3, by rw [if_pos rfl]; exact sqL_mono g.same h2⟩
  | loc m =>
    obtain ⟨h1, h2⟩ := h
    change (match st[m]? with | some (.lst xs) => some (true, xs) | some (.frz xs) => some (true, xs) | _ => none) = some (k, xs) at e
    split at e
    · rename_i ys hm
      cases e
      obtain ⟨_, vs, h3, h4⟩ := g.st.cell m _ hm
      exact ⟨_, vs, h1, h4, by rw [if_pos rfl]; exact SqL.of h3⟩
    · rename_i ys hm
      cases e
      obtain ⟨vs, h3, h4⟩ := g.st.cell m _ hm
      exact ⟨_, vs, h1, h4, by rw [if_pos rfl]; exact SqL.of (g.same _ _ h3)⟩
    · cases e
  | _ => cases e
theorem lstOf_rep (g : Good K F μ st H) {x : Val} {v : V} {xs : List Val} (h : RepV K F μ st.length x v) (e : lstOf st x = some xs) :
    ∃ a vs, v = .ref a ∧ RepL K F μ st.length xs vs ∧ H a = some (.lst vs) := by
  cases x with
  | lst ys =>
    obtain ⟨a, vs, h1, h2, h3⟩ := h
    cases e
    exact ⟨a, vs, h1, h3, g.same _ _ h2⟩
  | loc m =>
    obtain ⟨h1, h2⟩ := h
    change (match st[m]? with | some (.lst xs) => some xs | some (.frz xs) => some xs | _ => none) = some xs at e
    split at e
    · rename_i ys hm
      cases e
      obtain ⟨_, vs, h3, h4⟩ := g.st.cell m _ hm
      exact ⟨_, vs, h1, h4, h3⟩
    · rename_i ys hm
      cases e
      obtain ⟨vs, h3, h4⟩ := g.st.cell m _ hm
      exact ⟨_, vs, h1, h4, g.same _ _ h3⟩
    · cases e
  | _ => cases e
end
end MP
/-! MiniPy: a body against the text. -/
namespace MP
open PySem L2

/-! ### forms of expressions -/
def isName : Expr → Option Str | .Name x _ => some x | _ => none
def isInt : Expr → Option Int | .Constant (.int i) _ _ => some i | _ => none
def isBl : Expr → Option Bool | .Constant (.bool b) _ _ => some b | _ => none
def isNon : Expr → Bool | .Constant .none _ _ => true | _ => false
def isStr : Expr → Option Str | .Constant (.str s) _ _ => some s | _ => none
def isTup : Expr → Option (List Expr) | .Tuple es _ _ => some es | _ => none
def isLst : Expr → Option (List Expr) | .List es _ => some es | _ => none
def isBin : Expr → Option (Expr × Operator × Expr) | .BinOp a op b _ => some (a, op, b) | _ => none
def isUn : Expr → Option (UnaryOp × Expr) | .UnaryOp op a _ => some (op, a) | _ => none
def isCmp : Expr → Option (Expr × CmpOp × Expr) | .Compare a [op] [b] _ => some (a, op, b) | _ => none
def isChain : Expr → Option (Expr × CmpOp × Expr × CmpOp × Expr) | .Compare a [op, op'] [b, c] _ => some (a, op, b, op', c) | _ => none
def isBo : Expr → Option (BoolOp × List Expr) | .BoolOp op es _ => some (op, es) | _ => none
def isIfx : Expr → Option (Expr × Expr × Expr) | .IfExp c a b _ => some (c, a, b) | _ => none
def isCall : Expr → Option (Str × List Expr) | .Call (.Name x _) es [] _ => some (x, es) | _ => none
def isMeth : Expr → Option (Expr × Str × List Expr × Bool) | .Call (.Attribute o m apos) es [] cpos => some (o, m, es, apos.endLine == cpos.line) | _ => none
def isSub : Expr → Option (Expr × Expr) | .Subscript a i _ => some (a, i) | _ => none
def isSlice : Expr → Option (Option Expr × Option Expr) | .Slice lo hi none _ => some (lo, hi) | _ => none
def isComp : Expr → Option (Expr × Expr × Expr × List Expr × Scope) | .ListComp elt [⟨tg, it, ifs, 0⟩] sc _ => some (elt, tg, it, ifs, sc) | _ => none

section
variable {pe : Expr}
theorem isName_eq {x : Str} (h : isName pe = some x) : ∃ p, pe = .Name x p := by cases pe <;> first | (cases h; exact ⟨_, rfl⟩) | cases h
theorem isInt_eq {i : Int} (h : isInt pe = some i) : ∃ j p, pe = .Constant (.int i) j p := by
  cases pe <;> first | (rename_i c j p; cases c <;> first | (cases h; exact ⟨_, _, rfl⟩) | cases h) | cases h
theorem isBl_eq {b : Bool} (h : isBl pe = some b) : ∃ j p, pe = .Constant (.bool b) j p := by
  cases pe <;> first | (rename_i c j p; cases c <;> first | (cases h; exact ⟨_, _, rfl⟩) | cases h) | cases h
theorem isNon_eq (h : isNon pe = true) : ∃ j p, pe = .Constant .none j p := by
  cases pe <;> first | (rename_i c j p; cases c <;> first | (cases h; exact ⟨_, _, rfl⟩) | cases h) | cases h
theorem isStr_eq {s : Str} (h : isStr pe = some s) : ∃ j p, pe = .Constant (.str s) j p := by
  cases pe <;> first | (rename_i c j p; cases c <;> first | (cases h; exact ⟨_, _, rfl⟩) | cases h) | cases h
theorem isTup_eq {es : List Expr} (h : isTup pe = some es) : ∃ k p, pe = .Tuple es k p := by cases pe <;> first | (cases h; exact ⟨_, _, rfl⟩) | cases h
theorem isLst_eq {es : List Expr} (h : isLst pe = some es) : ∃ p, pe = .List es p := by cases pe <;> first | (cases h; exact ⟨_, rfl⟩) | cases h
theorem isBin_eq {a b : Expr} {op : Operator} (h : isBin pe = some (a, op, b)) : ∃ p, pe = .BinOp a op b p := by cases pe <;> first | (cases h; exact ⟨_, rfl⟩) | cases h
theorem isUn_eq {a : Expr} {op : UnaryOp} (h : isUn pe = some (op, a)) : ∃ p, pe = .UnaryOp op a p := by cases pe <;> first | (cases h; exact ⟨_, rfl⟩) | cases h
theorem isCmp_eq {a b : Expr} {op : CmpOp} (h : isCmp pe = some (a, op, b)) : ∃ p, pe = .Compare a [op] [b] p := by
  unfold isCmp at h; split at h <;> first | (cases h; exact ⟨_, rfl⟩) | cases h
theorem isChain_eq {a b c : Expr} {op op' : CmpOp} (h : isChain pe = some (a, op, b, op', c)) : ∃ p, pe = .Compare a [op, op'] [b, c] p := by
  unfold isChain at h; split at h <;> first | (cases h; exact ⟨_, rfl⟩) | cases h
theorem isBo_eq {op : BoolOp} {es : List Expr} (h : isBo pe = some (op, es)) : ∃ p, pe = .BoolOp op es p := by cases pe <;> first | (cases h; exact ⟨_, rfl⟩) | cases h
theorem isIfx_eq {a b c : Expr} (h : isIfx pe = some (c, a, b)) : ∃ p, pe = .IfExp c a b p := by cases pe <;> first | (cases h; exact ⟨_, rfl⟩) | cases h
theorem isCall_eq {x : Str} {es : List Expr} (h : isCall pe = some (x, es)) : ∃ p q, pe = .Call (.Name x p) es [] q := by
  unfold isCall at h; split at h <;> first | (cases h; exact ⟨_, _, rfl⟩) | cases h
theorem isMeth_eq {o : Expr} {m : Str} {es : List Expr} {k : Bool} (h : isMeth pe = some (o, m, es, k)) : ∃ p q, pe = .Call (.Attribute o m p) es [] q ∧ k = (p.endLine == q.line) := by
  unfold isMeth at h; split at h <;> first | (cases h; exact ⟨_, _, rfl, rfl⟩) | cases h
theorem isSub_eq {a i : Expr} (h : isSub pe = some (a, i)) : ∃ p, pe = .Subscript a i p := by cases pe <;> first | (cases h; exact ⟨_, rfl⟩) | cases h
theorem isSlice_eq {lo hi : Option Expr} (h : isSlice pe = some (lo, hi)) : ∃ p, pe = .Slice lo hi none p := by
  unfold isSlice at h; split at h <;> first | (cases h; exact ⟨_, rfl⟩) | cases h
theorem isComp_eq {elt tg it : Expr} {ifs : List Expr} {sc : Scope} (h : isComp pe = some (elt, tg, it, ifs, sc)) : ∃ p, pe = .ListComp elt [⟨tg, it, ifs, 0⟩] sc p := by
  unfold isComp at h; split at h <;> first | (cases h; exact ⟨_, rfl⟩) | cases h
end

/-! ### side conditions -/
def notStar : Expr → Bool | .Starred _ _ => false | _ => true
def notLc : Expr → Bool | .ListComp .. => false | .SetComp .. => false | .DictComp .. => false | _ => true
def notSet : Expr → Bool | .Set .. => false | _ => true
def notSlice : Expr → Bool | .Slice .. => false | _ => true
def plainBase : Expr → Bool | .Name .. => true | .Attribute .. => true | .Subscript .. => true | _ => false
def plainT : Expr → Bool | .UnaryOp .. => false | .BoolOp .. => false | .IfExp .. => false | .Compare .. => false | _ => true
section
variable {e : Expr} {env : PySem.Env}
theorem star_cons {es : List Expr} (h : notStar e = true) : starEach (e :: es) env = (false, eval e env) :: starEach es env := by
  cases e <;> first | rfl | cases h
def noStars : List Expr → Bool | [] => true | e :: es => notStar e && noStars es
theorem star_any {pos : Pos} : ∀ {es : List Expr}, noStars es = true → (backTo pos (starEach es env)).any (·.1) = false
  | [], _ => rfl
  | e :: es, h => by
    have h' : (notStar e && noStars es) = true := h
    rw [Bool.and_eq_true] at h'
    rw [star_cons h'.1]
    show (false || (backTo pos (starEach es env)).any (·.1)) = false
    rw [star_any h'.2]; rfl
theorem star_all {pos : Pos} : ∀ {es : List Expr}, noStars es = true → (backTo pos (starEach es env)).all (fun x => !x.1) = true
  | [], _ => rfl
  | e :: es, h => by
    have h' : (notStar e && noStars es) = true := h
    rw [Bool.and_eq_true] at h'
    rw [star_cons h'.1]
    show (true && (backTo pos (starEach es env)).all (fun x => !x.1)) = true
    rw [star_all h'.2]; rfl
theorem sw_false {t : Option Expr} {l : Nat} (h : notLc e = true) : swapsWith e t l env = pure false := by
  cases e <;> first | rfl | cases h
theorem folded_id (h : notSet e = true) : ∀ x, foldedSetIterable e env x = pure x := by
  cases e <;> first | (intro _; rfl) | cases h
theorem plain_ix (h : notSlice e = true) : PlainIx e := by
  cases e <;> first | exact fun _ _ => rfl | cases h
theorem base_id {m : Str} (h : plainBase e = true) : attributeBase e m env (eval e env) = eval e env := by
  cases e <;> first | rfl | cases h
theorem true_id (h : plainT e = true) : ∀ whole, isTrue e env whole = (do let v ← whole; standAt e.pos; holding [v] (truthy v)) := by
  cases e <;> first | (intro _; rfl) | cases h
theorem marks_not {op : CmpOp} (h : notSet e = true) : behindInMarks op e = false := by
  cases e <;> first | rfl | cases h
theorem sub_assign {i : Expr} {pos : Pos} (h : notSlice i = true) : ∀ v, assign (.Subscript e i pos) env v = (do
      let ov ← holding [v] (eval e env)
      let iv ← holding [v, ov] (eval i env)
      standAt pos
      holding [v, ov, iv] (setItem ov iv v)
      release [v, ov, iv] []) := by
  cases i <;> first | (intro _; rfl) | cases h
end

/-! ### the checker -/
abbrev Names := List (Str × NameKind)
def visB (ns : Names) (x : Str) : Bool := match ns.lookup x with | some .local => true | some .cell => true | some .free => true | _ => false
def locB (ns : Names) (x : Str) : Bool := match ns.lookup x with | some .local => true | some .cell => true | _ => false
def glB (ns : Names) (x : Str) : Bool := match ns.lookup x with | some .globalImplicit => true | _ => false
def okName (x : Str) : Bool := !(x == ("__debug__" : Str)) && (!(x == ("__classdict__" : Str)) && decide (x ≠ ("__name__" : Str)))
def relN (ns sc : Names) : Names := ns.map fun (n, k) => if (k == .free && true && sc.lookup n == some .cell) then (n, .cell) else (n, k)
def cOp : COp → CmpOp | .eq => .Eq | .ne => .NotEq | .lt => .Lt | .le => .LtE | .gt => .Gt | .ge => .GtE | .is_ => .Is | .isnot => .IsNot | .in_ => .In | .notin => .NotIn
def bOp : BOp → Operator | .add => .Add | .sub => .Sub | .mul => .Mult | .fdiv => .FloorDiv | .mod => .Mod | .pow => .Pow
def opEq : Operator → Operator → Bool
  | .Add, .Add => true | .Sub, .Sub => true | .Mult, .Mult => true | .FloorDiv, .FloorDiv => true | .Mod, .Mod => true | .Pow, .Pow => true | _, _ => false
def cEq : CmpOp → CmpOp → Bool
  | .Eq, .Eq => true | .NotEq, .NotEq => true | .Lt, .Lt => true | .LtE, .LtE => true | .Gt, .Gt => true | .GtE, .GtE => true | .Is, .Is => true | .IsNot, .IsNot => true | .In, .In => true | .NotIn, .NotIn => true | _, _ => false
theorem opEq_eq {a b : Operator} (h : opEq a b = true) : a = b := by cases a <;> cases b <;> first | rfl | cases h
theorem cEq_eq {a b : CmpOp} (h : cEq a b = true) : a = b := by cases a <;> cases b <;> first | rfl | cases h
def tyName : Ty → String | .int => "int" | .bool => "bool" | .str => "str" | .tuple => "tuple" | .list => "list"
def tyStr : Ty → Str | .int => "int" | .bool => "bool" | .str => "str" | .tuple => "tuple" | .list => "list"
def f1Str : F1 → Str | .len => "len" | .int => "int" | .abs => "abs" | .bool => "bool" | .sum => "sum" | .min => "min" | .max => "max"
def g1Str : G1 → Str | .list => "list" | .tuple => "tuple" | .sorted => "sorted" | .sortset => "sorted"
def btNames : List Str := ["int", "bool", "str", "tuple", "list", "len", "abs", "sum", "min", "max", "sorted", "set", "range", "isinstance"]

structure Cfg where
  N : List Str
  fs : List Str
  bs : List Str
def blkNames (ns : Names) (sc : Scope) : Names := relN sc.names ns
/-- the own names of a comprehension's block: its target -/
def blkC' (C : Cfg) (ns : Names) (sc : Scope) (y : Str) (x : Nat) : Bool := blkC C.N { kind := .function, names := ns, isGenerator := false, isCoroutine := false } sc [(y, x)] && (match sc.kind with | .function => true | _ => false)

mutual
def chkE (C : Cfg) (ns : Names) : E → Expr → Bool
  | .var i, pe => match isName pe with | some x => decide (C.N[i]? = some x) && (visB ns x && okName x) | none => false
  | .int i, pe => match isInt pe with | some j => decide (i = j) | none => false
  | .bl b, pe => match isBl pe with | some c => decide (b = c) | none => false
  | .non, pe => isNon pe
  | .str s, pe => match isStr pe with | some t => decide (s = t) | none => false
  | .glob g, pe => match isName pe with | some x => decide (g = x) && (glB ns x && okName x) | none => false
  | .tup es, pe => match isTup pe with | some ps => chkEs C ns es ps | none => false
  | .lst _ es, pe => match isLst pe with | some ps => chkEs C ns es ps | none => false
  | .bin _ op a b, pe => match isBin pe with | some (p, o, q) => opEq (bOp op) o && (chkE C ns a p && chkE C ns b q) | none => false
  | .neg a, pe => match isUn pe with | some (.USub, p) => chkE C ns a p | _ => false
  | .not a, pe => match isUn pe with | some (.Not, p) => chkE C ns a p | _ => false
  | .cmp op a b, pe => match isCmp pe with | some (p, o, q) => cEq (cOp op) o && (notSet q && (chkE C ns a p && chkE C ns b q)) | none => false
  | .chain op op' a b c, pe => match isChain pe with | some (p, o, q, o', r) => cEq (cOp op) o && (cEq (cOp op') o' && (notSet r && (chkE C ns a p && (chkE C ns b q && chkE C ns c r)))) | none => false
  | .bo k es, pe => match isBo pe with | some (.And, ps) => k && chkEs C ns es ps | some (.Or, ps) => !k && chkEs C ns es ps | _ => false
  | .ifx c a b, pe => match isIfx pe with | some (r, p, q) => chkE C ns c r && (chkE C ns a p && chkE C ns b q) | none => false
  | .call f es, pe => match isCall pe with | some (x, ps) => decide (f = x) && (!ps.isEmpty && (C.fs.contains f && (glB ns x && (okName x && (noStars ps && chkEs C ns es ps))))) | none => false
  | .isi a t, pe => match isCall pe with
    | some (x, [p, q]) => decide (x = "isinstance") && (glB ns x && (notStar p && (chkE C ns a p && (match isName q with | some y => decide (y = tyStr t) && (glB ns y && C.bs.contains y) | none => false)))) && C.bs.contains "isinstance"
    | _ => false
  | .isi2 a t u, pe => match isCall pe with
    | some (x, [p, q]) => decide (x = "isinstance") && (glB ns x && (notStar p && (chkE C ns a p && (match isTup q with
        | some [q1, q2] => (match isName q1, isName q2 with | some y, some z => decide (y = tyStr t) && (glB ns y && (C.bs.contains y && (decide (z = tyStr u) && (glB ns z && C.bs.contains z)))) | _, _ => false)
        | _ => false)))) && C.bs.contains "isinstance"
    | _ => false
  | .f1 f a, pe => match isCall pe with
    | some (x, [p]) => decide (x = f1Str f) && (glB ns x && (notStar p && (C.bs.contains x && chkE C ns a p)))
    | _ => false
  | .mm k a b, pe => match isCall pe with
    | some (x, [p, q]) => decide (x = if k then "max" else "min") && (glB ns x && (notStar p && (notStar q && (C.bs.contains x && (chkE C ns a p && chkE C ns b q)))))
    | _ => false
  | .g1 _ .sortset a, pe => match isCall pe with
    | some (x, [p]) => decide (x = "sorted") && (glB ns x && (C.bs.contains x && (match isCall p with
        | some (y, [q]) => decide (y = "set") && (glB ns y && (C.bs.contains y && (notStar q && chkE C ns a q)))
        | _ => false)))
    | _ => false
  | .g1 _ f a, pe => match isCall pe with
    | some (x, [p]) => decide (x = g1Str f) && (glB ns x && (notStar p && (C.bs.contains x && chkE C ns a p)))
    | _ => false
  | .sub a i, pe => match isSub pe with | some (p, q) => notSlice q && (chkE C ns a p && chkE C ns i q) | none => false
  | .slc _ a lo hi, pe => match isSub pe with
    | some (p, q) => chkE C ns a p && (match isSlice q with
        | some (l, h) => (match l with | none => isNo lo | some l => !isNo lo && chkE C ns lo l) && (match h with | none => isNo hi | some h => !isNo hi && chkE C ns hi h)
        | none => false)
    | none => false
  | .no, _ => false
  | .rng es, pe => match isCall pe with
    | some (x, ps) => decide (x = "range") && (glB ns x && (C.bs.contains x && ((decide (ps.length = 1) || decide (ps.length = 2)) && (noStars ps && chkEs C ns es ps))))
    | none => false
  | .comp _ x it c elt, pe => match isComp pe with
    | some (pelt, tg, pit, ifs, sc) => (match isName tg with
        | some y => decide (C.N[x]? = some y) && (locB sc.names y && blkC' C ns sc y x)
        | none => false) && (notSet pit && (chkE C ns it pit && (chkE C (blkNames ns sc) elt pelt && (match ifs with
          | [] => isNo c
          | [pc] => !isNo c && chkE C (blkNames ns sc) c pc
          | _ => false))))
    | none => false
  | .frz a, pe => chkE C ns a pe
  | .app o a, pe => match isMeth pe with
    | some (po, m, [p], k) => decide (m = "append") && (k && (plainBase po && (notStar p && (chkE C ns o po && chkE C ns a p))))
    | _ => false
def chkEs (C : Cfg) (ns : Names) : Es → List Expr → Bool
  | .nil, [] => true
  | .cons e r, p :: ps => notStar p && (chkE C ns e p && chkEs C ns r ps)
  | _, _ => false
end
end MP
/-! MiniPy: what is wanted behind a piece, and the operations by values. -/
namespace MP
open PySem L2

/-- an error of the program's own class c with its fields -/
def ExnOk (K : PySem.W.Frag) (mg : Str → Option Value) (Xn : Str → Option (List Str)) (F : Hp) (μ : Nat → Addr) (n : Nat) (H : Hp) (c : Str) (fs : List Val) (cls : Value) (d : Option Addr) : Prop :=
  mg c = some cls ∧ ∃ dd ns vs, d = some dd ∧ Xn c = some ns ∧ H dd = some (.xd (ns.zip vs)) ∧ RepL K F μ n fs vs

/-- the fixed things: the written part, the module's names, the error classes -/
structure Fx where
  K : PySem.W.Frag
  mg : Str → Option Value
  Xn : Str → Option (List Str)

/-- what is wanted behind a piece -/
def RP {α : Type} (Y : Fx) (F : Hp) (μ : Nat → Addr) (st : Store) (H : Hp) (r : R (α × Store)) (k : Hp → (Nat → Addr) → Hp → α → Store → Prop) (W : XK) : Prop := match r with
  | .ok p => ∀ F' μ' H', Ext F μ st H F' μ' p.2 H' → Good Y.K F' μ' p.2 H' → k F' μ' H' p.1 p.2
  | .exn c fs st' => ∀ F' μ' H' cls d, Ext F μ st H F' μ' st' H' → Good Y.K F' μ' st' H' → ExnOk Y.K Y.mg Y.Xn F' μ' st'.length H' c fs cls d → W cls d H'
  | .stuck => False
def kV (Y : Fx) (Q : VK) : Hp → (Nat → Addr) → Hp → Val → Store → Prop := fun F μ H x st => ∀ w, RepV Y.K F μ st.length x w → Q w H
def kT (Q : Bool → Hp → Prop) : Hp → (Nat → Addr) → Hp → Bool → Store → Prop := fun _ _ H b _ => Q b H
def kA (Y : Fx) (Q : List V → Hp → Prop) : Hp → (Nat → Addr) → Hp → List Val → Store → Prop := fun F μ H xs st => ∀ ws, RepL Y.K F μ st.length xs ws → Q ws H
section
variable {α β : Type} {Y : Fx} {F F1 H H1 : Hp} {μ μ1 : Nat → Addr} {st st1 : Store} {r : R (α × Store)} {k k' : Hp → (Nat → Addr) → Hp → α → Store → Prop} {W : XK}
theorem RP.ext (e : Ext F μ st H F1 μ1 st1 H1) (h : RP Y F μ st H r k W) : RP Y F1 μ1 st1 H1 r k W := by
  cases r with
  | ok p => exact fun F' μ' H' e' g => h F' μ' H' (e.trans e') g
  | exn c fs s => exact fun F' μ' H' cls d e' g x => h F' μ' H' cls d (e.trans e') g x
  | stuck => exact h
theorem RP.impE (h : RP Y F μ st H r k W) (i : ∀ F' μ' H' a st', r = .ok (a, st') → Ext F μ st H F' μ' st' H' → Good Y.K F' μ' st' H' → k F' μ' H' a st' → k' F' μ' H' a st') : RP Y F μ st H r k' W := by
  cases r with
  | ok p => exact fun F' μ' H' e' g => i F' μ' H' p.1 p.2 rfl e' g (h F' μ' H' e' g)
  | exn c fs s => exact h
  | stuck => exact h
theorem RP.bind {f : α × Store → R (β × Store)} {kb : Hp → (Nat → Addr) → Hp → β → Store → Prop} (h : RP Y F μ st H (r.bind f) kb W) :
    RP Y F μ st H r (fun F' μ' H' a st' => RP Y F' μ' st' H' (f (a, st')) kb W) W := by
  cases r with
  | ok p => exact fun F' μ' H' e' g => RP.ext e' h
  | exn c fs s => exact h
  | stuck => exact h
theorem RP.bindP {δ : Type} {r : R δ} {f : δ → R (β × Store)} {kb : Hp → (Nat → Addr) → Hp → β → Store → Prop} (hx : ∀ c fs s, r ≠ .exn c fs s) (h : RP Y F μ st H (r.bind f) kb W) : ∃ a, r = .ok a ∧ RP Y F μ st H (f a) kb W := by
  cases r with
  | ok a => exact ⟨a, rfl, h⟩
  | exn c fs s => exact absurd rfl (hx c fs s)
  | stuck => exact False.elim h
theorem RP.wish {W' : XK} (h : RP Y F μ st H r k W) (w : ∀ c d H, W c d H → W' c d H) : RP Y F μ st H r k W' := by
  cases r with
  | ok p => exact h
  | exn c fs s => exact fun F' μ' H' cls d e g x => w _ _ _ (h F' μ' H' cls d e g x)
  | stuck => exact h
end

/-! ### new lists and tuples -/
theorem szMax_le {n : Nat} (h : n ≤ szMax) : n ≤ sizeLine := Nat.le_trans h (by rw [sizeLine_eq]; decide)
section
variable {Y : Fx} {F : Hp} {μ : Nat → Addr} {st : Store} {H : Hp} {W : XK} {Q : VK} {xs : List Val} {vs : List V} {m : Bool}
theorem newL_ok (g : Good Y.K F μ st H) (h : RP Y F μ st H (newL m xs st) (kV Y Q) W) (r : RepL Y.K F μ st.length xs vs) : vs.length ≤ sizeLine ∧ ∀ p, H p = none → Q (.ref p) (upd H p (.lst vs)) := by
  unfold newL at h
  by_cases hl : xs.length ≤ szMax
  · rw [if_pos hl] at h
    refine ⟨by rw [r.len]; exact szMax_le hl, fun p hp => ?_⟩
    cases m with
    | true =>
      rw [if_pos rfl] at h
      have hF : F p = none := g.same.free hp
      obtain ⟨g', e', r'⟩ := g.celled hp (o := .lst vs) rfl (c := .lst xs) ⟨hF, vs, upd_same, r⟩
      exact h _ _ _ e' g' _ r'
    | false =>
      rw [if_neg Bool.false_ne_true] at h
      obtain ⟨g', e'⟩ := g.frozen (o := .lst vs) hp
      exact h _ _ _ e' g' _ ⟨p, vs, rfl, upd_same, e'.l r⟩
  · rw [if_neg hl] at h; exact False.elim h
theorem newT_ok (g : Good Y.K F μ st H) (h : RP Y F μ st H (newT xs st) (kV Y Q) W) (r : RepL Y.K F μ st.length xs vs) : vs.length ≤ sizeLine ∧ ∀ p, H p = none → Q (.ref p) (upd H p (.tup vs)) := by
  unfold newT at h
  by_cases hl : xs.length ≤ szMax
  · rw [if_pos hl] at h
    refine ⟨by rw [r.len]; exact szMax_le hl, fun p hp => ?_⟩
    obtain ⟨g', e'⟩ := g.frozen (o := .tup vs) hp
    exact h _ _ _ e' g' _ ⟨p, vs, rfl, SqT.of upd_same, e'.l r⟩
  · rw [if_neg hl] at h; exact False.elim h
/-- the same tuple once more -/
theorem newT_same (g : Good Y.K F μ st H) (h : RP Y F μ st H (newT xs st) (kV Y Q) W) {a : Addr} (r : RepV Y.K F μ st.length (.tup xs) (.ref a)) : Q (.ref a) H := by
  unfold newT at h
  by_cases hl : xs.length ≤ szMax
  · rw [if_pos hl] at h
    exact h _ _ _ Ext.refl g _ r
  · rw [if_neg hl] at h; exact False.elim h
end

/-! ### the operations -/
/-- two values in, by their trees -/
def r2 (Y : Fx) (W : XK) (f : Val → Val → Store → RV) : R2 := fun x y H Q => ∃ F μ st a b, Good Y.K F μ st H ∧ RepV Y.K F μ st.length a x ∧ RepV Y.K F μ st.length b y ∧ RP Y F μ st H (f a b st) (kV Y Q) W
def flatB (x : Val) : Bool := flat x
section
variable {X : Cx} {Y : Fx} {W : XK}
theorem rep_int {K : PySem.W.Frag} {F : Hp} {μ : Nat → Addr} {n : Nat} {i : Int} {x : V} (h : RepV K F μ n (.int i) x) : x = .int i := h
theorem repV_ext {F : Hp} {μ : Nat → Addr} {st : Store} {H : Hp} {Q : VK} {v : Val} {w : V} (g : Good Y.K F μ st H) (h : RP Y F μ st H (.ok (v, st)) (kV Y Q) W) (r : RepV Y.K F μ st.length v w) : Q w H := h F μ H Ext.refl g w r

theorem op_add_all (hK : X.K = Y.K) {m : Bool} : OpR X (binaryOp .Add) (r2 Y W (binV m .add)) := by
  intro pins s σ H x y v u Q I rx ry h
  obtain ⟨F, μ, st, a, b, g, ra, rb, h⟩ := h
  have lists : ∀ xs ys, lstOf st a = some xs → lstOf st b = some ys → RP Y F μ st H (newL m (xs ++ ys) st) (kV Y Q) W → wpAny (model X.prog X.w) X.A (binaryOp .Add v u) (EP X pins σ Q) X.xe s := fun xs ys h1 h2 h => by
    obtain ⟨p, vs, e1, r1, q1⟩ := lstOf_rep g ra h1
    obtain ⟨q, ws, e2, r2', q2⟩ := lstOf_rep g rb h2
    obtain ⟨z, k⟩ := newL_ok g h (r1.append r2')
    rw [List.length_append] at z
    exact op_cat pins s σ H x y v u Q I rx ry ⟨p, q, vs, ws, e1, e2, q1, q2, z, k⟩
  have rest : RP Y F μ st H (match lstOf st a, lstOf st b with | some xs, some ys => newL m (xs ++ ys) st | _, _ => .stuck) (kV Y Q) W → wpAny (model X.prog X.w) X.A (binaryOp .Add v u) (EP X pins σ Q) X.xe s := fun h => by
    split at h
    · rename_i xs ys h1 h2
      exact lists xs ys h1 h2 h
    · exact False.elim h
  cases a with
  | int i =>
    cases b with
    | int j =>
      have ex : x = .int i := ra
      have ey : y = .int j := rb
      subst ex ey
      exact op_add pins s σ H _ _ v u Q I rx ry ⟨i, j, rfl, rfl, repV_ext g h rfl⟩
    | _ => exact False.elim h
  | str i =>
    cases b with
    | str j =>
      have ex : x = .str i := ra
      have ey : y = .str j := rb
      subst ex ey
      have h' : RP Y F μ st H (if i.length + j.length ≤ szMax then .ok (.str (i ++ j), st) else .stuck) (kV Y Q) W := h
      by_cases hl : i.length + j.length ≤ szMax
      · rw [if_pos hl] at h'
        exact op_add_str pins s σ H _ _ v u Q I rx ry ⟨i, j, rfl, rfl, szMax_le hl, repV_ext g h' rfl⟩
      · rw [if_neg hl] at h'; exact False.elim h'
    | _ => exact False.elim h
  | tup xs =>
    cases b with
    | tup ys =>
      obtain ⟨p, vs, e1, q1, r1⟩ := id ra
      obtain ⟨q, ws, e2, q2, r2'⟩ := id rb
      have h' : RP Y F μ st H (newT (xs ++ ys) st) (kV Y Q) W := h
      obtain ⟨z, k⟩ := newT_ok g h' (r1.append r2')
      rw [List.length_append] at z
      refine op_catA pins s σ H x y v u Q I rx ry ⟨p, q, vs, ws, e1, e2, by rw [hK]; exact sqT_mono g.same q1, by rw [hK]; exact sqT_mono g.same q2, z, fun e => ?_, fun _ e => ?_, fun _ _ => k⟩
      · have ex : xs = [] := r1.nil_iff.mp e
        subst ex
        exact newT_same g h' (by rw [List.nil_append, ← e2]; exact rb)
      · have ey : ys = [] := r2'.nil_iff.mp e
        subst ey
        rw [List.append_nil] at h'
        exact newT_same g h' (by rw [← e1]; exact ra)
    | _ => exact False.elim h
  | non => cases b <;> exact False.elim h
  | bl _ => cases b <;> exact False.elim h
  | lst xs => cases b <;> exact rest h
  | loc n => cases b <;> exact rest h
  | scr xs => cases b <;> exact rest h
theorem op_sub_all {m : Bool} : OpR X (binaryOp .Sub) (r2 Y W (binV m .sub)) := by
  intro pins s σ H x y v u Q I rx ry h
  obtain ⟨F, μ, st, a, b, g, ra, rb, h⟩ := h
  cases a <;> cases b <;> first
    | exact False.elim h
    | (rename_i i j
       have ex : x = .int i := ra
       have ey : y = .int j := rb
       subst ex ey
       exact op_sub pins s σ H _ _ v u Q I rx ry ⟨i, j, rfl, rfl, repV_ext g h rfl⟩)
theorem op_mod_all {m : Bool} : OpR X (binaryOp .Mod) (r2 Y W (binV m .mod)) := by
  intro pins s σ H x y v u Q I rx ry h
  obtain ⟨F, μ, st, a, b, g, ra, rb, h⟩ := h
  cases a <;> cases b <;> first
    | exact False.elim h
    | (rename_i i j
       have ex : x = .int i := ra
       have ey : y = .int j := rb
       subst ex ey
       have h' : RP Y F μ st H (if 0 < j then .ok (.int (i % j), st) else .stuck) (kV Y Q) W := h
       by_cases hj : 0 < j
       · rw [if_pos hj] at h'
         exact op_mod pins s σ H _ _ v u Q I rx ry ⟨i, j, rfl, rfl, hj, repV_ext g h' rfl⟩
       · rw [if_neg hj] at h'; exact False.elim h')
theorem op_fdiv_all {m : Bool} : OpR X (binaryOp .FloorDiv) (r2 Y W (binV m .fdiv)) := by
  intro pins s σ H x y v u Q I rx ry h
  obtain ⟨F, μ, st, a, b, g, ra, rb, h⟩ := h
  cases a <;> cases b <;> first
    | exact False.elim h
    | (rename_i i j
       have ex : x = .int i := ra
       have ey : y = .int j := rb
       subst ex ey
       have h' : RP Y F μ st H (if 0 < j ∧ j.natAbs.log2 < 9000 then .ok (.int (i / j), st) else .stuck) (kV Y Q) W := h
       by_cases hj : 0 < j ∧ j.natAbs.log2 < 9000
       · rw [if_pos hj] at h'
         exact op_fdivW pins s σ H _ _ v u Q I rx ry ⟨i, j, rfl, rfl, hj, repV_ext g h' rfl⟩
       · rw [if_neg hj] at h'; exact False.elim h')
theorem op_pow_all {m : Bool} : OpR X (binaryOp .Pow) (r2 Y W (binV m .pow)) := by
  intro pins s σ H x y v u Q I rx ry h
  obtain ⟨F, μ, st, a, b, g, ra, rb, h⟩ := h
  cases a <;> cases b <;> first
    | exact False.elim h
    | (rename_i i j
       have ex : x = .int i := ra
       have ey : y = .int j := rb
       subst ex ey
       have h' : RP Y F μ st H (if 0 ≤ j ∧ j ≤ 1000000 ∧ i.natAbs < 2 ^ 64 then .ok (.int (i ^ j.toNat), st) else .stuck) (kV Y Q) W := h
       by_cases hj : 0 ≤ j ∧ j ≤ 1000000 ∧ i.natAbs < 2 ^ 64
       · rw [if_pos hj] at h'
         exact op_pow pins s σ H _ _ v u Q I rx ry ⟨i, j, rfl, rfl, hj, repV_ext g h' rfl⟩
       · rw [if_neg hj] at h'; exact False.elim h')
theorem op_mul_all (hK : X.K = Y.K) {m : Bool} : OpR X (binaryOp .Mult) (r2 Y W (binV m .mul)) := by
  intro pins s σ H x y v u Q I rx ry h
  obtain ⟨F, μ, st, a, b, g, ra, rb, h⟩ := h
  have lists : ∀ (k : Int), b = .int k → RP Y F μ st H (match lstOf st a with | some xs => if xs.length * k.toNat ≤ szMax ∧ k ≤ 1000000 ∧ -1000000 ≤ k then newL m (List.replicate k.toNat xs).flatten st else .stuck | none => .stuck) (kV Y Q) W →
      wpAny (model X.prog X.w) X.A (binaryOp .Mult v u) (EP X pins σ Q) X.xe s := fun k eb h => by
    rw [eb] at rb
    have ey : y = .int k := rb
    subst ey
    split at h
    · rename_i xs h1
      obtain ⟨p, vs, e1, r1, q1⟩ := lstOf_rep g ra h1
      by_cases hk : xs.length * k.toNat ≤ szMax ∧ k ≤ 1000000 ∧ -1000000 ≤ k
      · rw [if_pos hk] at h
        obtain ⟨z, q⟩ := newL_ok g h (r1.rep k.toNat)
        exact op_rep pins s σ H x _ v u Q I rx ry ⟨p, k, vs, e1, rfl, q1, by omega, by omega, by rw [r1.len]; exact szMax_le hk.1, q⟩
      · rw [if_neg hk] at h; exact False.elim h
    · exact False.elim h
  cases a with
  | int i =>
    cases b with
    | int j =>
      have ex : x = .int i := ra
      have ey : y = .int j := rb
      subst ex ey
      have h' : RP Y F μ st H (if mulOk i j then .ok (.int (i * j), st) else .stuck) (kV Y Q) W := h
      by_cases hj : mulOk i j = true
      · rw [if_pos hj] at h'
        exact op_mulW pins s σ H _ _ v u Q I rx ry ⟨i, j, rfl, rfl, (show CMulW i j from of_decide_eq_true (p := i.natAbs.log2 + j.natAbs.log2 < 1000000) hj), repV_ext g h' rfl⟩
      · rw [if_neg hj] at h'; exact False.elim h'
    | _ => exact False.elim h
  | tup xs =>
    cases b with
    | int k =>
      obtain ⟨p, vs, e1, q1, r1⟩ := id ra
      have ey : y = .int k := rb
      subst ey
      have h' : RP Y F μ st H (if xs.isEmpty = false ∧ 2 ≤ k ∧ k ≤ 1000 ∧ xs.length ≤ 100 then newT (List.replicate k.toNat xs).flatten st else .stuck) (kV Y Q) W := h
      by_cases hk : xs.isEmpty = false ∧ 2 ≤ k ∧ k ≤ 1000 ∧ xs.length ≤ 100
      · rw [if_pos hk] at h'
        obtain ⟨z, q⟩ := newT_ok g h' (r1.rep k.toNat)
        refine op_repT pins s σ H x _ v u Q I rx ry ⟨p, k, vs, e1, rfl, by rw [hK]; exact sqT_mono g.same q1, fun e => ?_, hk.2.1, hk.2.2.1, by rw [r1.len]; omega, q⟩
        have ex : xs = [] := r1.nil_iff.mp e
        subst ex
        exact absurd hk.1 (by decide)
      · rw [if_neg hk] at h'; exact False.elim h'
    | _ => exact False.elim h
  | non => cases b <;> exact False.elim h
  | bl _ => cases b <;> exact False.elim h
  | str _ => cases b <;> exact False.elim h
  | lst xs => cases b <;> first | exact False.elim h | exact lists _ rfl h
  | loc n => cases b <;> first | exact False.elim h | exact lists _ rfl h
  | scr xs => cases b <;> exact False.elim h
theorem op_bin (hK : X.K = Y.K) {m : Bool} (op : BOp) : OpR X (binaryOp (bOp op)) (r2 Y W (binV m op)) := by
  cases op with
  | add => exact op_add_all hK
  | sub => exact op_sub_all
  | mul => exact op_mul_all hK
  | fdiv => exact op_fdiv_all
  | mod => exact op_mod_all
  | pow => exact op_pow_all
end
end MP
/-! MiniPy: comparisons, truth, types, subscripts, built-in functions, by values. -/
namespace MP
open PySem L2 PySem.Spec PyProof.Rows

section
variable {K : PySem.W.Frag} {F H : Hp} {μ : Nat → Addr} {n : Nat}
mutual
theorem dp_rep (sm : Same F H) : ∀ {x : Val} {v : V}, RepV K F μ n x v → PyData.canLay0 (toPD x) = true → Dp K H v (toPD x)
  | .non, _, h, _ => by cases h; exact .non
  | .bl b, _, h, _ => by cases h; exact .bl b
  | .int i, _, h, _ => by cases h; exact .int i
  | .str s, _, h, _ => by cases h; exact .str s
  | .tup xs, _, ⟨a, vs, h1, h2, h3⟩, c => by subst h1; exact .tup (sqT_mono sm h2) (dps_rep sm h3 c)
  | .lst xs, _, ⟨a, vs, h1, h2, h3⟩, c => by subst h1; exact .lst (SqL.of (sm _ _ h2)) (dps_rep sm h3 c)
  | .scr xs, _, ⟨a, vs, h1, h2, h3⟩, c => by subst h1; exact .lst (sqL_mono sm h2) (dps_rep sm h3 c)
  | .loc _, _, _, c => by cases c
theorem dps_rep (sm : Same F H) : ∀ {xs : List Val} {vs : List V}, RepL K F μ n xs vs → PyData.canLayAll0 (toPDs xs) = true → DpAll K H vs (toPDs xs)
  | [], _, h, _ => by cases h; exact .nil
  | x :: xs, _, ⟨v, r, h1, h2, h3⟩, c => by
    subst h1
    have c' : (PyData.canLay0 (toPD x) && PyData.canLayAll0 (toPDs xs)) = true := c
    rw [Bool.and_eq_true] at c'
    exact .cons (dp_rep sm h2 c'.1) (dps_rep sm h3 c'.2)
end
theorem flat_rep {x : Val} {v : V} (h : RepV K F μ n x v) (f : flat x = true) : flatV v = true := by
  cases x with
  | non => cases h; rfl
  | bl b => cases h; rfl
  | int i => cases h; rfl
  | str s => cases h; rfl
  | _ => cases f
theorem eqF_rep {x y : Val} {v w : V} (h : RepV K F μ n x v) (h' : RepV K F μ n y w) (f : flat x = true) (f' : flat y = true) : eqV v w = eqF x y := by
  cases x with
  | non => cases h; cases y <;> first | (cases h'; rfl) | cases f'
  | bl b => cases h; cases y <;> first | (cases h'; rfl) | cases f'
  | int i => cases h; cases y <;> first | (cases h'; rfl) | cases f'
  | str s => cases h; cases y <;> first | (cases h'; rfl) | cases f'
  | _ => cases f
theorem flats_rep : ∀ {xs : List Val} {vs : List V}, RepL K F μ n xs vs → xs.all flat = true → vs.all flatV = true
  | [], _, h, _ => by cases h; rfl
  | x :: xs, _, ⟨v, r, h1, h2, h3⟩, f => by
    subst h1
    rw [List.all_cons, Bool.and_eq_true] at f
    rw [List.all_cons, flat_rep h2 f.1, flats_rep h3 f.2]; rfl
theorem in_rep {x : Val} {v : V} (h : RepV K F μ n x v) (f : flat x = true) : ∀ {xs : List Val} {vs : List V}, RepL K F μ n xs vs → xs.all flat = true → inV v vs = xs.any fun z => eqF z x
  | [], _, q, _ => by cases q; rfl
  | y :: xs, _, ⟨w, r, h1, h2, h3⟩, g => by
    subst h1
    rw [List.all_cons, Bool.and_eq_true] at g
    have e1 := eqF_rep h2 h g.1 f
    have e2 := in_rep h f h3 g.2
    show (eqV w v || inV v r) = _
    rw [e1, e2]; rfl
end

/-- a comparison by trees -/
def rC (Y : Fx) (op : COp) : R2 := fun x y H Q => ∃ F μ st a b k, Good Y.K F μ st H ∧ RepV Y.K F μ st.length a x ∧ RepV Y.K F μ st.length b y ∧ cmpV op a b st = .ok k ∧ Q (.bl k) H
section
variable {X : Cx} {Y : Fx}
theorem seqIn (hK : X.K = Y.K) {F H : Hp} {μ : Nat → Addr} {st : Store} {b : Val} {y : V} {k : Bool} {xs : List Val} (g : Good Y.K F μ st H) (rb : RepV Y.K F μ st.length b y) (e : seqOf st b = some (k, xs)) :
    ∃ p vs, y = .ref p ∧ RepL Y.K F μ st.length xs vs ∧ (SqL X.K H p vs ∨ SqT X.K H p vs) := by
  obtain ⟨p, vs, e1, r1, q1⟩ := seqOf_rep g rb e
  refine ⟨p, vs, e1, r1, ?_⟩
  rw [hK]
  cases k with
  | true => rw [if_pos rfl] at q1; exact .inl q1
  | false => rw [if_neg Bool.false_ne_true] at q1; exact .inr q1
theorem op_cmp (hK : X.K = Y.K) (hu : X.A.units + 64 < cLine) (op : COp) : OpR X (compareOp (cOp op)) (rC Y op) := by
  intro pins s σ H x y v u Q I rx ry h
  obtain ⟨F, μ, st, a, b, k, g, ra, rb, e, q⟩ := h
  cases op with
  | eq =>
    change (if (SeqAt.shaped (toPD a) && SeqAt.shaped (toPD b)) = true then R.ok (PyData.eqv (toPD a) (toPD b)) else .stuck) = .ok k at e
    by_cases hs : (SeqAt.shaped (toPD a) && SeqAt.shaped (toPD b)) = true
    · rw [if_pos hs] at e
      cases e
      rw [Bool.and_eq_true] at hs
      refine op_eqD hu pins s σ H x y v u Q I rx ry ⟨toPD a, toPD b, ?_, ?_, hs.1, hs.2, q⟩
      · rw [hK]; exact dp_rep g.same ra (SeqAt.canLay_of_shaped hs.1)
      · rw [hK]; exact dp_rep g.same rb (SeqAt.canLay_of_shaped hs.2)
    · rw [if_neg hs] at e; cases e
  | ne =>
    change (if (SeqAt.shaped (toPD a) && SeqAt.shaped (toPD b)) = true then R.ok (!PyData.eqv (toPD a) (toPD b)) else .stuck) = .ok k at e
    by_cases hs : (SeqAt.shaped (toPD a) && SeqAt.shaped (toPD b)) = true
    · rw [if_pos hs] at e
      cases e
      rw [Bool.and_eq_true] at hs
      refine op_neD hu pins s σ H x y v u Q I rx ry ⟨toPD a, toPD b, ?_, ?_, hs.1, hs.2, q⟩
      · rw [hK]; exact dp_rep g.same ra (SeqAt.canLay_of_shaped hs.1)
      · rw [hK]; exact dp_rep g.same rb (SeqAt.canLay_of_shaped hs.2)
    · rw [if_neg hs] at e; cases e
  | lt =>
    cases a <;> cases b <;> first
      | cases e; done
      | (rename_i i j; have ex : x = .int i := ra; have ey : y = .int j := rb; subst ex ey; cases e
         exact op_lt pins s σ H _ _ v u Q I rx ry ⟨i, j, rfl, rfl, q⟩)
      | cases e
  | le =>
    cases a <;> cases b <;> first
      | (rename_i i j; have ex : x = .int i := ra; have ey : y = .int j := rb; subst ex ey; cases e
         exact op_le pins s σ H _ _ v u Q I rx ry ⟨i, j, rfl, rfl, q⟩)
      | cases e
  | gt =>
    cases a <;> cases b <;> first
      | (rename_i i j; have ex : x = .int i := ra; have ey : y = .int j := rb; subst ex ey; cases e
         exact op_gt pins s σ H _ _ v u Q I rx ry ⟨i, j, rfl, rfl, q⟩)
      | cases e
  | ge =>
    cases a <;> cases b <;> first
      | (rename_i i j; have ex : x = .int i := ra; have ey : y = .int j := rb; subst ex ey; cases e
         exact op_ge pins s σ H _ _ v u Q I rx ry ⟨i, j, rfl, rfl, q⟩)
      | cases e
  | is_ =>
    cases b with
    | non =>
      have ey : y = .non := rb
      subst ey
      refine op_isN pins s σ H x _ v u Q I rx ry ⟨rfl, ?_⟩
      have ek : decide (x = V.non) = k := by
        cases a with
        | non => cases e; cases ra; rfl
        | bl _ => cases e; cases ra; rfl
        | int _ => cases e; cases ra; rfl
        | str _ => cases e; cases ra; rfl
        | tup _ => cases e; obtain ⟨_, _, h1, _⟩ := ra; subst h1; rfl
        | lst _ => cases e; obtain ⟨_, _, h1, _⟩ := ra; subst h1; rfl
        | scr _ => cases e; obtain ⟨_, _, h1, _⟩ := ra; subst h1; rfl
        | loc _ => cases e; obtain ⟨h1, _⟩ := ra; subst h1; rfl
      rw [ek]; exact q
    | _ => cases e
  | isnot =>
    cases b with
    | non =>
      have ey : y = .non := rb
      subst ey
      refine op_notN pins s σ H x _ v u Q I rx ry ⟨rfl, ?_⟩
      have ek : (!decide (x = V.non)) = k := by
        cases a with
        | non => cases e; cases ra; rfl
        | bl _ => cases e; cases ra; rfl
        | int _ => cases e; cases ra; rfl
        | str _ => cases e; cases ra; rfl
        | tup _ => cases e; obtain ⟨_, _, h1, _⟩ := ra; subst h1; rfl
        | lst _ => cases e; obtain ⟨_, _, h1, _⟩ := ra; subst h1; rfl
        | scr _ => cases e; obtain ⟨_, _, h1, _⟩ := ra; subst h1; rfl
        | loc _ => cases e; obtain ⟨h1, _⟩ := ra; subst h1; rfl
      rw [ek]; exact q
    | _ => cases e
  | in_ =>
    change (match seqOf st b with | some (_, xs) => if (flat a && xs.all flat) = true then R.ok (xs.any fun z => eqF z a) else .stuck | none => .stuck) = .ok k at e
    split at e
    · rename_i kk xs hq
      by_cases hf : (flat a && xs.all flat) = true
      · rw [if_pos hf] at e
        cases e
        rw [Bool.and_eq_true] at hf
        obtain ⟨p, vs, e1, r1, q1⟩ := seqIn hK g rb hq
        refine op_in_seq pins s σ H x y v u Q I rx ry ⟨p, vs, e1, q1, flat_rep ra hf.1, flats_rep r1 hf.2, ?_⟩
        rw [if_neg Bool.false_ne_true, in_rep ra hf.1 r1 hf.2]; exact q
      · rw [if_neg hf] at e; cases e
    · cases e
  | notin =>
    change (match seqOf st b with | some (_, xs) => if (flat a && xs.all flat) = true then R.ok (!(xs.any fun z => eqF z a)) else .stuck | none => .stuck) = .ok k at e
    split at e
    · rename_i kk xs hq
      by_cases hf : (flat a && xs.all flat) = true
      · rw [if_pos hf] at e
        cases e
        rw [Bool.and_eq_true] at hf
        obtain ⟨p, vs, e1, r1, q1⟩ := seqIn hK g rb hq
        refine op_notIn_seq pins s σ H x y v u Q I rx ry ⟨p, vs, e1, q1, flat_rep ra hf.1, flats_rep r1 hf.2, ?_⟩
        rw [if_pos rfl, in_rep ra hf.1 r1 hf.2]; exact q
      · rw [if_neg hf] at e; cases e
    · cases e

/-- truth -/
theorem truth_rep (hK : X.K = Y.K) {F H : Hp} {μ : Nat → Addr} {st : Store} {x : Val} {v : V} {k : Bool} (g : Good Y.K F μ st H) (r : RepV Y.K F μ st.length x v) (e : truth st x = .ok k) : TruV X.K v H k := by
  have seqs : ∀ kk xs, seqOf st x = some (kk, xs) → k = (!xs.isEmpty) → TruV X.K v H k := fun kk xs hq ek => by
    obtain ⟨p, vs, e1, r1, q1⟩ := seqIn hK g r hq
    subst e1
    have em : xs.isEmpty = vs.isEmpty := by
      have := r1.nil_iff
      cases xs <;> cases vs <;> first | rfl | (simp at this)
    rw [em] at ek
    rcases q1 with q1 | q1
    · exact .inl ⟨vs, q1, ek⟩
    · exact .inr (.inl ⟨vs, q1, ek⟩)
  have rest : (match seqOf st x with | some (_, xs) => R.ok (!xs.isEmpty) | none => .stuck) = .ok k → TruV X.K v H k := fun e => by
    split at e
    · rename_i kk xs hq
      cases e
      exact seqs kk xs hq rfl
    · cases e
  cases x with
  | non => cases r; cases e; rfl
  | bl b => cases r; cases e; rfl
  | int i => cases r; cases e; rfl
  | str y =>
    cases r
    change (if y.length ≤ szMax then R.ok ((y.length : Int) != 0) else .stuck) = .ok k at e
    by_cases hl : y.length ≤ szMax
    · rw [if_pos hl] at e; cases e; exact ⟨szMax_le hl, rfl⟩
    · rw [if_neg hl] at e; cases e
  | tup xs => exact rest e
  | lst xs => exact rest e
  | loc m => exact rest e
  | scr xs => exact rest e

/-- types -/
def tyOf : Val → String
  | .non => "NoneType" | .bl _ => "bool" | .int _ => "int" | .str _ => "str" | .tup _ => "tuple" | .lst _ => "list" | .loc _ => "list" | .scr _ => "list"
theorem kb_non (t : Ty) : kitB "NoneType" (tyName t) = some false := by cases t <;> decide +kernel
theorem kb_bool (t : Ty) : kitB "bool" (tyName t) = some (match t with | .bool => true | .int => true | _ => false) := by cases t <;> decide +kernel
theorem kb_int (t : Ty) : kitB "int" (tyName t) = some (match t with | .int => true | _ => false) := by cases t <;> decide +kernel
theorem kb_str (t : Ty) : kitB "str" (tyName t) = some (match t with | .str => true | _ => false) := by cases t <;> decide +kernel
theorem kb_tuple (t : Ty) : kitB "tuple" (tyName t) = some (match t with | .tuple => true | _ => false) := by cases t <;> decide +kernel
theorem kb_list (t : Ty) : kitB "list" (tyName t) = some (isL t) := by cases t <;> decide +kernel
theorem kit_tab {st : Store} {t : Ty} {b : Bool} {x : Val} (e : isTy st t x = some b) : kitB (tyOf x) (tyName t) = some b := by
  cases x with
  | non => rw [← e]; exact kb_non t
  | bl c => rw [← e]; exact kb_bool t
  | int i => rw [← e]; exact kb_int t
  | str i => rw [← e]; exact kb_str t
  | tup i => rw [← e]; exact kb_tuple t
  | lst i => rw [← e]; exact kb_list t
  | scr i => rw [← e]; exact kb_list t
  | loc m =>
    change (match st[m]? with | some (.lst _) => some (isL t) | some (.frz _) => some (isL t) | _ => none) = some b at e
    split at e
    · rw [← e]; exact kb_list t
    · rw [← e]; exact kb_list t
    · cases e
theorem tyX_rep (hK : X.K = Y.K) {F H : Hp} {μ : Nat → Addr} {st : Store} {x : Val} {v : V} {b : Bool} {t : Ty} (g : Good Y.K F μ st H) (r : RepV Y.K F μ st.length x v) (e : isTy st t x = some b) : TyX X.K H v (.type (tyOf x)) := by
  rw [hK]
  cases x with
  | non => cases r; exact .base .non
  | bl _ => cases r; exact .base (.bl _)
  | int _ => cases r; exact .base (.int _)
  | str _ => cases r; exact .base (.str _)
  | tup xs =>
    obtain ⟨a, vs, h1, h2, _⟩ := r
    subst h1
    rcases sqT_mono g.same h2 with (h | ⟨o, h⟩) | ⟨o, its, n, hk, hc, _⟩
    · exact .base (.tup h)
    · exact .fTuple h
    · exact .kTuple hk hc
  | lst xs =>
    obtain ⟨a, vs, h1, h2, _⟩ := r
    subst h1
    exact .base (.lst (g.same _ _ h2))
  | scr xs =>
    obtain ⟨a, vs, h1, h2, _⟩ := r
    subst h1
    rcases sqL_mono g.same h2 with (h | ⟨o, h⟩) | ⟨o, its, n, hk, hc, _⟩
    · exact .base (.lst h)
    · exact .base (.frz h)
    · exact .kList hk hc
  | loc m =>
    obtain ⟨h1, _⟩ := r
    subst h1
    change (match st[m]? with | some (.lst _) => some (isL t) | some (.frz _) => some (isL t) | _ => none) = some b at e
    split at e
    · rename_i ys hm
      obtain ⟨_, vs, h3, _⟩ := g.st.cell m _ hm
      exact .base (.lst h3)
    · rename_i ys hm
      obtain ⟨vs, h3, _⟩ := g.st.cell m _ hm
      exact .base (.lst (g.same _ _ h3))
    · cases e

/-- subscripts -/
def rI (Y : Fx) : R2 := fun x y H Q => ∃ F μ st a b c, Good Y.K F μ st H ∧ RepV Y.K F μ st.length a x ∧ RepV Y.K F μ st.length b y ∧ ixV st a b = .ok c ∧ ∀ w, RepV Y.K F μ st.length c w → Q w H
theorem atI_rep {K : PySem.W.Frag} {F : Hp} {μ : Nat → Addr} {n : Nat} {xs : List Val} {vs : List V} {i : Int} {c : Val} (r : RepL K F μ n xs vs) (e : atI xs i = some c) : ∃ w, atI vs i = some w ∧ RepV K F μ n c w := by
  unfold atI at e ⊢
  rw [r.len]
  cases h : ixN xs.length i with
  | none => rw [h] at e; cases e
  | some j =>
    rw [h] at e
    exact r.get e
theorem ix_all (hK : X.K = Y.K) : IxR X (rI Y) := by
  intro value slice pins s σ H x y v u Q I rx ry h hs
  obtain ⟨F, μ, st, a, b, c, g, ra, rb, e, q⟩ := h
  cases b with
  | int i =>
    have ey : y = .int i := rb
    subst ey
    have rest : (match seqOf st a with | some (_, xs) => (match atI xs i with | some y => R.ok y | none => .stuck) | none => .stuck) = .ok c → wpAny (model X.prog X.w) X.A (subscriptTail value slice v u) (EP X pins σ Q) X.xe s := fun e => by
      split at e
      · rename_i kk xs hq
        split at e
        · rename_i z hz
          cases e
          obtain ⟨p, vs, e1, r1, q1⟩ := seqIn hK g ra hq
          obtain ⟨w, hw, rw'⟩ := atI_rep r1 hz
          rcases q1 with q1 | q1
          · exact ix_seq value slice pins s σ H x _ v u Q I rx ry (.inl ⟨p, vs, i, w, e1, rfl, q1, hw, q w rw'⟩) hs
          · exact ix_seq value slice pins s σ H x _ v u Q I rx ry (.inr (.inl ⟨p, vs, i, w, e1, rfl, q1, hw, q w rw'⟩)) hs
        · cases e
      · cases e
    cases a with
    | str z =>
      have ex : x = .str z := ra
      subst ex
      change (if z.length ≤ szMax then (match atI z.cps.toList i with | some c => R.ok (Val.str ⟨#[c]⟩) | none => .stuck) else .stuck) = .ok c at e
      by_cases hl : z.length ≤ szMax
      · rw [if_pos hl] at e
        split at e
        · rename_i d hd
          cases e
          exact ix_seq value slice pins s σ H _ _ v u Q I rx ry (.inr (.inr ⟨z, i, d, rfl, rfl, szMax_le hl, hd, q _ rfl⟩)) hs
        · cases e
      · rw [if_neg hl] at e; cases e
    | non => exact rest e
    | bl _ => exact rest e
    | int _ => exact rest e
    | tup xs => exact rest e
    | lst xs => exact rest e
    | loc m => exact rest e
    | scr xs => exact rest e
  | _ => cases e

/-- slices -/
def rSl (Y : Fx) (W : XK) (m : Bool) : V → Option Int → Option Int → Hp → VK → Prop := fun x lo hi H Q => ∃ F μ st a, Good Y.K F μ st H ∧ RepV Y.K F μ st.length a x ∧ RP Y F μ st H (slcV m st a lo hi) (kV Y Q) W
theorem cut_rep {K : PySem.W.Frag} {F : Hp} {μ : Nat → Addr} {n : Nat} {xs : List Val} {vs : List V} (lo hi : Option Int) (r : RepL K F μ n xs vs) : RepL K F μ n (cutA xs lo hi) (cutV vs lo hi) := by
  unfold cutA cutV
  rw [r.len]
  exact (r.drop _).take _
theorem sl_all (hK : X.K = Y.K) {W : XK} {m : Bool} : SlR X (rSl Y W m) := by
  intro pins s σ H x v vl vu lo hi sl Q I rx hs pl pu h
  obtain ⟨F, μ, st, a, g, ra, h⟩ := h
  have rest : RP Y F μ st H (match seqOf st a with | some (true, xs) => newL m (cutA xs lo hi) st | some (false, xs) => newT (cutA xs lo hi) st | none => .stuck) (kV Y Q) W → ∃ T id, typeLookup (.type T) "__getitem__" = pure (some (.builtin id)) ∧ s.TypeIs v T ∧ wpAny (model X.prog X.w) X.A (getItem v (.ref sl)) (EP X pins σ Q) X.xe s := fun h => by
    split at h
    · rename_i xs hq
      obtain ⟨p, vs, e1, r1, q1⟩ := seqOf_rep g ra hq
      rw [if_pos rfl] at q1
      obtain ⟨z, k⟩ := newL_ok g h (cut_rep lo hi r1)
      exact sl_list pins s σ H x v vl vu lo hi sl Q I rx hs pl pu ⟨p, vs, e1, by rw [hK]; exact q1, k⟩
    · rename_i xs hq
      obtain ⟨p, vs, e1, r1, q1⟩ := seqOf_rep g ra hq
      rw [if_neg Bool.false_ne_true] at q1
      obtain ⟨z, k⟩ := newT_ok g h (cut_rep lo hi r1)
      refine sl_tupA pins s σ H x v vl vu lo hi sl Q I rx hs pl pu ⟨p, vs, e1, by rw [hK]; exact q1, fun hw => ?_, fun _ => k⟩
      have hc : cutA xs lo hi = xs := by
        rw [r1.len] at hw
        unfold cutA
        rw [hw.1, hw.2]
        simp
      rw [hc] at h
      cases a with
      | tup ys =>
        have ey : ys = xs := by injection hq with hq; injection hq
        subst ey
        exact newT_same g h (by rw [← e1]; exact ra)
      | lst ys => injection hq with hq; injection hq with h1 h2; cases h1
      | scr ys => injection hq with hq; injection hq with h1 h2; cases h1
      | loc mm =>
        change (match st[mm]? with | some (.lst xs) => some (true, xs) | some (.frz xs) => some (true, xs) | _ => none) = some (false, xs) at hq
        split at hq <;> cases hq
      | _ => cases hq
    · exact False.elim h
  cases a with
  | str z => exact False.elim h
  | _ => exact rest h
end
end MP
/-! MiniPy: set(xs) of a list of ints. -/
namespace L2
open PySem PySem.Spec PyProof.Rows
abbrev set0 (w : World) : Obj := { cls := .type "set", dict := none, data := .set #[] 0 (.fresh 0 0 (!w.params.followText "set-order")) }
section
variable {P : Program} {w : World} {A : Around} {E : Value → Shared → Prop} {s : Shared}
set_option maxHeartbeats 3200000 in
theorem call_set_lstI {l : Addr} {items : Array Value} (ns : List Int) {Q : Value → Shared → Prop} (hh : A.handled = none) (hl : s.heap.IsList l items) (hit : IntsAre items.toList ns) (hb : ns.length + 1 < scanBound)
    (h : ∀ (h' : Heap) (tk c : Nat), SetR w h' s.heap.objs.size (fun j => decide (j ∈ ns)) c → c ≤ ns.length → (∀ b o, s.heap.get? b = some o → h'.get? b = some o) → Q (.ref s.heap.objs.size) { s with heap := h', toks := tk }) :
    wpAny (model P w) A (call (.type "set") [.ref l]) Q E s := by
  have hsz0 : items.size = ns.length := by
    have q := IntsAre.length hit
    rw [Array.length_toList] at q
    exact q
  obtain ⟨c, tl, hmro⟩ := F.called_set.mro
  have hmd := F.called_set.made
  have hsub := F.called_set.sub
  refine wpAny_call (codeAny_of_tree ?_)
  show wpAny _ _ (callAny (.type "set") _) _ _ _
  refine wpAny_pure ⟨Code.quiet_builtin _ (by decide +kernel), codeAny_builtin F.entry_type_call ?_⟩
  rw [Around.under_plain (weight_type_call_type "set" [.ref l] []) rfl]
  have h1 := F.called_set.notType
  have h2 := F.called_set.canCreate
  have hct := F.typeCall_set_1 (.ref l)
  repeat (any_goals (first | assumption | wp_step))

  refine codeAny_mono (code_set_led1 (.ref l) (E := E) (Q₁ := fun obj u₁ => obj = .ref s.heap.objs.size ∧ u₁ = { s with heap := s.heap.push (set0 w) }) ⟨rfl, rfl⟩) fun r u₁ hr => ?_
  cases r with
  | error e => exact hr
  | ok fl =>
    cases fl with
    | ret obj =>
      obtain ⟨rfl, rfl⟩ := hr
      have hS : (s.heap.push (set0 w)).get? s.heap.objs.size = some (set0 w) := Heap.get?_push_size _ rfl
      have hT : Shared.TypeIs { s with heap := s.heap.push (set0 w) } (.ref s.heap.objs.size) "set" := ⟨_, hS, rfl⟩
      have hli := F.called_set.init.lookup
      have hbi := F.called_set.init.bind (.ref s.heap.objs.size)
      repeat (any_goals (first | assumption | wp_step))

      refine codeAny_mono (codeAny_call_builtin (R := wants (fun r u₂ => r = .none ∧ ∃ h' tk c, u₂ = { s with heap := h', toks := tk } ∧ SetR w h' s.heap.objs.size (fun j => decide (j ∈ ns)) c ∧ c ≤ ns.length ∧
          (∀ b o, s.heap.get? b = some o → h'.get? b = some o)) E) F.called_set.init.plain F.entry_set_init (check_set_init_1 hT ?_)) fun q₂ u₂ hq₂ => ?_
      · obtain ⟨ol, hol, hcl, nl, hdl⟩ := hl
        obtain ⟨ocls, odict, odata, oslots⟩ := ol
        simp only at hcl hdl
        subst hcl; subst hdl
        have hol' : (s.heap.push (set0 w)).get? l = some { cls := .type "list", dict := odict, data := .seq items nl, slots := oslots } := Heap.get?_push_of_some _ hol
        have hsls := F.sub_list_set
        have hslf := F.sub_list_frozenset
        have hnd : (Value.type "list" == Value.type "dict") = false := by decide
        have hl1 : (s.heap.push (set0 w)).IsList l items := ⟨_, hol', rfl, nl, rfl⟩
        unfold Builtin.«set.__init__» noKeywords Builtin.Frozenset.updateFrom
        generalize hPJ : pyIter = PJ
        wp_walk
        subst hPJ

        refine wpAny_pyIter_list hl1 ?_
        refine wpAny_bind (wpAny_runValue ?_)
        have hlS : l < s.heap.objs.size := Heap.lt_size hol
        have hh3 : A.in1.in1.in1.handled = none := by simp [hh]
        have hz1 : (s.heap.push (set0 w)).objs.size = s.heap.objs.size + 1 := Heap.size_push ..
        have hneI : l ≠ (s.heap.push (set0 w)).objs.size := by
          rw [Heap.size_push]; exact Nat.ne_of_lt (Nat.lt_succ_of_lt hlS)
        have hSf : s.heap.objs.size ∉ [(s.heap.push (set0 w)).objs.size, l] := by
          rw [Heap.size_push]; simp only [List.mem_cons, List.mem_singleton, List.not_mem_nil, or_false, not_or]
          exact ⟨Nat.ne_of_lt (Nat.lt_succ_self _), Nat.ne_of_gt hlS⟩
        have hval : ∀ (i : Nat) (v : Value), items[i]? = some v → ∃ k t, ns[i]? = some k ∧ v = .int k t := fun i v hv => by
          have hi : i < ns.length := by rw [← hsz0]; exact (Array.getElem?_eq_some_iff.mp hv).1
          obtain ⟨t, e⟩ := PyProof.Rows.IntsAre.int_at hit i v (by rw [Array.getElem?_toList]; exact hv)
          refine ⟨ns[i], t, List.getElem?_eq_getElem hi, ?_⟩
          rw [e, List.getD_eq_getElem?_getD, List.getElem?_eq_getElem hi] <;> rfl
        refine set_update_ints ((Walks.list hh3 _ l hneI items).toS) s.heap.objs.size
          hSf ns hsz0 hb hval (items.size - 0) 0 _ (by omega) (Nat.zero_le _)
          ⟨⟨_, Heap.get?_push_size _ rfl, rfl, rfl⟩, (hl1.push _)⟩ ?hS0 ?hR
        case hS0 =>
          have hget : ((s.heap.push (set0 w)).push { cls := .type "list_iterator", data := .fields #[.ref l, .int 0 0] }).get? s.heap.objs.size
              = some (set0 w) := Heap.get?_push_of_some _ hS
          exact ⟨0, Nat.le_refl 0, setR_new_at hget⟩
        case hR =>
          intro s' c' hm hc' hS'
          obtain ⟨h', g2, d', tj', os'⟩ := s'
          have eg : g2 = s.gens := hm.gens
          have ed : d' = s.drawn := hm.drawn
          have eo : os' = s.os := hm.os
          subst eg; subst ed; subst eo
          show wpAny _ _ _ _ _ _
          refine wpAny_pure ?_
          show wpAny _ _ (ret Value.none) _ _ _
          rw [hsz0] at hc'
          refine wpAny_pure ⟨rfl, h', tj', c', rfl, hS', hc', fun b o e => ?_⟩
          have hb0 : b < s.heap.objs.size := Heap.lt_size e
          have hb1 : b ≠ s.heap.objs.size := Nat.ne_of_lt hb0
          have hb2 : b ≠ (s.heap.push (set0 w)).objs.size := by
            rw [Heap.size_push]; exact Nat.ne_of_lt (Nat.lt_succ_of_lt hb0)
          exact hm.heap b o (by simp only [List.mem_cons, List.mem_singleton, List.not_mem_nil, or_false, not_or]; exact ⟨hb1, hb2⟩) (Heap.get?_push_of_some _ (Heap.get?_push_of_some _ e))

      · cases q₂ with
        | error e => exact hq₂
        | ok fl₂ =>
          cases fl₂ with
          | ret r =>
            obtain ⟨rfl, h', tk, c', rfl, hS', hc', hk'⟩ := hq₂
            repeat (any_goals (first | assumption | wp_step))
            exact h _ _ _ hS' hc' hk'
          | _ => exact hq₂.elim
    | _ => exact hr.elim

end
end L2
/-! MiniPy: built-in functions, by values. -/
namespace MP
open PySem L2 PySem.Spec PyProof.Rows

/-! ### sorting, least, greatest -/
theorem insI_perm (k : Int) : ∀ xs : List Int, (insI k xs).Perm (k :: xs)
  | [] => List.Perm.refl _
  | x :: xs => by
    unfold insI
    by_cases h : k ≤ x
    · rw [if_pos h]
    · rw [if_neg h]
      exact ((insI_perm k xs).cons x).trans (List.Perm.swap k x xs)
theorem sortI_perm : ∀ xs : List Int, (sortI xs).Perm xs
  | [] => List.Perm.refl _
  | x :: xs => (insI_perm x (sortI xs)).trans ((sortI_perm xs).cons x)
theorem insI_sorted (k : Int) : ∀ xs : List Int, xs.Pairwise (· ≤ ·) → (insI k xs).Pairwise (· ≤ ·)
  | [], _ => by unfold insI; simp
  | x :: xs, h => by
    unfold insI
    obtain ⟨h1, h2⟩ := List.pairwise_cons.mp h
    by_cases hk : k ≤ x
    · rw [if_pos hk]
      exact List.pairwise_cons.mpr ⟨fun y hy => by
        rcases List.mem_cons.mp hy with rfl | hy
        · exact hk
        · exact Int.le_trans hk (h1 y hy), h⟩
    · rw [if_neg hk]
      refine List.pairwise_cons.mpr ⟨fun y hy => ?_, insI_sorted k xs h2⟩
      rcases List.mem_cons.mp ((insI_perm k xs).mem_iff.mp hy) with rfl | hy
      · omega
      · exact h1 y hy
theorem sortI_sorted : ∀ xs : List Int, (sortI xs).Pairwise (· ≤ ·)
  | [] => List.Pairwise.nil
  | x :: xs => insI_sorted x _ (sortI_sorted xs)
theorem sortI_only {ns ns' : List Int} (p : ns'.Perm ns) (s : ns'.Pairwise (· ≤ ·)) : ns' = sortI ns := PySem.W.ksm_same (p.trans (sortI_perm ns).symm) s (sortI_sorted ns)
theorem insS_mem (k : Int) : ∀ (xs : List Int) (y : Int), y ∈ insS k xs ↔ y = k ∨ y ∈ xs
  | [], y => by unfold insS; simp
  | x :: xs, y => by
    unfold insS
    by_cases h : k < x
    · rw [if_pos h]; simp
    · rw [if_neg h]
      by_cases h2 : k = x
      · rw [if_pos h2]; subst h2; simp
      · rw [if_neg h2, List.mem_cons, insS_mem k xs y, List.mem_cons]
        constructor
        · rintro (h | h | h) <;> simp [h]
        · rintro (h | h | h) <;> simp [h]
theorem insS_up (k : Int) : ∀ xs : List Int, xs.Pairwise (· < ·) → (insS k xs).Pairwise (· < ·)
  | [], _ => by unfold insS; simp
  | x :: xs, h => by
    unfold insS
    obtain ⟨h1, h2⟩ := List.pairwise_cons.mp h
    by_cases hk : k < x
    · rw [if_pos hk]
      exact List.pairwise_cons.mpr ⟨fun y hy => by
        rcases List.mem_cons.mp hy with rfl | hy
        · exact hk
        · exact Int.lt_trans hk (h1 y hy), h⟩
    · rw [if_neg hk]
      by_cases he : k = x
      · rw [if_pos he]; exact h
      · rw [if_neg he]
        refine List.pairwise_cons.mpr ⟨fun y hy => ?_, insS_up k xs h2⟩
        rcases (insS_mem k xs y).mp hy with rfl | hy
        · omega
        · exact h1 y hy
theorem sortS_mem : ∀ (xs : List Int) (y : Int), y ∈ sortS xs ↔ y ∈ xs
  | [], y => by unfold sortS; simp
  | x :: xs, y => by unfold sortS; rw [insS_mem, sortS_mem xs y, List.mem_cons]
theorem sortS_up : ∀ xs : List Int, (sortS xs).Pairwise (· < ·)
  | [] => List.Pairwise.nil
  | x :: xs => insS_up x _ (sortS_up xs)
theorem up_only : ∀ {a b : List Int}, a.Pairwise (· < ·) → b.Pairwise (· < ·) → (∀ k, k ∈ a ↔ k ∈ b) → a = b
  | [], [], _, _, _ => rfl
  | [], y :: b, _, _, h => by have := (h y).mpr List.mem_cons_self; cases this
  | x :: a, [], _, _, h => by have := (h x).mp List.mem_cons_self; cases this
  | x :: a, y :: b, ha, hb, h => by
    obtain ⟨a1, a2⟩ := List.pairwise_cons.mp ha
    obtain ⟨b1, b2⟩ := List.pairwise_cons.mp hb
    have e : x = y := by
      have h1 := (h x).mp List.mem_cons_self
      have h2 := (h y).mpr List.mem_cons_self
      rcases List.mem_cons.mp h1 with h1 | h1
      · exact h1
      · rcases List.mem_cons.mp h2 with h2 | h2
        · exact h2.symm
        · have := a1 y h2; have := b1 x h1; omega
    subst e
    have hh : ∀ k, k ∈ a ↔ k ∈ b := fun k => by
      constructor
      · intro hk
        rcases List.mem_cons.mp ((h k).mp (List.mem_cons_of_mem _ hk)) with e | hk'
        · have := a1 k hk; omega
        · exact hk'
      · intro hk
        rcases List.mem_cons.mp ((h k).mpr (List.mem_cons_of_mem _ hk)) with e | hk'
        · have := b1 k hk; omega
        · exact hk'
    rw [up_only a2 b2 hh]
theorem minL_spec : ∀ (k : Int) (xs : List Int), minL k xs ∈ k :: xs ∧ ∀ y ∈ k :: xs, minL k xs ≤ y
  | k, [] => by unfold minL; simp
  | k, x :: xs => by
    unfold minL
    by_cases hx : x < k
    · rw [if_pos hx]
      obtain ⟨h1, h2⟩ := minL_spec x xs
      refine ⟨List.mem_cons_of_mem _ h1, fun y hy => ?_⟩
      have h3 := h2 _ List.mem_cons_self
      rcases List.mem_cons.mp hy with rfl | hy
      · omega
      · exact h2 y hy
    · rw [if_neg hx]
      obtain ⟨h1, h2⟩ := minL_spec k xs
      refine ⟨?_, fun y hy => ?_⟩
      · rcases List.mem_cons.mp h1 with h | h
        · rw [h]; exact List.mem_cons_self
        · exact List.mem_cons_of_mem _ (List.mem_cons_of_mem _ h)
      · have h3 := h2 _ List.mem_cons_self
        rcases List.mem_cons.mp hy with rfl | hy
        · exact h3
        · rcases List.mem_cons.mp hy with rfl | hy
          · omega
          · exact h2 y (List.mem_cons_of_mem _ hy)
theorem maxL_spec : ∀ (k : Int) (xs : List Int), maxL k xs ∈ k :: xs ∧ ∀ y ∈ k :: xs, y ≤ maxL k xs
  | k, [] => by unfold maxL; simp
  | k, x :: xs => by
    unfold maxL
    by_cases hx : k < x
    · rw [if_pos hx]
      obtain ⟨h1, h2⟩ := maxL_spec x xs
      refine ⟨List.mem_cons_of_mem _ h1, fun y hy => ?_⟩
      have h3 := h2 _ List.mem_cons_self
      rcases List.mem_cons.mp hy with rfl | hy
      · omega
      · exact h2 y hy
    · rw [if_neg hx]
      obtain ⟨h1, h2⟩ := maxL_spec k xs
      refine ⟨?_, fun y hy => ?_⟩
      · rcases List.mem_cons.mp h1 with h | h
        · rw [h]; exact List.mem_cons_self
        · exact List.mem_cons_of_mem _ (List.mem_cons_of_mem _ h)
      · have h3 := h2 _ List.mem_cons_self
        rcases List.mem_cons.mp hy with rfl | hy
        · exact h3
        · rcases List.mem_cons.mp hy with rfl | hy
          · omega
          · exact h2 y (List.mem_cons_of_mem _ hy)
theorem asInts_eq : ∀ {xs : List Val} {ns : List Int}, asInts xs = some ns → xs = ns.map Val.int
  | [], ns, h => by cases h; rfl
  | x :: xs, ns, h => by
    cases x with
    | int i =>
      change (asInts xs).map (i :: ·) = some ns at h
      cases e : asInts xs with
      | none => rw [e] at h; cases h
      | some ms => rw [e] at h; cases h; rw [asInts_eq e]; rfl
    | _ => cases h

/-! ### one argument, a plain value -/
def rF1 (Y : Fx) (f : F1) : List V → Hp → VK → Prop := fun vs H Q => ∃ F μ st a v c, vs = [v] ∧ Good Y.K F μ st H ∧ RepV Y.K F μ st.length a v ∧ f1V f a st = .ok c ∧ ∀ w, RepV Y.K F μ st.length c w → Q w H
def f1Val : F1 → Value | .len => .builtin "len" | .int => .type "int" | .abs => .builtin "abs" | .bool => .type "bool" | .sum => .builtin "sum" | .min => .builtin "min" | .max => .builtin "max"
section
variable {X : Cx} {Y : Fx}
theorem intsAt (hK : X.K = Y.K) {F H : Hp} {μ : Nat → Addr} {st : Store} {a : Val} {v : V} {xs : List Val} {ns : List Int} (g : Good Y.K F μ st H) (ra : RepV Y.K F μ st.length a v) (e : seqOf st a = some (true, xs)) (e2 : asInts xs = some ns) :
    ∃ p, v = .ref p ∧ SqL X.K H p (ns.map V.int) := by
  obtain ⟨p, vs, e1, r1, q1⟩ := seqOf_rep g ra e
  rw [if_pos rfl] at q1
  have ex := asInts_eq e2
  subst ex
  rw [r1.ints] at q1
  exact ⟨p, e1, by rw [hK]; exact q1⟩
theorem call_f1 (hK : X.K = Y.K) (hc : X.calm = true) (f : F1) : CallR X (f1Val f) (rF1 Y f) := by
  intro pins s σ H vs us Q I r h
  obtain ⟨F, μ, st, a, v, c, rfl, g, ra, e, q⟩ := h
  cases f with
  | len =>
    have rest : (match seqOf st a with | some (_, xs) => R.ok (Val.int xs.length) | none => .stuck) = .ok c → wpAny (model X.prog X.w) X.A (call (.builtin "len") us) (EP X pins σ Q) X.xe s := fun e => by
      split at e
      · rename_i kk xs hq
        cases e
        obtain ⟨p, vs, e1, r1, q1⟩ := seqIn hK g ra hq
        subst e1
        exact call_len_seq pins s σ H _ us Q I r ⟨p, vs, rfl, q1, by rw [r1.len]; exact q _ rfl⟩
      · cases e
    cases a with
    | str y =>
      have ex : v = .str y := ra
      subst ex
      change (if y.length ≤ szMax then R.ok (Val.int y.length) else .stuck) = .ok c at e
      by_cases hl : y.length ≤ szMax
      · rw [if_pos hl] at e; cases e
        exact call_len_str pins s σ H _ us Q I r ⟨y, rfl, szMax_le hl, q _ rfl⟩
      · rw [if_neg hl] at e; cases e
    | non => exact rest e
    | bl _ => exact rest e
    | int _ => exact rest e
    | tup xs => exact rest e
    | lst xs => exact rest e
    | loc m => exact rest e
    | scr xs => exact rest e
  | int =>
    cases a <;> first
      | (rename_i i; have ex : v = .int i := ra; subst ex; cases e
         exact call_int1 pins s σ H _ us Q I r (.inl ⟨i, rfl, q _ rfl⟩))
      | (rename_i b; have ex : v = .bl b := ra; subst ex; cases e
         exact call_int1 pins s σ H _ us Q I r (.inr ⟨b, rfl, q _ rfl⟩))
      | cases e
  | abs =>
    cases a <;> first
      | (rename_i i; have ex : v = .int i := ra; subst ex; cases e
         exact call_abs pins s σ H _ us Q I r ⟨i, rfl, q _ rfl⟩)
      | cases e
  | bool =>
    cases a <;> first
      | (rename_i i; have ex : v = .int i := ra; subst ex; cases e
         exact call_bool1 pins s σ H _ us Q I r (.inl ⟨i, rfl, q _ rfl⟩))
      | (rename_i b; have ex : v = .bl b := ra; subst ex; cases e
         exact call_bool1 pins s σ H _ us Q I r (.inr ⟨b, rfl, q _ rfl⟩))
      | cases e
  | sum =>
    change (match seqOf st a with | some (true, xs) => (match asInts xs with | some ns => R.ok (Val.int ns.sum) | none => .stuck) | _ => .stuck) = .ok c at e
    split at e
    · rename_i xs hq
      split at e
      · rename_i ns hn
        cases e
        obtain ⟨p, e1, q1⟩ := intsAt hK g ra hq hn
        subst e1
        exact cr_sum hc pins s σ H _ us Q I r ⟨p, ns, rfl, q1, q _ rfl⟩
      · cases e
    · cases e
  | min =>
    change (match seqOf st a with | some (true, xs) => (match asInts xs with | some (n :: ns) => R.ok (Val.int (minL n ns)) | _ => .stuck) | _ => .stuck) = .ok c at e
    split at e
    · rename_i xs hq
      split at e
      · rename_i n ns hn
        cases e
        obtain ⟨p, e1, q1⟩ := intsAt hK g ra hq hn
        subst e1
        obtain ⟨m1, m2⟩ := minL_spec n ns
        refine cr_min hc pins s σ H _ us Q I r ⟨p, n :: ns, rfl, q1, by simp, fun m h1 h2 => ?_⟩
        have em : m = minL n ns := Int.le_antisymm (h2 _ m1) (m2 _ h1)
        rw [em]; exact q _ rfl
      · cases e
    · cases e
  | max =>
    change (match seqOf st a with | some (true, xs) => (match asInts xs with | some (n :: ns) => R.ok (Val.int (maxL n ns)) | _ => .stuck) | _ => .stuck) = .ok c at e
    split at e
    · rename_i xs hq
      split at e
      · rename_i n ns hn
        cases e
        obtain ⟨p, e1, q1⟩ := intsAt hK g ra hq hn
        subst e1
        obtain ⟨m1, m2⟩ := maxL_spec n ns
        refine cr_max hc pins s σ H _ us Q I r ⟨p, n :: ns, rfl, q1, by simp, fun m h1 h2 => ?_⟩
        have em : m = maxL n ns := Int.le_antisymm (m2 _ h1) (h2 _ m1)
        rw [em]; exact q _ rfl
      · cases e
    · cases e

def rMm (Y : Fx) (k : Bool) : List V → Hp → VK → Prop := fun vs H Q => ∃ F μ st a b v w c, vs = [v, w] ∧ Good Y.K F μ st H ∧ RepV Y.K F μ st.length a v ∧ RepV Y.K F μ st.length b w ∧ mmV k a b = .ok c ∧ ∀ z, RepV Y.K F μ st.length c z → Q z H
theorem call_mm (hc : X.calm = true) (k : Bool) : CallR X (.builtin (if k then "max" else "min")) (rMm Y k) := by
  intro pins s σ H vs us Q I r h
  obtain ⟨F, μ, st, a, b, v, w, c, rfl, g, ra, rb, e, q⟩ := h
  cases a <;> cases b <;> first
    | (rename_i i j
       have ex : v = .int i := ra
       have ey : w = .int j := rb
       subst ex ey
       cases e
       cases k with
       | true => exact call_max2 hc pins s σ H _ us Q I r ⟨i, j, rfl, q _ rfl⟩
       | false => exact call_min2 hc pins s σ H _ us Q I r ⟨i, j, rfl, q _ rfl⟩)
    | cases e

/-! ### one argument, a new list or tuple -/
def rG1 (Y : Fx) (W : XK) (m : Bool) (f : G1) : List V → Hp → VK → Prop := fun vs H Q => ∃ F μ st a v, vs = [v] ∧ Good Y.K F μ st H ∧ RepV Y.K F μ st.length a v ∧ RP Y F μ st H (g1V m f a st) (kV Y Q) W
theorem call_g_list (hK : X.K = Y.K) {W : XK} {m : Bool} : CallR X (.type "list") (rG1 Y W m .list) := by
  intro pins s σ H vs us Q I r h
  obtain ⟨F, μ, st, a, v, rfl, g, ra, h⟩ := h
  change RP Y F μ st H (match seqOf st a with | some (_, xs) => newL m xs st | none => .stuck) (kV Y Q) W at h
  split at h
  · rename_i kk xs hq
    obtain ⟨p, vs, e1, r1, q1⟩ := seqIn hK g ra hq
    subst e1
    obtain ⟨z, k⟩ := newL_ok g h r1
    exact call_list_of pins s σ H _ us Q I r ⟨p, vs, rfl, q1, k⟩
  · exact False.elim h
theorem call_g_tuple (hK : X.K = Y.K) {W : XK} {m : Bool} : CallR X (.type "tuple") (rG1 Y W m .tuple) := by
  intro pins s σ H vs us Q I r h
  obtain ⟨F, μ, st, a, v, rfl, g, ra, h⟩ := h
  change RP Y F μ st H (match seqOf st a with | some (_, xs) => newT xs st | none => .stuck) (kV Y Q) W at h
  split at h
  · rename_i kk xs hq
    obtain ⟨p, vs, e1, r1, q1⟩ := seqOf_rep g ra hq
    subst e1
    cases kk with
    | true =>
      rw [if_pos rfl] at q1
      obtain ⟨z, k⟩ := newT_ok g h r1
      exact call_tuple_of pins s σ H _ us Q I r ⟨p, vs, rfl, .inl ⟨by rw [hK]; exact q1, k⟩⟩
    | false =>
      rw [if_neg Bool.false_ne_true] at q1
      refine call_tuple_of pins s σ H _ us Q I r ⟨p, vs, rfl, .inr ⟨by rw [hK]; exact q1, ?_⟩⟩
      cases a with
      | tup ys =>
        have ey : ys = xs := by injection hq with hq; injection hq
        subst ey
        exact newT_same g h ra
      | lst ys => injection hq with hq; injection hq with h1 h2; cases h1
      | scr ys => injection hq with hq; injection hq with h1 h2; cases h1
      | loc mm =>
        change (match st[mm]? with | some (.lst xs) => some (true, xs) | some (.frz xs) => some (true, xs) | _ => none) = some (false, xs) at hq
        split at hq <;> cases hq
      | _ => cases hq
  · exact False.elim h
theorem call_g_sorted (hK : X.K = Y.K) {W : XK} {m : Bool} : CallR X (.builtin "sorted") (rG1 Y W m .sorted) := by
  intro pins s σ H vs us Q I r h
  obtain ⟨F, μ, st, a, v, rfl, g, ra, h⟩ := h
  change RP Y F μ st H (match seqOf st a with | some (true, xs) => (match asInts xs with | some ns => newL m ((sortI ns).map .int) st | none => .stuck) | _ => .stuck) (kV Y Q) W at h
  split at h
  · rename_i xs hq
    split at h
    · rename_i ns hn
      obtain ⟨p, e1, q1⟩ := intsAt hK g ra hq hn
      subst e1
      obtain ⟨z, k⟩ := newL_ok g h (repL_ints (sortI ns))
      refine cr_sortedI pins s σ H _ us Q I r ⟨p, ns, rfl, q1, fun ns' l hp hs hl => ?_⟩
      rw [sortI_only hp hs]
      exact k l hl
    · exact False.elim h
  · exact False.elim h
/-- set(xs): an object whose members are known -/
def rMkSet (Y : Fx) (w : World) : List V → Hp → VK → Prop := fun vs H Q => ∃ F μ st a v xs ns, vs = [v] ∧ Good Y.K F μ st H ∧ RepV Y.K F μ st.length a v ∧ seqOf st a = some (true, xs) ∧ asInts xs = some ns ∧ ns.length < 64 ∧
  ∀ p n, H p = none → n < 64 → Q (.ref p) (upd H p (SetO w p (fun j => decide (j ∈ ns)) n))
theorem call_mkset (hK : X.K = Y.K) (hc : X.calm = true) : CallR X (.type "set") (rMkSet Y X.w) := by
  intro pins s σ H vs us Q I r h
  obtain ⟨F, μ, st, a, v, xs, ns, rfl, g, ra, hq, hn, h64, q⟩ := h
  obtain ⟨p, e1, q1⟩ := intsAt hK g ra hq hn
  subst e1
  obtain ⟨its, rv, pl, hz⟩ := I.list q1
  rw [Vals.ref1 r]
  have hi : IntsAre its ns := rv.ints
  refine call_set_lstI ns (I.ok.hd hc) pl.isList (by simpa using hi) (by unfold scanBound; omega) fun h' tk c R1 hcn k => ?_
  have hp : H s.heap.objs.size = none := I.hok.fresh (Nat.le_refl _)
  exact ⟨.ref s.heap.objs.size, _, I.laid (t' := tk) k (Nat.le_refl _) (setO_new R1), rfl, q _ c hp (by omega)⟩
end
end MP
/-! MiniPy: expressions. -/
namespace MP
open PySem L2 PySem.Spec PyProof.Rows

/-- what a def promises: what its mirror gives -/
def spOf (Y : Fx) (ar : Nat) (m : Mir) : Sp := fun vs H Q E => vs.length = ar ∧ ∃ F μ st args, Good Y.K F μ st H ∧ RepL Y.K F μ st.length args vs ∧ RP Y F μ st H (m args st) (kV Y Q) E

structure Ctx (X : Cx) (Y : Fx) (Φ : Tab) (G : Str → Option Val) (C : Cfg) (ns : Names) (k : Nat) : Prop where
  K : X.K = Y.K
  mg : X.mg = Y.mg
  N : X.N = C.N
  nd : X.N.Nodup
  sc : X.env.scope.names = ns
  kind : X.env.scope.kind = .function
  calm : X.calm = true
  room : Room k X.A
  fn : ∀ x, x ∈ C.fs → ∃ m f fd ps, Φ x = some m ∧ (∀ args st, args.length ≠ List.length ps → m args st = .stuck) ∧ X.mg x = some (.ref f) ∧ PySem.W.keepIn X.K (.ref f) = true ∧ Binds X.K fd ps [] ∧ FnOk X.prog X.w X.K X.mg X.base (L2.CX X.prog X.w) k f fd ps (spOf Y ps.length m)
  gl : ∀ x v, G x = some v → ∃ (w : V) (u : Value), X.mg x = some u ∧ RelV w u ∧ ∀ F μ n, RepV Y.K F μ n v w
  bt : ∀ x, x ∈ C.bs → X.mg x = none

def at_ (W : WX) (σ : L2.St) : XK := fun c d H => W c d σ H
section
variable (Y : Fx) (Φ : Tab) (G : Str → Option Val) (W : WX)
def tE (e : E) : TE := fun σ H Q => ∃ F μ st env, Good Y.K F μ st H ∧ EnvOk Y.K F μ st.length env σ ∧ RP Y F μ st H ((ev Φ G e).v env st) (kV Y Q) (at_ W σ)
def tT (e : E) : TT := fun σ H Q => ∃ F μ st env, Good Y.K F μ st H ∧ EnvOk Y.K F μ st.length env σ ∧ RP Y F μ st H ((ev Φ G e).t env st) (kT Q) (at_ W σ)
def tA (es : Es) : TA := fun σ H Q => ∃ F μ st env, Good Y.K F μ st H ∧ EnvOk Y.K F μ st.length env σ ∧ RP Y F μ st H (evs Φ G es env st) (kA Y Q) (at_ W σ)
def tBo (k : Bool) (es : Es) : TE := fun σ H Q => ∃ F μ st env, Good Y.K F μ st H ∧ EnvOk Y.K F μ st.length env σ ∧ RP Y F μ st H (evBo Φ G k es env st) (kV Y Q) (at_ W σ)
def tBoT (k : Bool) (es : Es) : TT := fun σ H Q => ∃ F μ st env, Good Y.K F μ st H ∧ EnvOk Y.K F μ st.length env σ ∧ RP Y F μ st H (evBoT Φ G k es env st) (kT Q) (at_ W σ)
/-- J walks the values vs while F stands -/
structure WalkJ (F : Hp) (J : It) (vs : List V) : Prop where
  go : ∀ i H, Same F H → i < vs.length → J.go i H
  yld : ∀ i H x H', Same F H → i < vs.length → J.yld i H x H' → H' = H ∧ vs[i]? = some x
  stop : ∀ i H, Same F H → i = vs.length → J.stop i H
def kI (R : It → Hp → Prop) : Hp → (Nat → Addr) → Hp → List Val → Store → Prop := fun F μ H xs st => ∀ J vs, RepL Y.K F μ st.length xs vs → WalkJ F J vs → R J H
def tI (e : E) : TI := fun σ H R => ∃ F μ st env, Good Y.K F μ st H ∧ EnvOk Y.K F μ st.length env σ ∧ RP Y F μ st H ((ev Φ G e).i env st) (kI Y R) (at_ W σ)
end

section
variable {X : Cx} {e : Expr}
theorem PEimp {t t' : TE} (h : PE X e t) (i : ∀ σ H Q, t' σ H Q → t σ H Q) : PE X e t' := ⟨fun pins s σ H Q I q => h.run pins s σ H Q I (i σ H Q q)⟩
theorem PTimp {t t' : TT} (h : PT X e t) (i : ∀ σ H Q, t' σ H Q → t σ H Q) : PT X e t' := ⟨fun pins s σ H Q I q => h.run pins s σ H Q I (i σ H Q q)⟩
theorem PWimp {t t' : TT} (h : PW X e t) (i : ∀ σ H Q, t' σ H Q → t σ H Q) : PW X e t' := ⟨fun wh pins s σ H Q I q => h.run wh pins s σ H Q I (i σ H Q q)⟩
theorem PAimp {es : List Expr} {t t' : TA} (h : PA X es t) (i : ∀ σ H Q, t' σ H Q → t σ H Q) : PA X es t' := ⟨fun pos pins s σ H Q I q => h.run pos pins s σ H Q I (i σ H Q q)⟩
theorem PIimp {tg : Expr} {t t' : TI} (h : PI X tg e t) (i : ∀ σ H R, t' σ H R → t σ H R) : PI X tg e t' := ⟨fun pins s σ H R I q => h.run pins s σ H R I (i σ H R q)⟩
end

/-! one after another -/
section
variable {α : Type} {Y : Fx} {Φ : Tab} {G : Str → Option Val} {W : WX} {F H : Hp} {μ : Nat → Addr} {st : Store} {env : Env} {σ : L2.St} {k : Hp → (Nat → Addr) → Hp → α → Store → Prop} {W' : XK}
theorem goE {a : E} {f : Val × Store → R (α × Store)} {Q : VK} (g : Good Y.K F μ st H) (en : EnvOk Y.K F μ st.length env σ) (h : RP Y F μ st H (((ev Φ G a).v env st).bind f) k (at_ W σ))
    (n : ∀ F1 μ1 H1 x st1 w, Ext F μ st H F1 μ1 st1 H1 → Good Y.K F1 μ1 st1 H1 → EnvOk Y.K F1 μ1 st1.length env σ → RepV Y.K F1 μ1 st1.length x w → RP Y F1 μ1 st1 H1 (f (x, st1)) k (at_ W σ) → Q w H1) : tE Y Φ G W a σ H Q :=
  ⟨F, μ, st, env, g, en, h.bind.impE fun F1 μ1 H1 x st1 _ e1 g1 h1 w r => n F1 μ1 H1 x st1 w e1 g1 (e1.env en) r h1⟩
theorem goT {a : E} {f : Bool × Store → R (α × Store)} {Q : Bool → Hp → Prop} (g : Good Y.K F μ st H) (en : EnvOk Y.K F μ st.length env σ) (h : RP Y F μ st H (((ev Φ G a).t env st).bind f) k (at_ W σ))
    (n : ∀ F1 μ1 H1 x st1, Ext F μ st H F1 μ1 st1 H1 → Good Y.K F1 μ1 st1 H1 → EnvOk Y.K F1 μ1 st1.length env σ → RP Y F1 μ1 st1 H1 (f (x, st1)) k (at_ W σ) → Q x H1) : tT Y Φ G W a σ H Q :=
  ⟨F, μ, st, env, g, en, h.bind.impE fun F1 μ1 H1 x st1 _ e1 g1 h1 => n F1 μ1 H1 x st1 e1 g1 (e1.env en) h1⟩
theorem goA {es : Es} {f : List Val × Store → R (α × Store)} {Q : List V → Hp → Prop} (g : Good Y.K F μ st H) (en : EnvOk Y.K F μ st.length env σ) (h : RP Y F μ st H ((evs Φ G es env st).bind f) k (at_ W σ))
    (n : ∀ F1 μ1 H1 x st1 w, Ext F μ st H F1 μ1 st1 H1 → Good Y.K F1 μ1 st1 H1 → EnvOk Y.K F1 μ1 st1.length env σ → RepL Y.K F1 μ1 st1.length x w → RP Y F1 μ1 st1 H1 (f (x, st1)) k (at_ W σ) → Q w H1) : tA Y Φ G W es σ H Q :=
  ⟨F, μ, st, env, g, en, h.bind.impE fun F1 μ1 H1 x st1 _ e1 g1 h1 w r => n F1 μ1 H1 x st1 w e1 g1 (e1.env en) r h1⟩
end

/-! ### loops over what a walk gives -/
theorem walk_list {K : PySem.W.Frag} {F : Hp} {a : Addr} {vs : List V} (h : SqL K F a vs) : WalkJ F (Itl K a) vs where
  go := fun i H sm hi => ⟨vs, vs[i], sqL_mono sm h, by simp [hi]⟩
  yld := fun i H x H' sm hi ⟨e, q⟩ => ⟨e, q vs (sqL_mono sm h)⟩
  stop := fun i H sm hi => ⟨vs, sqL_mono sm h, by omega⟩
theorem walk_tup {K : PySem.W.Frag} {F : Hp} {a : Addr} {vs : List V} (h : SqT K F a vs) : WalkJ F (Itt K a) vs where
  go := fun i H sm hi => ⟨vs, vs[i], sqT_mono sm h, by simp [hi]⟩
  yld := fun i H x H' sm hi ⟨e, q⟩ => ⟨e, q vs (sqT_mono sm h)⟩
  stop := fun i H sm hi => ⟨vs, sqT_mono sm h, by omega⟩
def rangeV (lo : Int) (n : Nat) : List V := (List.range n).map fun i => V.int (lo + (i : Nat))
theorem rangeV_len (lo : Int) (n : Nat) : (rangeV lo n).length = n := by unfold rangeV; simp
theorem rangeV_get {lo : Int} {n i : Nat} (h : i < n) : (rangeV lo n)[i]? = some (.int (lo + (i : Nat))) := by unfold rangeV; simp [h]
theorem walk_rng (F : Hp) (lo : Int) (n : Nat) : WalkJ F (Itr lo n) (rangeV lo n) where
  go := fun i H sm hi => by rw [rangeV_len] at hi; exact hi
  yld := fun i H x H' sm hi ⟨e, q⟩ => ⟨e, by rw [rangeV_len] at hi; rw [rangeV_get hi, q]⟩
  stop := fun i H sm hi => by rw [rangeV_len] at hi; exact Nat.le_of_eq hi.symm
theorem repL_range {K : PySem.W.Frag} {F : Hp} {μ : Nat → Addr} {m : Nat} (lo : Int) (n : Nat) : RepL K F μ m (rangeL lo n) (rangeV lo n) := by
  have : rangeL lo n = ((List.range n).map fun i => lo + (i : Nat)).map Val.int := by unfold rangeL; simp
  rw [this]
  have e : rangeV lo n = ((List.range n).map fun i => lo + (i : Nat)).map V.int := by unfold rangeV; simp
  rw [e]
  exact repL_ints _
theorem for_walk {F : Hp} {J : It} {vs : List V} (wj : WalkJ F J vs) {g : TG} {tb : TS} {D : Ends} {σ : L2.St} {H : Hp} (Pv : Nat → L2.St → Hp → Prop) (h0 : Pv 0 σ H) (sm : ∀ i σ H, Pv i σ H → Same F H)
    (hs : ∀ i x σ H, vs[i]? = some x → Pv i σ H → g x σ H fun σ2 H2 => tb { D with nx := Pv (i + 1), ct := Pv (i + 1), bk := D.nx } σ2 H2) (hd : ∀ σ H, Pv vs.length σ H → D.nx σ H) :
    ∃ W : Nat → Nat → L2.St → Hp → Prop, (∃ m, W 0 m σ H) ∧ ∀ i m σ H, W i m σ H →
      (J.stop i H ∧ D.nx σ H) ∨ (J.go i H ∧ ∃ N : L2.St → Hp → Prop, (∀ σ' H', N σ' H' → ∃ m', m' < m ∧ W (i + 1) m' σ' H') ∧ ∀ x H', J.yld i H x H' → g x σ H' fun σ2 H2 => tb { D with nx := N, ct := N, bk := D.nx } σ2 H2) := by
  refine ⟨fun i m σ H => m = vs.length - i ∧ i ≤ vs.length ∧ Pv i σ H, ⟨vs.length, by simp, Nat.zero_le _, h0⟩, ?_⟩
  rintro i m σ H ⟨rfl, hi, p⟩
  by_cases hlt : i < vs.length
  · refine .inr ⟨wj.go i H (sm _ _ _ p) hlt, Pv (i + 1), fun σ' H' p' => ⟨vs.length - (i + 1), by omega, rfl, hlt, p'⟩, fun x H' y => ?_⟩
    obtain ⟨e, y2⟩ := wj.yld i H x H' (sm _ _ _ p) hlt y
    subst e
    exact hs i x σ _ y2 p
  · have e : i = vs.length := by omega
    subst e
    exact .inl ⟨wj.stop _ H (sm _ _ _ p) rfl, hd σ H p⟩
/-- .. of a comprehension -/
theorem lc_walk {F : Hp} {J : It} {us : List V} (wj : WalkJ F J us) {g : TG} {tt : TT} {te : TE} {vs : List Nat} {σ : L2.St} {H1 : Hp} {D : Addr} {Qd : Hp → Prop} (Pv : Nat → Hp → Prop) (h0 : Pv 0 (upd H1 D (.lst []))) (sm : ∀ i H, Pv i H → Same F H)
    (hs : ∀ i x H, us[i]? = some x → Pv i H → g x (wipe σ vs) H fun σ2 H2 => wipe σ2 vs = wipe σ vs ∧ tt σ2 H2 fun b H3 =>
      if b = true then te σ2 H3 fun y H4 => ∃ acc, H4 D = some (.lst acc) ∧ acc.length < sizeLine ∧ Pv (i + 1) (upd H4 D (.lst (acc ++ [y]))) else Pv (i + 1) H3) (hd : ∀ H, Pv us.length H → Qd H) :
    ∃ W : Nat → Nat → Hp → Prop, (∃ m, W 0 m (upd H1 D (.lst []))) ∧ ∀ i m H, W i m H →
      (J.stop i H ∧ Qd H) ∨ (J.go i H ∧ ∃ Nx : Hp → Prop, (∀ H', Nx H' → ∃ m', m' < m ∧ W (i + 1) m' H') ∧ ∀ x H', J.yld i H x H' → g x (wipe σ vs) H' fun σ2 H2 => wipe σ2 vs = wipe σ vs ∧ tt σ2 H2 fun b H3 =>
        if b = true then te σ2 H3 fun y H4 => ∃ acc, H4 D = some (.lst acc) ∧ acc.length < sizeLine ∧ Nx (upd H4 D (.lst (acc ++ [y]))) else Nx H3) := by
  refine ⟨fun i m H => m = us.length - i ∧ i ≤ us.length ∧ Pv i H, ⟨us.length, by simp, Nat.zero_le _, h0⟩, ?_⟩
  rintro i m H ⟨rfl, hi, p⟩
  by_cases hlt : i < us.length
  · refine .inr ⟨wj.go i H (sm _ _ p) hlt, Pv (i + 1), fun H' p' => ⟨us.length - (i + 1), by omega, rfl, hlt, p'⟩, fun x H' y => ?_⟩
    obtain ⟨e, y2⟩ := wj.yld i H x H' (sm _ _ p) hlt y
    subst e
    exact hs i x _ y2 p
  · have e : i = us.length := by omega
    subst e
    exact .inl ⟨wj.stop _ H (sm _ _ p) rfl, hd H p⟩

/-- a list or a tuple that a value names, walked -/
theorem pi_val {X : Cx} {tg l : Expr} {tl : TE} (hl : PE X l tl) :
    PI X tg l (fun σ H R => tl σ H fun x H1 => ∃ a, x = .ref a ∧ ((∃ xs, SqL X.K H1 a xs ∧ R (Itl X.K a) H1) ∨ (∃ xs, SqT X.K H1 a xs ∧ R (Itt X.K a) H1))) := by
  refine ⟨fun pins s σ H R I h => thn (hl.run pins s σ H _ I h) fun v s1 ⟨x, H1, I1, r1, a, ex, q1⟩ => ?_⟩
  subst ex
  cases r1
  have old : ∀ (ob : Obj) b o, s1.heap.get? b = some o → (s1.heap.push ob).get? b = some o := fun ob b o e => Heap.get?_push_of_some _ e
  have fp : ∀ b ∈ [s1.heap.objs.size], FpOk X pins H1 b := fun b hb => by
    rw [List.mem_singleton.mp hb]
    exact I1.fpOk (Nat.le_refl _) (I1.hok.fresh (Nat.le_refl _))
  rcases q1 with ⟨xs, hq, q⟩ | ⟨xs, hq, q⟩
  · obtain ⟨its, rv, p, hz⟩ := I1.list hq
    exact wpAny_pyIter_list p.isList ⟨_, _, _, _, H1, rfl, I1.kept (t' := s1.toks) (old _), turn_list a _, ⟨_, Heap.get?_push_size _ rfl, rfl, rfl⟩, fp, q⟩
  · obtain ⟨its, rv, p, hz⟩ := I1.tuple hq
    exact wpAny_pyIter_tuple (show s1.heap.IsTuple a its.toArray from p) ⟨_, _, _, _, H1, rfl, I1.kept (t' := s1.toks) (old _), turn_tuple a _, ⟨_, Heap.get?_push_size _ rfl, rfl, rfl⟩, fp, q⟩
end MP
/-! MiniPy: every expression that the checker passes does what its meaning says. -/
namespace MP
open PySem L2 PySem.Spec PyProof.Rows

def W0 : WX := fun _ _ _ _ => False
section
variable {Y : Fx} {Φ : Tab} {G : Str → Option Val} {C : Cfg} {k : Nat} {X : Cx} {ns : Names} {W : WX}
theorem Ctx.hu (c : Ctx X Y Φ G C ns k) : X.A.units + 64 < cLine := c.room.units
theorem ctx_blk (c : Ctx X Y Φ G C ns k) {s : Shared} {H : Hp} {sc : Scope} {Cl : Addr} {cl : List (Str × Addr)} {fp : List Addr} (hk : sc.kind = .function) :
    Ctx (X.blk s H sc (compEnvC sc cl Cl X.env) fp) Y Φ G C (blkNames ns sc) k where
  K := c.K
  mg := c.mg
  N := c.N
  nd := c.nd
  sc := by
    have e : (compEnvC sc cl Cl X.env).scope.names = sc.names.map fun (n, k) => if (k == .free && X.env.scope.kind == .function && X.env.scope.names.lookup n == some .cell) then (n, .cell) else (n, k) := rfl
    show (compEnvC sc cl Cl X.env).scope.names = _
    rw [e, c.kind, c.sc]
    rfl
  kind := hk
  calm := c.calm
  room := c.room
  fn := c.fn
  gl := c.gl
  bt := c.bt
theorem vis_ok (c : Ctx X Y Φ G C ns k) {x : Str} (h : visB ns x = true) : Vis X.env.scope x := by
  unfold visB at h
  unfold Vis
  rw [c.sc]
  split at h
  · rename_i e; exact .inl e
  · rename_i e; exact .inr (.inl e)
  · rename_i e; exact .inr (.inr e)
  · cases h
theorem gl_ok (c : Ctx X Y Φ G C ns k) {x : Str} (h : glB ns x = true) : Gl X x := by
  unfold glB at h
  show X.env.scope.names.lookup x = some .globalImplicit
  rw [c.sc]
  split at h
  · rename_i e; exact e
  · cases h
theorem okName_1 {x : Str} (h : okName x = true) : (x == ("__debug__" : Str)) = false := by
  unfold okName at h; rw [Bool.and_eq_true] at h
  simpa using h.1
theorem okName_2 {x : Str} (h : okName x = true) : (x == ("__classdict__" : Str)) = false := by
  unfold okName at h; rw [Bool.and_eq_true, Bool.and_eq_true] at h
  simpa using h.2.1
theorem mem_of {l : List Str} {x : Str} (h : l.contains x = true) : x ∈ l := by simpa using h

structure Snd (Y : Fx) (Φ : Tab) (G : Str → Option Val) (C : Cfg) (k : Nat) (e : E) : Prop where
  pe : ∀ {X : Cx} {ns : Names} {W : WX} {p : Expr}, Ctx X Y Φ G C ns k → Takes X W → chkE C ns e p = true → PE X p (tE Y Φ G W e)
  pt : ∀ {X : Cx} {ns : Names} {W : WX} {p : Expr}, Ctx X Y Φ G C ns k → Takes X W → chkE C ns e p = true → PT X p (tT Y Φ G W e)
  pi : ∀ {X : Cx} {ns : Names} {W : WX} {p : Expr} (tg : Expr), Ctx X Y Φ G C ns k → Takes X W → chkE C ns e p = true → PI X tg p (tI Y Φ G W e)
structure Snds (Y : Fx) (Φ : Tab) (G : Str → Option Val) (C : Cfg) (k : Nat) (es : Es) : Prop where
  pa : ∀ {X : Cx} {ns : Names} {W : WX} {ps : List Expr}, Ctx X Y Φ G C ns k → Takes X W → chkEs C ns es ps = true → PA X ps (tA Y Φ G W es)
  bo : ∀ {X : Cx} {ns : Names} {W : WX} {ps : List Expr} {pos : Pos} (b : Bool), Ctx X Y Φ G C ns k → Takes X W → chkEs C ns es ps = true → es ≠ .nil → PE X (.BoolOp (if b then .And else .Or) ps pos) (tBo Y Φ G W b es)
  bt : ∀ {X : Cx} {ns : Names} {W : WX} {ps : List Expr} {pos : Pos} (b : Bool), Ctx X Y Φ G C ns k → Takes X W → chkEs C ns es ps = true → es ≠ .nil → PW X (.BoolOp (if b then .And else .Or) ps pos) (tBoT Y Φ G W b es)

theorem truth_noexn {st : Store} {x : Val} : ∀ c fs s, truth st x ≠ .exn c fs s := by
  intro c fs s h
  unfold truth at h
  repeat' (first | (cases h; done) | split at h)
theorem cmp_noexn {op : COp} {a b : Val} {st : Store} : ∀ c fs s, cmpV op a b st ≠ .exn c fs s := by
  intro c fs s h
  cases op <;> simp only [cmpV] at h
  all_goals repeat' (first | (cases h; done) | split at h)
/-- a test by its value -/
theorem pt_of {e : E} {p : Expr} (c : Ctx X Y Φ G C ns k) (hp : plainT p = true) (ht : (ev Φ G e).t = tOf (ev Φ G e).v) (h : PE X p (tE Y Φ G W e)) : PT X p (tT Y Φ G W e) := by
  refine PTimp (pt_truth h (true_id hp)) fun σ H Q ⟨F, μ, st, env, g, en, q⟩ => ?_
  rw [ht] at q
  refine goE g en q fun F1 μ1 H1 x st1 w e1 g1 en1 r q1 => ?_
  obtain ⟨b, hb, q2⟩ := RP.bindP truth_noexn q1
  exact ⟨b, truth_rep c.K g1 r hb, q2 F1 μ1 H1 Ext.refl g1⟩
theorem pi_of {e : E} {p : Expr} (tg : Expr) (c : Ctx X Y Φ G C ns k) (hi : (ev Φ G e).i = iOf (ev Φ G e).v) (h : PE X p (tE Y Φ G W e)) : PI X tg p (tI Y Φ G W e) := by
  refine PIimp (pi_val h) fun σ H R ⟨F, μ, st, env, g, en, q⟩ => ?_
  rw [hi] at q
  refine goE g en q fun F1 μ1 H1 x st1 w e1 g1 en1 r q1 => ?_
  cases x with
  | tup xs =>
    obtain ⟨a, vs, h1, h2, h3⟩ := r
    have q2 := q1 F1 μ1 H1 Ext.refl g1 (Itt X.K a) vs h3 (by rw [c.K]; exact walk_tup h2)
    exact ⟨a, h1, .inr ⟨vs, by rw [c.K]; exact sqT_mono g1.same h2, q2⟩⟩
  | lst xs =>
    obtain ⟨a, vs, h1, h2, h3⟩ := r
    have q2 := q1 F1 μ1 H1 Ext.refl g1 (Itl X.K a) vs h3 (walk_list (SqL.of h2))
    exact ⟨a, h1, .inl ⟨vs, SqL.of (g1.same _ _ h2), q2⟩⟩
  | scr xs =>
    obtain ⟨a, vs, h1, h2, h3⟩ := r
    have q2 := q1 F1 μ1 H1 Ext.refl g1 (Itl X.K a) vs h3 (by rw [c.K]; exact walk_list h2)
    exact ⟨a, h1, .inl ⟨vs, by rw [c.K]; exact sqL_mono g1.same h2, q2⟩⟩
  | _ => exact False.elim q1
theorem mkSnd {e : E} {v : Env → Store → RV} (he : ev Φ G e = mk v) (plain : ∀ ns p, chkE C ns e p = true → plainT p = true)
    (h : ∀ {X : Cx} {ns : Names} {W : WX} {p : Expr}, Ctx X Y Φ G C ns k → Takes X W → chkE C ns e p = true → PE X p (tE Y Φ G W e)) : Snd Y Φ G C k e where
  pe := h
  pt := fun c tk q => pt_of c (plain _ _ q) (by rw [he]; rfl) (h c tk q)
  pi := fun tg c tk q => pi_of tg c (by rw [he]; rfl) (h c tk q)

/-! ### the single forms -/
theorem snd_var (i : Nat) : Snd Y Φ G C k (.var i) := by
  refine mkSnd (v := vVar i) rfl (fun ns p q => ?_) fun {X ns W p} c tk q => ?_
  · unfold chkE at q
    split at q
    · rename_i x hx; obtain ⟨pp, rfl⟩ := isName_eq hx; rfl
    · cases q
  · unfold chkE at q
    split at q
    · rename_i x hx
      obtain ⟨pp, rfl⟩ := isName_eq hx
      rw [Bool.and_eq_true, Bool.and_eq_true] at q
      obtain ⟨q1, q2, q3⟩ := q
      refine PEimp (pe_var (i := i) (by rw [c.N]; exact of_decide_eq_true q1) (vis_ok c q2) (okName_1 q3) (okName_2 q3)) fun σ H Q ⟨F, μ, st, env, g, en, h⟩ => ?_
      change RP Y F μ st H (match env[i]? with | some (some v) => .ok (v, st) | _ => .stuck) (kV Y Q) (at_ W σ) at h
      split at h
      · rename_i v hv
        obtain ⟨w, h1, h2⟩ := en.2 i v hv
        exact ⟨w, h1, h F μ H Ext.refl g w h2⟩
      · exact False.elim h
    · cases q
theorem leaf {e : E} {x : Val} {w : V} (he : ev Φ G e = mk fun _ st => .ok (x, st)) (r : ∀ F μ n, RepV Y.K F μ n x w) {σ : L2.St} {H : Hp} {Q : VK} (h : tE Y Φ G W e σ H Q) : Q w H := by
  obtain ⟨F, μ, st, env, g, en, h⟩ := h
  rw [he] at h
  exact h F μ H Ext.refl g w (r F μ _)
theorem snd_int (i : Int) : Snd Y Φ G C k (.int i) := by
  refine mkSnd rfl (fun ns p q => ?_) fun {X ns W p} c tk q => ?_
  all_goals
    unfold chkE at q
    split at q
    · rename_i j hx; obtain ⟨a, pp, rfl⟩ := isInt_eq hx
      first
        | rfl
        | (have e := of_decide_eq_true q
           subst e
           exact PEimp pe_int fun σ H Q h => leaf (x := .int i) (w := .int i) rfl (fun _ _ _ => rfl) h)
    · cases q
theorem snd_bl (i : Bool) : Snd Y Φ G C k (.bl i) := by
  refine mkSnd rfl (fun ns p q => ?_) fun {X ns W p} c tk q => ?_
  all_goals
    unfold chkE at q
    split at q
    · rename_i j hx; obtain ⟨a, pp, rfl⟩ := isBl_eq hx
      first
        | rfl
        | (have e := of_decide_eq_true q
           subst e
           exact PEimp pe_bl fun σ H Q h => leaf (x := .bl i) (w := .bl i) rfl (fun _ _ _ => rfl) h)
    · cases q
theorem snd_str (i : Str) : Snd Y Φ G C k (.str i) := by
  refine mkSnd rfl (fun ns p q => ?_) fun {X ns W p} c tk q => ?_
  all_goals
    unfold chkE at q
    split at q
    · rename_i j hx; obtain ⟨a, pp, rfl⟩ := isStr_eq hx
      first
        | rfl
        | (have e := of_decide_eq_true q
           subst e
           exact PEimp pe_str fun σ H Q h => leaf (x := .str i) (w := .str i) rfl (fun _ _ _ => rfl) h)
    · cases q
theorem snd_non : Snd Y Φ G C k .non := by
  refine mkSnd rfl (fun ns p q => ?_) fun {X ns W p} c tk q => ?_
  · obtain ⟨a, pp, rfl⟩ := isNon_eq q; rfl
  · obtain ⟨a, pp, rfl⟩ := isNon_eq q
    exact PEimp pe_non fun σ H Q h => leaf (x := .non) (w := .non) rfl (fun _ _ _ => rfl) h
theorem snd_glob (g : Str) : Snd Y Φ G C k (.glob g) := by
  refine mkSnd rfl (fun ns p q => ?_) fun {X ns W p} c tk q => ?_
  · unfold chkE at q
    split at q
    · rename_i x hx; obtain ⟨pp, rfl⟩ := isName_eq hx; rfl
    · cases q
  · unfold chkE at q
    split at q
    · rename_i x hx
      obtain ⟨pp, rfl⟩ := isName_eq hx
      rw [Bool.and_eq_true, Bool.and_eq_true] at q
      obtain ⟨q1, q2, q3⟩ := q
      have e := of_decide_eq_true q1
      subst e
      cases hv : G g with
      | none =>
        refine ⟨fun pins s σ H Q I h => ?_⟩
        obtain ⟨F, μ, st, env, gd, en, h⟩ := h
        change RP Y F μ st H (match G g with | some v => .ok (v, st) | none => .stuck) (kV Y Q) (at_ W σ) at h
        rw [hv] at h
        exact False.elim h
      | some v =>
        obtain ⟨w, u, h1, h2, h3⟩ := c.gl g v hv
        refine PEimp (pe_glob (gl_ok c q2) h1 h2 (okName_1 q3)) fun σ H Q ⟨F, μ, st, env, gd, en, h⟩ => ?_
        change RP Y F μ st H (match G g with | some v => .ok (v, st) | none => .stuck) (kV Y Q) (at_ W σ) at h
        rw [hv] at h
        exact h F μ H Ext.refl gd w (h3 F μ _)
    · cases q

theorem snd_nil : Snds Y Φ G C k .nil where
  pa := fun {X ns W ps} c tk q => by
    cases ps with
    | nil => exact PAimp pa_nil fun σ H Q ⟨F, μ, st, env, g, en, h⟩ => h F μ H Ext.refl g [] rfl
    | cons p ps => cases q
  bo := fun b c tk q h => absurd rfl h
  bt := fun b c tk q h => absurd rfl h
theorem chkEs_cons {e : E} {r : Es} {ps : List Expr} (q : chkEs C ns (.cons e r) ps = true) : ∃ p qs, ps = p :: qs ∧ notStar p = true ∧ chkE C ns e p = true ∧ chkEs C ns r qs = true := by
  cases ps with
  | nil => cases q
  | cons p qs =>
    have q' : (notStar p && (chkE C ns e p && chkEs C ns r qs)) = true := q
    rw [Bool.and_eq_true, Bool.and_eq_true] at q'
    exact ⟨p, qs, rfl, q'.1, q'.2.1, q'.2.2⟩
theorem snd_cons {e : E} {r : Es} (s : Snd Y Φ G C k e) (ss : Snds Y Φ G C k r) : Snds Y Φ G C k (.cons e r) where
  pa := fun {X ns W ps} c tk q => by
    obtain ⟨p, qs, rfl, h1, h2, h3⟩ := chkEs_cons q
    refine PAimp (pa_cons (s.pe c tk h2) (ss.pa c tk h3) (star_cons h1)) fun σ H Q ⟨F, μ, st, env, g, en, h⟩ => ?_
    refine goE g en h fun F1 μ1 H1 x st1 w e1 g1 en1 r1 hh => ?_
    refine goA g1 en1 hh fun F2 μ2 H2 xs st2 ws e2 g2 en2 r2 hh2 => ?_
    exact hh2 F2 μ2 H2 Ext.refl g2 (w :: ws) ⟨w, ws, rfl, e2.v r1, r2⟩
  bo := fun {X ns W ps pos} b c tk q _ => by
    obtain ⟨p, qs, rfl, h1, h2, h3⟩ := chkEs_cons q
    cases r with
    | nil =>
      cases qs with
      | nil =>
        refine PEimp (pe_one (s.pe c tk h2)) fun σ H Q ⟨F, μ, st, env, g, en, h⟩ => ⟨F, μ, st, env, g, en, ?_⟩
        simpa only [evBo] using h
      | cons _ _ => cases h3
    | cons e2 r2 =>
      have hb := ss.bo (pos := pos) b c tk h3 (fun z => by cases z)
      obtain ⟨p2, qs2, rfl, _, _, _⟩ := chkEs_cons h3
      cases b with
      | true =>
        rw [if_pos rfl] at hb ⊢
        refine PEimp (pe_and (s.pe c tk h2) hb) fun σ H Q ⟨F, μ, st, env, g, en, h⟩ => ?_
        simp only [evBo] at h
        refine goE g en h fun F1 μ1 H1 x st1 w e1 g1 en1 r1 hh => ?_
        cases x with
        | bl d =>
          have ew : w = .bl d := r1
          refine ⟨d, ew, ?_⟩
          cases d with
          | true => rw [if_pos rfl]; exact ⟨F1, μ1, st1, env, g1, en1, hh⟩
          | false => rw [if_neg Bool.false_ne_true]; exact hh F1 μ1 H1 Ext.refl g1 _ rfl
        | _ => exact False.elim hh
      | false =>
        rw [if_neg Bool.false_ne_true] at hb ⊢
        refine PEimp (pe_or (s.pe c tk h2) hb) fun σ H Q ⟨F, μ, st, env, g, en, h⟩ => ?_
        simp only [evBo] at h
        refine goE g en h fun F1 μ1 H1 x st1 w e1 g1 en1 r1 hh => ?_
        cases x with
        | bl d =>
          have ew : w = .bl d := r1
          refine ⟨d, ew, ?_⟩
          cases d with
          | true => rw [if_pos rfl]; exact hh F1 μ1 H1 Ext.refl g1 _ rfl
          | false => rw [if_neg Bool.false_ne_true]; exact ⟨F1, μ1, st1, env, g1, en1, hh⟩
        | _ => exact False.elim hh
  bt := fun {X ns W ps pos} b c tk q _ => by
    obtain ⟨p, qs, rfl, h1, h2, h3⟩ := chkEs_cons q
    cases r with
    | nil =>
      cases qs with
      | nil =>
        have hp : PW X (.BoolOp (if b then .And else .Or) [p] pos) (tT Y Φ G W e) := by
          cases b with
          | true => exact pw_and1 (s.pt c tk h2)
          | false => exact pw_or1 (s.pt c tk h2)
        refine PWimp hp fun σ H Q ⟨F, μ, st, env, g, en, h⟩ => ⟨F, μ, st, env, g, en, ?_⟩
        simpa only [evBoT] using h
      | cons _ _ => cases h3
    | cons e2 r2 =>
      have hb := ss.bt (pos := pos) b c tk h3 (fun z => by cases z)
      obtain ⟨p2, qs2, rfl, _, _, _⟩ := chkEs_cons h3
      cases b with
      | true =>
        rw [if_pos rfl] at hb ⊢
        refine PWimp (pw_and (s.pt c tk h2) hb) fun σ H Q ⟨F, μ, st, env, g, en, h⟩ => ?_
        simp only [evBoT] at h
        refine goT g en h fun F1 μ1 H1 d st1 e1 g1 en1 hh => ?_
        cases d with
        | true => rw [if_pos rfl]; exact ⟨F1, μ1, st1, env, g1, en1, hh⟩
        | false => rw [if_neg Bool.false_ne_true]; exact hh F1 μ1 H1 Ext.refl g1
      | false =>
        rw [if_neg Bool.false_ne_true] at hb ⊢
        refine PWimp (pw_or (s.pt c tk h2) hb) fun σ H Q ⟨F, μ, st, env, g, en, h⟩ => ?_
        simp only [evBoT] at h
        refine goT g en h fun F1 μ1 H1 d st1 e1 g1 en1 hh => ?_
        cases d with
        | true => rw [if_pos rfl]; exact hh F1 μ1 H1 Ext.refl g1
        | false => rw [if_neg Bool.false_ne_true]; exact ⟨F1, μ1, st1, env, g1, en1, hh⟩
end
end MP
/-! MiniPy: the composite expressions. -/
namespace MP
open PySem L2 PySem.Spec PyProof.Rows

section
variable {Y : Fx} {Φ : Tab} {G : Str → Option Val} {C : Cfg} {k : Nat} {X : Cx} {ns : Names} {W : WX}
theorem pt_stuck {e : E} {p : Expr} (ht : (ev Φ G e).t = fun _ _ => .stuck) : PT X p (tT Y Φ G W e) :=
  ⟨fun pins s σ H Q I ⟨F, μ, st, env, g, en, q⟩ => by rw [ht] at q; exact False.elim q⟩
theorem pi_stuck {e : E} {p : Expr} {tg : Expr} (ht : (ev Φ G e).i = fun _ _ => .stuck) : PI X tg p (tI Y Φ G W e) :=
  ⟨fun pins s σ H Q I ⟨F, μ, st, env, g, en, q⟩ => by rw [ht] at q; exact False.elim q⟩
theorem mkNSnd {e : E} {v : Env → Store → RV} (he : ev Φ G e = mkN v)
    (h : ∀ {X : Cx} {ns : Names} {W : WX} {p : Expr}, Ctx X Y Φ G C ns k → Takes X W → chkE C ns e p = true → PE X p (tE Y Φ G W e)) : Snd Y Φ G C k e where
  pe := h
  pt := fun c tk q => pt_stuck (by rw [he]; rfl)
  pi := fun tg c tk q => pi_of tg c (by rw [he]; rfl) (h c tk q)

theorem snd_tup {es : Es} (ss : Snds Y Φ G C k es) : Snd Y Φ G C k (.tup es) := by
  refine mkSnd rfl (fun ns p q => ?_) fun {X ns W p} c tk q => ?_
  · unfold chkE at q
    split at q
    · rename_i ps hx; obtain ⟨a, b, rfl⟩ := isTup_eq hx; rfl
    · cases q
  · unfold chkE at q
    split at q
    · rename_i ps hx
      obtain ⟨a, b, rfl⟩ := isTup_eq hx
      refine PEimp (pe_tup (ss.pa c tk q)) fun σ H Q ⟨F, μ, st, env, g, en, h⟩ => ?_
      refine goA g en h fun F1 μ1 H1 xs st1 w e1 g1 en1 r1 hh => ?_
      exact newT_ok g1 hh r1
    · cases q
theorem snd_lst {m : Bool} {es : Es} (ss : Snds Y Φ G C k es) : Snd Y Φ G C k (.lst m es) := by
  refine mkSnd rfl (fun ns p q => ?_) fun {X ns W p} c tk q => ?_
  · unfold chkE at q
    split at q
    · rename_i ps hx; obtain ⟨a, rfl⟩ := isLst_eq hx; rfl
    · cases q
  · unfold chkE at q
    split at q
    · rename_i ps hx
      obtain ⟨a, rfl⟩ := isLst_eq hx
      refine PEimp (pe_lst (ss.pa c tk q)) fun σ H Q ⟨F, μ, st, env, g, en, h⟩ => ?_
      refine goA g en h fun F1 μ1 H1 xs st1 w e1 g1 en1 r1 hh => ?_
      exact newL_ok g1 hh r1
    · cases q
theorem snd_bin {m : Bool} {op : BOp} {a b : E} (sa : Snd Y Φ G C k a) (sb : Snd Y Φ G C k b) : Snd Y Φ G C k (.bin m op a b) := by
  refine mkSnd rfl (fun ns p q => ?_) fun {X ns W p} c tk q => ?_
  · unfold chkE at q
    split at q
    · rename_i x o y hx; obtain ⟨pp, rfl⟩ := isBin_eq hx; rfl
    · cases q
  · unfold chkE at q
    split at q
    · rename_i x o y hx
      obtain ⟨pp, rfl⟩ := isBin_eq hx
      rw [Bool.and_eq_true, Bool.and_eq_true] at q
      obtain ⟨q1, q2, q3⟩ := q
      have eo := opEq_eq q1
      subst eo
      refine ⟨fun pins s σ H Q I ⟨F, μ, st, env, g, en, h⟩ => ?_⟩
      refine (pe_op (op_bin (Y := Y) (W := at_ W σ) (m := m) c.K op) (sa.pe c tk q2) (sb.pe c tk q3)).run pins s σ H Q I ?_
      refine goE g en h fun F1 μ1 H1 x st1 w e1 g1 en1 r1 hh => ?_
      refine goE g1 en1 hh fun F2 μ2 H2 y st2 u e2 g2 en2 r2 hh2 => ?_
      exact ⟨F2, μ2, st2, x, y, g2, e2.v r1, r2, hh2⟩
    · cases q
theorem snd_neg_pe {a : E} (sa : Snd Y Φ G C k a) {X : Cx} {ns : Names} {W : WX} {p : Expr} (c : Ctx X Y Φ G C ns k) (tk : Takes X W) (q : chkE C ns (.neg a) p = true) : PE X p (tE Y Φ G W (.neg a)) := by
    unfold chkE at q
    split at q
    · rename_i x hx
      obtain ⟨pp, rfl⟩ := isUn_eq hx
      refine PEimp (pe_un un_neg (sa.pe c tk q)) fun σ H Q ⟨F, μ, st, env, g, en, h⟩ => ?_
      refine goE g en h fun F1 μ1 H1 x st1 w e1 g1 en1 r1 hh => ?_
      cases x with
      | int i =>
        have ew : w = .int i := r1
        exact ⟨i, ew, hh F1 μ1 H1 Ext.refl g1 _ rfl⟩
      | _ => exact False.elim hh
    · cases q
theorem snd_neg {a : E} (sa : Snd Y Φ G C k a) : Snd Y Φ G C k (.neg a) where
  pe := fun c tk q => snd_neg_pe sa c tk q
  pt := fun {X ns W p} c tk q => by
    have hp := snd_neg_pe sa c tk q
    unfold chkE at q
    split at q
    · rename_i x hx
      obtain ⟨pp, rfl⟩ := isUn_eq hx
      refine PTimp (pt_truth hp (by intro _; rfl)) fun σ H Q ⟨F, μ, st, env, g, en, q⟩ => ?_
      refine goE g en q fun F1 μ1 H1 x st1 w e1 g1 en1 r q1 => ?_
      obtain ⟨b, hb, q2⟩ := RP.bindP truth_noexn q1
      exact ⟨b, truth_rep c.K g1 r hb, q2 F1 μ1 H1 Ext.refl g1⟩
    · cases q
  pi := fun {X ns W p} tg c tk q => pi_of tg c rfl (snd_neg_pe sa c tk q)
end
end MP
/-! MiniPy: the composite expressions, further. -/
namespace MP
open PySem L2 PySem.Spec PyProof.Rows

section
variable {Y : Fx} {Φ : Tab} {G : Str → Option Val} {C : Cfg} {k : Nat} {X : Cx} {ns : Names} {W : WX}
theorem snd_not {a : E} (sa : Snd Y Φ G C k a) : Snd Y Φ G C k (.not a) where
  pe := fun {X ns W p} c tk q => by
    unfold chkE at q
    split at q
    · rename_i x hx
      obtain ⟨pp, rfl⟩ := isUn_eq hx
      refine PEimp (pe_not (sa.pe c tk q)) fun σ H Q ⟨F, μ, st, env, g, en, h⟩ => ?_
      refine goE g en h fun F1 μ1 H1 x st1 w e1 g1 en1 r1 hh => ?_
      cases x with
      | bl i =>
        have ew : w = .bl i := r1
        exact ⟨i, ew, hh F1 μ1 H1 Ext.refl g1 _ rfl⟩
      | _ => exact False.elim hh
    · cases q
  pt := fun {X ns W p} c tk q => by
    unfold chkE at q
    split at q
    · rename_i x hx
      obtain ⟨pp, rfl⟩ := isUn_eq hx
      refine PTimp (pt_not (sa.pt c tk q)) fun σ H Q ⟨F, μ, st, env, g, en, h⟩ => ?_
      exact goT g en h fun F1 μ1 H1 d st1 e1 g1 en1 hh => hh F1 μ1 H1 Ext.refl g1
    · cases q
  pi := fun tg c tk q => pi_stuck rfl
/-- the reading of a comparison -/
theorem cmp_red {α : Type} {op : COp} {a b : E} {f : Bool × Store → R (α × Store)} {kk : Hp → (Nat → Addr) → Hp → α → Store → Prop} {F H : Hp} {μ : Nat → Addr} {st : Store} {env : Env} {σ : L2.St} {Q : VK}
    (g : Good Y.K F μ st H) (en : EnvOk Y.K F μ st.length env σ)
    (h : RP Y F μ st H (((ev Φ G a).v env st).bind fun p => ((ev Φ G b).v env p.2).bind fun q => (cmpV op p.1 q.1 q.2).bind fun d => f (d, q.2)) kk (at_ W σ))
    (n : ∀ F2 μ2 H2 d st2, Ext F μ st H F2 μ2 st2 H2 → Good Y.K F2 μ2 st2 H2 → EnvOk Y.K F2 μ2 st2.length env σ → RP Y F2 μ2 st2 H2 (f (d, st2)) kk (at_ W σ) → Q (.bl d) H2) :
    tOp (rC Y op) (tE Y Φ G W a) (tE Y Φ G W b) σ H Q := by
  refine goE g en h fun F1 μ1 H1 x st1 w e1 g1 en1 r1 hh => ?_
  refine goE g1 en1 hh fun F2 μ2 H2 y st2 u e2 g2 en2 r2 hh2 => ?_
  obtain ⟨d, hd, q2⟩ := RP.bindP cmp_noexn hh2
  exact ⟨F2, μ2, st2, x, y, d, g2, e2.v r1, r2, hd, n F2 μ2 H2 d st2 (e1.trans e2) g2 en2 q2⟩
theorem snd_cmp {op : COp} {a b : E} (sa : Snd Y Φ G C k a) (sb : Snd Y Φ G C k b) : Snd Y Φ G C k (.cmp op a b) where
  pe := fun {X ns W p} c tk q => by
    unfold chkE at q
    split at q
    · rename_i x o y hx
      obtain ⟨pp, rfl⟩ := isCmp_eq hx
      rw [Bool.and_eq_true, Bool.and_eq_true, Bool.and_eq_true] at q
      obtain ⟨q1, q2, q3, q4⟩ := q
      have eo := cEq_eq q1
      subst eo
      refine PEimp (pe_cmpR (op_cmp (Y := Y) c.K c.hu op) (sa.pe c tk q3) (sb.pe c tk q4) (marks_not q2)) fun σ H Q ⟨F, μ, st, env, g, en, h⟩ => ?_
      exact cmp_red (f := fun p => R.ok (Val.bl p.1, p.2)) g en h fun F2 μ2 H2 d st2 _ g2 _ hh => hh F2 μ2 H2 Ext.refl g2 _ rfl
    · cases q
  pt := fun {X ns W p} c tk q => by
    unfold chkE at q
    split at q
    · rename_i x o y hx
      obtain ⟨pp, rfl⟩ := isCmp_eq hx
      rw [Bool.and_eq_true, Bool.and_eq_true, Bool.and_eq_true] at q
      obtain ⟨q1, q2, q3, q4⟩ := q
      have eo := cEq_eq q1
      subst eo
      refine PTimp (pt_cmpR (op_cmp (Y := Y) c.K c.hu op) (sa.pe c tk q3) (sb.pe c tk q4) (marks_not q2)) fun σ H Q ⟨F, μ, st, env, g, en, h⟩ => ?_
      have h' : RP Y F μ st H (((ev Φ G a).v env st).bind fun p => ((ev Φ G b).v env p.2).bind fun q => (cmpV op p.1 q.1 q.2).bind fun d => .ok (d, q.2)) (kT Q) (at_ W σ) := by
        have e : (ev Φ G (.cmp op a b)).t env st = (((ev Φ G a).v env st).bind fun p => ((ev Φ G b).v env p.2).bind fun q => (cmpV op p.1 q.1 q.2).bind fun d => .ok (d, q.2)) := by
          show R.bind (((ev Φ G a).v env st).bind fun p => ((ev Φ G b).v env p.2).bind fun q => (cmpV op p.1 q.1 q.2).bind fun d => R.ok (Val.bl d, q.2)) _ = _
          cases (ev Φ G a).v env st with
          | ok p =>
            simp only [R.bind_ok]
            cases (ev Φ G b).v env p.2 with
            | ok q =>
              simp only [R.bind_ok]
              cases cmpV op p.1 q.1 q.2 <;> rfl
            | _ => rfl
          | _ => rfl
        rw [← e]; exact h
      exact cmp_red (f := fun p => R.ok (p.1, p.2)) g en h' fun F2 μ2 H2 d st2 _ g2 _ hh => ⟨d, rfl, hh F2 μ2 H2 Ext.refl g2⟩
    · cases q
  pi := fun {X ns W p} tg c tk q => by
    unfold chkE at q
    split at q
    · rename_i x o y hx
      obtain ⟨pp, rfl⟩ := isCmp_eq hx
      rw [Bool.and_eq_true, Bool.and_eq_true, Bool.and_eq_true] at q
      obtain ⟨q1, q2, q3, q4⟩ := q
      have eo := cEq_eq q1
      subst eo
      refine pi_of tg c rfl (PEimp (pe_cmpR (op_cmp (Y := Y) c.K c.hu op) (sa.pe c tk q3) (sb.pe c tk q4) (marks_not q2)) fun σ H Q ⟨F, μ, st, env, g, en, h⟩ => ?_)
      exact cmp_red (f := fun p => R.ok (Val.bl p.1, p.2)) g en h fun F2 μ2 H2 d st2 _ g2 _ hh => hh F2 μ2 H2 Ext.refl g2 _ rfl
    · cases q
theorem last2 {op op' : CmpOp} {b c : Expr} (h : notSet c = true) : lastMarks [op, op'] [b, c] = false := marks_not h
theorem snd_chain_red {op op' : COp} {a b e : E} {F H : Hp} {μ : Nat → Addr} {st : Store} {env : Env} {σ : L2.St} {Q : VK}
    (g : Good Y.K F μ st H) (en : EnvOk Y.K F μ st.length env σ) (h : RP Y F μ st H ((ev Φ G (.chain op op' a b e)).v env st) (kV Y Q) (at_ W σ)) :
    tChain (rC Y op) (rC Y op') (tE Y Φ G W a) (tE Y Φ G W b) (tE Y Φ G W e) σ H Q := by
  have h' : RP Y F μ st H (((ev Φ G a).v env st).bind fun p => ((ev Φ G b).v env p.2).bind fun q => (cmpV op p.1 q.1 q.2).bind fun k =>
      if k then ((ev Φ G e).v env q.2).bind fun r => (cmpV op' q.1 r.1 r.2).bind fun k' => .ok (.bl k', r.2) else .ok (.bl false, q.2)) (kV Y Q) (at_ W σ) := h
  refine goE g en h' fun F1 μ1 H1 x st1 w e1 g1 en1 r1 hh => ?_
  refine goE g1 en1 hh fun F2 μ2 H2 y st2 u e2 g2 en2 r2 hh2 => ?_
  obtain ⟨d, hd, q2⟩ := RP.bindP cmp_noexn hh2
  refine ⟨F2, μ2, st2, x, y, d, g2, e2.v r1, r2, hd, d, rfl, ?_⟩
  cases d with
  | true =>
    rw [if_pos rfl] at q2 ⊢
    refine goE g2 en2 q2 fun F3 μ3 H3 z st3 t e3 g3 en3 r3 hh3 => ?_
    obtain ⟨d', hd', q3⟩ := RP.bindP cmp_noexn hh3
    exact ⟨F3, μ3, st3, y, z, d', g3, e3.v r2, r3, hd', q3 F3 μ3 H3 Ext.refl g3 _ rfl⟩
  | false =>
    rw [if_neg Bool.false_ne_true] at q2 ⊢
    exact q2 F2 μ2 H2 Ext.refl g2 _ rfl
theorem chain_bl {op op' : COp} {a b e : E} {env : Env} {st : Store} {p : Val × Store} (h : (ev Φ G (.chain op op' a b e)).v env st = .ok p) : ∃ d, p.1 = .bl d := by
  have h' : (((ev Φ G a).v env st).bind fun p => ((ev Φ G b).v env p.2).bind fun q => (cmpV op p.1 q.1 q.2).bind fun k =>
      if k then ((ev Φ G e).v env q.2).bind fun r => (cmpV op' q.1 r.1 r.2).bind fun k' => R.ok (Val.bl k', r.2) else .ok (.bl false, q.2)) = .ok p := h
  cases ha : (ev Φ G a).v env st with
  | ok x =>
    rw [ha] at h'; simp only [R.bind_ok] at h'
    cases hb : (ev Φ G b).v env x.2 with
    | ok y =>
      rw [hb] at h'; simp only [R.bind_ok] at h'
      cases hc : cmpV op x.1 y.1 y.2 with
      | ok d =>
        rw [hc] at h'; simp only [R.bind_ok] at h'
        cases d with
        | true =>
          rw [if_pos rfl] at h'
          cases he : (ev Φ G e).v env y.2 with
          | ok z =>
            rw [he] at h'; simp only [R.bind_ok] at h'
            cases hd : cmpV op' y.1 z.1 z.2 with
            | ok d' => rw [hd] at h'; cases h'; exact ⟨_, rfl⟩
            | _ => rw [hd] at h'; cases h'
          | _ => rw [he] at h'; cases h'
        | false => rw [if_neg Bool.false_ne_true] at h'; cases h'; exact ⟨_, rfl⟩
      | _ => rw [hc] at h'; cases h'
    | _ => rw [hb] at h'; cases h'
  | _ => rw [ha] at h'; cases h'
theorem snd_chain {op op' : COp} {a b e : E} (sa : Snd Y Φ G C k a) (sb : Snd Y Φ G C k b) (se : Snd Y Φ G C k e) : Snd Y Φ G C k (.chain op op' a b e) where
  pe := fun {X ns W p} c tk q => by
    unfold chkE at q
    split at q
    · rename_i x o y o' z hx
      obtain ⟨pp, rfl⟩ := isChain_eq hx
      simp only [Bool.and_eq_true] at q
      obtain ⟨q1, q2, q3, q4, q5, q6⟩ := q
      have eo := cEq_eq q1
      have eo' := cEq_eq q2
      subst eo eo'
      exact PEimp (pe_chain (op_cmp (Y := Y) c.K c.hu op) (op_cmp (Y := Y) c.K c.hu op') (sa.pe c tk q4) (sb.pe c tk q5) (se.pe c tk q6) (last2 q3)) fun σ H Q ⟨F, μ, st, env, g, en, h⟩ => snd_chain_red g en h
    · cases q
  pt := fun {X ns W p} c tk q => by
    unfold chkE at q
    split at q
    · rename_i x o y o' z hx
      obtain ⟨pp, rfl⟩ := isChain_eq hx
      simp only [Bool.and_eq_true] at q
      obtain ⟨q1, q2, q3, q4, q5, q6⟩ := q
      have eo := cEq_eq q1
      have eo' := cEq_eq q2
      subst eo eo'
      refine PTimp (pt_chain (op_cmp (Y := Y) c.K c.hu op) (op_cmp (Y := Y) c.K c.hu op') (sa.pe c tk q4) (sb.pe c tk q5) (se.pe c tk q6) (last2 q3)) fun σ H Q ⟨F, μ, st, env, g, en, h⟩ => snd_chain_red g en ?_
      refine (show RP Y F μ st H (((ev Φ G (.chain op op' a b e)).v env st).bind fun p => (truth p.2 p.1).bind fun d => .ok (d, p.2)) (kT Q) (at_ W σ) from h).bind.impE fun F1 μ1 H1 v st1 er e1 g1 h1 w r => ?_
      obtain ⟨d, hd⟩ := chain_bl er
      have hd' : v = .bl d := hd
      subst hd'
      have ew : w = .bl d := r
      exact ⟨d, ew, h1 F1 μ1 H1 Ext.refl g1⟩
    · cases q
  pi := fun {X ns W p} tg c tk q => by
    unfold chkE at q
    split at q
    · rename_i x o y o' z hx
      obtain ⟨pp, rfl⟩ := isChain_eq hx
      simp only [Bool.and_eq_true] at q
      obtain ⟨q1, q2, q3, q4, q5, q6⟩ := q
      have eo := cEq_eq q1
      have eo' := cEq_eq q2
      subst eo eo'
      exact pi_of tg c rfl (PEimp (pe_chain (op_cmp (Y := Y) c.K c.hu op) (op_cmp (Y := Y) c.K c.hu op') (sa.pe c tk q4) (sb.pe c tk q5) (se.pe c tk q6) (last2 q3)) fun σ H Q ⟨F, μ, st, env, g, en, h⟩ => snd_chain_red g en h)
    · cases q
theorem snd_bo {b : Bool} {es : Es} (ss : Snds Y Φ G C k es) : Snd Y Φ G C k (.bo b es) where
  pe := fun {X ns W p} c tk q => by
    unfold chkE at q
    split at q
    · rename_i ps hx
      obtain ⟨pp, rfl⟩ := isBo_eq hx
      rw [Bool.and_eq_true] at q
      have eb : b = true := q.1
      subst eb
      cases es with
      | nil => exact ⟨fun pins s σ H Q I ⟨F, μ, st, env, g, en, h⟩ => False.elim h⟩
      | cons e r => exact ss.bo (pos := pp) true c tk q.2 (fun z => by cases z)
    · rename_i ps hx
      obtain ⟨pp, rfl⟩ := isBo_eq hx
      rw [Bool.and_eq_true] at q
      have eb : b = false := by simpa using q.1
      subst eb
      cases es with
      | nil => exact ⟨fun pins s σ H Q I ⟨F, μ, st, env, g, en, h⟩ => False.elim h⟩
      | cons e r => exact ss.bo (pos := pp) false c tk q.2 (fun z => by cases z)
    · cases q
  pt := fun {X ns W p} c tk q => by
    unfold chkE at q
    split at q
    · rename_i ps hx
      obtain ⟨pp, rfl⟩ := isBo_eq hx
      rw [Bool.and_eq_true] at q
      have eb : b = true := q.1
      subst eb
      cases es with
      | nil => exact ⟨fun pins s σ H Q I ⟨F, μ, st, env, g, en, h⟩ => False.elim h⟩
      | cons e r => exact (ss.bt (pos := pp) true c tk q.2 (fun z => by cases z)).pt
    · rename_i ps hx
      obtain ⟨pp, rfl⟩ := isBo_eq hx
      rw [Bool.and_eq_true] at q
      have eb : b = false := by simpa using q.1
      subst eb
      cases es with
      | nil => exact ⟨fun pins s σ H Q I ⟨F, μ, st, env, g, en, h⟩ => False.elim h⟩
      | cons e r => exact (ss.bt (pos := pp) false c tk q.2 (fun z => by cases z)).pt
    · cases q
  pi := fun tg c tk q => pi_stuck rfl
theorem snd_ifx {d a b : E} (sd : Snd Y Φ G C k d) (sa : Snd Y Φ G C k a) (sb : Snd Y Φ G C k b) : Snd Y Φ G C k (.ifx d a b) := by
  refine mkNSnd rfl fun {X ns W p} c tk q => ?_
  unfold chkE at q
  split at q
  · rename_i x y z hx
    obtain ⟨pp, rfl⟩ := isIfx_eq hx
    simp only [Bool.and_eq_true] at q
    obtain ⟨q1, q2, q3⟩ := q
    refine PEimp (pe_ifExp (sd.pt c tk q1) (sa.pe c tk q2) (sb.pe c tk q3)) fun σ H Q ⟨F, μ, st, env, g, en, h⟩ => ?_
    refine goT g en h fun F1 μ1 H1 t st1 e1 g1 en1 hh => ?_
    cases t with
    | true => rw [if_pos rfl]; exact ⟨F1, μ1, st1, env, g1, en1, hh⟩
    | false => rw [if_neg Bool.false_ne_true]; exact ⟨F1, μ1, st1, env, g1, en1, hh⟩
  · cases q
theorem chkEs_len : ∀ {es : Es} {ps : List Expr}, chkEs C ns es ps = true → ∀ {vs : List Val} {env : Env} {st st' : Store}, evs Φ G es env st = .ok (vs, st') → vs.length = ps.length
  | .nil, [], _, vs, env, st, st', h => by cases h; rfl
  | .nil, _ :: _, q, _, _, _, _, _ => by cases q
  | .cons e r, ps, q, vs, env, st, st', h => by
    obtain ⟨p, qs, rfl, h1, h2, h3⟩ := chkEs_cons q
    simp only [evs] at h
    cases hx : (ev Φ G e).v env st with
    | ok x =>
      rw [hx] at h; simp only [R.bind_ok] at h
      cases hy : evs Φ G r env x.2 with
      | ok y =>
        rw [hy] at h; cases h
        simp [chkEs_len h3 hy]
      | _ => rw [hy] at h; cases h
    | _ => rw [hx] at h; cases h
theorem snd_call {f : Str} {es : Es} (ss : Snds Y Φ G C k es) : Snd Y Φ G C k (.call f es) := by
  refine mkSnd rfl (fun ns p q => ?_) fun {X ns W p} c tk q => ?_
  · unfold chkE at q
    split at q
    · rename_i x ps hx; obtain ⟨pp, pq, rfl⟩ := isCall_eq hx; rfl
    · cases q
  · unfold chkE at q
    split at q
    · rename_i x ps hx
      obtain ⟨pp, pq, rfl⟩ := isCall_eq hx
      simp only [Bool.and_eq_true] at q
      obtain ⟨q1, q2, q3, q4, q5, q6, q7⟩ := q
      have ef := of_decide_eq_true q1
      subst ef
      obtain ⟨m, fa, fd, qs, hm, har, hmg, hkp, hb, hF⟩ := c.fn f (mem_of q3)
      cases ps with
      | nil => cases q2
      | cons p ps =>
        have n1 : notStar p = true ∧ noStars ps = true := by
          have z : (notStar p && noStars ps) = true := q6
          rwa [Bool.and_eq_true] at z
        refine PEimp (pe_callS hF c.room (gl_ok c q4) hmg hkp hb (fun σ => passAt tk σ) (ss.pa c tk q7) (okName_1 q5) (star_cons n1.1) (star_any n1.2)) fun σ H Q ⟨F, μ, st, env, g, en, h⟩ => ?_
        refine goA g en h fun F1 μ1 H1 vs st1 ws e1 g1 en1 r1 hh => ?_
        have hh' : RP Y F1 μ1 st1 H1 (m vs st1) (kV Y Q) (at_ W σ) := by
          change RP Y F1 μ1 st1 H1 (match Φ f with | some m => m vs st1 | none => .stuck) (kV Y Q) (at_ W σ) at hh
          rw [hm] at hh; exact hh
        refine ⟨?_, F1, μ1, st1, vs, g1, r1, hh'⟩
        rw [r1.len]
        by_cases hl : vs.length = qs.length
        · exact hl
        · rw [har vs st1 hl] at hh'; exact False.elim hh'
    · cases q
theorem bt_ty (t : Ty) : bootBuiltins (tyStr t) = some (.type (tyName t)) := by cases t <;> decide +kernel
theorem ty_ok1 (t : Ty) : (tyStr t == ("__debug__" : Str)) = false := by cases t <;> decide +kernel
theorem ty_ok2 (t : Ty) : tyStr t ≠ ("__name__" : Str) := by cases t <;> decide +kernel
theorem pe_ty {t : Ty} {p : Pos} (c : Ctx X Y Φ G C ns k) (hg : glB ns (tyStr t) = true) (hb : C.bs.contains (tyStr t) = true) : PE X (.Name (tyStr t) p) (tC (.ty (tyName t))) :=
  pe_bltn (gl_ok c hg) (c.bt _ (mem_of hb)) (bt_ty t) rfl (ty_ok2 t) (ty_ok1 t)
theorem snd_isi {a : E} {t : Ty} (sa : Snd Y Φ G C k a) : Snd Y Φ G C k (.isi a t) := by
  have key : ∀ {ns : Names} {p : Expr}, chkE C ns (.isi a t) p = true → ∃ px p1 p2 pq y, p = .Call (.Name "isinstance" px) [p1, .Name y p2] [] pq ∧ glB ns "isinstance" = true ∧ notStar p1 = true ∧ chkE C ns a p1 = true ∧ y = tyStr t ∧ glB ns y = true ∧ C.bs.contains y = true ∧ C.bs.contains "isinstance" = true := by
    intro ns p q
    unfold chkE at q
    split at q
    · rename_i x p1 p2 hx
      obtain ⟨pp, pq, rfl⟩ := isCall_eq hx
      simp only [Bool.and_eq_true] at q
      obtain ⟨⟨q1, q2, q3, q4, q5⟩, q6⟩ := q
      have ex := of_decide_eq_true q1
      subst ex
      split at q5
      · rename_i y hy
        obtain ⟨py, rfl⟩ := isName_eq hy
        simp only [Bool.and_eq_true] at q5
        exact ⟨_, _, _, _, y, rfl, q2, q3, q4, of_decide_eq_true q5.1, q5.2.1, q5.2.2, q6⟩
      · cases q5
    · cases q
  refine mkSnd rfl (fun ns p q => ?_) fun {X ns W p} c tk q => ?_
  · obtain ⟨_, _, _, _, _, rfl, _⟩ := key q; rfl
  · obtain ⟨px, p1, p2, pq, y, rfl, q2, q3, q4, ey, q5, q6, q7⟩ := key q
    subst ey
    refine PEimp (pe_callB call_isi (gl_ok c q2) (c.bt _ (mem_of q7)) (by decide +kernel) (pa_cons (sa.pe c tk q4) (pa_cons (pe_ty c q5 q6) pa_nil) (star_cons q3)) (by decide +kernel) (by decide +kernel) (star_cons q3) rfl) fun σ H Q ⟨F, μ, st, env, g, en, h⟩ => ?_
    refine goE g en h fun F1 μ1 H1 x st1 w e1 g1 en1 r1 hh => ?_
    split at hh
    · rename_i b hb
      exact ⟨w, .ty (tyName t), _, _, b, rfl, .ty _, tyX_rep c.K g1 r1 hb, kit_ty (kit_tab hb), hh F1 μ1 H1 Ext.refl g1 _ rfl⟩
    · exact False.elim hh
theorem snd_isi2 {a : E} {t u : Ty} (sa : Snd Y Φ G C k a) : Snd Y Φ G C k (.isi2 a t u) := by
  have key : ∀ {ns : Names} {p : Expr}, chkE C ns (.isi2 a t u) p = true → ∃ px p1 py pz kk pt pq, p = .Call (.Name "isinstance" px) [p1, .Tuple [.Name (tyStr t) py, .Name (tyStr u) pz] kk pt] [] pq ∧ glB ns "isinstance" = true ∧ notStar p1 = true ∧ chkE C ns a p1 = true ∧
      glB ns (tyStr t) = true ∧ C.bs.contains (tyStr t) = true ∧ glB ns (tyStr u) = true ∧ C.bs.contains (tyStr u) = true ∧ C.bs.contains "isinstance" = true := by
    intro ns p q
    unfold chkE at q
    split at q
    · rename_i x p1 p2 hx
      obtain ⟨pp, pq, rfl⟩ := isCall_eq hx
      simp only [Bool.and_eq_true] at q
      obtain ⟨⟨q1, q2, q3, q4, q5⟩, q6⟩ := q
      have ex := of_decide_eq_true q1
      subst ex
      split at q5
      · rename_i c1 c2 hc
        obtain ⟨kk, pt, rfl⟩ := isTup_eq hc
        split at q5
        · rename_i y z hy hz
          obtain ⟨py, rfl⟩ := isName_eq hy
          obtain ⟨pz, rfl⟩ := isName_eq hz
          simp only [Bool.and_eq_true] at q5
          obtain ⟨a1, a2, a3, a4, a5, a6⟩ := q5
          have e1 := of_decide_eq_true a1
          have e2 := of_decide_eq_true a4
          subst e1 e2
          exact ⟨_, _, _, _, _, _, _, rfl, q2, q3, q4, a2, a3, a5, a6, q6⟩
        · cases q5
      · cases q5
    · cases q
  refine mkSnd rfl (fun ns p q => ?_) fun {X ns W p} c tk q => ?_
  · obtain ⟨_, _, _, _, _, _, _, rfl, _⟩ := key q; rfl
  · obtain ⟨px, p1, py, pz, kk, pt, pq, rfl, q2, q3, q4, a2, a3, a5, a6, q7⟩ := key q
    refine PEimp (pe_callB call_isiT (gl_ok c q2) (c.bt _ (mem_of q7)) (by decide +kernel) (pa_cons (sa.pe c tk q4) (pa_cons (pe_tup (pa_cons (pe_ty c a2 a3) (pa_cons (pe_ty c a5 a6) pa_nil))) pa_nil) (star_cons q3)) (by decide +kernel) (by decide +kernel) (star_cons q3) rfl) fun σ H Q ⟨F, μ, st, env, g, en, h⟩ => ?_
    refine goE g en h fun F1 μ1 H1 x st1 w e1 g1 en1 r1 hh => ?_
    split at hh
    · rename_i b b' hb hb'
      refine ⟨by show 2 ≤ sizeLine; rw [sizeLine_eq]; decide, fun tp htp => ?_⟩
      obtain ⟨g2, e2⟩ := g1.frozen (o := .tup [.ty (tyName t), .ty (tyName u)]) htp
      refine ⟨w, tp, _, _, _, b || b', rfl, upd_same, .cons (.ty _) (.cons (.ty _) .nil), tyX_rep c.K g2 (e2.v r1) hb, kitAny_cons (kit_ty (kit_tab hb)) (fun eb => ?_) (fun eb => by rw [eb]; rfl), hh _ _ _ e2 g2 _ rfl⟩
      refine kitAny_cons (kit_ty (kit_tab hb')) (fun eb' => ?_) (fun eb' => by rw [eb']; cases b <;> rfl)
      rw [eb, eb']
      exact kitAny_nil
    · exact False.elim hh
end
end MP
/-! MiniPy: the rest of the expressions; all of them. -/
namespace MP
open PySem L2 PySem.Spec PyProof.Rows

section
variable {Y : Fx} {Φ : Tab} {G : Str → Option Val} {C : Cfg} {k : Nat} {X : Cx} {ns : Names} {W : WX}
theorem f1_noexn {f : F1} {x : Val} {st : Store} : ∀ c fs s, f1V f x st ≠ .exn c fs s := by
  intro c fs s h
  cases f <;> simp only [f1V] at h
  all_goals repeat' (first | (cases h; done) | split at h)
theorem mm_noexn {b : Bool} {x y : Val} : ∀ c fs s, mmV b x y ≠ .exn c fs s := by
  intro c fs s h
  unfold mmV at h
  repeat' (first | (cases h; done) | split at h)
theorem ix_noexn {st : Store} {x y : Val} : ∀ c fs s, ixV st x y ≠ .exn c fs s := by
  intro c fs s h
  unfold ixV at h
  repeat' (first | (cases h; done) | split at h)
theorem part_noexn {b : Bool} {x : Val} : ∀ c fs s, partV b x ≠ .exn c fs s := by
  intro c fs s h
  unfold partV at h
  repeat' (first | (cases h; done) | split at h)
theorem rng_noexn {xs : List Val} : ∀ c fs s, rngV xs ≠ .exn c fs s := by
  intro c fs s h
  unfold rngV at h
  repeat' (first | (cases h; done) | split at h)
theorem boot_f1 (f : F1) : bootBuiltins (f1Str f) = some (f1Val f) := by cases f <;> decide +kernel
theorem f1_key {f : F1} {a : E} {ns : Names} {p : Expr} (q : chkE C ns (.f1 f a) p = true) : ∃ px p1 pq, p = .Call (.Name (f1Str f) px) [p1] [] pq ∧ glB ns (f1Str f) = true ∧ notStar p1 = true ∧ f1Str f ∈ C.bs ∧ chkE C ns a p1 = true := by
  unfold chkE at q
  split at q
  · rename_i x p1 hx
    obtain ⟨pp, pq, rfl⟩ := isCall_eq hx
    simp only [Bool.and_eq_true] at q
    obtain ⟨q1, q2, q3, q4, q5⟩ := q
    have ex := of_decide_eq_true q1
    subst ex
    exact ⟨_, _, _, rfl, q2, q3, mem_of q4, q5⟩
  · cases q
theorem snd_f1 {f : F1} {a : E} (sa : Snd Y Φ G C k a) : Snd Y Φ G C k (.f1 f a) := by
  refine mkSnd rfl (fun ns p q => ?_) fun {X ns W p} c tk q => ?_
  · obtain ⟨_, _, _, rfl, _⟩ := f1_key q; rfl
  · obtain ⟨px, p1, pq, rfl, q2, q3, q4, q5⟩ := f1_key q
    have hp : ∀ {r : List V → Hp → VK → Prop}, CallR X (f1Val f) r → PE X (.Call (.Name (f1Str f) px) [p1] [] pq) (tCB r (tCons (tE Y Φ G W a) tNil)) := fun {r} hr => by
      have hb := boot_f1 f
      have hm := c.bt _ q4
      have hg := gl_ok c q2
      have hA := pa_cons (sa.pe c tk q5) (pa_nil (X := X)) (star_cons q3)
      cases f <;> first
        | exact pe_callB hr hg hm hb hA (by decide +kernel) (by decide +kernel) (star_cons q3) rfl
        | exact pe_callTy hr hg hm hb hA (by decide +kernel) (by decide +kernel) (star_cons q3) rfl
    refine PEimp (hp (call_f1 (Y := Y) c.K c.calm f)) fun σ H Q ⟨F, μ, st, env, g, en, h⟩ => ?_
    refine goE g en h fun F1 μ1 H1 x st1 w e1 g1 en1 r1 hh => ?_
    obtain ⟨d, hd, q6⟩ := RP.bindP f1_noexn hh
    exact ⟨F1, μ1, st1, x, w, d, rfl, g1, r1, hd, fun z hz => q6 F1 μ1 H1 Ext.refl g1 z hz⟩
theorem snd_mm {b : Bool} {a d : E} (sa : Snd Y Φ G C k a) (sd : Snd Y Φ G C k d) : Snd Y Φ G C k (.mm b a d) := by
  have key : ∀ {ns : Names} {p : Expr}, chkE C ns (.mm b a d) p = true → ∃ px p1 p2 pq, p = .Call (.Name (Str.ofString (if b then "max" else "min")) px) [p1, p2] [] pq ∧ glB ns (Str.ofString (if b then "max" else "min")) = true ∧ notStar p1 = true ∧ notStar p2 = true ∧ (Str.ofString (if b then "max" else "min")) ∈ C.bs ∧ chkE C ns a p1 = true ∧ chkE C ns d p2 = true := by
    intro ns p q
    unfold chkE at q
    split at q
    · rename_i x p1 p2 hx
      obtain ⟨pp, pq, rfl⟩ := isCall_eq hx
      simp only [Bool.and_eq_true] at q
      obtain ⟨q1, q2, q3, q4, q5, q6, q7⟩ := q
      have ex := of_decide_eq_true q1
      subst ex
      exact ⟨_, _, _, _, rfl, q2, q3, q4, mem_of q5, q6, q7⟩
    · cases q
  refine mkSnd rfl (fun ns p q => ?_) fun {X ns W p} c tk q => ?_
  · obtain ⟨_, _, _, _, rfl, _⟩ := key q; rfl
  · obtain ⟨px, p1, p2, pq, rfl, q2, q3, q4, q5, q6, q7⟩ := key q
    have hp : PE X (.Call (.Name (Str.ofString (if b then "max" else "min")) px) [p1, p2] [] pq) (tCB (rMm Y b) (tCons (tE Y Φ G W a) (tCons (tE Y Φ G W d) tNil))) := by
      have hA := pa_cons (sa.pe c tk q6) (pa_cons (sd.pe c tk q7) (pa_nil (X := X)) (star_cons q4)) (star_cons q3)
      have ha : noStars [p2] = true := by show (notStar p2 && true) = true; rw [q4]; rfl
      cases b with
      | true => exact pe_callB (call_mm c.calm true) (gl_ok c q2) (c.bt _ q5) (by decide +kernel) hA (by decide +kernel) (by decide +kernel) (star_cons q3) (star_any ha)
      | false => exact pe_callB (call_mm c.calm false) (gl_ok c q2) (c.bt _ q5) (by decide +kernel) hA (by decide +kernel) (by decide +kernel) (star_cons q3) (star_any ha)
    refine PEimp hp fun σ H Q ⟨F, μ, st, env, g, en, h⟩ => ?_
    refine goE g en h fun F1 μ1 H1 x st1 w e1 g1 en1 r1 hh => ?_
    refine goE g1 en1 hh fun F2 μ2 H2 y st2 u e2 g2 en2 r2 hh2 => ?_
    obtain ⟨t, ht, q8⟩ := RP.bindP mm_noexn hh2
    exact ⟨F2, μ2, st2, x, y, w, u, t, rfl, g2, e2.v r1, r2, ht, fun z hz => q8 F2 μ2 H2 Ext.refl g2 z hz⟩
theorem set_read {m : Bool} {a : E} (hK : X.K = Y.K) {F H : Hp} {μ : Nat → Addr} {st : Store} {x : Val} {w : V} {Q : VK} {W' : XK} (g : Good Y.K F μ st H) (r : RepV Y.K F μ st.length x w) (h : RP Y F μ st H (g1V m .sortset x st) (kV Y Q) W') :
    rMkSet Y X.w [w] H (fun v H1 => rSortedSet X.w [v] H1 Q) := by
  change RP Y F μ st H (match seqOf st x with | some (true, xs) => (match asInts xs with | some ns => if ns.length < 64 then newL m ((sortS ns).map .int) st else .stuck | none => .stuck) | _ => .stuck) (kV Y Q) W' at h
  split at h
  · rename_i xs hq
    split at h
    · rename_i ns hn
      by_cases h64 : ns.length < 64
      · rw [if_pos h64] at h
        refine ⟨F, μ, st, x, w, xs, ns, rfl, g, r, hq, hn, h64, fun p n hp hn' => ?_⟩
        refine ⟨p, _, n, rfl, upd_same, hn', fun ns' l up mem _ hl => ?_⟩
        have en : ns' = sortS ns := up_only up (sortS_up ns) fun j => by rw [mem j, sortS_mem, decide_eq_true_eq]
        have hlp : l ≠ p := fun e => by rw [e, upd_same] at hl; cases hl
        have hl0 : H l = none := by rw [upd_ne hlp] at hl; exact hl
        have g2 : Good Y.K F μ st (upd H p (SetO X.w p (fun j => decide (j ∈ ns)) n)) := g.beside hp
        have e2 : Ext F μ st H F μ st (upd H p (SetO X.w p (fun j => decide (j ∈ ns)) n)) :=
          ⟨Same.refl _, fun _ _ => rfl, Nat.le_refl _, fun b u hb _ => by rw [upd_ne (ne_of_none hb hp)]; exact hb, fun i d hd ld => .inl ⟨d, hd, ld⟩, fun b u hb => ⟨u, by rw [upd_ne (ne_of_none hb hp)]; exact hb⟩, fun _ _ h => .inl h⟩
        obtain ⟨_, kk⟩ := newL_ok g2 (h.ext e2) (repL_ints (sortS ns))
        rw [en]
        exact kk l hl
      · rw [if_neg h64] at h; exact False.elim h
    · exact False.elim h
  · exact False.elim h
theorem snd_sortset {m : Bool} {a : E} (sa : Snd Y Φ G C k a) : Snd Y Φ G C k (.g1 m .sortset a) := by
  have key : ∀ {ns : Names} {p : Expr}, chkE C ns (.g1 m .sortset a) p = true → ∃ px py p1 pq pr, p = .Call (.Name "sorted" px) [.Call (.Name "set" py) [p1] [] pq] [] pr ∧ glB ns "sorted" = true ∧ ("sorted" : Str) ∈ C.bs ∧ glB ns "set" = true ∧ ("set" : Str) ∈ C.bs ∧ notStar p1 = true ∧ chkE C ns a p1 = true := by
    intro ns p q
    unfold chkE at q
    split at q
    · rename_i x p1 hx
      obtain ⟨pp, pq, rfl⟩ := isCall_eq hx
      simp only [Bool.and_eq_true] at q
      obtain ⟨q1, q2, q3, q4⟩ := q
      have ex := of_decide_eq_true q1
      subst ex
      split at q4
      · rename_i y p2 hy
        obtain ⟨py, pr, rfl⟩ := isCall_eq hy
        simp only [Bool.and_eq_true] at q4
        obtain ⟨a1, a2, a3, a4, a5⟩ := q4
        have ey := of_decide_eq_true a1
        subst ey
        exact ⟨_, _, _, _, _, rfl, q2, mem_of q3, a2, mem_of a3, a4, a5⟩
      · cases q4
    · cases q
  refine mkSnd rfl (fun ns p q => ?_) fun {X ns W p} c tk q => ?_
  · obtain ⟨_, _, _, _, _, rfl, _⟩ := key q; rfl
  · obtain ⟨px, py, p1, pq, pr, rfl, q1, q2, q3, q4, q5, q6⟩ := key q
    have hs : PE X (.Call (.Name "set" py) [p1] [] pq) (tCB (rMkSet Y X.w) (tCons (tE Y Φ G W a) tNil)) :=
      pe_callTy (call_mkset c.K c.calm) (gl_ok c q3) (c.bt _ q4) (by decide +kernel) (pa_cons (sa.pe c tk q6) pa_nil (star_cons q5)) (by decide +kernel) (by decide +kernel) (star_cons q5) rfl
    refine PEimp (pe_callB (cr_sortedSet c.calm) (gl_ok c q1) (c.bt _ q2) (by decide +kernel) (pa_cons hs pa_nil) (by decide +kernel) (by decide +kernel) rfl rfl) fun σ H Q ⟨F, μ, st, env, g, en, h⟩ => ?_
    refine goE g en h fun F1 μ1 H1 x st1 w e1 g1 en1 r1 hh => ?_
    exact set_read (a := a) c.K g1 r1 hh
theorem g1_key {f : G1} {m : Bool} {a : E} {ns : Names} {p : Expr} (hf : f ≠ .sortset) (q : chkE C ns (.g1 m f a) p = true) : ∃ px p1 pq, p = .Call (.Name (g1Str f) px) [p1] [] pq ∧ glB ns (g1Str f) = true ∧ notStar p1 = true ∧ g1Str f ∈ C.bs ∧ chkE C ns a p1 = true := by
  have q' : (match isCall p with
    | some (x, [p]) => decide (x = g1Str f) && (glB ns x && (notStar p && (C.bs.contains x && chkE C ns a p)))
    | _ => false) = true := by
    cases f <;> first | exact absurd rfl hf | (unfold chkE at q; exact q)
  split at q'
  · rename_i x p1 hx
    obtain ⟨pp, pq, rfl⟩ := isCall_eq hx
    simp only [Bool.and_eq_true] at q'
    obtain ⟨q1, q2, q3, q4, q5⟩ := q'
    have ex := of_decide_eq_true q1
    subst ex
    exact ⟨_, _, _, rfl, q2, q3, mem_of q4, q5⟩
  · cases q'
theorem snd_g1 {m : Bool} {f : G1} {a : E} (sa : Snd Y Φ G C k a) : Snd Y Φ G C k (.g1 m f a) := by
  by_cases hf : f = .sortset
  · subst hf; exact snd_sortset sa
  · refine mkSnd rfl (fun ns p q => ?_) fun {X ns W p} c tk q => ?_
    · obtain ⟨_, _, _, rfl, _⟩ := g1_key hf q; rfl
    · obtain ⟨px, p1, pq, rfl, q2, q3, q4, q5⟩ := g1_key hf q
      refine ⟨fun pins s σ H Q I ⟨F, μ, st, env, g, en, h⟩ => ?_⟩
      have hA := pa_cons (sa.pe c tk q5) (pa_nil (X := X)) (star_cons q3)
      have red : tCB (rG1 Y (at_ W σ) m f) (tCons (tE Y Φ G W a) tNil) σ H Q := by
        refine goE g en h fun F1 μ1 H1 x st1 w e1 g1 en1 r1 hh => ?_
        exact ⟨F1, μ1, st1, x, w, rfl, g1, r1, hh⟩
      cases f with
      | list => exact (pe_callTy (call_g_list c.K) (gl_ok c q2) (c.bt _ q4) (by decide +kernel) hA (by decide +kernel) (by decide +kernel) (star_cons q3) rfl).run pins s σ H Q I red
      | tuple => exact (pe_callTy (call_g_tuple c.K) (gl_ok c q2) (c.bt _ q4) (by decide +kernel) hA (by decide +kernel) (by decide +kernel) (star_cons q3) rfl).run pins s σ H Q I red
      | sorted => exact (pe_callB (call_g_sorted c.K) (gl_ok c q2) (c.bt _ q4) (by decide +kernel) hA (by decide +kernel) (by decide +kernel) (star_cons q3) rfl).run pins s σ H Q I red
      | sortset => exact absurd rfl hf
theorem snd_sub {a i : E} (sa : Snd Y Φ G C k a) (si : Snd Y Φ G C k i) : Snd Y Φ G C k (.sub a i) := by
  have key : ∀ {ns : Names} {p : Expr}, chkE C ns (.sub a i) p = true → ∃ p1 p2 pq, p = .Subscript p1 p2 pq ∧ notSlice p2 = true ∧ chkE C ns a p1 = true ∧ chkE C ns i p2 = true := by
    intro ns p q
    unfold chkE at q
    split at q
    · rename_i x y hx
      obtain ⟨pp, rfl⟩ := isSub_eq hx
      simp only [Bool.and_eq_true] at q
      exact ⟨_, _, _, rfl, q.1, q.2.1, q.2.2⟩
    · cases q
  refine mkSnd rfl (fun ns p q => ?_) fun {X ns W p} c tk q => ?_
  · obtain ⟨_, _, _, rfl, _⟩ := key q; rfl
  · obtain ⟨p1, p2, pq, rfl, q1, q2, q3⟩ := key q
    refine PEimp (pe_ix (ix_all (Y := Y) c.K) (sa.pe c tk q2) (si.pe c tk q3) (plain_ix q1)) fun σ H Q ⟨F, μ, st, env, g, en, h⟩ => ?_
    refine goE g en h fun F1 μ1 H1 x st1 w e1 g1 en1 r1 hh => ?_
    refine goE g1 en1 hh fun F2 μ2 H2 y st2 u e2 g2 en2 r2 hh2 => ?_
    obtain ⟨t, ht, q8⟩ := RP.bindP ix_noexn hh2
    exact ⟨F2, μ2, st2, x, y, t, g2, e2.v r1, r2, ht, fun z hz => q8 F2 μ2 H2 Ext.refl g2 z hz⟩
/-- a slice's part -/
def tP (Y : Fx) (Φ : Tab) (G : Str → Option Val) (W : WX) (lo : E) : TO := fun σ H Q => ∃ F μ st env, Good Y.K F μ st H ∧ EnvOk Y.K F μ st.length env σ ∧
  RP Y F μ st H (((ev Φ G lo).v env st).bind fun q => (partV (isNo lo) q.1).bind fun l => .ok (l, q.2)) (fun _ _ H o _ => Q o H) (at_ W σ)
theorem part_ok {lo : E} (sl : Snd Y Φ G C k lo) {l : Option Expr} (c : Ctx X Y Φ G C ns k) (tk : Takes X W) (q : (match l with | none => isNo lo | some l => !isNo lo && chkE C ns lo l) = true) : PO X l (tP Y Φ G W lo) := by
  cases l with
  | none =>
    cases lo with
    | no => exact ⟨fun pins s σ H Q I ⟨F, μ, st, env, g, en, h⟩ => po_none.run pins s σ H Q I (h F μ H Ext.refl g)⟩
    | _ => cases q
  | some l =>
    simp only [Bool.and_eq_true] at q
    have hn : isNo lo = false := by simpa using q.1
    refine ⟨fun pins s σ H Q I ⟨F, μ, st, env, g, en, h⟩ => (po_some (sl.pe c tk q.2)).run pins s σ H Q I ?_⟩
    refine goE g en h fun F1 μ1 H1 x st1 w e1 g1 en1 r1 hh => ?_
    rw [hn] at hh
    cases x with
    | int i => exact ⟨i, r1, hh F1 μ1 H1 Ext.refl g1⟩
    | _ => exact False.elim hh
theorem snd_slc {m : Bool} {a lo hi : E} (sa : Snd Y Φ G C k a) (sl : Snd Y Φ G C k lo) (sh : Snd Y Φ G C k hi) : Snd Y Φ G C k (.slc m a lo hi) := by
  have key : ∀ {ns : Names} {p : Expr}, chkE C ns (.slc m a lo hi) p = true → ∃ p1 l h ps pq, p = .Subscript p1 (.Slice l h none ps) pq ∧ chkE C ns a p1 = true ∧ (match l with | none => isNo lo | some l => !isNo lo && chkE C ns lo l) = true ∧ (match h with | none => isNo hi | some l => !isNo hi && chkE C ns hi l) = true := by
    intro ns p q
    unfold chkE at q
    split at q
    · rename_i x y hx
      obtain ⟨pp, rfl⟩ := isSub_eq hx
      rw [Bool.and_eq_true] at q
      obtain ⟨q1, q2⟩ := q
      split at q2
      · rename_i l h hs
        obtain ⟨ps, rfl⟩ := isSlice_eq hs
        rw [Bool.and_eq_true] at q2
        exact ⟨_, _, _, _, _, rfl, q1, q2.1, q2.2⟩
      · cases q2
    · cases q
  refine mkSnd rfl (fun ns p q => ?_) fun {X ns W p} c tk q => ?_
  · obtain ⟨_, _, _, _, _, rfl, _⟩ := key q; rfl
  · obtain ⟨p1, l, hh, ps, pq, rfl, q1, q2, q3⟩ := key q
    refine ⟨fun pins s σ H Q I ⟨F, μ, st, env, g, en, h⟩ => ?_⟩
    refine (pe_slice (sl_all (Y := Y) (W := at_ W σ) (m := m) c.K) (sa.pe c tk q1) (part_ok sl c tk q2) (part_ok sh c tk q3)).run pins s σ H Q I ?_
    refine goE g en h fun F1 μ1 H1 x st1 w e1 g1 en1 r1 h1 => ?_
    refine ⟨F1, μ1, st1, env, g1, en1, ?_⟩
    have h1' : RP Y F1 μ1 st1 H1 ((((ev Φ G lo).v env st1).bind fun q => (partV (isNo lo) q.1).bind fun l => R.ok (l, q.2)).bind fun lq => (((ev Φ G hi).v env lq.2).bind fun r => (partV (isNo hi) r.1).bind fun h' => R.ok (h', r.2)).bind fun hq => slcV m hq.2 x lq.1 hq.1) (kV Y Q) (at_ W σ) := by
      have ee : ((((ev Φ G lo).v env st1).bind fun q => (partV (isNo lo) q.1).bind fun l => R.ok (l, q.2)).bind fun lq => (((ev Φ G hi).v env lq.2).bind fun r => (partV (isNo hi) r.1).bind fun h' => R.ok (h', r.2)).bind fun hq => slcV m hq.2 x lq.1 hq.1) =
          (((ev Φ G lo).v env st1).bind fun q => (partV (isNo lo) q.1).bind fun l' => ((ev Φ G hi).v env q.2).bind fun r => (partV (isNo hi) r.1).bind fun h' => slcV m r.2 x l' h') := by
        cases (ev Φ G lo).v env st1 with
        | ok q0 =>
          simp only [R.bind_ok]
          cases partV (isNo lo) q0.1 with
          | ok l0 =>
            simp only [R.bind_ok]
            cases (ev Φ G hi).v env q0.2 with
            | ok r0 =>
              simp only [R.bind_ok]
              cases partV (isNo hi) r0.1 <;> rfl
            | _ => rfl
          | _ => rfl
        | _ => rfl
      rw [ee]; exact h1
    refine h1'.bind.impE fun F2 μ2 H2 l0 st2 _ e2 g2 h2 => ?_
    refine ⟨F2, μ2, st2, env, g2, e2.env en1, ?_⟩
    refine h2.bind.impE fun F3 μ3 H3 u0 st3 _ e3 g3 h3 => ?_
    exact ⟨F3, μ3, st3, x, g3, e3.v (e2.v r1), h3⟩
theorem snd_no : Snd Y Φ G C k .no where
  pe := fun c tk q => by cases q
  pt := fun c tk q => by cases q
  pi := fun tg c tk q => by cases q
theorem rng_key {es : Es} {ns : Names} {p : Expr} (q : chkE C ns (.rng es) p = true) : ∃ px ps pq, p = .Call (.Name "range" px) ps [] pq ∧ glB ns "range" = true ∧ ("range" : Str) ∈ C.bs ∧ (ps.length = 1 ∨ ps.length = 2) ∧ noStars ps = true ∧ chkEs C ns es ps = true := by
  unfold chkE at q
  split at q
  · rename_i x ps hx
    obtain ⟨pp, pq, rfl⟩ := isCall_eq hx
    simp only [Bool.and_eq_true, Bool.or_eq_true, decide_eq_true_eq] at q
    obtain ⟨q1, q2, q3, q4, q5, q6⟩ := q
    subst q1
    exact ⟨_, _, _, rfl, q2, mem_of q3, q4, q5, q6⟩
  · cases q
theorem snd_rng {es : Es} (ss : Snds Y Φ G C k es) : Snd Y Φ G C k (.rng es) where
  pe := fun c tk q => ⟨fun pins s σ H Q I ⟨F, μ, st, env, g, en, h⟩ => False.elim h⟩
  pt := fun c tk q => pt_stuck rfl
  pi := fun {X ns W p} tg c tk q => by
    obtain ⟨px, ps, pq, rfl, q2, q3, q4, q5, q6⟩ := rng_key q
    have red : ∀ {σ : L2.St} {H : Hp} {R : It → Hp → Prop}, tI Y Φ G W (.rng es) σ H R → tA Y Φ G W es σ H fun vs H1 => (∃ j : Int, vs = [.int j] ∧ -1000000 ≤ j ∧ j ≤ 1000000 ∧ R (Itr 0 j.toNat) H1) ∨ (∃ i j : Int, vs = [.int i, .int j] ∧ (-1000000 ≤ i ∧ i ≤ 1000000 ∧ -1000000 ≤ j ∧ j ≤ 1000000) ∧ R (Itr i (j - i).toNat) H1) := fun {σ H R} ⟨F, μ, st, env, g, en, h⟩ => by
      refine goA g en h fun F1 μ1 H1 xs st1 ws e1 g1 en1 r1 hh => ?_
      obtain ⟨t, ht, q8⟩ := RP.bindP rng_noexn hh
      unfold rngV at ht
      split at ht
      · rename_i j hj0
        have hx0 : xs = [.int j] := hj0
        subst hx0
        by_cases hj : rngOk j = true
        · rw [if_pos hj] at ht
          cases ht
          obtain ⟨v, r, rfl, hv, hr⟩ := r1
          cases hr
          have ev' : v = .int j := hv
          subst ev'
          have b := of_decide_eq_true hj
          exact .inl ⟨j, rfl, b.1, b.2, q8 F1 μ1 H1 Ext.refl g1 _ _ (repL_range 0 j.toNat) (walk_rng F1 0 j.toNat)⟩
        · rw [if_neg hj] at ht; cases ht
      · rename_i i j hj0
        have hx0 : xs = [.int i, .int j] := hj0
        subst hx0
        by_cases hj : (rngOk i && rngOk j) = true
        · rw [if_pos hj] at ht
          cases ht
          obtain ⟨v, r, rfl, hv, v2, r2, rfl, hv2, hr⟩ := r1
          cases hr
          have ev' : v = .int i := hv
          have ev2 : v2 = .int j := hv2
          subst ev' ev2
          rw [Bool.and_eq_true] at hj
          have b := of_decide_eq_true hj.1
          have b' := of_decide_eq_true hj.2
          exact .inr ⟨i, j, rfl, ⟨b.1, b.2, b'.1, b'.2⟩, q8 F1 μ1 H1 Ext.refl g1 _ _ (repL_range i (j - i).toNat) (walk_rng F1 i (j - i).toNat)⟩
        · rw [if_neg hj] at ht; cases ht
      · cases ht
    have lenA : ∀ {σ : L2.St} {H : Hp} {Q : List V → Hp → Prop}, tA Y Φ G W es σ H Q → tA Y Φ G W es σ H fun vs H1 => vs.length = ps.length ∧ Q vs H1 := fun {σ H Q} ⟨F, μ, st, env, g, en, h⟩ =>
      ⟨F, μ, st, env, g, en, h.impE fun F1 μ1 H1 xs st1 ex e1 g1 hh ws r => ⟨by rw [r.len]; exact chkEs_len q6 ex, hh ws r⟩⟩
    have hA := ss.pa c tk q6
    rcases q4 with q4 | q4
    · match ps, q4 with
      | [p1], _ =>
        have n1 : notStar p1 = true := by
          have z : (notStar p1 && true) = true := q5
          rwa [Bool.and_true] at z
        refine PIimp (pi_range1 (gl_ok c q2) (c.bt _ q3) hA (star_cons n1)) fun σ H R h => ?_
        obtain ⟨F, μ, st, env, g, en, h2⟩ := lenA (red h)
        refine ⟨F, μ, st, env, g, en, h2.impE fun F1 μ1 H1 xs st1 ex e1 g1 hh ws r => ?_⟩
        obtain ⟨hl, hq⟩ := hh ws r
        rcases hq with ⟨j, rfl, b1, b2, hR⟩ | ⟨i, j, rfl, _⟩
        · exact ⟨j, rfl, by omega, by omega, hR⟩
        · cases hl
    · match ps, q4 with
      | [p1, p2], _ =>
        have n1 : notStar p1 = true ∧ notStar p2 = true := by
          have z : (notStar p1 && (notStar p2 && true)) = true := q5
          rwa [Bool.and_true, Bool.and_eq_true] at z
        refine PIimp (pi_range2 (gl_ok c q2) (c.bt _ q3) hA (by rw [star_cons n1.1, star_cons n1.2]; rfl) (by rw [star_cons n1.2]; rfl)) fun σ H R h => ?_
        obtain ⟨F, μ, st, env, g, en, h2⟩ := lenA (red h)
        refine ⟨F, μ, st, env, g, en, h2.impE fun F1 μ1 H1 xs st1 ex e1 g1 hh ws r => ?_⟩
        obtain ⟨hl, hq⟩ := hh ws r
        rcases hq with ⟨j, rfl, _⟩ | ⟨i, j, rfl, b, hR⟩
        · cases hl
        · exact ⟨i, j, rfl, ⟨by omega, by omega, by omega, by omega⟩, hR⟩
theorem snd_frz {a : E} (sa : Snd Y Φ G C k a) : Snd Y Φ G C k (.frz a) := by
  refine mkNSnd rfl fun {X ns W p} c tk q => ?_
  refine PEimp (sa.pe c tk (by unfold chkE at q; exact q)) fun σ H Q ⟨F, μ, st, env, g, en, h⟩ => ?_
  refine goE g en h fun F1 μ1 H1 x st1 w e1 g1 en1 r1 hh => ?_
  have plain : ∀ {v : Val}, RepV Y.K F1 μ1 st1.length v w → RP Y F1 μ1 st1 H1 (.ok (v, st1)) (kV Y Q) (at_ W σ) → Q w H1 := fun r h => h F1 μ1 H1 Ext.refl g1 w r
  cases x with
  | loc n =>
    change RP Y F1 μ1 st1 H1 (match st1[n]? with | some (.lst xs) => .ok (.lst xs, st1.set n (.frz xs)) | some (.frz xs) => .ok (.lst xs, st1) | _ => .stuck) (kV Y Q) (at_ W σ) at hh
    obtain ⟨hw, hn⟩ := r1
    split at hh
    · rename_i xs hc
      obtain ⟨F2, g2, e2, r2⟩ := g1.freeze hc
      rw [hw]
      exact hh F2 μ1 H1 e2 g2 _ r2
    · rename_i xs hc
      obtain ⟨vs, h1, h2⟩ := g1.st.cell n _ hc
      rw [hw]
      exact hh F1 μ1 H1 Ext.refl g1 _ ⟨_, vs, rfl, h1, h2⟩
    · exact False.elim hh
  | non => exact plain r1 hh
  | bl _ => exact plain r1 hh
  | int _ => exact plain r1 hh
  | str _ => exact plain r1 hh
  | tup _ => exact plain r1 hh
  | lst _ => exact plain r1 hh
  | scr _ => exact plain r1 hh
theorem snd_app {o a : E} (so : Snd Y Φ G C k o) (sa : Snd Y Φ G C k a) : Snd Y Φ G C k (.app o a) := by
  refine mkNSnd rfl fun {X ns W p} c tk q => ?_
  unfold chkE at q
  split at q
  · rename_i po m p1 kk hx
    obtain ⟨pp, pq, rfl, hkk⟩ := isMeth_eq hx
    simp only [Bool.and_eq_true] at q
    obtain ⟨q1, q2, q3, q4, q5, q6⟩ := q
    have em := of_decide_eq_true q1
    subst em
    rw [hkk] at q2
    have hst : noStars [p1] = true := by show (notStar p1 && true) = true; rw [q4]; rfl
    refine PEimp (pe_bm PySem.F.plainAttrs_list PySem.F.slot_list_append PySem.F.type_list_append mt_append (so.pe c tk q5) (pa_cons (sa.pe c tk q6) pa_nil (star_cons q4)) (base_id q3) (by rw [star_all hst]; rfl) q2 (star_cons q4) rfl) fun σ H Q ⟨F, μ, st, env, g, en, h⟩ => ?_
    refine goE g en h fun F1 μ1 H1 x st1 w e1 g1 en1 r1 hh => ?_
    by_cases hc : isCell st1 x = true
    · rw [if_pos hc] at hh
      cases x with
      | loc n =>
        obtain ⟨hw, hn⟩ := r1
        have hc' : (match st1[n]? with | some (.lst _) => true | _ => false) = true := hc
        split at hc'
        · rename_i xs hcell
          obtain ⟨_, vs, h3, _⟩ := g1.st.cell n _ hcell
          refine ⟨by rw [hw]; exact .inl ⟨rfl, vs, SqL.of h3⟩, ?_⟩
          refine goE g1 en1 hh fun F2 μ2 H2 y st2 u e2 g2 en2 r2 hh2 => ?_
          change RP Y F2 μ2 st2 H2 (match st2[n]? with | some (.lst xs) => if xs.length < szMax then .ok (.non, st2.set n (.lst (xs ++ [y]))) else .stuck | _ => .stuck) (kV Y Q) (at_ W σ) at hh2
          split at hh2
          · rename_i ys hy
            by_cases hl : ys.length < szMax
            · rw [if_pos hl] at hh2
              obtain ⟨hF, ws, h4, h5⟩ := g2.st.cell n _ hy
              have hn2 : μ2 n = μ1 n := e2.mu n hn
              refine ⟨μ2 n, ws, u, by rw [hw, hn2], rfl, h4, by rw [h5.len]; exact Nat.lt_of_lt_of_le hl (by rw [sizeLine_eq]; decide), ?_⟩
              obtain ⟨g3, e3⟩ := g2.write hy rfl (c' := .lst (ys ++ [y])) rfl (o := .lst (ws ++ [u])) ⟨hF, _, upd_same, h5.append ⟨u, [], rfl, r2, rfl⟩⟩
              exact hh2 _ _ _ e3 g3 _ rfl
            · rw [if_neg hl] at hh2; exact False.elim hh2
          · exact False.elim hh2
        · cases hc'
      | _ => cases hc
    · rw [if_neg hc] at hh; exact False.elim hh
  · cases q
end
end MP
/-! MiniPy: list comprehensions; all expressions. -/
namespace MP
open PySem L2 PySem.Spec PyProof.Rows

theorem R.assoc {α β γ : Type} (r : R α) (f : α → R β) (h : β → R γ) : (r.bind f).bind h = r.bind fun a => (f a).bind h := by cases r <;> rfl
section
variable {α β : Type} {Y : Fx} {F Hg : Hp} {μ : Nat → Addr} {st : Store} {W : XK}
/-- a piece beside an object D -/
theorem RP.ghost {r : R (α × Store)} {f : α × Store → R (β × Store)} {k : Hp → (Nat → Addr) → Hp → α → Store → Prop} {kb : Hp → (Nat → Addr) → Hp → β → Store → Prop} {D : Addr} {o : HO} {W' : XK}
    (g : Good Y.K F μ st Hg) (hD : Hg D = none) (h : RP Y F μ st Hg (noExn (r.bind f)) kb W)
    (n : ∀ F' μ' H' a st', Ext F μ st Hg F' μ' st' (era H' D) → Good Y.K F' μ' st' (era H' D) → Ext F μ st (upd Hg D o) F' μ' st' H' → Good Y.K F' μ' st' H' → H' D = some o → RP Y F' μ' st' (era H' D) (noExn (f (a, st'))) kb W → k F' μ' H' a st') :
    RP Y F μ st (upd Hg D o) r k W' := by
  cases r with
  | ok p =>
    intro F' μ' H' e g'
    obtain ⟨h1, h2, h3⟩ := e.ghost g hD g'
    exact n F' μ' H' p.1 p.2 h2 h3 e g' h1 (RP.ext h2 h)
  | exn c fs s => exact False.elim h
  | stuck => exact False.elim h
end

section
variable {Y : Fx} {Φ : Tab} {G : Str → Option Val} {C : Cfg} {k : Nat} {X : Cx} {ns : Names} {W : WX}
theorem comp_key {m : Bool} {x : Nat} {it c elt : E} {ns : Names} {p : Expr} (q : chkE C ns (.comp m x it c elt) p = true) : ∃ pelt y py pit ifs sc pp, p = .ListComp pelt [⟨.Name y py, pit, ifs, 0⟩] sc pp ∧
    C.N[x]? = some y ∧ locB sc.names y = true ∧ blkC' C ns sc y x = true ∧ notSet pit = true ∧ chkE C ns it pit = true ∧ chkE C (blkNames ns sc) elt pelt = true ∧ (match ifs with | [] => isNo c | [pc] => !isNo c && chkE C (blkNames ns sc) c pc | _ => false) = true := by
  unfold chkE at q
  split at q
  · rename_i pelt tg pit ifs sc hx
    obtain ⟨pp, rfl⟩ := isComp_eq hx
    simp only [Bool.and_eq_true] at q
    obtain ⟨q1, q2, q3, q4, q5⟩ := q
    split at q1
    · rename_i y hy
      obtain ⟨py, rfl⟩ := isName_eq hy
      simp only [Bool.and_eq_true] at q1
      exact ⟨_, _, _, _, _, _, _, rfl, of_decide_eq_true q1.1, q1.2.1, q1.2.2, q2, q3, q4, q5⟩
    · cases q1
  · cases q
theorem blkC_key {sc : Scope} {y : Str} {x : Nat} (h : blkC' C ns sc y x = true) : blkC C.N { kind := .function, names := ns, isGenerator := false, isCoroutine := false } sc [(y, x)] = true ∧ sc.kind = .function := by
  unfold blkC' at h
  rw [Bool.and_eq_true] at h
  refine ⟨h.1, ?_⟩
  have h2 := h.2
  split at h2
  · assumption
  · cases h2
theorem blk_ok (c : Ctx X Y Φ G C ns k) {sc : Scope} {y : Str} {x : Nat} (h : blkC' C ns sc y x = true) : BlkOk X.N X.env.scope sc [(y, x)] := by
  have b := blkOk_by (blkC_key h).1
  rw [c.N]
  refine ⟨b.kind, b.uniq, b.ix, fun z hz e => ?_, b.own⟩
  rw [c.sc]; exact b.free z hz e
theorem comp_step {m : Bool} {acc : List Val} {y : Val} {r : R (List Val × Store)} :
    ((r.bind fun q => R.ok (y :: q.1, q.2)).bind fun q => newL m (acc ++ q.1) q.2) = r.bind fun q => newL m ((acc ++ [y]) ++ q.1) q.2 := by
  cases r with
  | ok p => show newL m (acc ++ (y :: p.1)) p.2 = newL m ((acc ++ [y]) ++ p.1) p.2; rw [List.append_assoc]; rfl
  | _ => rfl
theorem newL_noexn {m : Bool} {xs : List Val} {st : Store} : noExn (newL m xs st) = newL m xs st := by
  unfold newL
  by_cases h : xs.length ≤ szMax
  · rw [if_pos h]; cases m <;> rfl
  · rw [if_neg h]; rfl
theorem snd_comp_red {m : Bool} {x : Nat} {it cc elt : E} (hK : X.K = Y.K) {σ : L2.St} {H : Hp} {Q : VK} (h : tE Y Φ G W (.comp m x it cc elt) σ H Q) :
    tLc (tI Y Φ G W it) (gName x) (tT Y Φ G W0 cc) (tE Y Φ G W0 elt) [x] σ H Q := by
  obtain ⟨F, μ, st, env, g, en, h⟩ := h
  have h : RP Y F μ st H (((ev Φ G it).i env st).bind fun p => if p.1.length ≤ szMax then noExn ((compL (ev Φ G cc).t (ev Φ G elt).v x p.1 env p.2).bind fun q => newL m q.1 q.2) else .stuck) (kV Y Q) (at_ W σ) := h
  refine ⟨F, μ, st, env, g, en, h.bind.impE fun F1 μ1 H1 xs st1 _ e1 g1 h1 J us rL wj D hD => ?_⟩
  by_cases hl : xs.length ≤ szMax
  · rw [if_pos hl] at h1
    have en1 := e1.env en
    refine lc_walk wj (fun i H => ∃ Fi μi sti Hg acc accV, Hg D = none ∧ H = upd Hg D (.lst accV) ∧ Good Y.K Fi μi sti Hg ∧ Ext F1 μ1 st1 H1 Fi μi sti Hg ∧ RepL Y.K Fi μi sti.length acc accV ∧ acc.length ≤ i ∧
      RP Y Fi μi sti Hg (noExn ((compL (ev Φ G cc).t (ev Φ G elt).v x (xs.drop i) env sti).bind fun q => newL m (acc ++ q.1) q.2)) (kV Y Q) (at_ W σ)) ?_ ?_ ?_ ?_
    · exact ⟨F1, μ1, st1, H1, [], [], hD, rfl, g1, Ext.refl, rfl, Nat.le_refl _, h1⟩
    · rintro i H ⟨Fi, μi, sti, Hg, acc, accV, hd, rfl, gi, ei, _⟩
      exact ei.same.trans (gi.beside hd).same
    · rintro i w H hw ⟨Fi, μi, sti, Hg, acc, accV, hd, rfl, gi, ei, ra, hai, hh⟩
      obtain ⟨v, hv, rv⟩ := rL.getV hw
      obtain ⟨hi, hvi⟩ := List.getElem?_eq_some_iff.mp hv
      rw [List.drop_eq_getElem_cons hi, hvi] at hh
      have hwipe : wipe ((wipe σ [x]).set x (some w)) [x] = wipe σ [x] := by
        show ((σ.set x none).set x (some w)).set x none = σ.set x none
        rw [List.set_set, List.set_set]
      have eni : EnvOk Y.K Fi μi sti.length (env.set x (some v)) ((wipe σ [x]).set x (some w)) := by
        have := (ei.env en1).set (ei.v rv) x
        rw [show (wipe σ [x]).set x (some w) = σ.set x (some w) from by show (σ.set x none).set x (some w) = _; rw [List.set_set]]
        exact this
      refine ⟨hwipe, ?_⟩
      have hh1 : RP Y Fi μi sti Hg (noExn (((ev Φ G cc).t (env.set x (some v)) sti).bind fun p => (if p.1 = true then ((ev Φ G elt).v (env.set x (some v)) p.2).bind fun r => (compL (ev Φ G cc).t (ev Φ G elt).v x (xs.drop (i + 1)) env r.2).bind fun q => R.ok (r.1 :: q.1, q.2)
          else compL (ev Φ G cc).t (ev Φ G elt).v x (xs.drop (i + 1)) env p.2).bind fun q => newL m (acc ++ q.1) q.2)) (kV Y Q) (at_ W σ) := by
        rw [← R.assoc]; exact hh
      refine ⟨Fi, μi, sti, _, gi.beside hd, eni, ?_⟩
      refine RP.ghost gi hd hh1 fun F2 μ2 H2 b st2 e2 g2 e2' g2' hD2 h2 => ?_
      show if b = true then _ else _
      have hup : H2 = upd (era H2 D) D (.lst accV) := by
        rw [upd_era]; funext a
        by_cases ha : a = D
        · subst ha; rw [upd_same]; exact hD2
        · rw [upd_ne ha]
      cases b with
      | true =>
        rw [if_pos rfl]
        have h2' : RP Y F2 μ2 st2 (era H2 D) (noExn (((ev Φ G elt).v (env.set x (some v)) st2).bind fun r => ((compL (ev Φ G cc).t (ev Φ G elt).v x (xs.drop (i + 1)) env r.2).bind fun q => R.ok (r.1 :: q.1, q.2)).bind fun q => newL m (acc ++ q.1) q.2)) (kV Y Q) (at_ W σ) := by
          rw [← R.assoc]; exact h2
        refine ⟨F2, μ2, st2, _, g2', e2'.env eni, ?_⟩
        rw [hup]
        refine RP.ghost g2 era_same h2' fun F3 μ3 H3 y st3 e3 g3 e3' g3' hD3 h3 u ru => ?_
        refine ⟨accV, hD3, by rw [ra.len]; exact Nat.lt_of_le_of_lt hai (Nat.lt_of_lt_of_le hi (szMax_le hl)), ?_⟩
        refine ⟨F3, μ3, st3, era H3 D, acc ++ [y], accV ++ [u], era_same, upd_era.symm, g3, (ei.trans e2).trans e3, (e3.l (e2.l ra)).append ⟨u, [], rfl, ru, rfl⟩, by simp; exact hai, ?_⟩
        rw [comp_step] at h3
        exact h3
      | false =>
        rw [if_neg Bool.false_ne_true]
        exact ⟨F2, μ2, st2, era H2 D, acc, accV, era_same, hup, g2, ei.trans e2, e2.l ra, Nat.le_succ_of_le hai, h2⟩
    · rintro H ⟨Fi, μi, sti, Hg, acc, accV, hd, rfl, gi, ei, ra, hai, hh⟩
      rw [rL.len, List.drop_length] at hh
      have hh' : RP Y Fi μi sti Hg (newL m acc sti) (kV Y Q) (at_ W σ) := by
        have hh2 : RP Y Fi μi sti Hg (noExn (newL m (acc ++ []) sti)) (kV Y Q) (at_ W σ) := hh
        rw [List.append_nil, newL_noexn] at hh2
        exact hh2
      exact (newL_ok gi hh' ra).2 D hd
  · rw [if_neg hl] at h1; exact False.elim h1
theorem lc_rules {x : Nat} {it cc elt : E} (si : Snd Y Φ G C k it) (sc : Snd Y Φ G C k cc) (se : Snd Y Φ G C k elt) (c : Ctx X Y Φ G C ns k) (tk : Takes X W) {y : Str} {py : Pos} {pit pelt : Expr} {ifs : List Expr} {scp : Scope}
    (q1 : C.N[x]? = some y) (q2 : locB scp.names y = true) (q3 : blkC' C ns scp y x = true) (q5 : chkE C ns it pit = true) (q6 : chkE C (blkNames ns scp) elt pelt = true) (q7 : (match ifs with | [] => isNo cc | [pc] => !isNo cc && chkE C (blkNames ns scp) cc pc | _ => false) = true) :
    PI X (.Name y py) pit (tI Y Φ G W it) ∧ (∀ (s : Shared) (H : Hp) (Cl : Addr) (cl : List (Str × Addr)) (fp : List Addr), PG (X.blk s H scp (compEnvC scp cl Cl X.env) fp) (.Name y py) (gName x)) ∧
      (∀ (s : Shared) (H : Hp) (Cl : Addr) (cl : List (Str × Addr)) (fp : List Addr), PTs (X.blk s H scp (compEnvC scp cl Cl X.env) fp) ifs (tT Y Φ G W0 cc)) ∧
      (∀ (s : Shared) (H : Hp) (Cl : Addr) (cl : List (Str × Addr)) (fp : List Addr), PE (X.blk s H scp (compEnvC scp cl Cl X.env) fp) pelt (tE Y Φ G W0 elt)) := by
  obtain ⟨b1, b2⟩ := blkC_key q3
  have bc := fun (s : Shared) (H : Hp) (Cl : Addr) (cl : List (Str × Addr)) (fp : List Addr) => ctx_blk c (s := s) (H := H) (Cl := Cl) (cl := cl) (fp := fp) b2
  have tk0 : ∀ {X : Cx}, Takes X W0 := takes0
  refine ⟨si.pi (.Name y py) c tk q5, fun s H Cl cl fp => ?_, fun s H Cl cl fp => ?_, fun s H Cl cl fp => se.pe (bc s H Cl cl fp) tk0 q6⟩
  · refine pg_name c.nd (show X.N[x]? = some y by rw [c.N]; exact q1) ?_ ?_
    · unfold locB at q2
      split at q2
      · rename_i e; exact .inl (lookup_relS_keep (by decide) e)
      · rename_i e; exact .inr (lookup_relS_keep (by decide) e)
      · cases q2
    · unfold locB at q2
      split at q2
      · rename_i e; exact .inr (lookup_relS_keep (by decide) e)
      · rename_i e; refine .inl ?_; show (scp.names.lookup y == some NameKind.cell) = true; rw [e]; rfl
      · cases q2
  · split at q7
    · have hc : cc = .no := by cases cc <;> first | rfl | cases q7
      subst hc
      exact ⟨fun pins s σ H Q I ⟨F, μ, st, env, g, en, h⟩ => pts_nil.run pins s σ H Q I (h F μ H Ext.refl g)⟩
    · rw [Bool.and_eq_true] at q7
      exact pts_one (sc.pt (bc s H Cl cl fp) tk0 q7.2)
    · cases q7
theorem snd_comp {m : Bool} {x : Nat} {it cc elt : E} (si : Snd Y Φ G C k it) (sc : Snd Y Φ G C k cc) (se : Snd Y Φ G C k elt) : Snd Y Φ G C k (.comp m x it cc elt) := by
  refine mkSnd rfl (fun ns p q => ?_) fun {X ns W p} c tk q => ?_
  · obtain ⟨_, _, _, _, _, _, _, rfl, _⟩ := comp_key q; rfl
  · obtain ⟨pelt, y, py, pit, ifs, scp, pp, rfl, q1, q2, q3, q4, q5, q6, q7⟩ := comp_key q
    obtain ⟨r1, r2, r3, r4⟩ := lc_rules si sc se c tk q1 q2 q3 q5 q6 q7 (py := py)
    exact PEimp (pe_lc c.calm c.nd r1 (blk_ok c q3) r2 r3 r4 (folded_id q4)) fun σ H Q h => snd_comp_red c.K h
mutual
theorem sAll : ∀ e : E, Snd Y Φ G C k e
  | .var i => snd_var i
  | .int i => snd_int i
  | .bl b => snd_bl b
  | .non => snd_non
  | .str s => snd_str s
  | .glob x => snd_glob x
  | .tup es => snd_tup (sAlls es)
  | .lst m es => snd_lst (sAlls es)
  | .bin m op a b => snd_bin (sAll a) (sAll b)
  | .neg a => snd_neg (sAll a)
  | .not a => snd_not (sAll a)
  | .cmp op a b => snd_cmp (sAll a) (sAll b)
  | .chain op op' a b c => snd_chain (sAll a) (sAll b) (sAll c)
  | .bo k es => snd_bo (sAlls es)
  | .ifx c a b => snd_ifx (sAll c) (sAll a) (sAll b)
  | .call f es => snd_call (sAlls es)
  | .isi a t => snd_isi (sAll a)
  | .isi2 a t u => snd_isi2 (sAll a)
  | .f1 f a => snd_f1 (sAll a)
  | .mm k a b => snd_mm (sAll a) (sAll b)
  | .g1 m f a => snd_g1 (sAll a)
  | .sub a i => snd_sub (sAll a) (sAll i)
  | .slc m a lo hi => snd_slc (sAll a) (sAll lo) (sAll hi)
  | .no => snd_no
  | .rng es => snd_rng (sAlls es)
  | .comp m x it c elt => snd_comp (sAll it) (sAll c) (sAll elt)
  | .frz a => snd_frz (sAll a)
  | .app o a => snd_app (sAll o) (sAll a)
theorem sAlls : ∀ es : Es, Snds Y Φ G C k es
  | .nil => snd_nil
  | .cons e r => snd_cons (sAll e) (sAlls r)
end
end
end MP
/-! MiniPy: statements. -/
namespace MP
open PySem L2 PySem.Spec PyProof.Rows

/-! ### the checker -/
def isAsg : Stmt → Option (Expr × Expr) | .Assign [t] e _ => some (t, e) | _ => none
def isExprS : Stmt → Option Expr | .Expr e _ => some e | _ => none
def isIf : Stmt → Option (Expr × List Stmt × List Stmt) | .If c a b _ => some (c, a, b) | _ => none
def isFor : Stmt → Option (Expr × Expr × List Stmt) | .For t it b [] _ => some (t, it, b) | _ => none
def isWhile : Stmt → Option (Expr × List Stmt) | .While c b [] _ => some (c, b) | _ => none
def isRet : Stmt → Option Expr | .Return (some e) _ => some e | _ => none
def isRetN : Stmt → Bool | .Return none _ => true | _ => false
def isPass : Stmt → Bool | .Pass _ => true | _ => false
def isBrk : Stmt → Bool | .Break _ => true | _ => false
def isCnt : Stmt → Bool | .Continue _ => true | _ => false
section
variable {s : Stmt}
theorem isAsg_eq {t e : Expr} (h : isAsg s = some (t, e)) : ∃ p, s = .Assign [t] e p := by unfold isAsg at h; split at h <;> first | (cases h; exact ⟨_, rfl⟩) | cases h
theorem isExprS_eq {e : Expr} (h : isExprS s = some e) : ∃ p, s = .Expr e p := by unfold isExprS at h; split at h <;> first | (cases h; exact ⟨_, rfl⟩) | cases h
theorem isIf_eq {c : Expr} {a b : List Stmt} (h : isIf s = some (c, a, b)) : ∃ p, s = .If c a b p := by unfold isIf at h; split at h <;> first | (cases h; exact ⟨_, rfl⟩) | cases h
theorem isFor_eq {t it : Expr} {b : List Stmt} (h : isFor s = some (t, it, b)) : ∃ p, s = .For t it b [] p := by unfold isFor at h; split at h <;> first | (cases h; exact ⟨_, rfl⟩) | cases h
theorem isWhile_eq {c : Expr} {b : List Stmt} (h : isWhile s = some (c, b)) : ∃ p, s = .While c b [] p := by unfold isWhile at h; split at h <;> first | (cases h; exact ⟨_, rfl⟩) | cases h
theorem isRet_eq {e : Expr} (h : isRet s = some e) : ∃ p, s = .Return (some e) p := by unfold isRet at h; split at h <;> first | (cases h; exact ⟨_, rfl⟩) | cases h
theorem isRetN_eq (h : isRetN s = true) : ∃ p, s = .Return none p := by unfold isRetN at h; split at h <;> first | exact ⟨_, rfl⟩ | cases h
theorem isPass_eq (h : isPass s = true) : ∃ p, s = .Pass p := by unfold isPass at h; split at h <;> first | exact ⟨_, rfl⟩ | cases h
theorem isBrk_eq (h : isBrk s = true) : ∃ p, s = .Break p := by unfold isBrk at h; split at h <;> first | exact ⟨_, rfl⟩ | cases h
theorem isCnt_eq (h : isCnt s = true) : ∃ p, s = .Continue p := by unfold isCnt at h; split at h <;> first | exact ⟨_, rfl⟩ | cases h
end
def isC : E → Bool | .comp .. => true | _ => false
mutual
def chkS (C : Cfg) (ns : Names) : S → Stmt → Bool
  | .asg i e, st => match isAsg st with
    | some (t, pe) => (match isName t with | some x => decide (C.N[i]? = some x) && locB ns x | none => false) && ((notLc pe || isC e) && chkE C ns e pe)
    | none => false
  | .sto o i e, st => match isAsg st with
    | some (t, pe) => (match isSub t with | some (p, q) => notSlice q && (chkE C ns o p && chkE C ns i q) | none => false) && (notLc pe && chkE C ns e pe)
    | none => false
  | .expr e, st => match isExprS st with | some pe => notLc pe && chkE C ns e pe | none => false
  | .ite c a b, st => match isIf st with | some (pc, pa, pb) => chkE C ns c pc && (chkSs C ns a pa && chkSs C ns b pb) | none => false
  | .forr i it b, st => match isFor st with
    | some (t, pit, pb) => (match isName t with | some x => decide (C.N[i]? = some x) && locB ns x | none => false) && (notSet pit && (chkE C ns it pit && chkSs C ns b pb))
    | none => false
  | .whil _ c b, st => match isWhile st with | some (pc, pb) => chkE C ns c pc && chkSs C ns b pb | none => false
  | .ret e, st => match isRet st with | some pe => chkE C ns e pe | none => false
  | .retn, st => isRetN st
  | .pass, st => isPass st
  | .brk, st => isBrk st
  | .cnt, st => isCnt st
  | .never, _ => true
def chkSs (C : Cfg) (ns : Names) : Ss → List Stmt → Bool
  | .nil, [] => true
  | .cons s r, p :: ps => chkS C ns s p && chkSs C ns r ps
  | _, _ => false
end

/-! ### what is wanted behind a statement -/
def RPS (Y : Fx) (F : Hp) (μ : Nat → Addr) (st : Store) (H : Hp) (r : RS) (D : Ends) (W : WX) : Prop := match r with
  | .next env' st' => ∀ F' μ' H' σ', Ext F μ st H F' μ' st' H' → Good Y.K F' μ' st' H' → EnvOk Y.K F' μ' st'.length env' σ' → D.nx σ' H'
  | .brk env' st' => ∀ F' μ' H' σ', Ext F μ st H F' μ' st' H' → Good Y.K F' μ' st' H' → EnvOk Y.K F' μ' st'.length env' σ' → D.bk σ' H'
  | .cnt env' st' => ∀ F' μ' H' σ', Ext F μ st H F' μ' st' H' → Good Y.K F' μ' st' H' → EnvOk Y.K F' μ' st'.length env' σ' → D.ct σ' H'
  | .ret v st' => ∀ F' μ' H' w, Ext F μ st H F' μ' st' H' → Good Y.K F' μ' st' H' → RepV Y.K F' μ' st'.length v w → D.rt w H'
  | .exn c fs env' st' => ∀ F' μ' H' σ' cls d, Ext F μ st H F' μ' st' H' → Good Y.K F' μ' st' H' → EnvOk Y.K F' μ' st'.length env' σ' → ExnOk Y.K Y.mg Y.Xn F' μ' st'.length H' c fs cls d → W cls d σ' H'
  | .stuck => False
section
variable {Y : Fx} {F F1 H H1 : Hp} {μ μ1 : Nat → Addr} {st st1 : Store} {r : RS} {D D' : Ends} {W : WX} {env : Env} {σ : L2.St}
theorem RPS.ext (e : Ext F μ st H F1 μ1 st1 H1) (h : RPS Y F μ st H r D W) : RPS Y F1 μ1 st1 H1 r D W := by
  cases r with
  | next env' st' => exact fun F' μ' H' σ' e' g n => h F' μ' H' σ' (e.trans e') g n
  | brk env' st' => exact fun F' μ' H' σ' e' g n => h F' μ' H' σ' (e.trans e') g n
  | cnt env' st' => exact fun F' μ' H' σ' e' g n => h F' μ' H' σ' (e.trans e') g n
  | ret v st' => exact fun F' μ' H' w e' g n => h F' μ' H' w (e.trans e') g n
  | exn c fs env' st' => exact fun F' μ' H' σ' cls d e' g n x => h F' μ' H' σ' cls d (e.trans e') g n x
  | stuck => exact h
/-- an expression in a statement -/
theorem RPS.go {α : Type} {r : R (α × Store)} {f : α × Store → RS} (en : EnvOk Y.K F μ st.length env σ) (h : RPS Y F μ st H (r.st env f) D W) :
    RP Y F μ st H r (fun F' μ' H' a st' => EnvOk Y.K F' μ' st'.length env σ ∧ RPS Y F' μ' st' H' (f (a, st')) D W) (at_ W σ) := by
  cases r with
  | ok p => exact fun F' μ' H' e' g => ⟨e'.env en, RPS.ext e' h⟩
  | exn c fs s => exact fun F' μ' H' cls d e g x => h F' μ' H' σ cls d e g (e.env en) x
  | stuck => exact h
def tS (Y : Fx) (Φ : Tab) (G : Str → Option Val) (W : WX) (s : S) : TS := fun D σ H => ∃ F μ st env, Good Y.K F μ st H ∧ EnvOk Y.K F μ st.length env σ ∧ RPS Y F μ st H (evS Φ G s env st) D W
def tSs (Y : Fx) (Φ : Tab) (G : Str → Option Val) (W : WX) (s : Ss) : TS := fun D σ H => ∃ F μ st env, Good Y.K F μ st H ∧ EnvOk Y.K F μ st.length env σ ∧ RPS Y F μ st H (evSs Φ G s env st) D W
end
section
variable {X : Cx}
theorem PSimp {s : Stmt} {t t' : TS} (h : PS X s t) (i : ∀ D σ H, t' D σ H → t D σ H) : PS X s t' := ⟨fun pins s σ H D I q => h.run pins s σ H D I (i D σ H q)⟩
theorem PSsimp {s : List Stmt} {t t' : TS} (h : PSs X s t) (i : ∀ D σ H, t' D σ H → t D σ H) : PSs X s t' := ⟨fun pins s σ H D I q => h.run pins s σ H D I (i D σ H q)⟩
end
/-- the frame of a body -/
structure SCtx (X : Cx) : Prop where
  fnt : ∀ x, X.fn x = true
  pass : PassesOwn (model X.prog X.w) X.A X.env X.xe

section
variable {Y : Fx} {Φ : Tab} {G : Str → Option Val} {C : Cfg} {k : Nat} {X : Cx} {ns : Names} {W : WX}
/-- each piece, in a statement -/
theorem goSE {a : E} {f : Val × Store → RS} {F H : Hp} {μ : Nat → Addr} {st : Store} {env : Env} {σ : L2.St} {D : Ends} {Q : VK} (g : Good Y.K F μ st H) (en : EnvOk Y.K F μ st.length env σ) (h : RPS Y F μ st H (((ev Φ G a).v env st).st env f) D W)
    (n : ∀ F1 μ1 H1 x st1 w, Ext F μ st H F1 μ1 st1 H1 → Good Y.K F1 μ1 st1 H1 → EnvOk Y.K F1 μ1 st1.length env σ → RepV Y.K F1 μ1 st1.length x w → RPS Y F1 μ1 st1 H1 (f (x, st1)) D W → Q w H1) : tE Y Φ G W a σ H Q :=
  ⟨F, μ, st, env, g, en, (RPS.go en h).impE fun F1 μ1 H1 x st1 _ e1 g1 h1 w r => n F1 μ1 H1 x st1 w e1 g1 h1.1 r h1.2⟩
theorem goST {a : E} {f : Bool × Store → RS} {F H : Hp} {μ : Nat → Addr} {st : Store} {env : Env} {σ : L2.St} {D : Ends} {Q : Bool → Hp → Prop} (g : Good Y.K F μ st H) (en : EnvOk Y.K F μ st.length env σ) (h : RPS Y F μ st H (((ev Φ G a).t env st).st env f) D W)
    (n : ∀ F1 μ1 H1 x st1, Ext F μ st H F1 μ1 st1 H1 → Good Y.K F1 μ1 st1 H1 → EnvOk Y.K F1 μ1 st1.length env σ → RPS Y F1 μ1 st1 H1 (f (x, st1)) D W → Q x H1) : tT Y Φ G W a σ H Q :=
  ⟨F, μ, st, env, g, en, (RPS.go en h).impE fun F1 μ1 H1 x st1 _ e1 g1 h1 => n F1 μ1 H1 x st1 e1 g1 h1.1 h1.2⟩
structure SndS (Y : Fx) (Φ : Tab) (G : Str → Option Val) (C : Cfg) (k : Nat) (s : S) : Prop where
  ps : ∀ {X : Cx} {ns : Names} {W : WX} {p : Stmt}, Ctx X Y Φ G C ns k → SCtx X → Takes X W → chkS C ns s p = true → PS X p (tS Y Φ G W s)
structure SndSs (Y : Fx) (Φ : Tab) (G : Str → Option Val) (C : Cfg) (k : Nat) (s : Ss) : Prop where
  ps : ∀ {X : Cx} {ns : Names} {W : WX} {p : List Stmt}, Ctx X Y Φ G C ns k → SCtx X → Takes X W → chkSs C ns s p = true → PSs X p (tSs Y Φ G W s)

theorem loc_ok (c : Ctx X Y Φ G C ns k) {x : Str} (h : locB ns x = true) : L2.Loc X.env.scope x := by
  unfold locB at h
  unfold L2.Loc
  rw [c.sc]
  split at h
  · rename_i e; exact .inl e
  · rename_i e; exact .inr e
  · cases h
theorem sw_some (pe : Expr) (x : Str) (p : Pos) (l : Nat) (env : PySem.Env) : ∃ b, swapsWith pe (some (.Name x p)) l env = pure b ∧ (b = true → env.kindOf x = some .local) := by
  have key : ∀ (z w : Bool), (z && (env.kindOf x == some .local) && w) = true → env.kindOf x = some .local := fun z w h => by
    simp only [Bool.and_eq_true, beq_iff_eq] at h; exact h.1.2
  cases pe <;> first
    | exact ⟨false, rfl, fun h => by cases h⟩
    | (refine ⟨_, rfl, fun h => ?_⟩
       simp only [Bool.and_eq_true, beq_iff_eq] at h
       exact h.1.1.2)
theorem asg_red {i : Nat} {e : E} {D : Ends} {σ : L2.St} {H : Hp} (h : tS Y Φ G W (.asg i e) D σ H) : tAsg (tE Y Φ G W e) (gName i) D σ H := by
  obtain ⟨F, μ, st, env, g, en, h⟩ := h
  exact goSE g en h fun F1 μ1 H1 x st1 w e1 g1 en1 r1 hh => hh F1 μ1 H1 _ Ext.refl g1 (en1.set r1 i)
theorem snd_asg (i : Nat) (e : E) : SndS Y Φ G C k (.asg i e) where
  ps := fun {X ns W p} c sc tk q => by
    unfold chkS at q
    split at q
    · rename_i t pe hx
      obtain ⟨pp, rfl⟩ := isAsg_eq hx
      rw [Bool.and_eq_true] at q
      obtain ⟨q1, q2⟩ := q
      split at q1
      · rename_i x hn
        obtain ⟨pn, rfl⟩ := isName_eq hn
        rw [Bool.and_eq_true] at q1 q2
        have hi : X.N[i]? = some x := by rw [c.N]; exact of_decide_eq_true q1.1
        have hloc := loc_ok c q1.2
        obtain ⟨b, hb, hbl⟩ := sw_some pe x pn pp.line X.env
        cases b with
        | false => exact PSimp (ps_set c.nd hi hloc ((sAll e).pe c tk q2.2) hb (.inl (sc.fnt x))) fun D σ H h => asg_red h
        | true =>
          by_cases hlc : notLc pe = true
          · rw [sw_false hlc] at hb
            exact PSimp (ps_set c.nd hi hloc ((sAll e).pe c tk q2.2) (sw_false hlc) (.inl (sc.fnt x))) fun D σ H h => asg_red h
          · have he : isC e = true := by
              have := q2.1
              rw [Bool.or_eq_true] at this
              exact this.resolve_left hlc
            cases e with
            | comp m y it cc elt =>
              obtain ⟨pelt, yn, py, pit, ifs, scp, pp2, rfl, k1, k2, k3, k4, k5, k6, k7⟩ := comp_key q2.2
              have rules := lc_rules (sAll it) (sAll cc) (sAll elt) c tk k1 k2 k3 k5 k6 k7 (py := py)
              exact PSimp (ps_setLc c.calm c.nd hi (hbl rfl) hb rules.1 (blk_ok c k3) rules.2.1 rules.2.2.1 rules.2.2.2 (folded_id k4)) fun D σ H h => by
                have h2 := asg_red h
                exact snd_comp_red c.K h2
            | _ => cases he
      · cases q1
    · cases q
end
end MP
/-! MiniPy: statements, the rest; all of them. -/
namespace MP
open PySem L2 PySem.Spec PyProof.Rows

section
variable {Y : Fx} {Φ : Tab} {G : Str → Option Val} {C : Cfg} {k : Nat} {X : Cx} {ns : Names} {W : WX}
theorem sto_noexn {x k y : Val} {st : Store} : ∀ c fs s, vSto x k y st ≠ .exn c fs s := by
  intro c fs s h
  unfold vSto at h
  repeat' (first | (cases h; done) | split at h)
theorem snd_sto (o i e : E) : SndS Y Φ G C k (.sto o i e) where
  ps := fun {X ns W p} c sc tk q => by
    unfold chkS at q
    split at q
    · rename_i t pe hx
      obtain ⟨pp, rfl⟩ := isAsg_eq hx
      rw [Bool.and_eq_true] at q
      obtain ⟨q1, q2⟩ := q
      split at q1
      · rename_i po pi hs
        obtain ⟨pn, rfl⟩ := isSub_eq hs
        simp only [Bool.and_eq_true] at q1 q2
        obtain ⟨k1, k2, k3⟩ := q1
        refine PSimp (ps_asg ((sAll e).pe c tk q2.2) (pg_sub ((sAll o).pe c tk k2) ((sAll i).pe c tk k3) set_list (sub_assign k1)) (show swapsWith pe (some (.Subscript po pi pn)) pp.line X.env = pure false from sw_false q2.1) rfl rfl) fun D σ H ⟨F, μ, st, env, g, en, h⟩ => ?_
        refine goSE g en h fun F1 μ1 H1 x st1 w e1 g1 en1 r1 hh => ?_
        refine goSE g1 en1 hh fun F2 μ2 H2 y st2 u e2 g2 en2 r2 hh2 => ?_
        refine goSE g2 en2 hh2 fun F3 μ3 H3 z st3 t e3 g3 en3 r3 hh3 => ?_
        change RPS Y F3 μ3 st3 H3 ((vSto y z x st3).st env fun st' => .next env st') D W at hh3
        have r1' := e3.v (e2.v r1)
        have r2' := e3.v r2
        cases y with
        | loc n =>
          cases z with
          | int j =>
            obtain ⟨hw, hn⟩ := r2'
            have et : t = .int j := r3
            change RPS Y F3 μ3 st3 H3 (R.st (match st3[n]? with | some (.lst xs) => (match ixN xs.length j with | some m => .ok (st3.set n (.lst (xs.set m x))) | none => .stuck) | _ => .stuck) env fun st' => .next env st') D W at hh3
            split at hh3
            · rename_i xs hy
              split at hh3
              · rename_i m hm
                obtain ⟨hF, ws, h4, h5⟩ := g3.st.cell n _ hy
                refine ⟨μ3 n, ws, j, m, hw, et, h4, by rw [h5.len]; exact hm, ?_⟩
                obtain ⟨g4, e4⟩ := g3.write hy rfl (c' := .lst (xs.set m x)) rfl (o := .lst (ws.set m w)) ⟨hF, _, upd_same, h5.set r1' m⟩
                exact hh3 _ _ _ σ e4 g4 (e4.env en3)
              · exact False.elim hh3
            · exact False.elim hh3
          | _ => exact False.elim hh3
        | _ => exact False.elim hh3
      · cases q1
    · cases q
theorem snd_expr (e : E) : SndS Y Φ G C k (.expr e) where
  ps := fun {X ns W p} c sc tk q => by
    unfold chkS at q
    split at q
    · rename_i pe hx
      obtain ⟨pp, rfl⟩ := isExprS_eq hx
      rw [Bool.and_eq_true] at q
      refine PSimp (ps_expr ((sAll e).pe c tk q.2) (sw_false q.1)) fun D σ H ⟨F, μ, st, env, g, en, h⟩ => ?_
      exact goSE g en h fun F1 μ1 H1 x st1 w e1 g1 en1 r1 hh => hh _ _ _ σ Ext.refl g1 en1
    · cases q
theorem snd_ret (e : E) : SndS Y Φ G C k (.ret e) where
  ps := fun {X ns W p} c sc tk q => by
    unfold chkS at q
    split at q
    · rename_i pe hx
      obtain ⟨pp, rfl⟩ := isRet_eq hx
      refine PSimp (ps_ret ((sAll e).pe c tk q)) fun D σ H ⟨F, μ, st, env, g, en, h⟩ => ?_
      exact goSE g en h fun F1 μ1 H1 x st1 w e1 g1 en1 r1 hh => hh _ _ _ w Ext.refl g1 r1
    · cases q
theorem snd_retn : SndS Y Φ G C k .retn where
  ps := fun {X ns W p} c sc tk q => by
    obtain ⟨pp, rfl⟩ := isRetN_eq q
    exact PSimp ps_retN fun D σ H ⟨F, μ, st, env, g, en, h⟩ => h _ _ _ .non Ext.refl g rfl
theorem snd_pass : SndS Y Φ G C k .pass where
  ps := fun {X ns W p} c sc tk q => by
    obtain ⟨pp, rfl⟩ := isPass_eq q
    exact PSimp ps_pass fun D σ H ⟨F, μ, st, env, g, en, h⟩ => h _ _ _ σ Ext.refl g en
theorem snd_brk : SndS Y Φ G C k .brk where
  ps := fun {X ns W p} c sc tk q => by
    obtain ⟨pp, rfl⟩ := isBrk_eq q
    exact PSimp ps_break fun D σ H ⟨F, μ, st, env, g, en, h⟩ => h _ _ _ σ Ext.refl g en
theorem snd_cnt : SndS Y Φ G C k .cnt where
  ps := fun {X ns W p} c sc tk q => by
    obtain ⟨pp, rfl⟩ := isCnt_eq q
    exact PSimp ps_continue fun D σ H ⟨F, μ, st, env, g, en, h⟩ => h _ _ _ σ Ext.refl g en
theorem snd_never : SndS Y Φ G C k .never where
  ps := fun {X ns W p} c sc tk q => ⟨fun pins s σ H D I ⟨F, μ, st, env, g, en, h⟩ => False.elim h⟩
theorem snd_ite {d : E} {a b : Ss} (sa : SndSs Y Φ G C k a) (sb : SndSs Y Φ G C k b) : SndS Y Φ G C k (.ite d a b) where
  ps := fun {X ns W p} c sc tk q => by
    unfold chkS at q
    split at q
    · rename_i pc pa pb hx
      obtain ⟨pp, rfl⟩ := isIf_eq hx
      simp only [Bool.and_eq_true] at q
      obtain ⟨q1, q2, q3⟩ := q
      refine PSimp (ps_if ((sAll d).pt c tk q1) (sa.ps c sc tk q2) (sb.ps c sc tk q3)) fun D σ H ⟨F, μ, st, env, g, en, h⟩ => ?_
      have h : RPS Y F μ st H (((ev Φ G d).t env st).st env fun p => if p.1 then evSs Φ G a env p.2 else evSs Φ G b env p.2) D W := by simpa only [evS] using h
      refine goST g en h fun F1 μ1 H1 x st1 e1 g1 en1 hh => ?_
      cases x with
      | true => rw [if_pos rfl]; exact ⟨F1, μ1, st1, env, g1, en1, hh⟩
      | false => rw [if_neg Bool.false_ne_true]; exact ⟨F1, μ1, st1, env, g1, en1, hh⟩
    · cases q
theorem snd_for {i : Nat} {it : E} {b : Ss} (sb : SndSs Y Φ G C k b) : SndS Y Φ G C k (.forr i it b) where
  ps := fun {X ns W p} c sc tk q => by
    unfold chkS at q
    split at q
    · rename_i t pit pb hx
      obtain ⟨pp, rfl⟩ := isFor_eq hx
      simp only [Bool.and_eq_true] at q
      obtain ⟨q1, q2, q3, q4⟩ := q
      split at q1
      · rename_i x hn
        obtain ⟨pn, rfl⟩ := isName_eq hn
        rw [Bool.and_eq_true] at q1
        have hi : X.N[i]? = some x := by rw [c.N]; exact of_decide_eq_true q1.1
        have hloc := loc_ok c q1.2
        refine PSimp (ps_for sc.pass c.calm ((sAll it).pi (.Name x pn) c tk q3) (pg_name c.nd hi hloc (.inl (sc.fnt x))) (sb.ps c sc tk q4) (folded_id q2)) fun D σ H ⟨F, μ, st, env, g, en, h⟩ => ?_
        have h : RPS Y F μ st H (((ev Φ G it).i env st).st env fun p => forL i (evSs Φ G b) p.1 env p.2) D W := by simpa only [evS] using h
        refine ⟨F, μ, st, env, g, en, (RPS.go en h).impE fun F1 μ1 H1 xs st1 er e1 g1 ⟨en1, h1⟩ J us rL wj => ?_⟩
        refine for_walk wj (fun j σ' H' => ∃ Fj μj stj envj, Ext F1 μ1 st1 H1 Fj μj stj H' ∧ Good Y.K Fj μj stj H' ∧ EnvOk Y.K Fj μj stj.length envj σ' ∧ RPS Y Fj μj stj H' (forL i (evSs Φ G b) (xs.drop j) envj stj) D W) ?_ ?_ ?_ ?_
        · exact ⟨F1, μ1, st1, env, Ext.refl, g1, en1, h1⟩
        · rintro j σ' H' ⟨Fj, μj, stj, envj, ej, gj, _, _⟩
          exact ej.same.trans gj.same
        · rintro j w σ' H' hw ⟨Fj, μj, stj, envj, ej, gj, enj, hj⟩
          obtain ⟨v, hv, rv⟩ := rL.getV hw
          obtain ⟨hlt, hvi⟩ := List.getElem?_eq_some_iff.mp hv
          rw [List.drop_eq_getElem_cons hlt, hvi] at hj
          refine ⟨Fj, μj, stj, envj.set i (some v), gj, enj.set (ej.v rv) i, ?_⟩
          simp only [forL] at hj
          cases hr : evSs Φ G b (envj.set i (some v)) stj with
          | next env' st' => rw [hr] at hj; exact fun F2 μ2 H2 σ2 e2 g2 en2 => ⟨F2, μ2, st', env', ej.trans e2, g2, en2, RPS.ext e2 hj⟩
          | cnt env' st' => rw [hr] at hj; exact fun F2 μ2 H2 σ2 e2 g2 en2 => ⟨F2, μ2, st', env', ej.trans e2, g2, en2, RPS.ext e2 hj⟩
          | brk env' st' => rw [hr] at hj; exact hj
          | ret v' st' => rw [hr] at hj; exact hj
          | exn c' fs env' st' => rw [hr] at hj; exact hj
          | stuck => rw [hr] at hj; exact False.elim hj
        · rintro σ' H' ⟨Fj, μj, stj, envj, ej, gj, enj, hj⟩
          rw [rL.len, List.drop_length] at hj
          exact hj _ _ _ σ' Ext.refl gj enj
      · cases q1
    · cases q
theorem snd_while {n : Nat} {d : E} {b : Ss} (sb : SndSs Y Φ G C k b) : SndS Y Φ G C k (.whil n d b) where
  ps := fun {X ns W p} c sc tk q => by
    unfold chkS at q
    split at q
    · rename_i pc pb hx
      obtain ⟨pp, rfl⟩ := isWhile_eq hx
      simp only [Bool.and_eq_true] at q
      obtain ⟨q1, q2⟩ := q
      refine PSimp (ps_while sc.pass ((sAll d).pt c tk q1) (sb.ps c sc tk q2)) fun D σ H ⟨F, μ, st, env, g, en, h⟩ => ?_
      have h : RPS Y F μ st H (whileL (ev Φ G d).t (evSs Φ G b) n env st) D W := by simpa only [evS] using h
      refine ⟨fun m σ' H' => ∃ Fj μj stj envj, Good Y.K Fj μj stj H' ∧ EnvOk Y.K Fj μj stj.length envj σ' ∧ RPS Y Fj μj stj H' (whileL (ev Φ G d).t (evSs Φ G b) m envj stj) D W, ⟨n, F, μ, st, env, g, en, h⟩, ?_⟩
      rintro m σ' H' ⟨Fj, μj, stj, envj, gj, enj, hj⟩
      cases m with
      | zero => exact False.elim hj
      | succ m =>
        simp only [whileL] at hj
        refine goST gj enj hj fun F1 μ1 H1 x st1 e1 g1 en1 hh => ?_
        cases x with
        | true =>
          rw [if_pos rfl] at hh ⊢
          refine ⟨fun σ2 H2 => ∃ Fj μj stj envj, Good Y.K Fj μj stj H2 ∧ EnvOk Y.K Fj μj stj.length envj σ2 ∧ RPS Y Fj μj stj H2 (whileL (ev Φ G d).t (evSs Φ G b) m envj stj) D W, fun σ2 H2 h2 => ⟨m, Nat.lt_succ_self m, h2⟩, F1, μ1, st1, envj, g1, en1, ?_⟩
          cases hr : evSs Φ G b envj st1 with
          | next env' st' => rw [hr] at hh; exact fun F2 μ2 H2 σ2 e2 g2 en2 => ⟨F2, μ2, st', env', g2, en2, RPS.ext e2 hh⟩
          | cnt env' st' => rw [hr] at hh; exact fun F2 μ2 H2 σ2 e2 g2 en2 => ⟨F2, μ2, st', env', g2, en2, RPS.ext e2 hh⟩
          | brk env' st' => rw [hr] at hh; exact hh
          | ret v' st' => rw [hr] at hh; exact hh
          | exn c' fs env' st' => rw [hr] at hh; exact hh
          | stuck => rw [hr] at hh; exact False.elim hh
        | false =>
          rw [if_neg Bool.false_ne_true] at hh ⊢
          exact hh _ _ _ σ' Ext.refl g1 en1
    · cases q
theorem sndS_nil : SndSs Y Φ G C k .nil where
  ps := fun {X ns W p} c sc tk q => by
    cases p with
    | nil =>
      refine PSsimp pss_nil fun D σ H ⟨F, μ, st, env, g, en, h⟩ => ?_
      have h : RPS Y F μ st H (.next env st) D W := by simpa only [evSs] using h
      exact h _ _ _ σ Ext.refl g en
    | cons a b => cases q
theorem sndS_cons {s : S} {r : Ss} (h1 : SndS Y Φ G C k s) (h2 : SndSs Y Φ G C k r) : SndSs Y Φ G C k (.cons s r) where
  ps := fun {X ns W p} c sc tk q => by
    cases p with
    | nil => cases q
    | cons a b =>
      have q' : (chkS C ns s a && chkSs C ns r b) = true := q
      rw [Bool.and_eq_true] at q'
      refine PSsimp (pss_cons (h1.ps c sc tk q'.1) (h2.ps c sc tk q'.2)) fun D σ H ⟨F, μ, st, env, g, en, h⟩ => ?_
      have h : RPS Y F μ st H ((evS Φ G s env st).bind (evSs Φ G r)) D W := by simpa only [evSs] using h
      refine ⟨F, μ, st, env, g, en, ?_⟩
      cases hr : evS Φ G s env st with
      | next env' st' => rw [hr] at h; exact fun F2 μ2 H2 σ2 e2 g2 en2 => ⟨F2, μ2, st', env', g2, en2, RPS.ext e2 h⟩
      | cnt env' st' => rw [hr] at h; exact h
      | brk env' st' => rw [hr] at h; exact h
      | ret v' st' => rw [hr] at h; exact h
      | exn c' fs env' st' => rw [hr] at h; exact h
      | stuck => rw [hr] at h; exact False.elim h
mutual
theorem tAll : ∀ s : S, SndS Y Φ G C k s
  | .asg i e => snd_asg i e
  | .sto o i e => snd_sto o i e
  | .expr e => snd_expr e
  | .ite c a b => snd_ite (tAlls a) (tAlls b)
  | .forr i it b => snd_for (tAlls b)
  | .whil n c b => snd_while (tAlls b)
  | .ret e => snd_ret e
  | .retn => snd_retn
  | .pass => snd_pass
  | .brk => snd_brk
  | .cnt => snd_cnt
  | .never => snd_never
theorem tAlls : ∀ s : Ss, SndSs Y Φ G C k s
  | .nil => sndS_nil
  | .cons s r => sndS_cons (tAll s) (tAlls r)
end
end
end MP
/-! MiniPy: defs. -/
namespace MP
open PySem L2 PySem.Spec PyProof.Rows

structure Def where
  x : Str
  st : Stmt
  ps : List Str
  N : List Str
  lv : Nat
  fs : List Str
  body : Ss
  m : Mir

def realM (Φ : Tab) (G : Str → Option Val) (np n : Nat) (body : Ss) : Mir := fun args st => if args.length = np then runB Φ G n body args st else .stuck
/-- m tells no more than the real thing does -/
def Meets (Y : Fx) (m real : Mir) : Prop := ∀ F μ st H args vs (Q : VK) (W : XK), Good Y.K F μ st H → RepL Y.K F μ st.length args vs → RP Y F μ st H (m args st) (kV Y Q) W → RP Y F μ st H (real args st) (kV Y Q) W
theorem Meets.refl {Y : Fx} {m : Mir} : Meets Y m m := fun _ _ _ _ _ _ _ _ _ _ h => h
def scopeB (N ps : List Str) (sc : Scope) : Bool :=
  (match sc.kind with | .function => true | _ => false) && (!sc.isCoroutine && (!sc.isGenerator && (decide N.Nodup && (decide (N.take ps.length = ps) && ((ps.all fun x => match sc.names.lookup x with | some .local => true | some .cell => true | _ => false) && (sc.names.all fun y => match y.2 with | .free => false | _ => true))))))
theorem scope_ok {N ps : List Str} {sc : Scope} (h : scopeB N ps sc = true) : FnScope N ps sc := by
  unfold scopeB at h
  simp only [Bool.and_eq_true, decide_eq_true_eq, List.all_eq_true] at h
  obtain ⟨h1, h2, h3, h4, h5, h6, h7⟩ := h
  refine ⟨?_, by simpa using h2, by simpa using h3, h4, h5, fun x hx => ?_, fun y hy e => ?_⟩
  · split at h1
    · assumption
    · cases h1
  · have q := h6 x hx
    split at q
    · rename_i e; exact .inl e
    · rename_i e; exact .inr e
    · cases q
  · have q := h7 y hy
    rw [e] at q; cases q
/-- the table's check of one def, by the kernel -/
def defB (tab : List (Str × Nat)) (bs : List Str) (d : Def) : Bool :=
  scopeB d.N d.ps (defScope d.st) && (chkSs ⟨d.N, d.fs, bs⟩ (defScope d.st).names d.body (defBody d.st) && d.fs.all fun f => match tab.lookup f with | some l => decide (l < d.lv) | none => false)

/-- what the top has made of a def -/
def Stands (K : PySem.W.Frag) (mg : Str → Option Value) (d : Def) : Prop := ∃ f fd, Fun K d.x d.x d.st f fd ∧ Binds K fd d.ps [] ∧ mg d.x = some (.ref f)

theorem runB_ps {Y : Fx} {Φ : Tab} {G : Str → Option Val} {n : Nat} {body : Ss} {F : Hp} {μ : Nat → Addr} {st : Store} {H : Hp} {args : List Val} {Q : VK} {E : XK} (h : RP Y F μ st H (runB Φ G n body args st) (kV Y Q) E) :
    RPS Y F μ st H (evSs Φ G body (args.map some ++ List.replicate (n - args.length) none) st) { nx := fun _ H' => Q .non H', rt := Q } (fun c d _ H => E c d H) := by
  unfold runB at h
  cases hr : evSs Φ G body (args.map some ++ List.replicate (n - args.length) none) st with
  | next env' st' => rw [hr] at h; exact fun F' μ' H' σ' e g n => h F' μ' H' e g _ rfl
  | ret v st' => rw [hr] at h; exact fun F' μ' H' w e g r => h F' μ' H' e g w r
  | exn c fs env' st' => rw [hr] at h; exact fun F' μ' H' σ' cls d e g n x => h F' μ' H' cls d e g x
  | brk _ _ => rw [hr] at h; exact False.elim h
  | cnt _ _ => rw [hr] at h; exact False.elim h
  | stuck => rw [hr] at h; exact False.elim h
theorem env_start {K : PySem.W.Frag} {F : Hp} {μ : Nat → Addr} {m : Nat} {args : List Val} {vs : List V} {N : List Str} (r : RepL K F μ m args vs) :
    EnvOk K F μ m (args.map some ++ List.replicate (N.length - args.length) none) (L2.start N vs) := by
  unfold L2.start
  have hl := r.len
  refine ⟨by simp [hl], fun i x e => ?_⟩
  by_cases hi : i < args.length
  · rw [List.getElem?_append_left (by simpa using hi), List.getElem?_map] at e
    rw [List.getElem?_append_left (by simpa [hl] using hi), List.getElem?_map]
    cases q : args[i]? with
    | none => rw [q] at e; cases e
    | some y =>
      rw [q] at e
      have ey : y = x := by simpa using e
      subst ey
      obtain ⟨v, h1, h2⟩ := r.get q
      exact ⟨v, by rw [h1]; rfl, h2⟩
  · rw [List.getElem?_append_right (by simpa using hi)] at e
    have := List.getElem?_eq_some_iff.mp e
    obtain ⟨h1, h2⟩ := this
    rw [List.getElem_replicate] at h2
    cases h2
section
variable {P : Program} {w : World} {K : PySem.W.Frag} {mg : Str → Option Value} {base : Heap} {Y : Fx}
/-- the program's defs, all of them -/
structure Prg (Y : Fx) (tab : List Def) (Φ : Tab) (G : Str → Option Val) (bs : List Str) : Prop where
  dom : ∀ d ∈ tab, Φ d.x = some d.m
  meets : ∀ d ∈ tab, Meets Y d.m (realM Φ G d.ps.length d.N.length d.body)
  arity : ∀ d ∈ tab, ∀ args st, args.length ≠ d.ps.length → d.m args st = .stuck
  chk : ∀ d ∈ tab, defB (tab.map fun d => (d.x, d.lv)) bs d = true
  stands : ∀ d ∈ tab, Stands Y.K Y.mg d
  gl : ∀ x v, G x = some v → ∃ (w : V) (u : Value), Y.mg x = some u ∧ RelV w u ∧ ∀ F μ n, RepV Y.K F μ n v w
  bt : ∀ x, x ∈ bs → Y.mg x = none
theorem lookup_tab : ∀ {tab : List Def} {f : Str} {l : Nat}, (tab.map fun d => (d.x, d.lv)).lookup f = some l → ∃ d ∈ tab, d.x = f ∧ d.lv = l
  | [], _, _, h => by cases h
  | d :: r, f, l, h => by
    rw [List.map_cons, List.lookup_cons] at h
    split at h
    · rename_i e
      cases h
      exact ⟨d, List.mem_cons_self .., (eq_of_beq e).symm, rfl⟩
    · obtain ⟨d', h1, h2⟩ := lookup_tab h
      exact ⟨d', List.mem_cons_of_mem _ h1, h2⟩
theorem prg_ok {tab : List Def} {Φ : Tab} {G : Str → Option Val} {bs : List Str} (p : Prg Y tab Φ G bs) : ∀ k : Nat, ∀ d ∈ tab, d.lv ≤ k →
    ∀ f fd, Fun Y.K d.x d.x d.st f fd → FnOk P w Y.K Y.mg base (L2.CX P w) (k + 1) f fd d.ps (spOf Y d.ps.length d.m) := by
  intro k
  induction k using Nat.strongRecOn with
  | _ k ih =>
    intro d hd hk f fd hF
    have hc := p.chk d hd
    unfold defB at hc
    simp only [Bool.and_eq_true, List.all_eq_true] at hc
    obtain ⟨hc1, hc2, hc3⟩ := hc
    have S := scope_ok hc1
    refine hF.okX S (fun vs H Q E h => h.1) fun cdv A outer s H vs Q E hr ⟨hl, F, μ, st, args, g, r, h⟩ => ?_
    have hm : RP Y F μ st H (runB Φ G d.N.length d.body args st) (kV Y Q) E := by
      have := p.meets d hd F μ st H args vs Q E g r h
      unfold realM at this
      rw [if_pos (by rw [← r.len]; exact hl)] at this
      exact this
    have c : Ctx (cxOf (L2.CX P w) P w Y.K Y.mg base d.N d.x (defScope d.st) f cdv A outer s H E) Y Φ G ⟨d.N, d.fs, bs⟩ (defScope d.st).names k :=
      { K := rfl, mg := rfl, N := rfl, nd := S.nd, sc := rfl, kind := S.kind, calm := rfl, room := hr
        fn := fun x hx => by
          have q := hc3 x hx
          split at q
          · rename_i l e
            obtain ⟨d', h1, h2, h3⟩ := lookup_tab e
            have hlt : d'.lv < d.lv := by rw [h3]; exact of_decide_eq_true q
            obtain ⟨f', fd', hF', hB', hG'⟩ := p.stands d' h1
            refine ⟨d'.m, f', fd', d'.ps, by rw [← h2]; exact p.dom d' h1, p.arity d' h1, by rw [← h2]; exact hG', hF'.kp, hB', ?_⟩
            have hk0 : 0 < k := Nat.lt_of_lt_of_le (Nat.lt_of_le_of_lt (Nat.zero_le _) hlt) hk
            have := ih (k - 1) (by omega) d' h1 (by omega) f' fd' hF'
            rw [Nat.sub_add_cancel hk0] at this
            exact this
          · cases q
        gl := p.gl
        bt := p.bt }
    have sc : SCtx (cxOf (L2.CX P w) P w Y.K Y.mg base d.N d.x (defScope d.st) f cdv A outer s H E) := ⟨fun _ => rfl, passes_of rfl⟩
    have tk := takes_of (X := cxOf (L2.CX P w) P w Y.K Y.mg base d.N d.x (defScope d.st) f cdv A outer s H E) (E := E) rfl rfl rfl rfl
    exact ⟨_, (tAlls d.body).ps c sc tk hc2, F, μ, st, _, g, env_start r, runB_ps hm⟩
/-- the syntactic way: the same value, the same exception, the store the same up to what is left behind -/
def trim (st : Store) (r : RV) (q : RV) : Prop := match r with
  | .ok (v, s1) => ∃ s2, q = .ok (v, s2) ∧ s1 = s2.take s1.length ∧ st.length ≤ s1.length ∧ closed s1.length v = true ∧ s1.all (closedC s1.length) = true
  | .exn c fs s1 => ∃ s2, q = .exn c fs s2 ∧ s1 = s2.take s1.length ∧ st.length ≤ s1.length ∧ closedL s1.length fs = true ∧ s1.all (closedC s1.length) = true
  | .stuck => True
theorem good_cut {K : PySem.W.Frag} {F H : Hp} {μ : Nat → Addr} {s1 s2 : Store} (e : s1 = s2.take s1.length) (hc : s1.all (closedC s1.length) = true) (g : Good K F μ s2 H) : Good K F μ s1 H := by
  have hl : s1.length ≤ s2.length := by have := congrArg List.length e; rw [List.length_take] at this; omega
  have get : ∀ i c, s1[i]? = some c → s2[i]? = some c := fun i c h => by
    have hi := (List.getElem?_eq_some_iff.mp h).1
    rw [e, List.getElem?_take_of_lt hi] at h; exact h
  refine ⟨g.same, ⟨fun i c h => ?_, fun i j c d h1 h2 l1 l2 q => g.st.inj i j c d (get i c h1) (get j d h2) l1 l2 q⟩⟩
  have ck := g.st.cell i c (get i c h)
  have cc : closedC s1.length c = true := by
    rw [List.all_eq_true] at hc
    exact hc c (List.mem_of_getElem? h)
  cases c with
  | lst xs => obtain ⟨h1, vs, h2, h3⟩ := ck; exact ⟨h1, vs, h2, h3.shut cc⟩
  | frz xs => obtain ⟨vs, h2, h3⟩ := ck; exact ⟨vs, h2, h3.shut cc⟩
  | dk kvs => obtain ⟨h1, vs, h2, h3⟩ := ck; exact ⟨h1, vs, h2, h3.shut cc⟩
  | dead => trivial
theorem ext_cut {F F' H H' : Hp} {μ μ' : Nat → Addr} {st s1 s2 : Store} (e : s1 = s2.take s1.length) (hl : st.length ≤ s1.length) (x : Ext F μ st H F' μ' s2 H') : Ext F μ st H F' μ' s1 H' := by
  refine ⟨x.same, x.mu, hl, x.frm, fun i c h l => ?_, x.dom, x.fz⟩
  have hi := (List.getElem?_eq_some_iff.mp h).1
  rw [e, List.getElem?_take_of_lt hi] at h
  exact x.new i c h l
theorem meets_of {m real : Mir} (h : ∀ args st, closedL st.length args = true → st.all (closedC st.length) = true → m args st ≠ .stuck → trim st (m args st) (real args st)) : Meets Y m real := fun F μ st H args vs Q W g r hr => by
  have hst : st.all (closedC st.length) = true := by
    rw [List.all_eq_true]
    intro c hc
    obtain ⟨i, hi⟩ := List.getElem?_of_mem hc
    have ck := g.st.cell i c hi
    cases c with
    | lst xs => obtain ⟨h1, vs, h2, h3⟩ := ck; exact h3.closed
    | frz xs => obtain ⟨vs, h2, h3⟩ := ck; exact h3.closed
    | dk kvs => obtain ⟨h1, vs, h2, h3⟩ := ck; exact h3.closed
    | dead => rfl
  have hns : m args st ≠ .stuck := fun e => by rw [e] at hr; exact hr
  have t := h args st r.closed hst hns
  cases hm : m args st with
  | ok p =>
    obtain ⟨v, s1⟩ := p
    rw [hm] at t hr
    obtain ⟨s2, e2, e3, e4, e5, e6⟩ := t
    rw [e2]
    exact fun F' μ' H' ex g' w rw' => hr F' μ' H' (ext_cut e3 e4 ex) (good_cut e3 e6 g') w (rw'.shut e5)
  | exn c fs s1 =>
    rw [hm] at t hr
    obtain ⟨s2, e2, e3, e4, e5, e6⟩ := t
    rw [e2]
    exact fun F' μ' H' cls d ex g' ⟨x1, dd, ns, vs, x2, x3, x4, x5⟩ => hr F' μ' H' cls d (ext_cut e3 e4 ex) (good_cut e3 e6 g') ⟨x1, dd, ns, vs, x2, x3, x4, x5.shut e5⟩
  | stuck => exact absurd hm hns
end
end MP
/-! MiniPy: from the table to the law. -/
namespace MP
open PySem L2 PySem.Spec PyProof.Rows

theorem stand_mk {K : PySem.W.Frag} {h : Heap} {mg : Str → Option Value} (X : K.In h) (G : h.Ns mainGlobals mg) (d : Def) {f : Addr} {oc : Value} {od an : Option Addr} {osl : Array (Option Value)} {kV doc pm cdv ct : Value}
    (a : PySem.W.nsIn K mainGlobals d.x = some (some (.ref f)))
    (l : K.lookup f = some ⟨oc, od, .func (PySem.W.fnOf d.x d.x (defArgs d.st) (defBody d.st) (defScope d.st) .none kV doc pm an cdv ct), osl⟩)
    (c : PySem.W.codeIn K cdv d.x = true) (k : PySem.W.keepIn K (.ref f) = true)
    (hb : ∀ (kV doc pm : Value) (an : Option Addr) (cdv ct : Value) (us : List Value), us.length = d.ps.length → bindArgs (PySem.W.fnOf d.x d.x (defArgs d.st) (defBody d.st) (defScope d.st) .none kV doc pm an cdv ct) ⟨us, []⟩ = pure (d.ps.zip us)) : Stands K mg d :=
  ⟨f, _, fun_mk l c k, (fun_mk l c k).binds hb, PySem.W.mg_of X G a⟩

/-- the promise of a law -/
def spLaw (K : PySem.W.Frag) : Sp := fun vs H Q _ => ∃ (a : Addr) (ns : List Int), vs = [.ref a] ∧ SqL K H a (ns.map V.int) ∧ ns.length ≤ 63 ∧ (∀ z ∈ ns, Builtin.Int.intBits z ≤ 1048576) ∧ ∀ H', Q (.bl true) H'
theorem law_fn {P : Program} {w : World} {base : Heap} {Y : Fx} {tab : List Def} {Φ : Tab} {G : Str → Option Val} {bs : List Str} (p : Prg Y tab Φ G bs) {d : Def} (hd : d ∈ tab) (hl : d.lv ≤ 40) (hps : d.ps = [("script" : Str)])
    (law : ∀ ns : List Int, ns.length ≤ 63 → (∀ z ∈ ns, Builtin.Int.intBits z ≤ 1048576) → ∃ st', d.m [.scr (ns.map .int)] [] = .ok (.bl true, st')) {f : Addr} {fd : FuncData} (hF : Fun Y.K d.x d.x d.st f fd) :
    FnOk P w Y.K Y.mg base (L2.CX P w) 41 f fd [("script" : Str)] (spLaw Y.K) := by
  have h := prg_ok (P := P) (w := w) (base := base) p 40 d hd hl f fd hF
  rw [hps] at h
  refine h.imp fun vs H Q E ⟨a, ns, e, hS, h1, h2, q⟩ => ⟨by rw [e]; rfl, H, fun _ => (0 : Nat), [], [.scr (ns.map .int)], ⟨Same.refl _, ⟨fun i c hc => by simp at hc, fun i j c d' h1 => by simp at h1⟩⟩, ?_, ?_⟩
  · rw [e]
    exact ⟨_, [], rfl, ⟨a, ns.map V.int, rfl, hS, repL_ints ns⟩, rfl⟩
  · obtain ⟨st', hst⟩ := law ns h1 h2
    rw [hst]
    intro F' μ' H' _ _ v hv
    have ev : v = .bl true := hv
    rw [ev]; exact q H'
theorem walk_mp {l : PySem.W.OpenLaw} {q : Program} {loose : List Str} {XP : (Str → Option Value) → Heap → Prop} {YP : World → Heap → Prop} {d : DefRec} {K : Params → PySem.W.Frag} (hn : l.most = some 63) (hdf : d.params.defaults = [])
    (hY : ∀ (w : World) (h : Heap), YP w h → (K w.params).In h)
    (F : ∀ (w : World) (mg : Str → Option Value) (fa : Addr) (h : Heap), (K w.params).In h → h.Ns mainGlobals mg → mg d.name = some (.ref fa) →
      ∃ fd : FuncData, (∀ (s : Shared) (u : Value), BindsTo s fd ⟨[u], []⟩ [("script", u)]) ∧ ∀ base : Heap, (K w.params).In base → base.Ns mainGlobals mg → FnOk l.prog w (K w.params) mg base (L2.CX l.prog w) 41 fa fd [("script" : Str)] (spLaw (K w.params))) :
    PySem.W.WalkO q loose XP YP l.row.toRowW d [] (fun f vs => PySem.call f vs) :=
  L2.walk_ofB (n := 63) (k := 41) (x := "script") (CX := fun w => L2.CX l.prog w) (sp := fun w => spLaw (K w.params)) hn (by decide) hdf ⟨rfl, by decide, by decide⟩ hY F (fun w H a ns hl hb _ hS => ⟨a, ns, rfl, hS, hl, hb, fun _ => rfl⟩) fun _ _ _ _ _ h => by
    obtain ⟨_, _, _, _, _, _, _, _, _, _, _, _, z⟩ := h
    exact z.elim
end MP
/-! MiniPy: reading texts in plain Lean. -/
namespace MP
open PySem L2

/-- a def that only reads trees -/
def pureM (np : Nat) (f : List Val → Option Val) : Mir := fun args st => if args.length = np then (if closedL 0 args then (match f args with | some v => .ok (v, st) | none => .stuck) else .stuck) else .stuck
theorem pureM_ok {np : Nat} {f : List Val → Option Val} {args : List Val} {st : Store} {v : Val} (h1 : args.length = np) (h2 : closedL 0 args = true) (h3 : f args = some v) : pureM np f args st = .ok (v, st) := by
  unfold pureM; rw [if_pos h1, if_pos h2, h3]
theorem arity_pure {np : Nat} {f : List Val → Option Val} : ∀ args st, args.length ≠ np → pureM np f args st = .stuck := fun args st h => by unfold pureM; rw [if_neg h]
theorem meets_pure {Y : Fx} {np : Nat} {f : List Val → Option Val} {real : Mir} (h : ∀ args st v, args.length = np → closedL 0 args = true → f args = some v → ∃ g, real args st = .ok (v, st ++ g) ∧ closed 0 v = true) : Meets Y (pureM np f) real :=
  meets_of fun args st hc hs hne => by
    by_cases h1 : args.length = np
    · by_cases h2 : closedL 0 args = true
      · cases h3 : f args with
        | some v =>
          obtain ⟨g, h4, h5⟩ := h args st v h1 h2 h3
          rw [pureM_ok h1 h2 h3]
          exact ⟨st ++ g, h4, by simp, Nat.le_refl _, closed_mono (Nat.zero_le _) h5, hs⟩
        | none => exact absurd (by unfold pureM; rw [if_pos h1, if_pos h2, h3]) hne
      · exact absurd (by unfold pureM; rw [if_pos h1, if_neg h2]) hne
    · exact absurd (by unfold pureM; rw [if_neg h1]) hne

/-! loops -/
/-- a walk that may return in its midst -/
inductive Out (β : Type) where | go (b : β) | ret (v : Val) (st : Store)
def foldO {α β : Type} (f : β → α → Out β) : β → List α → Out β
  | b, [] => .go b
  | b, x :: xs => match f b x with | .go b' => foldO f b' xs | r => r
theorem foldO_go {α β : Type} {f : β → α → Out β} {b b' : β} {x : α} {xs : List α} (h : f b x = .go b') : foldO f b (x :: xs) = foldO f b' xs := by simp only [foldO, h]
theorem foldO_ret {α β : Type} {f : β → α → Out β} {b : β} {x : α} {v : Val} {s : Store} {xs : List α} (h : f b x = .ret v s) : foldO f b (x :: xs) = .ret v s := by simp only [foldO, h]
def outS {β : Type} (E : β → Env) (Sg : β → Store) : Out β → RS | .go b => .next (E b) (Sg b) | .ret v st => .ret v st
@[simp] theorem outS_go {β : Type} {E : β → Env} {Sg : β → Store} {b : β} : outS E Sg (.go b) = .next (E b) (Sg b) := rfl
@[simp] theorem outS_ret {β : Type} {E : β → Env} {Sg : β → Store} {v : Val} {st : Store} : outS E Sg (.ret v st) = .ret v st := rfl
/-- the walked name behind a walk -/
def lastV {α : Type} (g : α → Val) : Option Val → List α → Option Val
  | o, [] => o
  | _, x :: xs => lastV g (some (g x)) xs
/-- E: the names, the walked one apart; g: the values walked -/
theorem forL_fold {α β : Type} {i : Nat} {body : Env → Store → RS} (g : α → Val) (E : β → Option Val → Env) (Sg : β → Store) (f : β → α → Out β) (hset : ∀ b o x, (E b o).set i (some x) = E b (some x))
    : ∀ (xs : List α), (∀ b x, x ∈ xs → body (E b (some (g x))) (Sg b) = outS (fun b' => E b' (some (g x))) Sg (f b x)) → ∀ (b : β) (o : Option Val),
      forL i body (xs.map g) (E b o) (Sg b) = outS (fun b' => E b' (lastV g o xs)) Sg (foldO f b xs)
  | [], _, b, o => rfl
  | x :: xs, h, b, o => by
    have hx := h b x (List.mem_cons_self ..)
    simp only [List.map_cons, forL, hset, hx, foldO]
    cases hf : f b x with
    | go b' => exact forL_fold g E Sg f hset xs (fun b x m => h b x (List.mem_cons_of_mem _ m)) b' (some (g x))
    | ret v st => rfl
/-- the same, with what has been walked: P is kept -/
theorem forL_foldP {α β : Type} {i : Nat} {body : Env → Store → RS} (g : α → Val) (E : β → Option Val → Env) (Sg : β → Store) (f : β → α → Out β) (P : β → List α → Prop) (hset : ∀ b o x, (E b o).set i (some x) = E b (some x))
    : ∀ (xs : List α), (∀ b x ys, P b (x :: ys) → body (E b (some (g x))) (Sg b) = outS (fun b' => E b' (some (g x))) Sg (f b x) ∧ ∀ b', f b x = .go b' → P b' ys) → ∀ (b : β) (o : Option Val), P b xs →
      forL i body (xs.map g) (E b o) (Sg b) = outS (fun b' => E b' (lastV g o xs)) Sg (foldO f b xs)
  | [], _, b, o, _ => rfl
  | x :: xs, h, b, o, p => by
    obtain ⟨hx, hp⟩ := h b x xs p
    simp only [List.map_cons, forL, hset, hx, foldO]
    cases hf : f b x with
    | go b' => exact forL_foldP g E Sg f P hset xs h b' (some (g x)) (hp b' hf)
    | ret v st => rfl
/-- the commonest: a test of each -/
theorem foldO_all {α : Type} {p : α → Bool} {v : Val} {st : Store} : ∀ (xs : List α), foldO (fun (_ : Unit) x => if p x then Out.go () else .ret v st) () xs = if xs.all p then .go () else .ret v st
  | [] => rfl
  | x :: xs => by
    by_cases h : p x = true
    · simp [foldO, h, foldO_all xs]
    · simp [foldO, h]
def rangeN (n : Nat) : List Val := (List.range n).map fun (k : Nat) => Val.int k
theorem rangeL_r (n : Nat) : rangeL 0 n = (List.range' 0 n).map fun (k : Nat) => Val.int k := by rw [← List.range_eq_range']; unfold rangeL; simp
theorem rangeL_0 (n : Nat) : rangeL 0 n = (List.range n).map fun (k : Nat) => Val.int k := by unfold rangeL; simp
theorem compL_pure {c : Env → Store → R (Bool × Store)} {e : Env → Store → RV} {x : Nat} {p : Val → Bool} {f : Val → Val} {env : Env} {st : Store} : ∀ {xs : List Val}, (∀ v, v ∈ xs → c (env.set x (some v)) st = .ok (p v, st)) → (∀ v, v ∈ xs → p v = true → e (env.set x (some v)) st = .ok (f v, st)) →
    compL c e x xs env st = .ok ((xs.filter p).map f, st)
  | [], _, _ => rfl
  | v :: vs, hc, he => by
    have ih := compL_pure (c := c) (e := e) (x := x) (env := env) (st := st) (xs := vs) (fun v m => hc v (List.mem_cons_of_mem _ m)) (fun v m => he v (List.mem_cons_of_mem _ m))
    have h1 := hc v (List.mem_cons_self ..)
    simp only [compL, h1, R.bind_ok]
    cases hp : p v with
    | true =>
      have h2 := he v (List.mem_cons_self ..) hp
      simp only [if_true, h2, R.bind_ok, ih, List.filter_cons, hp, List.map_cons]
    | false => simp only [Bool.false_eq_true, if_false, ih, List.filter_cons, hp]

/-! lists of integers -/
def vInts (ns : List Int) : List Val := ns.map .int
theorem asInts_vInts : ∀ ns : List Int, asInts (vInts ns) = some ns
  | [] => rfl
  | n :: ns => by show (asInts (vInts ns)).map _ = _; rw [asInts_vInts ns]; rfl
theorem closed_vInts (m : Nat) : ∀ ns : List Int, closedL m (vInts ns) = true
  | [] => rfl
  | n :: ns => by show (true && closedL m (vInts ns)) = true; rw [closed_vInts m ns]; rfl

/-! comparing -/
/-- can be compared, nested at most k deep -/
def sz (k : Nat) (v : Val) : Bool := (toPD v).canLay0 && decide ((toPD v).depth ≤ k)
theorem sz_mono {j k : Nat} (h : j ≤ k) {v : Val} (q : sz j v = true) : sz k v = true := by
  unfold sz at q ⊢
  rw [Bool.and_eq_true, decide_eq_true_eq] at q ⊢
  exact ⟨q.1, Nat.le_trans q.2 h⟩
theorem sz_all {k : Nat} : ∀ {xs : List Val}, (∀ x ∈ xs, sz k x = true) → PyData.canLayAll0 (toPDs xs) = true ∧ PyData.depthAll (toPDs xs) ≤ k
  | [], _ => ⟨rfl, Nat.zero_le _⟩
  | x :: xs, h => by
    have h1 := h x (List.mem_cons_self ..)
    obtain ⟨h2, h3⟩ := sz_all (k := k) (xs := xs) fun y m => h y (List.mem_cons_of_mem _ m)
    unfold sz at h1
    rw [Bool.and_eq_true, decide_eq_true_eq] at h1
    refine ⟨?_, ?_⟩
    · show ((toPD x).canLay0 && PyData.canLayAll0 (toPDs xs)) = true
      rw [h1.1, h2]; rfl
    · show max (toPD x).depth (PyData.depthAll (toPDs xs)) ≤ k
      exact Nat.max_le.mpr ⟨h1.2, h3⟩
theorem sz_lst {k : Nat} {xs : List Val} (h : ∀ x ∈ xs, sz k x = true) : sz (k + 1) (.lst xs) = true := by
  obtain ⟨h2, h3⟩ := sz_all h
  unfold sz
  rw [Bool.and_eq_true, decide_eq_true_eq]
  exact ⟨h2, Nat.succ_le_succ h3⟩
theorem sz_scr {k : Nat} {xs : List Val} (h : ∀ x ∈ xs, sz k x = true) : sz (k + 1) (.scr xs) = true := sz_lst h
theorem sz_tup {k : Nat} {xs : List Val} (h : ∀ x ∈ xs, sz k x = true) : sz (k + 1) (.tup xs) = true := by
  obtain ⟨h2, h3⟩ := sz_all h
  unfold sz
  rw [Bool.and_eq_true, decide_eq_true_eq]
  exact ⟨h2, Nat.succ_le_succ h3⟩
theorem sz_int {k : Nat} (i : Int) : sz k (.int i) = true := by
  unfold sz; rw [Bool.and_eq_true, decide_eq_true_eq]; exact ⟨rfl, Nat.zero_le _⟩
theorem sz_bl {k : Nat} (i : Bool) : sz k (.bl i) = true := by
  unfold sz; rw [Bool.and_eq_true, decide_eq_true_eq]; exact ⟨rfl, Nat.zero_le _⟩
theorem sz_non {k : Nat} : sz k .non = true := by
  unfold sz; rw [Bool.and_eq_true, decide_eq_true_eq]; exact ⟨rfl, Nat.zero_le _⟩
theorem sz_ints {k : Nat} (ns : List Int) : ∀ x ∈ vInts ns, sz k x = true := fun x hx => by
  unfold vInts at hx
  rw [List.mem_map] at hx
  obtain ⟨i, _, rfl⟩ := hx
  exact sz_int i
theorem shaped_sz {v : Val} (h : sz 64 v = true) : SeqAt.shaped (toPD v) = true := h
theorem cmpV_eq (x y : Val) (st : Store) : cmpV .eq x y st = if SeqAt.shaped (toPD x) && SeqAt.shaped (toPD y) then .ok (PyData.eqv (toPD x) (toPD y)) else .stuck := rfl
theorem cmpV_ne (x y : Val) (st : Store) : cmpV .ne x y st = if SeqAt.shaped (toPD x) && SeqAt.shaped (toPD y) then .ok (!PyData.eqv (toPD x) (toPD y)) else .stuck := rfl
theorem shaped_int (i : Int) : SeqAt.shaped (toPD (.int i)) = true := rfl
theorem shaped_bl (i : Bool) : SeqAt.shaped (toPD (.bl i)) = true := rfl
theorem eq_self {v : Val} (h : sz 64 v = true) (st : Store) : cmpV .eq v v st = .ok true := by
  simp only [cmpV_eq, shaped_sz h, SeqAt.eqv_refl _ (SeqAt.canLay_of_shaped h), Bool.and_self, if_true]
theorem ne_self {v : Val} (h : sz 64 v = true) (st : Store) : cmpV .ne v v st = .ok false := by
  simp only [cmpV_ne, shaped_sz h, SeqAt.eqv_refl _ (SeqAt.canLay_of_shaped h), Bool.and_self, if_true, Bool.not_true]
theorem veq_int (i j : Int) (st : Store) : cmpV .eq (.int i) (.int j) st = .ok (decide (i = j)) := by
  simp only [cmpV_eq, shaped_int, Bool.and_self, if_true]
  rfl
theorem vne_int (i j : Int) (st : Store) : cmpV .ne (.int i) (.int j) st = .ok (!decide (i = j)) := by
  simp only [cmpV_ne, shaped_int, Bool.and_self, if_true]
  rfl
theorem veq_bl (i j : Bool) (st : Store) : cmpV .eq (.bl i) (.bl j) st = .ok (i == j) := by
  simp only [cmpV_eq, shaped_bl, Bool.and_self, if_true]
  rfl

/-! for simp -/
section
variable {st : Store} {env : Env}
theorem cmp_lt (i j : Int) : cmpV .lt (.int i) (.int j) st = .ok (decide (i < j)) := rfl
theorem cmp_le (i j : Int) : cmpV .le (.int i) (.int j) st = .ok (decide (i ≤ j)) := rfl
theorem cmp_gt (i j : Int) : cmpV .gt (.int i) (.int j) st = .ok (decide (j < i)) := rfl
theorem cmp_ge (i j : Int) : cmpV .ge (.int i) (.int j) st = .ok (decide (j ≤ i)) := rfl
theorem cmp_is (x : Val) : cmpV .is_ x .non st = .ok (match x with | .non => true | _ => false) := rfl
theorem cmp_isnot (x : Val) : cmpV .isnot x .non st = .ok (match x with | .non => false | _ => true) := rfl
theorem ite_andv (b x : Bool) : (if b = true then R.ok (Val.bl x, st) else R.ok (Val.bl false, st)) = R.ok (Val.bl (b && x), st) := by cases b <;> rfl
theorem ite_orv (b x : Bool) : (if b = false then R.ok (Val.bl x, st) else R.ok (Val.bl b, st)) = R.ok (Val.bl (b || x), st) := by cases b <;> rfl
theorem ite_andt (b x : Bool) : (if b = true then R.ok (Val.bl x, st) else R.ok (Val.bl b, st)) = R.ok (Val.bl (b && x), st) := by cases b <;> rfl
theorem ite_ort (b x : Bool) : (if b = false then R.ok (x, st) else R.ok (b, st)) = R.ok (b || x, st) := by cases b <;> rfl
theorem ite_andq (b x : Bool) : (if b = true then R.ok (x, st) else R.ok (b, st)) = R.ok (b && x, st) := by cases b <;> rfl
theorem truth_bl (b : Bool) : truth st (.bl b) = .ok b := rfl
theorem newL_f (xs : List Val) (h : xs.length ≤ szMax) : newL false xs st = .ok (.lst xs, st) := by unfold newL; rw [if_pos h]; rfl
theorem newL_t (xs : List Val) (h : xs.length ≤ szMax) : newL true xs st = .ok (.loc st.length, st ++ [.lst xs]) := by unfold newL; rw [if_pos h]; rfl
theorem newT_f (xs : List Val) (h : xs.length ≤ szMax) : newT xs st = .ok (.tup xs, st) := by unfold newT; rw [if_pos h]
theorem repl_0 {α : Type} (a : α) : List.replicate 0 a = [] := rfl
theorem repl_1 {α : Type} (a : α) : List.replicate 1 a = [a] := rfl
theorem repl_2 {α : Type} (a : α) : List.replicate 2 a = [a, a] := rfl
theorem repl_3 {α : Type} (a : α) : List.replicate 3 a = [a, a, a] := rfl
theorem repl_4 {α : Type} (a : α) : List.replicate 4 a = [a, a, a, a] := rfl
theorem repl_5 {α : Type} (a : α) : List.replicate 5 a = [a, a, a, a, a] := rfl
theorem repl_6 {α : Type} (a : α) : List.replicate 6 a = [a, a, a, a, a, a] := rfl
theorem repl_7 {α : Type} (a : α) : List.replicate 7 a = [a, a, a, a, a, a, a] := rfl
theorem repl_8 {α : Type} (a : α) : List.replicate 8 a = [a, a, a, a, a, a, a, a] := rfl
theorem seqOf_tup (xs : List Val) : seqOf st (.tup xs) = some (false, xs) := rfl
theorem seqOf_lst (xs : List Val) : seqOf st (.lst xs) = some (true, xs) := rfl
theorem seqOf_scr (xs : List Val) : seqOf st (.scr xs) = some (true, xs) := rfl
theorem len_tup (xs : List Val) : f1V .len (.tup xs) st = .ok (.int xs.length) := rfl
theorem len_lst (xs : List Val) : f1V .len (.lst xs) st = .ok (.int xs.length) := rfl
theorem len_scr (xs : List Val) : f1V .len (.scr xs) st = .ok (.int xs.length) := rfl
theorem int_int (i : Int) : f1V .int (.int i) st = .ok (.int i) := rfl
theorem bl_ne1 : (true = false) = False := by simp
theorem bl_ne2 : (false = true) = False := by simp
theorem noExn_ok {α : Type} (a : α) : noExn (R.ok a) = R.ok a := rfl
theorem rs_go {α : Type} (f : Env → Store → RS) : (RS.next env st).bind f = f env st := rfl
theorem rs_ret (v : Val) : (match RS.ret v st with | .next _ st' => R.ok (Val.non, st') | .ret v st' => .ok (v, st') | .exn c fs _ st' => .exn c fs st' | _ => .stuck) = R.ok (v, st) := rfl
theorem rs_next : (match RS.next env st with | .next _ st' => R.ok (Val.non, st') | .ret v st' => .ok (v, st') | .exn c fs _ st' => .exn c fs st' | _ => .stuck) = R.ok (Val.non, st) := rfl
theorem atI_n {α : Type} {xs : List α} {i : Nat} {x : α} (h : xs[i]? = some x) : atI xs (i : Int) = some x := by
  obtain ⟨hi, _⟩ := List.getElem?_eq_some_iff.mp h
  unfold atI ixN
  rw [if_pos (by omega), if_pos (by omega)]
  simpa using h
theorem closedL_mem {m : Nat} : ∀ {xs : List Val}, closedL m xs = true → ∀ x ∈ xs, closed m x = true
  | [], _, x, hx => by cases hx
  | y :: ys, h, x, hx => by
    have h' : (closed m y && closedL m ys) = true := h
    rw [Bool.and_eq_true] at h'
    rcases List.mem_cons.mp hx with rfl | hx
    · exact h'.1
    · exact closedL_mem h'.2 x hx
theorem drop_cons {α : Type} {xs : List α} {j : Nat} {x : α} {ys : List α} (h : xs.drop j = x :: ys) : xs[j]? = some x ∧ ys = xs.drop (j + 1) := by
  have hj : j < xs.length := by
    cases Nat.lt_or_ge j xs.length with
    | inl h' => exact h'
    | inr h' => rw [List.drop_eq_nil_of_le h'] at h; cases h
  rw [List.drop_eq_getElem_cons hj] at h
  cases h
  exact ⟨List.getElem?_eq_getElem hj, rfl⟩
theorem range_drop {n j x : Nat} {ys : List Nat} (h : (List.range n).drop j = x :: ys) : x = j ∧ j < n ∧ ys = (List.range n).drop (j + 1) := by
  obtain ⟨h1, h2⟩ := drop_cons h
  obtain ⟨h3, h4⟩ := List.getElem?_eq_some_iff.mp h1
  rw [List.getElem_range] at h4
  rw [List.length_range] at h3
  exact ⟨h4.symm, h3, h2⟩
theorem fdl (j : Int) (h : decide (j.natAbs.log2 < 9000) = true := by decide) : (j.natAbs.log2 < 9000) = True := eq_true (of_decide_eq_true h)
/-! the last cell of a store -/
theorem st_get (c : Cell) : (st ++ [c])[st.length]? = some c := by simp
theorem st_set (c d : Cell) : (st ++ [c]).set st.length d = st ++ [d] := by simp
theorem cell_is (xs : List Val) : isCell (st ++ [.lst xs]) (.loc st.length) = true := by unfold isCell; simp
theorem cell_app (xs : List Val) (y : Val) (h : xs.length < szMax) : vApp (.loc st.length) y (st ++ [.lst xs]) = .ok (.non, st ++ [.lst (xs ++ [y])]) := by
  unfold vApp; simp only [st_get, if_pos h, st_set]
theorem cell_frz (xs : List Val) : vFrz (.loc st.length) (st ++ [.lst xs]) = .ok (.lst xs, st ++ [.frz xs]) := by
  unfold vFrz; simp only [st_get, st_set]
theorem cell_seq (xs : List Val) : seqOf (st ++ [.lst xs]) (.loc st.length) = some (true, xs) := by
  unfold seqOf; simp only [st_get]
theorem cell_lst (xs : List Val) : lstOf (st ++ [.lst xs]) (.loc st.length) = some xs := by
  unfold lstOf; simp only [st_get]
theorem cell_len (xs : List Val) : f1V .len (.loc st.length) (st ++ [.lst xs]) = .ok (.int xs.length) := by
  show (match seqOf (st ++ [.lst xs]) (.loc st.length) with | some (_, xs) => R.ok (Val.int xs.length) | none => .stuck) = _
  rw [cell_seq]
theorem cell_sto (xs : List Val) (k : Nat) (y : Val) (h : k < xs.length) : vSto (.loc st.length) (.int k) y (st ++ [.lst xs]) = .ok (st ++ [.lst (xs.set k y)]) := by
  unfold vSto
  have : ixN xs.length (k : Int) = some k := by
    unfold ixN; rw [if_pos (by omega), if_pos (by omega)]; simp
  simp only [st_get, this, st_set]
theorem vInts_get {ns : List Int} {k : Nat} {i : Int} (h : ns[k]? = some i) : (vInts ns)[k]? = some (.int i) := by unfold vInts; rw [List.getElem?_map, h]; rfl
theorem vInts_len (ns : List Int) : (vInts ns).length = ns.length := by unfold vInts; simp
theorem sortS_len (ns : List Int) : (sortS ns).length ≤ ns.length := by
  have ins : ∀ (k : Int) (l : List Int), (insS k l).length ≤ l.length + 1 := fun k l => by
    induction l with
    | nil => exact Nat.le_refl _
    | cons x xs ih =>
      unfold insS
      split
      · simp
      · split
        · simp
        · simp; omega
  induction ns with
  | nil => exact Nat.le_refl _
  | cons x xs ih =>
    have := ins x (sortS xs)
    show (insS x (sortS xs)).length ≤ xs.length + 1
    omega
theorem vInts_app (a b : List Int) : vInts a ++ vInts b = vInts (a ++ b) := by unfold vInts; rw [List.map_append]
theorem small {n : Nat} (h : n < 64) : n ≤ szMax := by unfold szMax; omega
theorem sset_of {v : Val} {ns : List Int} (h : seqOf st v = some (true, vInts ns)) (hn : ns.length < 64) : g1V false .sortset v st = .ok (.lst (vInts (sortS ns)), st) := by
  have hz : (vInts (sortS ns)).length ≤ szMax := by have := sortS_len ns; rw [vInts_len]; exact small (by omega)
  show (match seqOf st v with | some (true, xs) => (match asInts xs with | some ns => if ns.length < 64 then newL false ((sortS ns).map .int) st else .stuck | none => .stuck) | _ => .stuck) = _
  rw [h]
  simp only [asInts_vInts, hn, if_true]
  exact newL_f _ hz
theorem sset_l {ns : List Int} (hn : ns.length < 64) : g1V false .sortset (.lst (vInts ns)) st = .ok (.lst (vInts (sortS ns)), st) := sset_of rfl hn
theorem glist_of {v : Val} {k : Bool} {xs : List Val} (h : seqOf st v = some (k, xs)) (hn : xs.length ≤ szMax) : g1V false .list v st = .ok (.lst xs, st) := by
  show (match seqOf st v with | some (_, xs) => newL false xs st | none => .stuck) = _
  rw [h]; exact newL_f _ hn
theorem glist_m {v : Val} {k : Bool} {xs : List Val} (h : seqOf st v = some (k, xs)) (hn : xs.length ≤ szMax) : g1V true .list v st = .ok (.loc st.length, st ++ [.lst xs]) := by
  show (match seqOf st v with | some (_, xs) => newL true xs st | none => .stuck) = _
  rw [h]; exact newL_t _ hn
theorem gtup_of {m : Bool} {v : Val} {k : Bool} {xs : List Val} (h : seqOf st v = some (k, xs)) (hn : xs.length ≤ szMax) : g1V m .tuple v st = .ok (.tup xs, st) := by
  show (match seqOf st v with | some (_, xs) => newT xs st | none => .stuck) = _
  rw [h]; exact newT_f _ hn
theorem lstOf_lst (xs : List Val) : lstOf st (.lst xs) = some xs := rfl
theorem mm_int (k : Bool) (i j : Int) : mmV k (.int i) (.int j) = .ok (.int (if k then (if j > i then j else i) else (if j < i then j else i))) := rfl
theorem foldO_go' {α : Type} : ∀ l : List α, foldO (fun (_ : Unit) (_ : α) => Out.go ()) () l = .go ()
  | [] => rfl
  | x :: xs => foldO_go' xs
end
end MP
/-! MiniPy: the meaning as rewriting rules, one step each. -/
namespace MP
open PySem L2
section
variable (Φ : Tab) (G : Str → Option Val)
def kVar (st : Store) : Option (Option Val) → RV | some (some v) => .ok (v, st) | _ => .stuck
def kTr (p : Val × Store) : R (Bool × Store) := (truth p.2 p.1).bind fun b => .ok (b, p.2)
def kTr2 (s : Store) (b : Bool) : R (Bool × Store) := .ok (b, s)
def kI1 (p : Val × Store) : R (List Val × Store) := match p.1 with | .tup xs => .ok (xs, p.2) | .lst xs => .ok (xs, p.2) | .scr xs => .ok (xs, p.2) | _ => .stuck
def kGl (st : Store) : Option Val → RV | some v => .ok (v, st) | none => .stuck
def kTup (p : List Val × Store) : RV := newT p.1 p.2
def kLst (m : Bool) (p : List Val × Store) : RV := newL m p.1 p.2
def kBin2 (m : Bool) (op : BOp) (x : Val) (q : Val × Store) : RV := binV m op x q.1 q.2
def kBin (m : Bool) (op : BOp) (b : E) (env : Env) (p : Val × Store) : RV := ((ev Φ G b).v env p.2).bind (kBin2 m op p.1)
def kNeg (p : Val × Store) : RV := match p.1 with | .int i => .ok (.int (-i), p.2) | _ => .stuck
def kNot (p : Val × Store) : RV := match p.1 with | .bl b => .ok (.bl (!b), p.2) | _ => .stuck
def kNotT (p : Bool × Store) : R (Bool × Store) := .ok (!p.1, p.2)
def kB (s : Store) (k : Bool) : RV := .ok (.bl k, s)
def kVl (s : Store) (k : Val) : RV := .ok (k, s)
def kCmp2 (op : COp) (x : Val) (q : Val × Store) : RV := (cmpV op x q.1 q.2).bind (kB q.2)
def kCmp (op : COp) (b : E) (env : Env) (p : Val × Store) : RV := ((ev Φ G b).v env p.2).bind (kCmp2 op p.1)
def kCh3 (op' : COp) (y : Val) (r : Val × Store) : RV := (cmpV op' y r.1 r.2).bind (kB r.2)
def kCh2 (op op' : COp) (c : E) (env : Env) (x : Val) (q : Val × Store) : RV := (cmpV op x q.1 q.2).bind fun k => if k then ((ev Φ G c).v env q.2).bind (kCh3 op' q.1) else .ok (.bl false, q.2)
def kCh2b (op' : COp) (c : E) (env : Env) (y : Val) (s : Store) (k : Bool) : RV := if k then ((ev Φ G c).v env s).bind (kCh3 op' y) else .ok (.bl false, s)
def kCh (op op' : COp) (b c : E) (env : Env) (p : Val × Store) : RV := ((ev Φ G b).v env p.2).bind (kCh2 Φ G op op' c env p.1)
def kIfx (a b : E) (env : Env) (p : Bool × Store) : RV := if p.1 then (ev Φ G a).v env p.2 else (ev Φ G b).v env p.2
def kCall (f : Str) (p : List Val × Store) : RV := match Φ f with | some m => m p.1 p.2 | none => .stuck
def kCal (o : Option Mir) (p : List Val × Store) : RV := match o with | some m => m p.1 p.2 | none => .stuck
def kIsi (t : Ty) (p : Val × Store) : RV := match isTy p.2 t p.1 with | some b => .ok (.bl b, p.2) | none => .stuck
def kIsi2 (t u : Ty) (p : Val × Store) : RV := match isTy p.2 t p.1, isTy p.2 u p.1 with | some b, some b' => .ok (.bl (b || b'), p.2) | _, _ => .stuck
def kF1 (f : F1) (p : Val × Store) : RV := (f1V f p.1 p.2).bind fun y => .ok (y, p.2)
def kMm2 (k : Bool) (x : Val) (q : Val × Store) : RV := (mmV k x q.1).bind (kVl q.2)
def kMm (k : Bool) (b : E) (env : Env) (p : Val × Store) : RV := ((ev Φ G b).v env p.2).bind (kMm2 k p.1)
def kG1 (m : Bool) (f : G1) (p : Val × Store) : RV := g1V m f p.1 p.2
def kSub2 (x : Val) (q : Val × Store) : RV := (ixV q.2 x q.1).bind (kVl q.2)
def kSub (i : E) (env : Env) (p : Val × Store) : RV := ((ev Φ G i).v env p.2).bind (kSub2 p.1)
def kSl3 (m : Bool) (x : Val) (l' : Option Int) (n : Bool) (r : Val × Store) : RV := (partV n r.1).bind fun h' => slcV m r.2 x l' h'
def kSl3b (m : Bool) (s : Store) (x : Val) (l' h' : Option Int) : RV := slcV m s x l' h'
def kSl2b (m : Bool) (hi : E) (env : Env) (x : Val) (s : Store) (l' : Option Int) : RV := ((ev Φ G hi).v env s).bind (kSl3 m x l' (isNo hi))
def kSl2 (m : Bool) (n : Bool) (hi : E) (env : Env) (x : Val) (q : Val × Store) : RV := (partV n q.1).bind (kSl2b Φ G m hi env x q.2)
def kSl (m : Bool) (lo hi : E) (env : Env) (p : Val × Store) : RV := ((ev Φ G lo).v env p.2).bind (kSl2 Φ G m (isNo lo) hi env p.1)
def kRng (p : List Val × Store) : R (List Val × Store) := (rngV p.1).bind fun xs => .ok (xs, p.2)
def kRng2 (s : Store) (xs : List Val) : R (List Val × Store) := .ok (xs, s)
def kComp (m : Bool) (x : Nat) (c elt : E) (env : Env) (p : List Val × Store) : RV := if p.1.length ≤ szMax then noExn ((compL (ev Φ G c).t (ev Φ G elt).v x p.1 env p.2).bind (kLst m)) else .stuck
def kFrz (p : Val × Store) : RV := vFrz p.1 p.2
def kApp2 (x : Val) (q : Val × Store) : RV := vApp x q.1 q.2
def kApp (a : E) (env : Env) (p : Val × Store) : RV := if isCell p.2 p.1 then ((ev Φ G a).v env p.2).bind (kApp2 p.1) else .stuck
def kEs2 (x : Val) (q : List Val × Store) : R (List Val × Store) := .ok (x :: q.1, q.2)
def kEs (r : Es) (env : Env) (p : Val × Store) : R (List Val × Store) := (evs Φ G r env p.2).bind (kEs2 p.1)
def kBo (k : Bool) (r : Es) (env : Env) (p : Val × Store) : RV := match p.1 with | .bl b => if b = k then evBo Φ G k r env p.2 else .ok (.bl b, p.2) | _ => .stuck
def kBoT (k : Bool) (r : Es) (env : Env) (p : Bool × Store) : R (Bool × Store) := if p.1 = k then evBoT Φ G k r env p.2 else .ok (p.1, p.2)
def kAsg (env : Env) (i : Nat) (p : Val × Store) : RS := .next (env.set i (some p.1)) p.2
def kExp (env : Env) (p : Val × Store) : RS := .next env p.2
def kIte (a b : Ss) (env : Env) (p : Bool × Store) : RS := if p.1 then evSs Φ G a env p.2 else evSs Φ G b env p.2
def kFor (i : Nat) (body : Ss) (env : Env) (p : List Val × Store) : RS := forL i (evSs Φ G body) p.1 env p.2
def kRet (p : Val × Store) : RS := .ret p.1 p.2
def kSto4 (env : Env) (st' : Store) : RS := .next env st'
def kSto3 (env : Env) (x y : Val) (r : Val × Store) : RS := (vSto y r.1 x r.2).st env (kSto4 env)
def kSto2 (i : E) (env : Env) (x : Val) (q : Val × Store) : RS := ((ev Φ G i).v env q.2).st env (kSto3 env x q.1)
def kSto (o i : E) (env : Env) (p : Val × Store) : RS := ((ev Φ G o).v env p.2).st env (kSto2 Φ G i env p.1)
def kRun : RS → RV | .next _ st' => .ok (.non, st') | .ret v st' => .ok (v, st') | .exn c fs _ st' => .exn c fs st' | _ => .stuck
variable {env : Env} {st s : Store} {a b c o elt it lo hi : E} {es r : Es} {i k x y z : Nat}
theorem v_var : (ev Φ G (.var i)).v env st = kVar st env[i]? := by show vVar i env st = _; unfold vVar kVar; rfl
theorem t_var : (ev Φ G (.var i)).t env st = ((ev Φ G (.var i)).v env st).bind kTr := rfl
theorem i_var : (ev Φ G (.var i)).i env st = ((ev Φ G (.var i)).v env st).bind kI1 := rfl
theorem v_int {j : Int} : (ev Φ G (.int j)).v env st = .ok (.int j, st) := rfl
theorem t_int {j : Int} : (ev Φ G (.int j)).t env st = ((ev Φ G (.int j)).v env st).bind kTr := rfl
theorem i_int {j : Int} : (ev Φ G (.int j)).i env st = ((ev Φ G (.int j)).v env st).bind kI1 := rfl
theorem v_bl {j : Bool} : (ev Φ G (.bl j)).v env st = .ok (.bl j, st) := rfl
theorem t_bl {j : Bool} : (ev Φ G (.bl j)).t env st = ((ev Φ G (.bl j)).v env st).bind kTr := rfl
theorem i_bl {j : Bool} : (ev Φ G (.bl j)).i env st = ((ev Φ G (.bl j)).v env st).bind kI1 := rfl
theorem v_non  : (ev Φ G (.non)).v env st = .ok (.non, st) := rfl
theorem t_non  : (ev Φ G (.non)).t env st = ((ev Φ G (.non)).v env st).bind kTr := rfl
theorem i_non  : (ev Φ G (.non)).i env st = ((ev Φ G (.non)).v env st).bind kI1 := rfl
theorem v_str {j : Str} : (ev Φ G (.str j)).v env st = .ok (.str j, st) := rfl
theorem t_str {j : Str} : (ev Φ G (.str j)).t env st = ((ev Φ G (.str j)).v env st).bind kTr := rfl
theorem i_str {j : Str} : (ev Φ G (.str j)).i env st = ((ev Φ G (.str j)).v env st).bind kI1 := rfl
theorem v_glob {j : Str} : (ev Φ G (.glob j)).v env st = kGl st (G j) := by show (match G j with | some v => R.ok (v, st) | none => .stuck) = _; unfold kGl; rfl
theorem t_glob {j : Str} : (ev Φ G (.glob j)).t env st = ((ev Φ G (.glob j)).v env st).bind kTr := rfl
theorem i_glob {j : Str} : (ev Φ G (.glob j)).i env st = ((ev Φ G (.glob j)).v env st).bind kI1 := rfl
theorem v_tup  : (ev Φ G (.tup es)).v env st = (evs Φ G es env st).bind kTup := rfl
theorem t_tup  : (ev Φ G (.tup es)).t env st = ((ev Φ G (.tup es)).v env st).bind kTr := rfl
theorem i_tup  : (ev Φ G (.tup es)).i env st = ((ev Φ G (.tup es)).v env st).bind kI1 := rfl
theorem v_lst {m : Bool} : (ev Φ G (.lst m es)).v env st = (evs Φ G es env st).bind (kLst m) := rfl
theorem t_lst {m : Bool} : (ev Φ G (.lst m es)).t env st = ((ev Φ G (.lst m es)).v env st).bind kTr := rfl
theorem i_lst {m : Bool} : (ev Φ G (.lst m es)).i env st = ((ev Φ G (.lst m es)).v env st).bind kI1 := rfl
theorem v_bin {m : Bool} {op : BOp} : (ev Φ G (.bin m op a b)).v env st = ((ev Φ G a).v env st).bind (kBin Φ G m op b env) := rfl
theorem t_bin {m : Bool} {op : BOp} : (ev Φ G (.bin m op a b)).t env st = ((ev Φ G (.bin m op a b)).v env st).bind kTr := rfl
theorem i_bin {m : Bool} {op : BOp} : (ev Φ G (.bin m op a b)).i env st = ((ev Φ G (.bin m op a b)).v env st).bind kI1 := rfl
theorem v_neg  : (ev Φ G (.neg a)).v env st = ((ev Φ G a).v env st).bind kNeg := rfl
theorem t_neg  : (ev Φ G (.neg a)).t env st = ((ev Φ G (.neg a)).v env st).bind kTr := rfl
theorem i_neg  : (ev Φ G (.neg a)).i env st = ((ev Φ G (.neg a)).v env st).bind kI1 := rfl
theorem v_not : (ev Φ G (.not a)).v env st = ((ev Φ G a).v env st).bind kNot := rfl
theorem t_not : (ev Φ G (.not a)).t env st = ((ev Φ G a).t env st).bind kNotT := rfl
theorem v_cmp {op : COp} : (ev Φ G (.cmp op a b)).v env st = ((ev Φ G a).v env st).bind (kCmp Φ G op b env) := rfl
theorem t_cmp {op : COp} : (ev Φ G (.cmp op a b)).t env st = ((ev Φ G (.cmp op a b)).v env st).bind kTr := rfl
theorem i_cmp {op : COp} : (ev Φ G (.cmp op a b)).i env st = ((ev Φ G (.cmp op a b)).v env st).bind kI1 := rfl
theorem v_chain {op op' : COp} : (ev Φ G (.chain op op' a b c)).v env st = ((ev Φ G a).v env st).bind (kCh Φ G op op' b c env) := rfl
theorem t_chain {op op' : COp} : (ev Φ G (.chain op op' a b c)).t env st = ((ev Φ G (.chain op op' a b c)).v env st).bind kTr := rfl
theorem i_chain {op op' : COp} : (ev Φ G (.chain op op' a b c)).i env st = ((ev Φ G (.chain op op' a b c)).v env st).bind kI1 := rfl
theorem v_bo {k : Bool} : (ev Φ G (.bo k es)).v env st = evBo Φ G k es env st := rfl
theorem t_bo {k : Bool} : (ev Φ G (.bo k es)).t env st = evBoT Φ G k es env st := rfl
theorem v_ifx : (ev Φ G (.ifx c a b)).v env st = ((ev Φ G c).t env st).bind (kIfx Φ G a b env) := rfl
theorem i_ifx : (ev Φ G (.ifx c a b)).i env st = ((ev Φ G (.ifx c a b)).v env st).bind kI1 := rfl
theorem v_call {f : Str} : (ev Φ G (.call f es)).v env st = (evs Φ G es env st).bind (kCall Φ f) := rfl
theorem t_call {f : Str} : (ev Φ G (.call f es)).t env st = ((ev Φ G (.call f es)).v env st).bind kTr := rfl
theorem i_call {f : Str} : (ev Φ G (.call f es)).i env st = ((ev Φ G (.call f es)).v env st).bind kI1 := rfl
theorem v_isi {t : Ty} : (ev Φ G (.isi a t)).v env st = ((ev Φ G a).v env st).bind (kIsi t) := rfl
theorem t_isi {t : Ty} : (ev Φ G (.isi a t)).t env st = ((ev Φ G (.isi a t)).v env st).bind kTr := rfl
theorem i_isi {t : Ty} : (ev Φ G (.isi a t)).i env st = ((ev Φ G (.isi a t)).v env st).bind kI1 := rfl
theorem v_isi2 {t u : Ty} : (ev Φ G (.isi2 a t u)).v env st = ((ev Φ G a).v env st).bind (kIsi2 t u) := rfl
theorem t_isi2 {t u : Ty} : (ev Φ G (.isi2 a t u)).t env st = ((ev Φ G (.isi2 a t u)).v env st).bind kTr := rfl
theorem i_isi2 {t u : Ty} : (ev Φ G (.isi2 a t u)).i env st = ((ev Φ G (.isi2 a t u)).v env st).bind kI1 := rfl
theorem v_f1 {f : F1} : (ev Φ G (.f1 f a)).v env st = ((ev Φ G a).v env st).bind (kF1 f) := rfl
theorem t_f1 {f : F1} : (ev Φ G (.f1 f a)).t env st = ((ev Φ G (.f1 f a)).v env st).bind kTr := rfl
theorem i_f1 {f : F1} : (ev Φ G (.f1 f a)).i env st = ((ev Φ G (.f1 f a)).v env st).bind kI1 := rfl
theorem v_mm {k : Bool} : (ev Φ G (.mm k a b)).v env st = ((ev Φ G a).v env st).bind (kMm Φ G k b env) := rfl
theorem t_mm {k : Bool} : (ev Φ G (.mm k a b)).t env st = ((ev Φ G (.mm k a b)).v env st).bind kTr := rfl
theorem i_mm {k : Bool} : (ev Φ G (.mm k a b)).i env st = ((ev Φ G (.mm k a b)).v env st).bind kI1 := rfl
theorem v_g1 {m : Bool} {f : G1} : (ev Φ G (.g1 m f a)).v env st = ((ev Φ G a).v env st).bind (kG1 m f) := rfl
theorem t_g1 {m : Bool} {f : G1} : (ev Φ G (.g1 m f a)).t env st = ((ev Φ G (.g1 m f a)).v env st).bind kTr := rfl
theorem i_g1 {m : Bool} {f : G1} : (ev Φ G (.g1 m f a)).i env st = ((ev Φ G (.g1 m f a)).v env st).bind kI1 := rfl
theorem v_sub  : (ev Φ G (.sub a b)).v env st = ((ev Φ G a).v env st).bind (kSub Φ G b env) := rfl
theorem t_sub  : (ev Φ G (.sub a b)).t env st = ((ev Φ G (.sub a b)).v env st).bind kTr := rfl
theorem i_sub  : (ev Φ G (.sub a b)).i env st = ((ev Φ G (.sub a b)).v env st).bind kI1 := rfl
theorem v_slc {m : Bool} : (ev Φ G (.slc m a lo hi)).v env st = ((ev Φ G a).v env st).bind (kSl Φ G m lo hi env) := rfl
theorem t_slc {m : Bool} : (ev Φ G (.slc m a lo hi)).t env st = ((ev Φ G (.slc m a lo hi)).v env st).bind kTr := rfl
theorem i_slc {m : Bool} : (ev Φ G (.slc m a lo hi)).i env st = ((ev Φ G (.slc m a lo hi)).v env st).bind kI1 := rfl
theorem v_no : (ev Φ G .no).v env st = .ok (.non, st) := rfl
theorem t_no : (ev Φ G .no).t env st = .ok (true, st) := rfl
theorem i_rng : (ev Φ G (.rng es)).i env st = (evs Φ G es env st).bind kRng := rfl
theorem v_comp {m : Bool} : (ev Φ G (.comp m x it c elt)).v env st = ((ev Φ G it).i env st).bind (kComp Φ G m x c elt env) := rfl
theorem t_comp {m : Bool} : (ev Φ G (.comp m x it c elt)).t env st = ((ev Φ G (.comp m x it c elt)).v env st).bind kTr := rfl
theorem i_comp {m : Bool} : (ev Φ G (.comp m x it c elt)).i env st = ((ev Φ G (.comp m x it c elt)).v env st).bind kI1 := rfl
theorem v_frz : (ev Φ G (.frz a)).v env st = ((ev Φ G a).v env st).bind kFrz := rfl
theorem i_frz : (ev Φ G (.frz a)).i env st = ((ev Φ G (.frz a)).v env st).bind kI1 := rfl
theorem v_app : (ev Φ G (.app o a)).v env st = ((ev Φ G o).v env st).bind (kApp Φ G a env) := rfl
theorem es_nil : evs Φ G .nil env st = .ok ([], st) := rfl
theorem es_cons : evs Φ G (.cons a r) env st = ((ev Φ G a).v env st).bind (kEs Φ G r env) := rfl
theorem bo_1 {k : Bool} : evBo Φ G k (.cons a .nil) env st = (ev Φ G a).v env st := rfl
theorem bo_2 {k : Bool} : evBo Φ G k (.cons a (.cons b r)) env st = ((ev Φ G a).v env st).bind (kBo Φ G k (.cons b r) env) := rfl
theorem bt_1 {k : Bool} : evBoT Φ G k (.cons a .nil) env st = (ev Φ G a).t env st := rfl
theorem bt_2 {k : Bool} : evBoT Φ G k (.cons a (.cons b r)) env st = ((ev Φ G a).t env st).bind (kBoT Φ G k (.cons b r) env) := rfl
theorem kVar_  {v : Val} : kVar st (some (some v)) = .ok (v, st) := rfl
theorem kGl_  {v : Val} : kGl st (some v) = .ok (v, st) := rfl
theorem kTr_  {v : Val} : kTr (v, s) = (truth s v).bind (kTr2 s) := rfl
theorem kTr2_  {d : Bool} : kTr2 s d = .ok (d, s) := rfl
theorem kI1_t  {xs : List Val} : kI1 (.tup xs, s) = .ok (xs, s) := rfl
theorem kI1_l  {xs : List Val} : kI1 (.lst xs, s) = .ok (xs, s) := rfl
theorem kI1_s  {xs : List Val} : kI1 (.scr xs, s) = .ok (xs, s) := rfl
theorem kTup_  {xs : List Val} : kTup (xs, s) = newT xs s := rfl
theorem kLst_  {m : Bool} {xs : List Val} : kLst m (xs, s) = newL m xs s := rfl
theorem kBin_  {m : Bool} {op : BOp} {v : Val} : kBin Φ G m op b env (v, s) = ((ev Φ G b).v env s).bind (kBin2 m op v) := rfl
theorem kBin2_  {m : Bool} {op : BOp} {v u : Val} : kBin2 m op v (u, s) = binV m op v u s := rfl
theorem kNeg_  {j : Int} : kNeg (.int j, s) = .ok (.int (-j), s) := rfl
theorem kNot_  {d : Bool} : kNot (.bl d, s) = .ok (.bl (!d), s) := rfl
theorem kNotT_  {d : Bool} : kNotT (d, s) = .ok (!d, s) := rfl
theorem kB_  {d : Bool} : kB s d = .ok (.bl d, s) := rfl
theorem kVl_  {v : Val} : kVl s v = .ok (v, s) := rfl
theorem kCmp_  {op : COp} {v : Val} : kCmp Φ G op b env (v, s) = ((ev Φ G b).v env s).bind (kCmp2 op v) := rfl
theorem kCmp2_  {op : COp} {v u : Val} : kCmp2 op v (u, s) = (cmpV op v u s).bind (kB s) := rfl
theorem kCh_  {op op' : COp} {v : Val} : kCh Φ G op op' b c env (v, s) = ((ev Φ G b).v env s).bind (kCh2 Φ G op op' c env v) := rfl
theorem kCh2_  {op op' : COp} {v u : Val} : kCh2 Φ G op op' c env v (u, s) = (cmpV op v u s).bind (kCh2b Φ G op' c env u s) := rfl
theorem kCh2b_  {op' : COp} {u : Val} {d : Bool} : kCh2b Φ G op' c env u s d = if d = true then ((ev Φ G c).v env s).bind (kCh3 op' u) else .ok (.bl false, s) := rfl
theorem kCh3_  {op' : COp} {v u : Val} : kCh3 op' v (u, s) = (cmpV op' v u s).bind (kB s) := rfl
theorem kIfx_  {d : Bool} : kIfx Φ G a b env (d, s) = if d = true then (ev Φ G a).v env s else (ev Φ G b).v env s := rfl
theorem kCall_ {f : Str} {vs : List Val} : kCall Φ f (vs, s) = kCal (Φ f) (vs, s) := by unfold kCall kCal; rfl
theorem kCal_  {m : Mir} {vs : List Val} : kCal (some m) (vs, s) = m vs s := rfl
theorem kIsi_  {t : Ty} {v : Val} : kIsi t (v, s) = (match isTy s t v with | some b => R.ok (Val.bl b, s) | none => .stuck) := rfl
theorem kIsi2_  {t u : Ty} {v : Val} : kIsi2 t u (v, s) = (match isTy s t v, isTy s u v with | some b, some b' => R.ok (Val.bl (b || b'), s) | _, _ => .stuck) := rfl
theorem kF1_  {f : F1} {v : Val} : kF1 f (v, s) = (f1V f v s).bind (kVl s) := rfl
theorem kMm_  {k : Bool} {v : Val} : kMm Φ G k b env (v, s) = ((ev Φ G b).v env s).bind (kMm2 k v) := rfl
theorem kMm2_  {k : Bool} {v u : Val} : kMm2 k v (u, s) = (mmV k v u).bind (kVl s) := rfl
theorem kG1_  {m : Bool} {f : G1} {v : Val} : kG1 m f (v, s) = g1V m f v s := rfl
theorem kSub_  {v : Val} : kSub Φ G b env (v, s) = ((ev Φ G b).v env s).bind (kSub2 v) := rfl
theorem kSub2_  {v u : Val} : kSub2 v (u, s) = (ixV s v u).bind (kVl s) := rfl
theorem kSl_  {m : Bool} {v : Val} : kSl Φ G m lo hi env (v, s) = ((ev Φ G lo).v env s).bind (kSl2 Φ G m (isNo lo) hi env v) := rfl
theorem kSl2_  {m n : Bool} {v u : Val} : kSl2 Φ G m n hi env v (u, s) = (partV n u).bind (kSl2b Φ G m hi env v s) := rfl
theorem kSl2b_  {m : Bool} {v : Val} {l' : Option Int} : kSl2b Φ G m hi env v s l' = ((ev Φ G hi).v env s).bind (kSl3 m v l' (isNo hi)) := rfl
theorem kSl3_  {m n : Bool} {v u : Val} {l' : Option Int} : kSl3 m v l' n (u, s) = (partV n u).bind (kSl3b m s v l') := rfl
theorem kSl3b_  {m : Bool} {v : Val} {l' h' : Option Int} : kSl3b m s v l' h' = slcV m s v l' h' := rfl
theorem kRng_  {xs : List Val} : kRng (xs, s) = (rngV xs).bind (kRng2 s) := rfl
theorem kRng2_  {xs : List Val} : kRng2 s xs = .ok (xs, s) := rfl
theorem kComp_  {m : Bool} {xs : List Val} : kComp Φ G m x c elt env (xs, s) = if xs.length ≤ szMax then noExn ((compL (ev Φ G c).t (ev Φ G elt).v x xs env s).bind (kLst m)) else .stuck := rfl
theorem kFrz_  {v : Val} : kFrz (v, s) = vFrz v s := rfl
theorem kApp_  {v : Val} : kApp Φ G a env (v, s) = if isCell s v = true then ((ev Φ G a).v env s).bind (kApp2 v) else .stuck := rfl
theorem kApp2_  {v u : Val} : kApp2 v (u, s) = vApp v u s := rfl
theorem kEs_  {v : Val} : kEs Φ G r env (v, s) = (evs Φ G r env s).bind (kEs2 v) := rfl
theorem kEs2_  {v : Val} {vs : List Val} : kEs2 v (vs, s) = .ok (v :: vs, s) := rfl
theorem kBo_  {k d : Bool} : kBo Φ G k r env (.bl d, s) = if d = k then evBo Φ G k r env s else .ok (.bl d, s) := rfl
theorem kBoT_  {k d : Bool} : kBoT Φ G k r env (d, s) = if d = k then evBoT Φ G k r env s else .ok (d, s) := rfl
theorem x_asg : evS Φ G (.asg i a) env st = ((ev Φ G a).v env st).st env (kAsg env i) := rfl
theorem x_sto : evS Φ G (.sto a b c) env st = ((ev Φ G c).v env st).st env (kSto Φ G a b env) := rfl
theorem x_expr : evS Φ G (.expr a) env st = ((ev Φ G a).v env st).st env (kExp env) := rfl
theorem x_ite {p q : Ss} : evS Φ G (.ite a p q) env st = ((ev Φ G a).t env st).st env (kIte Φ G p q env) := rfl
theorem x_for {p : Ss} : evS Φ G (.forr i a p) env st = ((ev Φ G a).i env st).st env (kFor Φ G i p env) := rfl
theorem x_while {n : Nat} {p : Ss} : evS Φ G (.whil n a p) env st = whileL (ev Φ G a).t (evSs Φ G p) n env st := rfl
theorem x_ret : evS Φ G (.ret a) env st = ((ev Φ G a).v env st).st env kRet := rfl
theorem x_retn : evS Φ G .retn env st = .ret .non st := rfl
theorem x_pass : evS Φ G .pass env st = .next env st := rfl
theorem x_brk : evS Φ G .brk env st = .brk env st := rfl
theorem x_cnt : evS Φ G .cnt env st = .cnt env st := rfl
theorem xs_nil : evSs Φ G .nil env st = .next env st := rfl
theorem xs_cons {p : S} {q : Ss} : evSs Φ G (.cons p q) env st = (evS Φ G p env st).bind (evSs Φ G q) := rfl
theorem kAsg_  {v : Val} : kAsg env i (v, s) = .next (env.set i (some v)) s := rfl
theorem kExp_  {v : Val} : kExp env (v, s) = .next env s := rfl
theorem kIte_  {p q : Ss} {d : Bool} : kIte Φ G p q env (d, s) = if d = true then evSs Φ G p env s else evSs Φ G q env s := rfl
theorem kFor_  {p : Ss} {xs : List Val} : kFor Φ G i p env (xs, s) = forL i (evSs Φ G p) xs env s := rfl
theorem kRet_  {v : Val} : kRet (v, s) = .ret v s := rfl
theorem kSto_  {v : Val} : kSto Φ G a b env (v, s) = ((ev Φ G a).v env s).st env (kSto2 Φ G b env v) := rfl
theorem kSto2_  {v u : Val} : kSto2 Φ G b env v (u, s) = ((ev Φ G b).v env s).st env (kSto3 env v u) := rfl
theorem kSto3_  {v u t : Val} : kSto3 env v u (t, s) = (vSto u t v s).st env (kSto4 env) := rfl
theorem kSto4_ : kSto4 env st = .next env st := rfl
theorem runB_ {n : Nat} {p : Ss} {vs : List Val} : runB Φ G n p vs st = kRun (evSs Φ G p (vs.map some ++ List.replicate (n - vs.length) none) st) := by unfold runB kRun; rfl
theorem kRun_n : kRun (.next env st) = .ok (.non, st) := rfl
theorem kRun_r {v : Val} : kRun (.ret v st) = .ok (v, st) := rfl
theorem kRun_e {k : Str} {fs : List Val} : kRun (.exn k fs env st) = .exn k fs st := rfl
end
end MP
namespace LawMP
open PySem L2 MP
def b_law_cell : Ss := (.cons (.ite (.cmp .lt (.var 1) (.f1 .len (.var 0))) (.cons (.ret (.sub (.var 0) (.var 1))) .nil) .nil) (.cons (.ret (.int 0)) .nil))
def b_law_first_1 : Ss := (.cons (.asg 5 (.call "_law_cell" (.cons (.var 0) (.cons (.bin false .add (.int 3) (.var 4)) .nil)))) (.cons (.asg 2 (.bin false .add (.bin false .add (.var 2) (.bin false .mod (.f1 .int (.var 5)) (.int 4))) (.sub (.lst false (.cons (.int 0) (.cons (.int 0) (.cons (.neg (.int 1)) (.cons (.int 1) .nil))))) (.var 1)))) (.cons (.ite (.cmp .lt (.var 1) (.int 2)) (.cons (.expr (.app (.var 3) (.var 5))) .nil) (.cons (.expr (.app (.var 3) (.var 2))) .nil)) .nil)))
def b_law_first : Ss := (.cons (.asg 1 (.bin false .mod (.f1 .int (.call "_law_cell" (.cons (.var 0) (.cons (.int 1) .nil)))) (.int 4))) (.cons (.asg 2 (.call "_law_cell" (.cons (.var 0) (.cons (.int 2) .nil)))) (.cons (.asg 3 (.lst true .nil)) (.cons (.forr 4 (.rng (.cons (.bin false .mod (.f1 .int (.call "_law_cell" (.cons (.var 0) (.cons (.int 0) .nil)))) (.int 21)) .nil)) b_law_first_1) (.cons (.ite (.cmp .eq (.var 1) (.int 1)) (.cons (.ret (.g1 false .sortset (.var 3))) .nil) .nil) (.cons (.ret (.frz (.var 3))) .nil))))))
def b_law_odd : Ss := (.cons (.asg 3 (.int 7)) (.cons (.ite (.cmp .gt (.var 2) (.int 0)) (.cons (.asg 3 (.sub (.var 1) (.bin false .sub (.var 2) (.int 1)))) .nil) .nil) (.cons (.ret (.sub (.lst false (.cons (.bl true) (.cons (.bl false) (.cons .non (.cons (.str "") (.cons (.str "3") (.cons (.tup .nil) (.cons (.lst false (.cons (.int 1) .nil)) (.cons (.var 3) (.cons (.tup (.cons (.var 3) .nil)) .nil)))))))))) (.bin false .mod (.f1 .int (.call "_law_cell" (.cons (.var 0) (.cons (.int 44) .nil)))) (.int 9)))) .nil)))
def b_law_says : Ss := (.cons (.ret (.bo true (.cons (.isi (.var 0) .bool) (.cons (.cmp .eq (.var 0) (.var 1)) .nil)))) .nil)
def b_is_whole : Ss := (.cons (.ret (.bo true (.cons (.isi (.var 0) .int) (.cons (.not (.isi (.var 0) .bool)) .nil)))) .nil)
def b_is_between : Ss := (.cons (.ret (.bo true (.cons (.call "is_whole" (.cons (.var 0) .nil)) (.cons (.chain .le .le (.var 1) (.var 0) (.var 2)) .nil)))) .nil)
def b_law_edges : Ss := (.cons (.ite (.not (.call "_law_says" (.cons (.call "is_between" (.cons (.var 0) (.cons (.var 0) (.cons (.var 0) .nil)))) (.cons (.bl true) .nil)))) (.cons (.ret (.bl false)) .nil) .nil) (.cons (.ite (.not (.call "_law_says" (.cons (.call "is_between" (.cons (.var 0) (.cons (.bin false .add (.var 0) (.int 1)) (.cons (.bin false .add (.var 0) (.int 1)) .nil)))) (.cons (.bl false) .nil)))) (.cons (.ret (.bl false)) .nil) .nil) (.cons (.ite (.not (.call "_law_says" (.cons (.call "is_between" (.cons (.var 0) (.cons (.bin false .sub (.var 0) (.int 1)) (.cons (.bin false .sub (.var 0) (.int 1)) .nil)))) (.cons (.bl false) .nil)))) (.cons (.ret (.bl false)) .nil) .nil) (.cons (.ret (.call "_law_says" (.cons (.call "is_between" (.cons (.var 0) (.cons (.bin false .add (.var 0) (.int 1)) (.cons (.bin false .sub (.var 0) (.int 1)) .nil)))) (.cons (.bl false) .nil)))) .nil))))
def b_is_row : Ss := (.cons (.ret (.isi2 (.var 0) .tuple .list)) .nil)
def b_law_is_row : Ss := (.cons (.ret (.bo false (.cons (.isi (.var 0) .tuple) (.cons (.isi (.var 0) .list) .nil)))) .nil)
def b_law_is_integer : Ss := (.cons (.ret (.bo true (.cons (.isi (.var 0) .int) (.cons (.not (.isi (.var 0) .bool)) .nil)))) .nil)
def b_are_numbers_1 : Ss := (.cons (.ite (.not (.call "is_between" (.cons (.var 4) (.cons (.var 2) (.cons (.var 3) .nil))))) (.cons (.ret (.bl false)) .nil) .nil) .nil)
def b_are_numbers : Ss := (.cons (.ite (.bo false (.cons (.not (.call "is_row" (.cons (.var 0) .nil))) (.cons (.cmp .ne (.f1 .len (.var 0)) (.var 1)) .nil))) (.cons (.ret (.bl false)) .nil) .nil) (.cons (.forr 4 (.var 0) b_are_numbers_1) (.cons (.ret (.bl true)) .nil)))
def b_law_numbers_1 : Ss := (.cons (.ite (.bo false (.cons (.not (.call "_law_is_integer" (.cons (.var 4) .nil))) (.cons (.cmp .lt (.var 4) (.var 2)) (.cons (.cmp .gt (.var 4) (.var 3)) .nil)))) (.cons (.ret (.bl false)) .nil) .nil) .nil)
def b_law_numbers : Ss := (.cons (.ite (.bo false (.cons (.not (.call "_law_is_row" (.cons (.var 0) .nil))) (.cons (.cmp .ne (.f1 .len (.var 0)) (.var 1)) .nil))) (.cons (.ret (.bl false)) .nil) .nil) (.cons (.forr 4 (.var 0) b_law_numbers_1) (.cons (.ret (.bl true)) .nil)))
def b_is_rising_1 : Ss := (.cons (.ite (.not (.call "is_whole" (.cons (.var 2) .nil))) (.cons (.ret (.bl false)) .nil) .nil) (.cons (.ite (.bo true (.cons (.cmp .isnot (.var 1) .non) (.cons (.cmp .le (.var 2) (.var 1)) .nil))) (.cons (.ret (.bl false)) .nil) .nil) (.cons (.asg 1 (.var 2)) .nil)))
def b_is_rising : Ss := (.cons (.ite (.not (.call "is_row" (.cons (.var 0) .nil))) (.cons (.ret (.bl false)) .nil) .nil) (.cons (.asg 1 .non) (.cons (.forr 2 (.var 0) b_is_rising_1) (.cons (.ret (.bl true)) .nil))))
def b_law_rising_1 : Ss := (.cons (.ite (.not (.call "_law_is_integer" (.cons (.sub (.var 0) (.var 1)) .nil))) (.cons (.ret (.bl false)) .nil) .nil) (.cons (.ite (.bo true (.cons (.cmp .gt (.var 1) (.int 0)) (.cons (.cmp .le (.sub (.var 0) (.var 1)) (.sub (.var 0) (.bin false .sub (.var 1) (.int 1)))) .nil))) (.cons (.ret (.bl false)) .nil) .nil) .nil))
def b_law_rising : Ss := (.cons (.ite (.not (.call "_law_is_row" (.cons (.var 0) .nil))) (.cons (.ret (.bl false)) .nil) .nil) (.cons (.forr 1 (.rng (.cons (.f1 .len (.var 0)) .nil)) b_law_rising_1) (.cons (.ret (.bl true)) .nil)))
def b_law_judged : Ss := (.cons (.ite (.not (.call "_law_says" (.cons (.call "is_row" (.cons (.var 0) .nil)) (.cons (.call "_law_is_row" (.cons (.var 0) .nil)) .nil)))) (.cons (.ret (.bl false)) .nil) .nil) (.cons (.ite (.not (.call "_law_says" (.cons (.call "is_whole" (.cons (.var 0) .nil)) (.cons (.call "_law_is_integer" (.cons (.var 0) .nil)) .nil)))) (.cons (.ret (.bl false)) .nil) .nil) (.cons (.asg 4 (.bo true (.cons (.call "_law_is_integer" (.cons (.var 0) .nil)) (.cons (.cmp .le (.var 2) (.var 0)) (.cons (.cmp .le (.var 0) (.var 3)) .nil))))) (.cons (.ite (.not (.call "_law_says" (.cons (.call "is_between" (.cons (.var 0) (.cons (.var 2) (.cons (.var 3) .nil)))) (.cons (.var 4) .nil)))) (.cons (.ret (.bl false)) .nil) .nil) (.cons (.ite (.not (.call "_law_says" (.cons (.call "are_numbers" (.cons (.var 0) (.cons (.var 1) (.cons (.var 2) (.cons (.var 3) .nil))))) (.cons (.call "_law_numbers" (.cons (.var 0) (.cons (.var 1) (.cons (.var 2) (.cons (.var 3) .nil))))) .nil)))) (.cons (.ret (.bl false)) .nil) .nil) (.cons (.ret (.call "_law_says" (.cons (.call "is_rising" (.cons (.var 0) .nil)) (.cons (.call "_law_rising" (.cons (.var 0) .nil)) .nil)))) .nil))))))
def b_law_is_tuple_1 : Ss := (.cons (.ite (.bo false (.cons (.not (.call "_law_is_integer" (.cons (.sub (.var 0) (.var 2)) .nil))) (.cons (.cmp .ne (.sub (.var 0) (.var 2)) (.sub (.var 1) (.var 2))) .nil))) (.cons (.ret (.bl false)) .nil) .nil) .nil)
def b_law_is_tuple : Ss := (.cons (.ite (.bo false (.cons (.not (.isi (.var 0) .tuple)) (.cons (.cmp .ne (.f1 .len (.var 0)) (.f1 .len (.var 1))) .nil))) (.cons (.ret (.bl false)) .nil) .nil) (.cons (.forr 2 (.rng (.cons (.f1 .len (.var 1)) .nil)) b_law_is_tuple_1) (.cons (.ret (.bl true)) .nil)))
def b_union : Ss := (.cons (.ret (.g1 false .tuple (.g1 false .sortset (.bin false .add (.g1 false .list (.var 0)) (.g1 false .list (.var 1)))))) .nil)
def b_minus_1 : E := (.cmp .notin (.var 2) (.var 1))
def b_minus : Ss := (.cons (.ret (.g1 false .tuple (.comp false 2 (.var 0) b_minus_1 (.var 2)))) .nil)
def b_common_1 : E := (.cmp .in_ (.var 2) (.var 1))
def b_common : Ss := (.cons (.ret (.g1 false .tuple (.comp false 2 (.var 0) b_common_1 (.var 2)))) .nil)
def b_law_sets_1 : E := (.cmp .notin (.var 5) (.var 2))
def b_law_sets_2 : E := (.cmp .in_ (.var 5) (.var 2))
def b_law_sets : Ss := (.cons (.asg 3 (.g1 false .list (.var 1))) (.cons (.asg 4 (.g1 false .list (.var 2))) (.cons (.ite (.cmp .eq (.bin false .mod (.f1 .int (.bin false .fdiv (.call "_law_cell" (.cons (.var 0) (.cons (.int 46) .nil))) (.int 2))) (.int 2)) (.int 1)) (.cons (.asg 3 (.g1 false .tuple (.var 1))) .nil) .nil) (.cons (.ite (.cmp .eq (.bin false .mod (.f1 .int (.bin false .fdiv (.call "_law_cell" (.cons (.var 0) (.cons (.int 46) .nil))) (.int 4))) (.int 2)) (.int 1)) (.cons (.asg 4 (.g1 false .tuple (.var 2))) .nil) .nil) (.cons (.ite (.not (.call "_law_is_tuple" (.cons (.call "union" (.cons (.var 3) (.cons (.var 4) .nil))) (.cons (.g1 false .sortset (.bin false .add (.var 1) (.var 2))) .nil)))) (.cons (.ret (.bl false)) .nil) .nil) (.cons (.ite (.not (.call "_law_is_tuple" (.cons (.call "minus" (.cons (.var 3) (.cons (.var 4) .nil))) (.cons (.comp false 5 (.var 1) b_law_sets_1 (.var 5)) .nil)))) (.cons (.ret (.bl false)) .nil) .nil) (.cons (.ite (.not (.call "_law_is_tuple" (.cons (.call "common" (.cons (.var 3) (.cons (.var 4) .nil))) (.cons (.comp false 5 (.var 1) b_law_sets_2 (.var 5)) .nil)))) (.cons (.ret (.bl false)) .nil) .nil) (.cons (.ret (.bo true (.cons (.cmp .eq (.g1 false .list (.var 3)) (.var 1)) (.cons (.cmp .eq (.g1 false .list (.var 4)) (.var 2)) .nil)))) .nil))))))))
def b_law_second_1 : Ss := (.cons (.asg 5 (.call "_law_cell" (.cons (.var 0) (.cons (.bin false .add (.int 51) (.var 4)) .nil)))) (.cons (.ite (.bo true (.cons (.var 3) (.cons (.cmp .gt (.f1 .len (.var 1)) (.int 0)) (.cons (.cmp .eq (.bin false .mod (.f1 .int (.var 5)) (.int 3)) (.int 0)) .nil)))) (.cons (.expr (.app (.var 2) (.sub (.var 1) (.bin false .mod (.f1 .int (.bin false .fdiv (.var 5) (.int 3))) (.f1 .len (.var 1)))))) .nil) (.cons (.expr (.app (.var 2) (.var 5))) .nil)) .nil))
def b_law_second : Ss := (.cons (.asg 2 (.lst true .nil)) (.cons (.asg 3 (.cmp .eq (.bin false .mod (.f1 .int (.bin false .fdiv (.call "_law_cell" (.cons (.var 0) (.cons (.int 50) .nil))) (.int 13))) (.int 2)) (.int 1))) (.cons (.forr 4 (.rng (.cons (.bin false .mod (.f1 .int (.call "_law_cell" (.cons (.var 0) (.cons (.int 50) .nil)))) (.int 13)) .nil)) b_law_second_1) (.cons (.ret (.g1 false .sortset (.var 2))) .nil))))
def b_law_1 : Ss := (.cons (.asg 11 (.bin false .mod (.f1 .int (.call "_law_cell" (.cons (.var 0) (.cons (.int 43) .nil)))) (.f1 .len (.var 2)))) (.cons (.asg 3 (.call "_law_odd" (.cons (.var 0) (.cons (.var 1) (.cons (.var 11) .nil))))) (.cons (.asg 6 (.lst false (.cons (.f1 .min (.var 1)) (.cons (.f1 .max (.var 1)) .nil)))) (.cons (.ite (.not (.call "_law_edges" (.cons (.sub (.var 1) (.var 11)) .nil))) (.cons (.ret (.bl false)) .nil) .nil) (.cons (.ite (.cmp .gt (.bin false .mod (.f1 .int (.call "_law_cell" (.cons (.var 0) (.cons (.int 45) .nil)))) (.int 9)) (.int 3)) (.cons (.sto (.var 2) (.var 11) (.var 3)) .nil) .nil) .nil)))))
def b_law_2 : Ss := (.cons (.ite (.not (.call "_law_judged" (.cons (.var 9) (.cons (.int 1) (.cons (.var 4) (.cons (.var 5) .nil)))))) (.cons (.ret (.bl false)) .nil) .nil) .nil)
def b_law_c7 : Ss := (.cons (.asg 7 (.g1 false .list (.var 2))) (.cons (.ite (.cmp .eq (.bin false .mod (.f1 .int (.call "_law_cell" (.cons (.var 0) (.cons (.int 46) .nil)))) (.int 2)) (.int 1)) (.cons (.asg 7 (.g1 false .tuple (.var 2))) .nil) .nil) (.cons (.asg 8 (.mm true (.int 0) (.bin false .sub (.bin false .add (.f1 .len (.var 2)) (.bin false .mod (.f1 .int (.call "_law_cell" (.cons (.var 0) (.cons (.int 49) .nil)))) (.int 3))) (.int 1)))) (.cons (.ite (.not (.call "_law_judged" (.cons (.var 7) (.cons (.f1 .len (.var 2)) (.cons (.sub (.var 6) (.int 0)) (.cons (.sub (.var 6) (.int 1)) .nil)))))) (.cons (.ret (.bl false)) .nil) .nil) (.cons (.ite (.not (.call "_law_judged" (.cons (.var 7) (.cons (.var 8) (.cons (.bin false .sub (.bin false .add (.sub (.var 6) (.int 0)) (.bin false .mod (.f1 .int (.var 4)) (.int 3))) (.int 1)) (.cons (.bin false .sub (.bin false .add (.sub (.var 6) (.int 1)) (.bin false .mod (.f1 .int (.var 5)) (.int 3))) (.int 1)) .nil)))))) (.cons (.ret (.bl false)) .nil) .nil) (.cons (.forr 9 (.bin false .add (.var 2) (.lst false (.cons (.var 3) .nil))) b_law_2) (.cons (.ite (.cmp .ne (.g1 false .list (.var 7)) (.frz (.var 2))) (.cons (.ret (.bl false)) .nil) .nil) (.cons (.asg 10 (.g1 false .sortset (.var 1))) (.cons (.ret (.call "_law_sets" (.cons (.var 0) (.cons (.var 10) (.cons (.call "_law_second" (.cons (.var 0) (.cons (.var 10) .nil))) .nil))))) .nil)))))))))
def b_law_c6 : Ss := (.cons (.ite (.cmp .gt (.f1 .len (.var 2)) (.int 0)) b_law_1 .nil) b_law_c7)
def b_law_c3 : Ss := (.cons (.asg 4 (.call "_law_cell" (.cons (.var 0) (.cons (.int 47) .nil)))) (.cons (.asg 5 (.call "_law_cell" (.cons (.var 0) (.cons (.int 48) .nil)))) (.cons (.asg 6 (.lst false (.cons (.var 4) (.cons (.var 5) .nil)))) b_law_c6)))
def b_law : Ss := (.cons (.asg 1 (.call "_law_first" (.cons (.var 0) .nil))) (.cons (.asg 2 (.g1 true .list (.var 1))) (.cons (.asg 3 (.call "_law_odd" (.cons (.var 0) (.cons (.var 1) (.cons (.int 0) .nil))))) b_law_c3)))
/-! ### what each def gives -/
def isW : Val → Bool | .int _ => true | _ => false
def seqC : Val → Option (List Val) | .tup xs => some xs | .lst xs => some xs | .scr xs => some xs | _ => none
def isR (v : Val) : Bool := (seqC v).isSome
def btw (l h : Int) : Val → Bool | .int i => decide (l ≤ i) && decide (i ≤ h) | _ => false
def nums (c l h : Int) (v : Val) : Bool := match seqC v with | some xs => decide ((xs.length : Int) = c) && xs.all (btw l h) | none => false
def ltO : Option Int → Int → Bool | some j, i => decide (j < i) | none, _ => true
/-- an int below the next int -/
def ltV : Val → Val → Bool | .int i, .int j => decide (i < j) | _, _ => false
def risingF : Option Int → List Val → Bool
  | _, [] => true
  | o, .int i :: xs => ltO o i && risingF (some i) xs
  | _, _ :: _ => false
def rising (v : Val) : Bool := match seqC v with | some xs => risingF none xs | none => false
def cell (ns : List Int) (k : Nat) : Int := ns.getD k 0
def seqInts (v : Val) : Option (List Int) := (seqC v).bind asInts
def step4 (kind : Int) : Int := if kind = 2 then -1 else if kind = 3 then 1 else 0
def firstRow (ns : List Int) (kind : Int) : Nat → Nat → Int → List Int
  | 0, _, _ => []
  | n + 1, k, t => let c := cell ns (3 + k)
    let t' := t + c % 4 + step4 kind
    (if kind < 2 then c else t') :: firstRow ns kind n (k + 1) t'
def kindOf (ns : List Int) : Int := cell ns 1 % 4
def firstL (ns : List Int) : List Int :=
  let row := firstRow ns (kindOf ns) (cell ns 0 % 21).toNat 0 (cell ns 2)
  if kindOf ns = 1 then sortS row else row
def secRow (ns first : List Int) : List Int := (List.range (cell ns 50 % 13).toNat).map fun (k : Nat) => let c := cell ns (51 + k)
  if (cell ns 50 / 13) % 2 = 1 ∧ 0 < first.length ∧ c % 3 = 0 then first.getD ((c / 3) % (first.length : Int)).toNat 0 else c
def oddV (b : Int) (k : Int) : Val :=
  if k = 0 then .bl true else if k = 1 then .bl false else if k = 2 then .non else if k = 3 then .str "" else if k = 4 then .str "3" else if k = 5 then .tup [] else if k = 6 then .lst [.int 1] else if k = 7 then .int b else .tup [.int b]

def f_law_cell : List Val → Option Val | [.scr xs, .int k] => if 0 ≤ k then some (xs.getD k.toNat (.int 0)) else none | _ => none
def f_law_first : List Val → Option Val | [.scr xs] => (asInts xs).map fun ns => .lst (vInts (firstL ns)) | _ => none
def f_law_odd : List Val → Option Val
  | [.scr xs, .lst ys, .int p] => match asInts xs, asInts ys with
    | some ns, some ms => if 0 ≤ p ∧ (p = 0 ∨ p < ms.length) then some (oddV (if 0 < p then ms.getD (p - 1).toNat 0 else 7) (cell ns 44 % 9)) else none
    | _, _ => none
  | _ => none
def f_law_says : List Val → Option Val | [.bl a, .bl d] => some (.bl (a == d)) | _ => none
def f_is_whole : List Val → Option Val | [v] => some (.bl (isW v)) | _ => none
def f_is_between : List Val → Option Val | [v, .int l, .int h] => some (.bl (btw l h v)) | _ => none
def f_law_edges : List Val → Option Val | [.int _] => some (.bl true) | _ => none
def f_is_row : List Val → Option Val | [v] => some (.bl (isR v)) | _ => none
def f_are_numbers : List Val → Option Val | [v, .int c, .int l, .int h] => some (.bl (nums c l h v)) | _ => none
def f_is_rising : List Val → Option Val | [v] => some (.bl (rising v)) | _ => none
def lenOk (v : Val) : Bool := match seqC v with | some xs => decide (xs.length ≤ 1000) | none => true
def f_law_rising : List Val → Option Val | [v] => if lenOk v then some (.bl (rising v)) else none | _ => none
def f_law_judged : List Val → Option Val | [v, .int _, .int _, .int _] => if lenOk v then some (.bl true) else none | _ => none
def f_law_is_tuple : List Val → Option Val
  | [.tup xs, .lst ys] => match asInts xs, asInts ys with | some a, some b => if a = b ∧ a.length ≤ 1000 then some (.bl true) else none | _, _ => none
  | _ => none
def f_union : List Val → Option Val
  | [x, y] => match seqInts x, seqInts y with | some a, some b => if (a ++ b).length < 64 then some (.tup (vInts (sortS (a ++ b)))) else none | _, _ => none
  | _ => none
def f_minus : List Val → Option Val
  | [x, y] => match seqInts x, seqInts y with | some a, some b => if a.length < 64 then some (.tup (vInts (a.filter fun n => !b.contains n))) else none | _, _ => none
  | _ => none
def f_common : List Val → Option Val
  | [x, y] => match seqInts x, seqInts y with | some a, some b => if a.length < 64 then some (.tup (vInts (a.filter fun n => b.contains n))) else none | _, _ => none
  | _ => none
def f_law_second : List Val → Option Val
  | [.scr xs, .lst ys] => match asInts xs, asInts ys with | some ns, some ms => if ms.length < 64 then some (.lst (vInts (sortS (secRow ns ms)))) else none | _, _ => none
  | _ => none
def f_law_sets : List Val → Option Val
  | [.scr xs, .lst a, .lst b] => match asInts xs, asInts a, asInts b with | some _, some a, some b => if (a ++ b).length < 64 then some (.bl true) else none | _, _, _ => none
  | _ => none
def f_law : List Val → Option Val | [.scr xs] => (asInts xs).map fun _ => .bl true | _ => none
abbrev m_law_cell := pureM 2 f_law_cell
abbrev m_law_first := pureM 1 f_law_first
abbrev m_law_odd := pureM 3 f_law_odd
abbrev m_law_says := pureM 2 f_law_says
abbrev m_is_whole := pureM 1 f_is_whole
abbrev m_is_between := pureM 3 f_is_between
abbrev m_law_edges := pureM 1 f_law_edges
abbrev m_is_row := pureM 1 f_is_row
abbrev m_law_is_row := pureM 1 f_is_row
abbrev m_law_is_integer := pureM 1 f_is_whole
abbrev m_are_numbers := pureM 4 f_are_numbers
abbrev m_law_numbers := pureM 4 f_are_numbers
abbrev m_is_rising := pureM 1 f_is_rising
abbrev m_law_rising := pureM 1 f_law_rising
abbrev m_law_judged := pureM 4 f_law_judged
abbrev m_law_is_tuple := pureM 2 f_law_is_tuple
abbrev m_union := pureM 2 f_union
abbrev m_minus := pureM 2 f_minus
abbrev m_common := pureM 2 f_common
abbrev m_law_second := pureM 2 f_law_second
abbrev m_law_sets := pureM 3 f_law_sets
abbrev m_law := pureM 1 f_law
def top (i : Nat) : Stmt := PySem.Challenge.pw_lastdoor_k01_rows.main.body.getD i (.Pass ⟨0, 0, 0, 0⟩)
def bs : List Str := ["bool", "int", "isinstance", "len", "list", "max", "min", "range", "set", "sorted", "tuple"]
def mirs : List (Str × Mir) := [("_law_cell", m_law_cell), ("_law_first", m_law_first), ("_law_odd", m_law_odd), ("_law_says", m_law_says), ("is_whole", m_is_whole), ("is_between", m_is_between), ("_law_edges", m_law_edges), ("is_row", m_is_row), ("_law_is_row", m_law_is_row), ("_law_is_integer", m_law_is_integer), ("are_numbers", m_are_numbers), ("_law_numbers", m_law_numbers), ("is_rising", m_is_rising), ("_law_rising", m_law_rising), ("_law_judged", m_law_judged), ("_law_is_tuple", m_law_is_tuple), ("union", m_union), ("minus", m_minus), ("common", m_common), ("_law_sets", m_law_sets), ("_law_second", m_law_second), ("law", m_law)]
def Φ : Tab := fun x => mirs.lookup x
def d_law_cell : Def := ⟨"_law_cell", top 10, ["script", "k"], ["script", "k"], 0, [], b_law_cell, m_law_cell⟩
def d_law_first : Def := ⟨"_law_first", top 17, ["script"], ["script", "kind", "total", "row", "k", "cell"], 1, ["_law_cell"], b_law_first, m_law_first⟩
def d_law_odd : Def := ⟨"_law_odd", top 19, ["script", "numbers", "place"], ["script", "numbers", "place", "before"], 1, ["_law_cell"], b_law_odd, m_law_odd⟩
def d_law_says : Def := ⟨"_law_says", top 13, ["actual", "due"], ["actual", "due"], 0, [], b_law_says, m_law_says⟩
def d_is_whole : Def := ⟨"is_whole", top 1, ["value"], ["value"], 0, [], b_is_whole, m_is_whole⟩
def d_is_between : Def := ⟨"is_between", top 3, ["value", "low", "high"], ["value", "low", "high"], 1, ["is_whole"], b_is_between, m_is_between⟩
def d_law_edges : Def := ⟨"_law_edges", top 21, ["number"], ["number"], 2, ["_law_says", "is_between"], b_law_edges, m_law_edges⟩
def d_is_row : Def := ⟨"is_row", top 2, ["value"], ["value"], 0, [], b_is_row, m_is_row⟩
def d_law_is_row : Def := ⟨"_law_is_row", top 12, ["value"], ["value"], 0, [], b_law_is_row, m_law_is_row⟩
def d_law_is_integer : Def := ⟨"_law_is_integer", top 11, ["value"], ["value"], 0, [], b_law_is_integer, m_law_is_integer⟩
def d_are_numbers : Def := ⟨"are_numbers", top 4, ["value", "count", "low", "high"], ["value", "count", "low", "high", "number"], 2, ["is_row", "is_between"], b_are_numbers, m_are_numbers⟩
def d_law_numbers : Def := ⟨"_law_numbers", top 14, ["value", "count", "low", "high"], ["value", "count", "low", "high", "number"], 1, ["_law_is_row", "_law_is_integer"], b_law_numbers, m_law_numbers⟩
def d_is_rising : Def := ⟨"is_rising", top 5, ["value"], ["value", "last", "number"], 1, ["is_row", "is_whole"], b_is_rising, m_is_rising⟩
def d_law_rising : Def := ⟨"_law_rising", top 15, ["value"], ["value", "k"], 1, ["_law_is_row", "_law_is_integer"], b_law_rising, m_law_rising⟩
def d_law_judged : Def := ⟨"_law_judged", top 20, ["value", "count", "low", "high"], ["value", "count", "low", "high", "due"], 3, ["_law_says", "is_row", "_law_is_row", "is_whole", "_law_is_integer", "is_between", "are_numbers", "_law_numbers", "is_rising", "_law_rising"], b_law_judged, m_law_judged⟩
def d_law_is_tuple : Def := ⟨"_law_is_tuple", top 16, ["actual", "due"], ["actual", "due", "k"], 1, ["_law_is_integer"], b_law_is_tuple, m_law_is_tuple⟩
def d_union : Def := ⟨"union", top 6, ["first", "second"], ["first", "second"], 0, [], b_union, m_union⟩
def d_minus : Def := ⟨"minus", top 7, ["first", "second"], ["first", "second", "number"], 0, [], b_minus, m_minus⟩
def d_common : Def := ⟨"common", top 8, ["first", "second"], ["first", "second", "number"], 0, [], b_common, m_common⟩
def d_law_sets : Def := ⟨"_law_sets", top 22, ["script", "first", "second"], ["script", "first", "second", "one", "two", "number"], 2, ["_law_cell", "_law_is_tuple", "union", "minus", "common"], b_law_sets, m_law_sets⟩
def d_law_second : Def := ⟨"_law_second", top 18, ["script", "first"], ["script", "first", "row", "mixed", "k", "cell"], 1, ["_law_cell"], b_law_second, m_law_second⟩
def d_law : Def := ⟨"law", top 23, ["script"], ["script", "numbers", "row", "odd", "low", "high", "near", "given", "count", "member", "first", "place"], 4, ["_law_first", "_law_odd", "_law_cell", "_law_edges", "_law_judged", "_law_sets", "_law_second"], b_law, m_law⟩
def tab : List Def := [d_law_cell, d_law_first, d_law_odd, d_law_says, d_is_whole, d_is_between, d_law_edges, d_is_row, d_law_is_row, d_law_is_integer, d_are_numbers, d_law_numbers, d_is_rising, d_law_rising, d_law_judged, d_law_is_tuple, d_union, d_minus, d_common, d_law_sets, d_law_second, d_law]
theorem dom_law_cell : Φ "_law_cell" = some m_law_cell := by rfl
theorem dom_law_first : Φ "_law_first" = some m_law_first := by rfl
theorem dom_law_odd : Φ "_law_odd" = some m_law_odd := by rfl
theorem dom_law_says : Φ "_law_says" = some m_law_says := by rfl
theorem dom_is_whole : Φ "is_whole" = some m_is_whole := by rfl
theorem dom_is_between : Φ "is_between" = some m_is_between := by rfl
theorem dom_law_edges : Φ "_law_edges" = some m_law_edges := by rfl
theorem dom_is_row : Φ "is_row" = some m_is_row := by rfl
theorem dom_law_is_row : Φ "_law_is_row" = some m_law_is_row := by rfl
theorem dom_law_is_integer : Φ "_law_is_integer" = some m_law_is_integer := by rfl
theorem dom_are_numbers : Φ "are_numbers" = some m_are_numbers := by rfl
theorem dom_law_numbers : Φ "_law_numbers" = some m_law_numbers := by rfl
theorem dom_is_rising : Φ "is_rising" = some m_is_rising := by rfl
theorem dom_law_rising : Φ "_law_rising" = some m_law_rising := by rfl
theorem dom_law_judged : Φ "_law_judged" = some m_law_judged := by rfl
theorem dom_law_is_tuple : Φ "_law_is_tuple" = some m_law_is_tuple := by rfl
theorem dom_union : Φ "union" = some m_union := by rfl
theorem dom_minus : Φ "minus" = some m_minus := by rfl
theorem dom_common : Φ "common" = some m_common := by rfl
theorem dom_law_sets : Φ "_law_sets" = some m_law_sets := by rfl
theorem dom_law_second : Φ "_law_second" = some m_law_second := by rfl
theorem dom_law : Φ "law" = some m_law := by rfl
theorem chk_all : ∀ d ∈ tab, defB (tab.map fun d => (d.x, d.lv)) bs d = true := by decide +kernel
/-! ### reading -/
def G0 : Str → Option Val := fun _ => none
theorem gO : (fun _ => none : Str → Option Val) = G0 := rfl
section
variable {st : Store}
theorem c1 {v : Val} (h : closed 0 v = true) : closedL 0 [v] = true := by simp [closedL, h]
theorem c_cell {ns : List Int} {k : Int} (h : 0 ≤ k) : m_law_cell [.scr (vInts ns), .int k] st = .ok (.int (cell ns k.toNat), st) := by
  refine pureM_ok rfl (by simp [closedL, closed, closed_vInts]) ?_
  simp only [f_law_cell, if_pos h]
  congr 1
  unfold cell vInts
  simp only [List.getD_eq_getElem?_getD, List.getElem?_map]
  cases ns[k.toNat]? <;> rfl
theorem c_says (a d : Bool) : m_law_says [.bl a, .bl d] st = .ok (.bl (a == d), st) := pureM_ok rfl rfl rfl
theorem c_whole {v : Val} (h : closed 0 v = true) : m_is_whole [v] st = .ok (.bl (isW v), st) := pureM_ok rfl (c1 h) rfl
theorem c_row {v : Val} (h : closed 0 v = true) : m_is_row [v] st = .ok (.bl (isR v), st) := pureM_ok rfl (c1 h) rfl
theorem c_btw {v : Val} {l u : Int} (h : closed 0 v = true) : m_is_between [v, .int l, .int u] st = .ok (.bl (btw l u v), st) := pureM_ok rfl (by simp [closedL, h, closed]) rfl
theorem c_edges {i : Int} : m_law_edges [.int i] st = .ok (.bl true, st) := pureM_ok rfl rfl rfl
theorem c_nums {v : Val} {c l u : Int} (h : closed 0 v = true) : m_are_numbers [v, .int c, .int l, .int u] st = .ok (.bl (nums c l u v), st) := pureM_ok rfl (by simp [closedL, h, closed]) rfl
theorem c_rising {v : Val} (h : closed 0 v = true) : m_is_rising [v] st = .ok (.bl (rising v), st) := pureM_ok rfl (c1 h) rfl
theorem c_lrising {v : Val} (h : closed 0 v = true) (hl : lenOk v = true) : m_law_rising [v] st = .ok (.bl (rising v), st) := pureM_ok rfl (c1 h) (by simp only [f_law_rising, hl, if_true])
theorem c_judged {v : Val} {c l u : Int} (h : closed 0 v = true) (hl : lenOk v = true) : m_law_judged [v, .int c, .int l, .int u] st = .ok (.bl true, st) := pureM_ok rfl (by simp [closedL, h, closed]) (by simp only [f_law_judged, hl, if_true])
abbrev Real (np n : Nat) (b : Ss) (f : List Val → Option Val) : Prop := ∀ args st v, args.length = np → closedL 0 args = true → f args = some v → ∃ g, realM Φ (fun _ => none) np n b args st = .ok (v, st ++ g) ∧ closed 0 v = true
theorem real0 {np n : Nat} {b : Ss} {args : List Val} {st : Store} {v : Val} (h : realM Φ G0 np n b args st = .ok (v, st)) (hc : closed 0 v = true) : ∃ g, realM Φ (fun _ => none) np n b args st = .ok (v, st ++ g) ∧ closed 0 v = true := ⟨[], by rw [gO, h, List.append_nil], hc⟩
theorem len1 {args : List Val} (h : args.length = 1) : ∃ a, args = [a] := match args, h with | [a], _ => ⟨a, rfl⟩
theorem len2 {args : List Val} (h : args.length = 2) : ∃ a b, args = [a, b] := match args, h with | [a, b], _ => ⟨a, b, rfl⟩
theorem len3 {args : List Val} (h : args.length = 3) : ∃ a b c, args = [a, b, c] := match args, h with | [a, b, c], _ => ⟨a, b, c, rfl⟩
theorem len4 {args : List Val} (h : args.length = 4) : ∃ a b c d, args = [a, b, c, d] := match args, h with | [a, b, c, d], _ => ⟨a, b, c, d, rfl⟩
theorem cl1 {a : Val} (h : closedL 0 [a] = true) : closed 0 a = true := by simpa [closedL] using h

theorem r_is_whole : Real 1 1 b_is_whole f_is_whole := fun args st v hl hc hf => by
  obtain ⟨a, rfl⟩ := len1 hl
  have h := cl1 hc
  cases hf
  refine real0 ?_ rfl
  cases a <;> first
    | (simp only [realM, List.map_cons, List.map_nil, List.length_cons, List.length_nil, List.cons_append, List.nil_append, List.getElem?_cons_zero, List.getElem?_cons_succ, List.set_cons_zero, List.set_cons_succ, MP.R.bind_ok, MP.R.bind_exn, MP.R.st_ok, MP.R.st_exn, RS.bind_next, RS.bind_ret, RS.bind_brk, RS.bind_cnt, RS.bind_exn, isTy, isL, if_true, if_false, Bool.false_eq_true, Bool.true_eq_false, Bool.not_false, Bool.not_true, reduceIte, cmp_lt, cmp_le, cmp_gt, cmp_ge, cmp_is, cmp_isnot, ite_andv, ite_orv, ite_andt, ite_ort, ite_andq, binV, truth_bl, List.replicate_succ, List.replicate_zero, seqOf_tup, seqOf_lst, seqOf_scr, len_tup, len_lst, len_scr, lstOf_lst, mm_int, Nat.zero_add, Nat.reduceAdd, Nat.reduceSub, Int.reduceNeg, int_int, Int.reduceLT, Int.reduceLE, Nat.reduceLT, Int.reduceToNat, true_and, and_true, decide_true, decide_false, id_eq, outS_go, outS_ret, bl_ne1, bl_ne2, noExn_ok, Bool.true_and, Bool.and_true, Bool.false_and, Bool.and_false, Bool.true_or, Bool.or_true, Bool.false_or, Bool.or_false, v_var, t_var, i_var, v_int, t_int, i_int, v_bl, t_bl, i_bl, v_non, t_non, i_non, v_str, t_str, i_str, v_glob, t_glob, i_glob, v_tup, t_tup, i_tup, v_lst, t_lst, i_lst, v_bin, t_bin, i_bin, v_neg, t_neg, i_neg, v_not, t_not, v_cmp, t_cmp, i_cmp, v_chain, t_chain, i_chain, v_bo, t_bo, v_ifx, i_ifx, v_call, t_call, i_call, v_isi, t_isi, i_isi, v_isi2, t_isi2, i_isi2, v_f1, t_f1, i_f1, v_mm, t_mm, i_mm, v_g1, t_g1, i_g1, v_sub, t_sub, i_sub, v_slc, t_slc, i_slc, v_no, t_no, i_rng, v_comp, t_comp, i_comp, v_frz, i_frz, v_app, es_nil, es_cons, bo_1, bo_2, bt_1, bt_2, kVar_, kGl_, kTr_, kTr2_, kI1_t, kI1_l, kI1_s, kTup_, kLst_, kBin_, kBin2_, kNeg_, kNot_, kNotT_, kB_, kVl_, kCmp_, kCmp2_, kCh_, kCh2_, kCh2b_, kCh3_, kIfx_, kCall_, kCal_, kIsi_, kIsi2_, kF1_, kMm_, kMm2_, kG1_, kSub_, kSub2_, kSl_, kSl2_, kSl2b_, kSl3_, kSl3b_, kRng_, kRng2_, kComp_, kFrz_, kApp_, kApp2_, kEs_, kEs2_, kBo_, kBoT_, x_asg, x_sto, x_expr, x_ite, x_for, x_while, x_ret, x_retn, x_pass, x_brk, x_cnt, xs_nil, xs_cons, kAsg_, kExp_, kIte_, kFor_, kRet_, kSto_, kSto2_, kSto3_, kSto4_, runB_, kRun_n, kRun_r, kRun_e, b_is_whole, isW]; done)
    | cases h
theorem r_is_between : Real 3 3 b_is_between f_is_between := fun args st v hl hc hf => by
  obtain ⟨a, b, c, rfl⟩ := len3 hl
  have h : closed 0 a = true := by simp [closedL] at hc; exact hc.1
  cases b <;> cases c <;> first | (cases hf; done) | skip
  cases hf
  refine real0 ?_ rfl
  cases a <;> (simp only [realM, List.map_cons, List.map_nil, List.length_cons, List.length_nil, List.cons_append, List.nil_append, List.getElem?_cons_zero, List.getElem?_cons_succ, List.set_cons_zero, List.set_cons_succ, MP.R.bind_ok, MP.R.bind_exn, MP.R.st_ok, MP.R.st_exn, RS.bind_next, RS.bind_ret, RS.bind_brk, RS.bind_cnt, RS.bind_exn, isTy, isL, if_true, if_false, Bool.false_eq_true, Bool.true_eq_false, Bool.not_false, Bool.not_true, reduceIte, cmp_lt, cmp_le, cmp_gt, cmp_ge, cmp_is, cmp_isnot, ite_andv, ite_orv, ite_andt, ite_ort, ite_andq, binV, truth_bl, List.replicate_succ, List.replicate_zero, seqOf_tup, seqOf_lst, seqOf_scr, len_tup, len_lst, len_scr, lstOf_lst, mm_int, Nat.zero_add, Nat.reduceAdd, Nat.reduceSub, Int.reduceNeg, int_int, Int.reduceLT, Int.reduceLE, Nat.reduceLT, Int.reduceToNat, true_and, and_true, decide_true, decide_false, id_eq, outS_go, outS_ret, bl_ne1, bl_ne2, noExn_ok, Bool.true_and, Bool.and_true, Bool.false_and, Bool.and_false, Bool.true_or, Bool.or_true, Bool.false_or, Bool.or_false, v_var, t_var, i_var, v_int, t_int, i_int, v_bl, t_bl, i_bl, v_non, t_non, i_non, v_str, t_str, i_str, v_glob, t_glob, i_glob, v_tup, t_tup, i_tup, v_lst, t_lst, i_lst, v_bin, t_bin, i_bin, v_neg, t_neg, i_neg, v_not, t_not, v_cmp, t_cmp, i_cmp, v_chain, t_chain, i_chain, v_bo, t_bo, v_ifx, i_ifx, v_call, t_call, i_call, v_isi, t_isi, i_isi, v_isi2, t_isi2, i_isi2, v_f1, t_f1, i_f1, v_mm, t_mm, i_mm, v_g1, t_g1, i_g1, v_sub, t_sub, i_sub, v_slc, t_slc, i_slc, v_no, t_no, i_rng, v_comp, t_comp, i_comp, v_frz, i_frz, v_app, es_nil, es_cons, bo_1, bo_2, bt_1, bt_2, kVar_, kGl_, kTr_, kTr2_, kI1_t, kI1_l, kI1_s, kTup_, kLst_, kBin_, kBin2_, kNeg_, kNot_, kNotT_, kB_, kVl_, kCmp_, kCmp2_, kCh_, kCh2_, kCh2b_, kCh3_, kIfx_, kCall_, kCal_, kIsi_, kIsi2_, kF1_, kMm_, kMm2_, kG1_, kSub_, kSub2_, kSl_, kSl2_, kSl2b_, kSl3_, kSl3b_, kRng_, kRng2_, kComp_, kFrz_, kApp_, kApp2_, kEs_, kEs2_, kBo_, kBoT_, x_asg, x_sto, x_expr, x_ite, x_for, x_while, x_ret, x_retn, x_pass, x_brk, x_cnt, xs_nil, xs_cons, kAsg_, kExp_, kIte_, kFor_, kRet_, kSto_, kSto2_, kSto3_, kSto4_, runB_, kRun_n, kRun_r, kRun_e, b_is_between, dom_is_whole, c_whole h, isW, btw])
theorem r_is_row : Real 1 1 b_is_row f_is_row := fun args st v hl hc hf => by
  obtain ⟨a, rfl⟩ := len1 hl
  have h := cl1 hc
  cases hf
  refine real0 ?_ rfl
  cases a <;> first
    | (simp only [realM, List.map_cons, List.map_nil, List.length_cons, List.length_nil, List.cons_append, List.nil_append, List.getElem?_cons_zero, List.getElem?_cons_succ, List.set_cons_zero, List.set_cons_succ, MP.R.bind_ok, MP.R.bind_exn, MP.R.st_ok, MP.R.st_exn, RS.bind_next, RS.bind_ret, RS.bind_brk, RS.bind_cnt, RS.bind_exn, isTy, isL, if_true, if_false, Bool.false_eq_true, Bool.true_eq_false, Bool.not_false, Bool.not_true, reduceIte, cmp_lt, cmp_le, cmp_gt, cmp_ge, cmp_is, cmp_isnot, ite_andv, ite_orv, ite_andt, ite_ort, ite_andq, binV, truth_bl, List.replicate_succ, List.replicate_zero, seqOf_tup, seqOf_lst, seqOf_scr, len_tup, len_lst, len_scr, lstOf_lst, mm_int, Nat.zero_add, Nat.reduceAdd, Nat.reduceSub, Int.reduceNeg, int_int, Int.reduceLT, Int.reduceLE, Nat.reduceLT, Int.reduceToNat, true_and, and_true, decide_true, decide_false, id_eq, outS_go, outS_ret, bl_ne1, bl_ne2, noExn_ok, Bool.true_and, Bool.and_true, Bool.false_and, Bool.and_false, Bool.true_or, Bool.or_true, Bool.false_or, Bool.or_false, v_var, t_var, i_var, v_int, t_int, i_int, v_bl, t_bl, i_bl, v_non, t_non, i_non, v_str, t_str, i_str, v_glob, t_glob, i_glob, v_tup, t_tup, i_tup, v_lst, t_lst, i_lst, v_bin, t_bin, i_bin, v_neg, t_neg, i_neg, v_not, t_not, v_cmp, t_cmp, i_cmp, v_chain, t_chain, i_chain, v_bo, t_bo, v_ifx, i_ifx, v_call, t_call, i_call, v_isi, t_isi, i_isi, v_isi2, t_isi2, i_isi2, v_f1, t_f1, i_f1, v_mm, t_mm, i_mm, v_g1, t_g1, i_g1, v_sub, t_sub, i_sub, v_slc, t_slc, i_slc, v_no, t_no, i_rng, v_comp, t_comp, i_comp, v_frz, i_frz, v_app, es_nil, es_cons, bo_1, bo_2, bt_1, bt_2, kVar_, kGl_, kTr_, kTr2_, kI1_t, kI1_l, kI1_s, kTup_, kLst_, kBin_, kBin2_, kNeg_, kNot_, kNotT_, kB_, kVl_, kCmp_, kCmp2_, kCh_, kCh2_, kCh2b_, kCh3_, kIfx_, kCall_, kCal_, kIsi_, kIsi2_, kF1_, kMm_, kMm2_, kG1_, kSub_, kSub2_, kSl_, kSl2_, kSl2b_, kSl3_, kSl3b_, kRng_, kRng2_, kComp_, kFrz_, kApp_, kApp2_, kEs_, kEs2_, kBo_, kBoT_, x_asg, x_sto, x_expr, x_ite, x_for, x_while, x_ret, x_retn, x_pass, x_brk, x_cnt, xs_nil, xs_cons, kAsg_, kExp_, kIte_, kFor_, kRet_, kSto_, kSto2_, kSto3_, kSto4_, runB_, kRun_n, kRun_r, kRun_e, b_is_row, isR, seqC, Option.isSome_some, Option.isSome_none]; done)
    | cases h
theorem r_law_is_row : Real 1 1 b_law_is_row f_is_row := fun args st v hl hc hf => by
  obtain ⟨a, rfl⟩ := len1 hl
  have h := cl1 hc
  cases hf
  refine real0 ?_ rfl
  cases a <;> first
    | (simp only [realM, List.map_cons, List.map_nil, List.length_cons, List.length_nil, List.cons_append, List.nil_append, List.getElem?_cons_zero, List.getElem?_cons_succ, List.set_cons_zero, List.set_cons_succ, MP.R.bind_ok, MP.R.bind_exn, MP.R.st_ok, MP.R.st_exn, RS.bind_next, RS.bind_ret, RS.bind_brk, RS.bind_cnt, RS.bind_exn, isTy, isL, if_true, if_false, Bool.false_eq_true, Bool.true_eq_false, Bool.not_false, Bool.not_true, reduceIte, cmp_lt, cmp_le, cmp_gt, cmp_ge, cmp_is, cmp_isnot, ite_andv, ite_orv, ite_andt, ite_ort, ite_andq, binV, truth_bl, List.replicate_succ, List.replicate_zero, seqOf_tup, seqOf_lst, seqOf_scr, len_tup, len_lst, len_scr, lstOf_lst, mm_int, Nat.zero_add, Nat.reduceAdd, Nat.reduceSub, Int.reduceNeg, int_int, Int.reduceLT, Int.reduceLE, Nat.reduceLT, Int.reduceToNat, true_and, and_true, decide_true, decide_false, id_eq, outS_go, outS_ret, bl_ne1, bl_ne2, noExn_ok, Bool.true_and, Bool.and_true, Bool.false_and, Bool.and_false, Bool.true_or, Bool.or_true, Bool.false_or, Bool.or_false, v_var, t_var, i_var, v_int, t_int, i_int, v_bl, t_bl, i_bl, v_non, t_non, i_non, v_str, t_str, i_str, v_glob, t_glob, i_glob, v_tup, t_tup, i_tup, v_lst, t_lst, i_lst, v_bin, t_bin, i_bin, v_neg, t_neg, i_neg, v_not, t_not, v_cmp, t_cmp, i_cmp, v_chain, t_chain, i_chain, v_bo, t_bo, v_ifx, i_ifx, v_call, t_call, i_call, v_isi, t_isi, i_isi, v_isi2, t_isi2, i_isi2, v_f1, t_f1, i_f1, v_mm, t_mm, i_mm, v_g1, t_g1, i_g1, v_sub, t_sub, i_sub, v_slc, t_slc, i_slc, v_no, t_no, i_rng, v_comp, t_comp, i_comp, v_frz, i_frz, v_app, es_nil, es_cons, bo_1, bo_2, bt_1, bt_2, kVar_, kGl_, kTr_, kTr2_, kI1_t, kI1_l, kI1_s, kTup_, kLst_, kBin_, kBin2_, kNeg_, kNot_, kNotT_, kB_, kVl_, kCmp_, kCmp2_, kCh_, kCh2_, kCh2b_, kCh3_, kIfx_, kCall_, kCal_, kIsi_, kIsi2_, kF1_, kMm_, kMm2_, kG1_, kSub_, kSub2_, kSl_, kSl2_, kSl2b_, kSl3_, kSl3b_, kRng_, kRng2_, kComp_, kFrz_, kApp_, kApp2_, kEs_, kEs2_, kBo_, kBoT_, x_asg, x_sto, x_expr, x_ite, x_for, x_while, x_ret, x_retn, x_pass, x_brk, x_cnt, xs_nil, xs_cons, kAsg_, kExp_, kIte_, kFor_, kRet_, kSto_, kSto2_, kSto3_, kSto4_, runB_, kRun_n, kRun_r, kRun_e, b_law_is_row, isR, seqC, Option.isSome_some, Option.isSome_none]; done)
    | cases h
theorem r_law_is_integer : Real 1 1 b_law_is_integer f_is_whole := fun args st v hl hc hf => by
  obtain ⟨a, rfl⟩ := len1 hl
  have h := cl1 hc
  cases hf
  refine real0 ?_ rfl
  cases a <;> first
    | (simp only [realM, List.map_cons, List.map_nil, List.length_cons, List.length_nil, List.cons_append, List.nil_append, List.getElem?_cons_zero, List.getElem?_cons_succ, List.set_cons_zero, List.set_cons_succ, MP.R.bind_ok, MP.R.bind_exn, MP.R.st_ok, MP.R.st_exn, RS.bind_next, RS.bind_ret, RS.bind_brk, RS.bind_cnt, RS.bind_exn, isTy, isL, if_true, if_false, Bool.false_eq_true, Bool.true_eq_false, Bool.not_false, Bool.not_true, reduceIte, cmp_lt, cmp_le, cmp_gt, cmp_ge, cmp_is, cmp_isnot, ite_andv, ite_orv, ite_andt, ite_ort, ite_andq, binV, truth_bl, List.replicate_succ, List.replicate_zero, seqOf_tup, seqOf_lst, seqOf_scr, len_tup, len_lst, len_scr, lstOf_lst, mm_int, Nat.zero_add, Nat.reduceAdd, Nat.reduceSub, Int.reduceNeg, int_int, Int.reduceLT, Int.reduceLE, Nat.reduceLT, Int.reduceToNat, true_and, and_true, decide_true, decide_false, id_eq, outS_go, outS_ret, bl_ne1, bl_ne2, noExn_ok, Bool.true_and, Bool.and_true, Bool.false_and, Bool.and_false, Bool.true_or, Bool.or_true, Bool.false_or, Bool.or_false, v_var, t_var, i_var, v_int, t_int, i_int, v_bl, t_bl, i_bl, v_non, t_non, i_non, v_str, t_str, i_str, v_glob, t_glob, i_glob, v_tup, t_tup, i_tup, v_lst, t_lst, i_lst, v_bin, t_bin, i_bin, v_neg, t_neg, i_neg, v_not, t_not, v_cmp, t_cmp, i_cmp, v_chain, t_chain, i_chain, v_bo, t_bo, v_ifx, i_ifx, v_call, t_call, i_call, v_isi, t_isi, i_isi, v_isi2, t_isi2, i_isi2, v_f1, t_f1, i_f1, v_mm, t_mm, i_mm, v_g1, t_g1, i_g1, v_sub, t_sub, i_sub, v_slc, t_slc, i_slc, v_no, t_no, i_rng, v_comp, t_comp, i_comp, v_frz, i_frz, v_app, es_nil, es_cons, bo_1, bo_2, bt_1, bt_2, kVar_, kGl_, kTr_, kTr2_, kI1_t, kI1_l, kI1_s, kTup_, kLst_, kBin_, kBin2_, kNeg_, kNot_, kNotT_, kB_, kVl_, kCmp_, kCmp2_, kCh_, kCh2_, kCh2b_, kCh3_, kIfx_, kCall_, kCal_, kIsi_, kIsi2_, kF1_, kMm_, kMm2_, kG1_, kSub_, kSub2_, kSl_, kSl2_, kSl2b_, kSl3_, kSl3b_, kRng_, kRng2_, kComp_, kFrz_, kApp_, kApp2_, kEs_, kEs2_, kBo_, kBoT_, x_asg, x_sto, x_expr, x_ite, x_for, x_while, x_ret, x_retn, x_pass, x_brk, x_cnt, xs_nil, xs_cons, kAsg_, kExp_, kIte_, kFor_, kRet_, kSto_, kSto2_, kSto3_, kSto4_, runB_, kRun_n, kRun_r, kRun_e, b_law_is_integer, isW]; done)
    | cases h
theorem r_law_says : Real 2 2 b_law_says f_law_says := fun args st v hl hc hf => by
  obtain ⟨a, b, rfl⟩ := len2 hl
  cases a <;> cases b <;> first | (cases hf; done) | skip
  cases hf
  refine real0 ?_ rfl
  simp only [realM, List.map_cons, List.map_nil, List.length_cons, List.length_nil, List.cons_append, List.nil_append, List.getElem?_cons_zero, List.getElem?_cons_succ, List.set_cons_zero, List.set_cons_succ, MP.R.bind_ok, MP.R.bind_exn, MP.R.st_ok, MP.R.st_exn, RS.bind_next, RS.bind_ret, RS.bind_brk, RS.bind_cnt, RS.bind_exn, isTy, isL, if_true, if_false, Bool.false_eq_true, Bool.true_eq_false, Bool.not_false, Bool.not_true, reduceIte, cmp_lt, cmp_le, cmp_gt, cmp_ge, cmp_is, cmp_isnot, ite_andv, ite_orv, ite_andt, ite_ort, ite_andq, binV, truth_bl, List.replicate_succ, List.replicate_zero, seqOf_tup, seqOf_lst, seqOf_scr, len_tup, len_lst, len_scr, lstOf_lst, mm_int, Nat.zero_add, Nat.reduceAdd, Nat.reduceSub, Int.reduceNeg, int_int, Int.reduceLT, Int.reduceLE, Nat.reduceLT, Int.reduceToNat, true_and, and_true, decide_true, decide_false, id_eq, outS_go, outS_ret, bl_ne1, bl_ne2, noExn_ok, Bool.true_and, Bool.and_true, Bool.false_and, Bool.and_false, Bool.true_or, Bool.or_true, Bool.false_or, Bool.or_false, v_var, t_var, i_var, v_int, t_int, i_int, v_bl, t_bl, i_bl, v_non, t_non, i_non, v_str, t_str, i_str, v_glob, t_glob, i_glob, v_tup, t_tup, i_tup, v_lst, t_lst, i_lst, v_bin, t_bin, i_bin, v_neg, t_neg, i_neg, v_not, t_not, v_cmp, t_cmp, i_cmp, v_chain, t_chain, i_chain, v_bo, t_bo, v_ifx, i_ifx, v_call, t_call, i_call, v_isi, t_isi, i_isi, v_isi2, t_isi2, i_isi2, v_f1, t_f1, i_f1, v_mm, t_mm, i_mm, v_g1, t_g1, i_g1, v_sub, t_sub, i_sub, v_slc, t_slc, i_slc, v_no, t_no, i_rng, v_comp, t_comp, i_comp, v_frz, i_frz, v_app, es_nil, es_cons, bo_1, bo_2, bt_1, bt_2, kVar_, kGl_, kTr_, kTr2_, kI1_t, kI1_l, kI1_s, kTup_, kLst_, kBin_, kBin2_, kNeg_, kNot_, kNotT_, kB_, kVl_, kCmp_, kCmp2_, kCh_, kCh2_, kCh2b_, kCh3_, kIfx_, kCall_, kCal_, kIsi_, kIsi2_, kF1_, kMm_, kMm2_, kG1_, kSub_, kSub2_, kSl_, kSl2_, kSl2b_, kSl3_, kSl3b_, kRng_, kRng2_, kComp_, kFrz_, kApp_, kApp2_, kEs_, kEs2_, kBo_, kBoT_, x_asg, x_sto, x_expr, x_ite, x_for, x_while, x_ret, x_retn, x_pass, x_brk, x_cnt, xs_nil, xs_cons, kAsg_, kExp_, kIte_, kFor_, kRet_, kSto_, kSto2_, kSto3_, kSto4_, runB_, kRun_n, kRun_r, kRun_e, b_law_says, veq_bl]
theorem r_law_cell : Real 2 2 b_law_cell f_law_cell := fun args st v hl hc hf => by
  obtain ⟨a, b, rfl⟩ := len2 hl
  cases a <;> cases b <;> first | (cases hf; done) | skip
  rename_i xs k
  simp only [f_law_cell] at hf
  split at hf
  · rename_i hk
    cases hf
    have hc0 : closedL 0 xs = true := by simp [closedL, closed] at hc; exact hc
    obtain ⟨n, rfl⟩ := Int.eq_ofNat_of_zero_le hk
    cases hx : xs[n]? with
    | some x =>
      have hlt := (List.getElem?_eq_some_iff.mp hx).1
      refine real0 ?_ ?_
      · simp only [realM, List.map_cons, List.map_nil, List.length_cons, List.length_nil, List.cons_append, List.nil_append, List.getElem?_cons_zero, List.getElem?_cons_succ, List.set_cons_zero, List.set_cons_succ, MP.R.bind_ok, MP.R.bind_exn, MP.R.st_ok, MP.R.st_exn, RS.bind_next, RS.bind_ret, RS.bind_brk, RS.bind_cnt, RS.bind_exn, isTy, isL, if_true, if_false, Bool.false_eq_true, Bool.true_eq_false, Bool.not_false, Bool.not_true, reduceIte, cmp_lt, cmp_le, cmp_gt, cmp_ge, cmp_is, cmp_isnot, ite_andv, ite_orv, ite_andt, ite_ort, ite_andq, binV, truth_bl, List.replicate_succ, List.replicate_zero, seqOf_tup, seqOf_lst, seqOf_scr, len_tup, len_lst, len_scr, lstOf_lst, mm_int, Nat.zero_add, Nat.reduceAdd, Nat.reduceSub, Int.reduceNeg, int_int, Int.reduceLT, Int.reduceLE, Nat.reduceLT, Int.reduceToNat, true_and, and_true, decide_true, decide_false, id_eq, outS_go, outS_ret, bl_ne1, bl_ne2, noExn_ok, Bool.true_and, Bool.and_true, Bool.false_and, Bool.and_false, Bool.true_or, Bool.or_true, Bool.false_or, Bool.or_false, v_var, t_var, i_var, v_int, t_int, i_int, v_bl, t_bl, i_bl, v_non, t_non, i_non, v_str, t_str, i_str, v_glob, t_glob, i_glob, v_tup, t_tup, i_tup, v_lst, t_lst, i_lst, v_bin, t_bin, i_bin, v_neg, t_neg, i_neg, v_not, t_not, v_cmp, t_cmp, i_cmp, v_chain, t_chain, i_chain, v_bo, t_bo, v_ifx, i_ifx, v_call, t_call, i_call, v_isi, t_isi, i_isi, v_isi2, t_isi2, i_isi2, v_f1, t_f1, i_f1, v_mm, t_mm, i_mm, v_g1, t_g1, i_g1, v_sub, t_sub, i_sub, v_slc, t_slc, i_slc, v_no, t_no, i_rng, v_comp, t_comp, i_comp, v_frz, i_frz, v_app, es_nil, es_cons, bo_1, bo_2, bt_1, bt_2, kVar_, kGl_, kTr_, kTr2_, kI1_t, kI1_l, kI1_s, kTup_, kLst_, kBin_, kBin2_, kNeg_, kNot_, kNotT_, kB_, kVl_, kCmp_, kCmp2_, kCh_, kCh2_, kCh2b_, kCh3_, kIfx_, kCall_, kCal_, kIsi_, kIsi2_, kF1_, kMm_, kMm2_, kG1_, kSub_, kSub2_, kSl_, kSl2_, kSl2b_, kSl3_, kSl3b_, kRng_, kRng2_, kComp_, kFrz_, kApp_, kApp2_, kEs_, kEs2_, kBo_, kBoT_, x_asg, x_sto, x_expr, x_ite, x_for, x_while, x_ret, x_retn, x_pass, x_brk, x_cnt, xs_nil, xs_cons, kAsg_, kExp_, kIte_, kFor_, kRet_, kSto_, kSto2_, kSto3_, kSto4_, runB_, kRun_n, kRun_r, kRun_e, b_law_cell]
        rw [decide_eq_true (show (n : Int) < (xs.length : Int) by omega)]
        simp only [realM, List.map_cons, List.map_nil, List.length_cons, List.length_nil, List.cons_append, List.nil_append, List.getElem?_cons_zero, List.getElem?_cons_succ, List.set_cons_zero, List.set_cons_succ, MP.R.bind_ok, MP.R.bind_exn, MP.R.st_ok, MP.R.st_exn, RS.bind_next, RS.bind_ret, RS.bind_brk, RS.bind_cnt, RS.bind_exn, isTy, isL, if_true, if_false, Bool.false_eq_true, Bool.true_eq_false, Bool.not_false, Bool.not_true, reduceIte, cmp_lt, cmp_le, cmp_gt, cmp_ge, cmp_is, cmp_isnot, ite_andv, ite_orv, ite_andt, ite_ort, ite_andq, binV, truth_bl, List.replicate_succ, List.replicate_zero, seqOf_tup, seqOf_lst, seqOf_scr, len_tup, len_lst, len_scr, lstOf_lst, mm_int, Nat.zero_add, Nat.reduceAdd, Nat.reduceSub, Int.reduceNeg, int_int, Int.reduceLT, Int.reduceLE, Nat.reduceLT, Int.reduceToNat, true_and, and_true, decide_true, decide_false, id_eq, outS_go, outS_ret, bl_ne1, bl_ne2, noExn_ok, Bool.true_and, Bool.and_true, Bool.false_and, Bool.and_false, Bool.true_or, Bool.or_true, Bool.false_or, Bool.or_false, v_var, t_var, i_var, v_int, t_int, i_int, v_bl, t_bl, i_bl, v_non, t_non, i_non, v_str, t_str, i_str, v_glob, t_glob, i_glob, v_tup, t_tup, i_tup, v_lst, t_lst, i_lst, v_bin, t_bin, i_bin, v_neg, t_neg, i_neg, v_not, t_not, v_cmp, t_cmp, i_cmp, v_chain, t_chain, i_chain, v_bo, t_bo, v_ifx, i_ifx, v_call, t_call, i_call, v_isi, t_isi, i_isi, v_isi2, t_isi2, i_isi2, v_f1, t_f1, i_f1, v_mm, t_mm, i_mm, v_g1, t_g1, i_g1, v_sub, t_sub, i_sub, v_slc, t_slc, i_slc, v_no, t_no, i_rng, v_comp, t_comp, i_comp, v_frz, i_frz, v_app, es_nil, es_cons, bo_1, bo_2, bt_1, bt_2, kVar_, kGl_, kTr_, kTr2_, kI1_t, kI1_l, kI1_s, kTup_, kLst_, kBin_, kBin2_, kNeg_, kNot_, kNotT_, kB_, kVl_, kCmp_, kCmp2_, kCh_, kCh2_, kCh2b_, kCh3_, kIfx_, kCall_, kCal_, kIsi_, kIsi2_, kF1_, kMm_, kMm2_, kG1_, kSub_, kSub2_, kSl_, kSl2_, kSl2b_, kSl3_, kSl3b_, kRng_, kRng2_, kComp_, kFrz_, kApp_, kApp2_, kEs_, kEs2_, kBo_, kBoT_, x_asg, x_sto, x_expr, x_ite, x_for, x_while, x_ret, x_retn, x_pass, x_brk, x_cnt, xs_nil, xs_cons, kAsg_, kExp_, kIte_, kFor_, kRet_, kSto_, kSto2_, kSto3_, kSto4_, runB_, kRun_n, kRun_r, kRun_e, ixV, atI_n hx]
        simp [hx]
      · simp [hx]; exact closedL_mem hc0 x (List.mem_of_getElem? hx)
    | none =>
      have hge := List.getElem?_eq_none_iff.mp hx
      refine real0 ?_ ?_
      · simp only [realM, List.map_cons, List.map_nil, List.length_cons, List.length_nil, List.cons_append, List.nil_append, List.getElem?_cons_zero, List.getElem?_cons_succ, List.set_cons_zero, List.set_cons_succ, MP.R.bind_ok, MP.R.bind_exn, MP.R.st_ok, MP.R.st_exn, RS.bind_next, RS.bind_ret, RS.bind_brk, RS.bind_cnt, RS.bind_exn, isTy, isL, if_true, if_false, Bool.false_eq_true, Bool.true_eq_false, Bool.not_false, Bool.not_true, reduceIte, cmp_lt, cmp_le, cmp_gt, cmp_ge, cmp_is, cmp_isnot, ite_andv, ite_orv, ite_andt, ite_ort, ite_andq, binV, truth_bl, List.replicate_succ, List.replicate_zero, seqOf_tup, seqOf_lst, seqOf_scr, len_tup, len_lst, len_scr, lstOf_lst, mm_int, Nat.zero_add, Nat.reduceAdd, Nat.reduceSub, Int.reduceNeg, int_int, Int.reduceLT, Int.reduceLE, Nat.reduceLT, Int.reduceToNat, true_and, and_true, decide_true, decide_false, id_eq, outS_go, outS_ret, bl_ne1, bl_ne2, noExn_ok, Bool.true_and, Bool.and_true, Bool.false_and, Bool.and_false, Bool.true_or, Bool.or_true, Bool.false_or, Bool.or_false, v_var, t_var, i_var, v_int, t_int, i_int, v_bl, t_bl, i_bl, v_non, t_non, i_non, v_str, t_str, i_str, v_glob, t_glob, i_glob, v_tup, t_tup, i_tup, v_lst, t_lst, i_lst, v_bin, t_bin, i_bin, v_neg, t_neg, i_neg, v_not, t_not, v_cmp, t_cmp, i_cmp, v_chain, t_chain, i_chain, v_bo, t_bo, v_ifx, i_ifx, v_call, t_call, i_call, v_isi, t_isi, i_isi, v_isi2, t_isi2, i_isi2, v_f1, t_f1, i_f1, v_mm, t_mm, i_mm, v_g1, t_g1, i_g1, v_sub, t_sub, i_sub, v_slc, t_slc, i_slc, v_no, t_no, i_rng, v_comp, t_comp, i_comp, v_frz, i_frz, v_app, es_nil, es_cons, bo_1, bo_2, bt_1, bt_2, kVar_, kGl_, kTr_, kTr2_, kI1_t, kI1_l, kI1_s, kTup_, kLst_, kBin_, kBin2_, kNeg_, kNot_, kNotT_, kB_, kVl_, kCmp_, kCmp2_, kCh_, kCh2_, kCh2b_, kCh3_, kIfx_, kCall_, kCal_, kIsi_, kIsi2_, kF1_, kMm_, kMm2_, kG1_, kSub_, kSub2_, kSl_, kSl2_, kSl2b_, kSl3_, kSl3b_, kRng_, kRng2_, kComp_, kFrz_, kApp_, kApp2_, kEs_, kEs2_, kBo_, kBoT_, x_asg, x_sto, x_expr, x_ite, x_for, x_while, x_ret, x_retn, x_pass, x_brk, x_cnt, xs_nil, xs_cons, kAsg_, kExp_, kIte_, kFor_, kRet_, kSto_, kSto2_, kSto3_, kSto4_, runB_, kRun_n, kRun_r, kRun_e, b_law_cell]
        rw [decide_eq_false (show ¬ (n : Int) < (xs.length : Int) by omega)]
        simp only [realM, List.map_cons, List.map_nil, List.length_cons, List.length_nil, List.cons_append, List.nil_append, List.getElem?_cons_zero, List.getElem?_cons_succ, List.set_cons_zero, List.set_cons_succ, MP.R.bind_ok, MP.R.bind_exn, MP.R.st_ok, MP.R.st_exn, RS.bind_next, RS.bind_ret, RS.bind_brk, RS.bind_cnt, RS.bind_exn, isTy, isL, if_true, if_false, Bool.false_eq_true, Bool.true_eq_false, Bool.not_false, Bool.not_true, reduceIte, cmp_lt, cmp_le, cmp_gt, cmp_ge, cmp_is, cmp_isnot, ite_andv, ite_orv, ite_andt, ite_ort, ite_andq, binV, truth_bl, List.replicate_succ, List.replicate_zero, seqOf_tup, seqOf_lst, seqOf_scr, len_tup, len_lst, len_scr, lstOf_lst, mm_int, Nat.zero_add, Nat.reduceAdd, Nat.reduceSub, Int.reduceNeg, int_int, Int.reduceLT, Int.reduceLE, Nat.reduceLT, Int.reduceToNat, true_and, and_true, decide_true, decide_false, id_eq, outS_go, outS_ret, bl_ne1, bl_ne2, noExn_ok, Bool.true_and, Bool.and_true, Bool.false_and, Bool.and_false, Bool.true_or, Bool.or_true, Bool.false_or, Bool.or_false, v_var, t_var, i_var, v_int, t_int, i_int, v_bl, t_bl, i_bl, v_non, t_non, i_non, v_str, t_str, i_str, v_glob, t_glob, i_glob, v_tup, t_tup, i_tup, v_lst, t_lst, i_lst, v_bin, t_bin, i_bin, v_neg, t_neg, i_neg, v_not, t_not, v_cmp, t_cmp, i_cmp, v_chain, t_chain, i_chain, v_bo, t_bo, v_ifx, i_ifx, v_call, t_call, i_call, v_isi, t_isi, i_isi, v_isi2, t_isi2, i_isi2, v_f1, t_f1, i_f1, v_mm, t_mm, i_mm, v_g1, t_g1, i_g1, v_sub, t_sub, i_sub, v_slc, t_slc, i_slc, v_no, t_no, i_rng, v_comp, t_comp, i_comp, v_frz, i_frz, v_app, es_nil, es_cons, bo_1, bo_2, bt_1, bt_2, kVar_, kGl_, kTr_, kTr2_, kI1_t, kI1_l, kI1_s, kTup_, kLst_, kBin_, kBin2_, kNeg_, kNot_, kNotT_, kB_, kVl_, kCmp_, kCmp2_, kCh_, kCh2_, kCh2b_, kCh3_, kIfx_, kCall_, kCal_, kIsi_, kIsi2_, kF1_, kMm_, kMm2_, kG1_, kSub_, kSub2_, kSl_, kSl2_, kSl2b_, kSl3_, kSl3b_, kRng_, kRng2_, kComp_, kFrz_, kApp_, kApp2_, kEs_, kEs2_, kBo_, kBoT_, x_asg, x_sto, x_expr, x_ite, x_for, x_while, x_ret, x_retn, x_pass, x_brk, x_cnt, xs_nil, xs_cons, kAsg_, kExp_, kIte_, kFor_, kRet_, kSto_, kSto2_, kSto3_, kSto4_, runB_, kRun_n, kRun_r, kRun_e, ixV]
        simp [hx]
      · simp [hx]; rfl
  · cases hf
theorem r_law_edges : Real 1 1 b_law_edges f_law_edges := fun args st v hl hc hf => by
  obtain ⟨a, rfl⟩ := len1 hl
  cases a <;> first | (cases hf; done) | skip
  rename_i i
  cases hf
  refine real0 ?_ rfl
  have b1 : btw i i (.int i) = true := by simp [btw]
  have b2 : btw (i + 1) (i + 1) (.int i) = false := by simp [btw]; omega
  have b3 : btw (i - 1) (i - 1) (.int i) = false := by simp [btw]; omega
  have b4 : btw (i + 1) (i - 1) (.int i) = false := by simp [btw]; omega
  simp only [realM, List.map_cons, List.map_nil, List.length_cons, List.length_nil, List.cons_append, List.nil_append, List.getElem?_cons_zero, List.getElem?_cons_succ, List.set_cons_zero, List.set_cons_succ, MP.R.bind_ok, MP.R.bind_exn, MP.R.st_ok, MP.R.st_exn, RS.bind_next, RS.bind_ret, RS.bind_brk, RS.bind_cnt, RS.bind_exn, isTy, isL, if_true, if_false, Bool.false_eq_true, Bool.true_eq_false, Bool.not_false, Bool.not_true, reduceIte, cmp_lt, cmp_le, cmp_gt, cmp_ge, cmp_is, cmp_isnot, ite_andv, ite_orv, ite_andt, ite_ort, ite_andq, binV, truth_bl, List.replicate_succ, List.replicate_zero, seqOf_tup, seqOf_lst, seqOf_scr, len_tup, len_lst, len_scr, lstOf_lst, mm_int, Nat.zero_add, Nat.reduceAdd, Nat.reduceSub, Int.reduceNeg, int_int, Int.reduceLT, Int.reduceLE, Nat.reduceLT, Int.reduceToNat, true_and, and_true, decide_true, decide_false, id_eq, outS_go, outS_ret, bl_ne1, bl_ne2, noExn_ok, Bool.true_and, Bool.and_true, Bool.false_and, Bool.and_false, Bool.true_or, Bool.or_true, Bool.false_or, Bool.or_false, v_var, t_var, i_var, v_int, t_int, i_int, v_bl, t_bl, i_bl, v_non, t_non, i_non, v_str, t_str, i_str, v_glob, t_glob, i_glob, v_tup, t_tup, i_tup, v_lst, t_lst, i_lst, v_bin, t_bin, i_bin, v_neg, t_neg, i_neg, v_not, t_not, v_cmp, t_cmp, i_cmp, v_chain, t_chain, i_chain, v_bo, t_bo, v_ifx, i_ifx, v_call, t_call, i_call, v_isi, t_isi, i_isi, v_isi2, t_isi2, i_isi2, v_f1, t_f1, i_f1, v_mm, t_mm, i_mm, v_g1, t_g1, i_g1, v_sub, t_sub, i_sub, v_slc, t_slc, i_slc, v_no, t_no, i_rng, v_comp, t_comp, i_comp, v_frz, i_frz, v_app, es_nil, es_cons, bo_1, bo_2, bt_1, bt_2, kVar_, kGl_, kTr_, kTr2_, kI1_t, kI1_l, kI1_s, kTup_, kLst_, kBin_, kBin2_, kNeg_, kNot_, kNotT_, kB_, kVl_, kCmp_, kCmp2_, kCh_, kCh2_, kCh2b_, kCh3_, kIfx_, kCall_, kCal_, kIsi_, kIsi2_, kF1_, kMm_, kMm2_, kG1_, kSub_, kSub2_, kSl_, kSl2_, kSl2b_, kSl3_, kSl3b_, kRng_, kRng2_, kComp_, kFrz_, kApp_, kApp2_, kEs_, kEs2_, kBo_, kBoT_, x_asg, x_sto, x_expr, x_ite, x_for, x_while, x_ret, x_retn, x_pass, x_brk, x_cnt, xs_nil, xs_cons, kAsg_, kExp_, kIte_, kFor_, kRet_, kSto_, kSto2_, kSto3_, kSto4_, runB_, kRun_n, kRun_r, kRun_e, b_law_edges, dom_law_says, dom_is_between, c_btw (v := .int i) rfl, c_says, b1, b2, b3, b4, beq_self_eq_true]
end
section
variable {st : Store}
theorem isR_some {v : Val} {xs : List Val} (h : seqC v = some xs) : isR v = true := by unfold isR; rw [h]; rfl
theorem isR_none {v : Val} (h : seqC v = none) : isR v = false := by unfold isR; rw [h]; rfl
theorem seqC_cl {v : Val} {xs : List Val} (h : seqC v = some xs) (hc : closed 0 v = true) : closedL 0 xs = true := by
  cases v <;> first | (cases h; exact hc) | cases h
theorem seqC_len {v : Val} {xs : List Val} (h : seqC v = some xs) : f1V .len v st = .ok (.int xs.length) := by
  cases v <;> first | (cases h; rfl) | cases h
theorem seqC_of {v : Val} {xs : List Val} (h : seqC v = some xs) : ∃ k, seqOf st v = some (k, xs) := by
  cases v <;> first | (cases h; exact ⟨_, rfl⟩) | cases h
theorem seqC_i {v : Val} {xs : List Val} (h : seqC v = some xs) : kI1 (v, st) = R.ok (xs, st) := by
  cases v <;> first | (cases h; rfl) | cases h
theorem r_are_numbers : Real 4 5 b_are_numbers f_are_numbers := fun args st v hl hc hf => by
  obtain ⟨a, b, c, d, rfl⟩ := len4 hl
  have h : closed 0 a = true := by simp [closedL] at hc; exact hc.1
  cases b <;> cases c <;> cases d <;> first | (cases hf; done) | skip
  rename_i n l u
  cases hf
  refine real0 ?_ rfl
  cases hs : seqC a with
  | none => simp only [realM, List.map_cons, List.map_nil, List.length_cons, List.length_nil, List.cons_append, List.nil_append, List.getElem?_cons_zero, List.getElem?_cons_succ, List.set_cons_zero, List.set_cons_succ, MP.R.bind_ok, MP.R.bind_exn, MP.R.st_ok, MP.R.st_exn, RS.bind_next, RS.bind_ret, RS.bind_brk, RS.bind_cnt, RS.bind_exn, isTy, isL, if_true, if_false, Bool.false_eq_true, Bool.true_eq_false, Bool.not_false, Bool.not_true, reduceIte, cmp_lt, cmp_le, cmp_gt, cmp_ge, cmp_is, cmp_isnot, ite_andv, ite_orv, ite_andt, ite_ort, ite_andq, binV, truth_bl, List.replicate_succ, List.replicate_zero, seqOf_tup, seqOf_lst, seqOf_scr, len_tup, len_lst, len_scr, lstOf_lst, mm_int, Nat.zero_add, Nat.reduceAdd, Nat.reduceSub, Int.reduceNeg, int_int, Int.reduceLT, Int.reduceLE, Nat.reduceLT, Int.reduceToNat, true_and, and_true, decide_true, decide_false, id_eq, outS_go, outS_ret, bl_ne1, bl_ne2, noExn_ok, Bool.true_and, Bool.and_true, Bool.false_and, Bool.and_false, Bool.true_or, Bool.or_true, Bool.false_or, Bool.or_false, v_var, t_var, i_var, v_int, t_int, i_int, v_bl, t_bl, i_bl, v_non, t_non, i_non, v_str, t_str, i_str, v_glob, t_glob, i_glob, v_tup, t_tup, i_tup, v_lst, t_lst, i_lst, v_bin, t_bin, i_bin, v_neg, t_neg, i_neg, v_not, t_not, v_cmp, t_cmp, i_cmp, v_chain, t_chain, i_chain, v_bo, t_bo, v_ifx, i_ifx, v_call, t_call, i_call, v_isi, t_isi, i_isi, v_isi2, t_isi2, i_isi2, v_f1, t_f1, i_f1, v_mm, t_mm, i_mm, v_g1, t_g1, i_g1, v_sub, t_sub, i_sub, v_slc, t_slc, i_slc, v_no, t_no, i_rng, v_comp, t_comp, i_comp, v_frz, i_frz, v_app, es_nil, es_cons, bo_1, bo_2, bt_1, bt_2, kVar_, kGl_, kTr_, kTr2_, kI1_t, kI1_l, kI1_s, kTup_, kLst_, kBin_, kBin2_, kNeg_, kNot_, kNotT_, kB_, kVl_, kCmp_, kCmp2_, kCh_, kCh2_, kCh2b_, kCh3_, kIfx_, kCall_, kCal_, kIsi_, kIsi2_, kF1_, kMm_, kMm2_, kG1_, kSub_, kSub2_, kSl_, kSl2_, kSl2b_, kSl3_, kSl3b_, kRng_, kRng2_, kComp_, kFrz_, kApp_, kApp2_, kEs_, kEs2_, kBo_, kBoT_, x_asg, x_sto, x_expr, x_ite, x_for, x_while, x_ret, x_retn, x_pass, x_brk, x_cnt, xs_nil, xs_cons, kAsg_, kExp_, kIte_, kFor_, kRet_, kSto_, kSto2_, kSto3_, kSto4_, runB_, kRun_n, kRun_r, kRun_e, b_are_numbers, dom_is_row, c_row h, isR_none hs, nums, hs]
  | some xs =>
    have hcl := seqC_cl hs h
    by_cases hn : (xs.length : Int) = n
    · simp only [realM, List.map_cons, List.map_nil, List.length_cons, List.length_nil, List.cons_append, List.nil_append, List.getElem?_cons_zero, List.getElem?_cons_succ, List.set_cons_zero, List.set_cons_succ, MP.R.bind_ok, MP.R.bind_exn, MP.R.st_ok, MP.R.st_exn, RS.bind_next, RS.bind_ret, RS.bind_brk, RS.bind_cnt, RS.bind_exn, isTy, isL, if_true, if_false, Bool.false_eq_true, Bool.true_eq_false, Bool.not_false, Bool.not_true, reduceIte, cmp_lt, cmp_le, cmp_gt, cmp_ge, cmp_is, cmp_isnot, ite_andv, ite_orv, ite_andt, ite_ort, ite_andq, binV, truth_bl, List.replicate_succ, List.replicate_zero, seqOf_tup, seqOf_lst, seqOf_scr, len_tup, len_lst, len_scr, lstOf_lst, mm_int, Nat.zero_add, Nat.reduceAdd, Nat.reduceSub, Int.reduceNeg, int_int, Int.reduceLT, Int.reduceLE, Nat.reduceLT, Int.reduceToNat, true_and, and_true, decide_true, decide_false, id_eq, outS_go, outS_ret, bl_ne1, bl_ne2, noExn_ok, Bool.true_and, Bool.and_true, Bool.false_and, Bool.and_false, Bool.true_or, Bool.or_true, Bool.false_or, Bool.or_false, v_var, t_var, i_var, v_int, t_int, i_int, v_bl, t_bl, i_bl, v_non, t_non, i_non, v_str, t_str, i_str, v_glob, t_glob, i_glob, v_tup, t_tup, i_tup, v_lst, t_lst, i_lst, v_bin, t_bin, i_bin, v_neg, t_neg, i_neg, v_not, t_not, v_cmp, t_cmp, i_cmp, v_chain, t_chain, i_chain, v_bo, t_bo, v_ifx, i_ifx, v_call, t_call, i_call, v_isi, t_isi, i_isi, v_isi2, t_isi2, i_isi2, v_f1, t_f1, i_f1, v_mm, t_mm, i_mm, v_g1, t_g1, i_g1, v_sub, t_sub, i_sub, v_slc, t_slc, i_slc, v_no, t_no, i_rng, v_comp, t_comp, i_comp, v_frz, i_frz, v_app, es_nil, es_cons, bo_1, bo_2, bt_1, bt_2, kVar_, kGl_, kTr_, kTr2_, kI1_t, kI1_l, kI1_s, kTup_, kLst_, kBin_, kBin2_, kNeg_, kNot_, kNotT_, kB_, kVl_, kCmp_, kCmp2_, kCh_, kCh2_, kCh2b_, kCh3_, kIfx_, kCall_, kCal_, kIsi_, kIsi2_, kF1_, kMm_, kMm2_, kG1_, kSub_, kSub2_, kSl_, kSl2_, kSl2b_, kSl3_, kSl3b_, kRng_, kRng2_, kComp_, kFrz_, kApp_, kApp2_, kEs_, kEs2_, kBo_, kBoT_, x_asg, x_sto, x_expr, x_ite, x_for, x_while, x_ret, x_retn, x_pass, x_brk, x_cnt, xs_nil, xs_cons, kAsg_, kExp_, kIte_, kFor_, kRet_, kSto_, kSto2_, kSto3_, kSto4_, runB_, kRun_n, kRun_r, kRun_e, b_are_numbers, dom_is_row, c_row h, isR_some hs, seqC_len hs, vne_int, decide_eq_true hn, seqC_i hs]
      have ho := forL_fold (g := id) (i := 4) (body := evSs Φ G0 b_are_numbers_1)
        (fun (_ : Unit) o => [some a, some (.int n), some (.int l), some (.int u), o]) (fun _ => st) (fun _ x => if btw l u x then .go () else .ret (.bl false) st) (fun _ _ _ => rfl) xs
        (fun b x hx => by
          simp only [realM, List.map_cons, List.map_nil, List.length_cons, List.length_nil, List.cons_append, List.nil_append, List.getElem?_cons_zero, List.getElem?_cons_succ, List.set_cons_zero, List.set_cons_succ, MP.R.bind_ok, MP.R.bind_exn, MP.R.st_ok, MP.R.st_exn, RS.bind_next, RS.bind_ret, RS.bind_brk, RS.bind_cnt, RS.bind_exn, isTy, isL, if_true, if_false, Bool.false_eq_true, Bool.true_eq_false, Bool.not_false, Bool.not_true, reduceIte, cmp_lt, cmp_le, cmp_gt, cmp_ge, cmp_is, cmp_isnot, ite_andv, ite_orv, ite_andt, ite_ort, ite_andq, binV, truth_bl, List.replicate_succ, List.replicate_zero, seqOf_tup, seqOf_lst, seqOf_scr, len_tup, len_lst, len_scr, lstOf_lst, mm_int, Nat.zero_add, Nat.reduceAdd, Nat.reduceSub, Int.reduceNeg, int_int, Int.reduceLT, Int.reduceLE, Nat.reduceLT, Int.reduceToNat, true_and, and_true, decide_true, decide_false, id_eq, outS_go, outS_ret, bl_ne1, bl_ne2, noExn_ok, Bool.true_and, Bool.and_true, Bool.false_and, Bool.and_false, Bool.true_or, Bool.or_true, Bool.false_or, Bool.or_false, v_var, t_var, i_var, v_int, t_int, i_int, v_bl, t_bl, i_bl, v_non, t_non, i_non, v_str, t_str, i_str, v_glob, t_glob, i_glob, v_tup, t_tup, i_tup, v_lst, t_lst, i_lst, v_bin, t_bin, i_bin, v_neg, t_neg, i_neg, v_not, t_not, v_cmp, t_cmp, i_cmp, v_chain, t_chain, i_chain, v_bo, t_bo, v_ifx, i_ifx, v_call, t_call, i_call, v_isi, t_isi, i_isi, v_isi2, t_isi2, i_isi2, v_f1, t_f1, i_f1, v_mm, t_mm, i_mm, v_g1, t_g1, i_g1, v_sub, t_sub, i_sub, v_slc, t_slc, i_slc, v_no, t_no, i_rng, v_comp, t_comp, i_comp, v_frz, i_frz, v_app, es_nil, es_cons, bo_1, bo_2, bt_1, bt_2, kVar_, kGl_, kTr_, kTr2_, kI1_t, kI1_l, kI1_s, kTup_, kLst_, kBin_, kBin2_, kNeg_, kNot_, kNotT_, kB_, kVl_, kCmp_, kCmp2_, kCh_, kCh2_, kCh2b_, kCh3_, kIfx_, kCall_, kCal_, kIsi_, kIsi2_, kF1_, kMm_, kMm2_, kG1_, kSub_, kSub2_, kSl_, kSl2_, kSl2b_, kSl3_, kSl3b_, kRng_, kRng2_, kComp_, kFrz_, kApp_, kApp2_, kEs_, kEs2_, kBo_, kBoT_, x_asg, x_sto, x_expr, x_ite, x_for, x_while, x_ret, x_retn, x_pass, x_brk, x_cnt, xs_nil, xs_cons, kAsg_, kExp_, kIte_, kFor_, kRet_, kSto_, kSto2_, kSto3_, kSto4_, runB_, kRun_n, kRun_r, kRun_e, b_are_numbers_1, dom_is_between, c_btw (closedL_mem hcl x hx)]
          cases btw l u x <;> simp only [realM, List.map_cons, List.map_nil, List.length_cons, List.length_nil, List.cons_append, List.nil_append, List.getElem?_cons_zero, List.getElem?_cons_succ, List.set_cons_zero, List.set_cons_succ, MP.R.bind_ok, MP.R.bind_exn, MP.R.st_ok, MP.R.st_exn, RS.bind_next, RS.bind_ret, RS.bind_brk, RS.bind_cnt, RS.bind_exn, isTy, isL, if_true, if_false, Bool.false_eq_true, Bool.true_eq_false, Bool.not_false, Bool.not_true, reduceIte, cmp_lt, cmp_le, cmp_gt, cmp_ge, cmp_is, cmp_isnot, ite_andv, ite_orv, ite_andt, ite_ort, ite_andq, binV, truth_bl, List.replicate_succ, List.replicate_zero, seqOf_tup, seqOf_lst, seqOf_scr, len_tup, len_lst, len_scr, lstOf_lst, mm_int, Nat.zero_add, Nat.reduceAdd, Nat.reduceSub, Int.reduceNeg, int_int, Int.reduceLT, Int.reduceLE, Nat.reduceLT, Int.reduceToNat, true_and, and_true, decide_true, decide_false, id_eq, outS_go, outS_ret, bl_ne1, bl_ne2, noExn_ok, Bool.true_and, Bool.and_true, Bool.false_and, Bool.and_false, Bool.true_or, Bool.or_true, Bool.false_or, Bool.or_false, v_var, t_var, i_var, v_int, t_int, i_int, v_bl, t_bl, i_bl, v_non, t_non, i_non, v_str, t_str, i_str, v_glob, t_glob, i_glob, v_tup, t_tup, i_tup, v_lst, t_lst, i_lst, v_bin, t_bin, i_bin, v_neg, t_neg, i_neg, v_not, t_not, v_cmp, t_cmp, i_cmp, v_chain, t_chain, i_chain, v_bo, t_bo, v_ifx, i_ifx, v_call, t_call, i_call, v_isi, t_isi, i_isi, v_isi2, t_isi2, i_isi2, v_f1, t_f1, i_f1, v_mm, t_mm, i_mm, v_g1, t_g1, i_g1, v_sub, t_sub, i_sub, v_slc, t_slc, i_slc, v_no, t_no, i_rng, v_comp, t_comp, i_comp, v_frz, i_frz, v_app, es_nil, es_cons, bo_1, bo_2, bt_1, bt_2, kVar_, kGl_, kTr_, kTr2_, kI1_t, kI1_l, kI1_s, kTup_, kLst_, kBin_, kBin2_, kNeg_, kNot_, kNotT_, kB_, kVl_, kCmp_, kCmp2_, kCh_, kCh2_, kCh2b_, kCh3_, kIfx_, kCall_, kCal_, kIsi_, kIsi2_, kF1_, kMm_, kMm2_, kG1_, kSub_, kSub2_, kSl_, kSl2_, kSl2b_, kSl3_, kSl3b_, kRng_, kRng2_, kComp_, kFrz_, kApp_, kApp2_, kEs_, kEs2_, kBo_, kBoT_, x_asg, x_sto, x_expr, x_ite, x_for, x_while, x_ret, x_retn, x_pass, x_brk, x_cnt, xs_nil, xs_cons, kAsg_, kExp_, kIte_, kFor_, kRet_, kSto_, kSto2_, kSto3_, kSto4_, runB_, kRun_n, kRun_r, kRun_e]) () none
      rw [foldO_all, List.map_id] at ho
      rw [ho]
      cases hb : xs.all (btw l u) <;> simp only [realM, List.map_cons, List.map_nil, List.length_cons, List.length_nil, List.cons_append, List.nil_append, List.getElem?_cons_zero, List.getElem?_cons_succ, List.set_cons_zero, List.set_cons_succ, MP.R.bind_ok, MP.R.bind_exn, MP.R.st_ok, MP.R.st_exn, RS.bind_next, RS.bind_ret, RS.bind_brk, RS.bind_cnt, RS.bind_exn, isTy, isL, if_true, if_false, Bool.false_eq_true, Bool.true_eq_false, Bool.not_false, Bool.not_true, reduceIte, cmp_lt, cmp_le, cmp_gt, cmp_ge, cmp_is, cmp_isnot, ite_andv, ite_orv, ite_andt, ite_ort, ite_andq, binV, truth_bl, List.replicate_succ, List.replicate_zero, seqOf_tup, seqOf_lst, seqOf_scr, len_tup, len_lst, len_scr, lstOf_lst, mm_int, Nat.zero_add, Nat.reduceAdd, Nat.reduceSub, Int.reduceNeg, int_int, Int.reduceLT, Int.reduceLE, Nat.reduceLT, Int.reduceToNat, true_and, and_true, decide_true, decide_false, id_eq, outS_go, outS_ret, bl_ne1, bl_ne2, noExn_ok, Bool.true_and, Bool.and_true, Bool.false_and, Bool.and_false, Bool.true_or, Bool.or_true, Bool.false_or, Bool.or_false, v_var, t_var, i_var, v_int, t_int, i_int, v_bl, t_bl, i_bl, v_non, t_non, i_non, v_str, t_str, i_str, v_glob, t_glob, i_glob, v_tup, t_tup, i_tup, v_lst, t_lst, i_lst, v_bin, t_bin, i_bin, v_neg, t_neg, i_neg, v_not, t_not, v_cmp, t_cmp, i_cmp, v_chain, t_chain, i_chain, v_bo, t_bo, v_ifx, i_ifx, v_call, t_call, i_call, v_isi, t_isi, i_isi, v_isi2, t_isi2, i_isi2, v_f1, t_f1, i_f1, v_mm, t_mm, i_mm, v_g1, t_g1, i_g1, v_sub, t_sub, i_sub, v_slc, t_slc, i_slc, v_no, t_no, i_rng, v_comp, t_comp, i_comp, v_frz, i_frz, v_app, es_nil, es_cons, bo_1, bo_2, bt_1, bt_2, kVar_, kGl_, kTr_, kTr2_, kI1_t, kI1_l, kI1_s, kTup_, kLst_, kBin_, kBin2_, kNeg_, kNot_, kNotT_, kB_, kVl_, kCmp_, kCmp2_, kCh_, kCh2_, kCh2b_, kCh3_, kIfx_, kCall_, kCal_, kIsi_, kIsi2_, kF1_, kMm_, kMm2_, kG1_, kSub_, kSub2_, kSl_, kSl2_, kSl2b_, kSl3_, kSl3b_, kRng_, kRng2_, kComp_, kFrz_, kApp_, kApp2_, kEs_, kEs2_, kBo_, kBoT_, x_asg, x_sto, x_expr, x_ite, x_for, x_while, x_ret, x_retn, x_pass, x_brk, x_cnt, xs_nil, xs_cons, kAsg_, kExp_, kIte_, kFor_, kRet_, kSto_, kSto2_, kSto3_, kSto4_, runB_, kRun_n, kRun_r, kRun_e, nums, hs, hb, decide_eq_true hn]
    · simp only [realM, List.map_cons, List.map_nil, List.length_cons, List.length_nil, List.cons_append, List.nil_append, List.getElem?_cons_zero, List.getElem?_cons_succ, List.set_cons_zero, List.set_cons_succ, MP.R.bind_ok, MP.R.bind_exn, MP.R.st_ok, MP.R.st_exn, RS.bind_next, RS.bind_ret, RS.bind_brk, RS.bind_cnt, RS.bind_exn, isTy, isL, if_true, if_false, Bool.false_eq_true, Bool.true_eq_false, Bool.not_false, Bool.not_true, reduceIte, cmp_lt, cmp_le, cmp_gt, cmp_ge, cmp_is, cmp_isnot, ite_andv, ite_orv, ite_andt, ite_ort, ite_andq, binV, truth_bl, List.replicate_succ, List.replicate_zero, seqOf_tup, seqOf_lst, seqOf_scr, len_tup, len_lst, len_scr, lstOf_lst, mm_int, Nat.zero_add, Nat.reduceAdd, Nat.reduceSub, Int.reduceNeg, int_int, Int.reduceLT, Int.reduceLE, Nat.reduceLT, Int.reduceToNat, true_and, and_true, decide_true, decide_false, id_eq, outS_go, outS_ret, bl_ne1, bl_ne2, noExn_ok, Bool.true_and, Bool.and_true, Bool.false_and, Bool.and_false, Bool.true_or, Bool.or_true, Bool.false_or, Bool.or_false, v_var, t_var, i_var, v_int, t_int, i_int, v_bl, t_bl, i_bl, v_non, t_non, i_non, v_str, t_str, i_str, v_glob, t_glob, i_glob, v_tup, t_tup, i_tup, v_lst, t_lst, i_lst, v_bin, t_bin, i_bin, v_neg, t_neg, i_neg, v_not, t_not, v_cmp, t_cmp, i_cmp, v_chain, t_chain, i_chain, v_bo, t_bo, v_ifx, i_ifx, v_call, t_call, i_call, v_isi, t_isi, i_isi, v_isi2, t_isi2, i_isi2, v_f1, t_f1, i_f1, v_mm, t_mm, i_mm, v_g1, t_g1, i_g1, v_sub, t_sub, i_sub, v_slc, t_slc, i_slc, v_no, t_no, i_rng, v_comp, t_comp, i_comp, v_frz, i_frz, v_app, es_nil, es_cons, bo_1, bo_2, bt_1, bt_2, kVar_, kGl_, kTr_, kTr2_, kI1_t, kI1_l, kI1_s, kTup_, kLst_, kBin_, kBin2_, kNeg_, kNot_, kNotT_, kB_, kVl_, kCmp_, kCmp2_, kCh_, kCh2_, kCh2b_, kCh3_, kIfx_, kCall_, kCal_, kIsi_, kIsi2_, kF1_, kMm_, kMm2_, kG1_, kSub_, kSub2_, kSl_, kSl2_, kSl2b_, kSl3_, kSl3b_, kRng_, kRng2_, kComp_, kFrz_, kApp_, kApp2_, kEs_, kEs2_, kBo_, kBoT_, x_asg, x_sto, x_expr, x_ite, x_for, x_while, x_ret, x_retn, x_pass, x_brk, x_cnt, xs_nil, xs_cons, kAsg_, kExp_, kIte_, kFor_, kRet_, kSto_, kSto2_, kSto3_, kSto4_, runB_, kRun_n, kRun_r, kRun_e, b_are_numbers, dom_is_row, c_row h, isR_some hs, seqC_len hs, vne_int, decide_eq_false hn, nums, hs]
theorem r_law_numbers : Real 4 5 b_law_numbers f_are_numbers := fun args st v hl hc hf => by
  obtain ⟨a, b, c, d, rfl⟩ := len4 hl
  have h : closed 0 a = true := by simp [closedL] at hc; exact hc.1
  cases b <;> cases c <;> cases d <;> first | (cases hf; done) | skip
  rename_i n l u
  cases hf
  refine real0 ?_ rfl
  cases hs : seqC a with
  | none => simp only [realM, List.map_cons, List.map_nil, List.length_cons, List.length_nil, List.cons_append, List.nil_append, List.getElem?_cons_zero, List.getElem?_cons_succ, List.set_cons_zero, List.set_cons_succ, MP.R.bind_ok, MP.R.bind_exn, MP.R.st_ok, MP.R.st_exn, RS.bind_next, RS.bind_ret, RS.bind_brk, RS.bind_cnt, RS.bind_exn, isTy, isL, if_true, if_false, Bool.false_eq_true, Bool.true_eq_false, Bool.not_false, Bool.not_true, reduceIte, cmp_lt, cmp_le, cmp_gt, cmp_ge, cmp_is, cmp_isnot, ite_andv, ite_orv, ite_andt, ite_ort, ite_andq, binV, truth_bl, List.replicate_succ, List.replicate_zero, seqOf_tup, seqOf_lst, seqOf_scr, len_tup, len_lst, len_scr, lstOf_lst, mm_int, Nat.zero_add, Nat.reduceAdd, Nat.reduceSub, Int.reduceNeg, int_int, Int.reduceLT, Int.reduceLE, Nat.reduceLT, Int.reduceToNat, true_and, and_true, decide_true, decide_false, id_eq, outS_go, outS_ret, bl_ne1, bl_ne2, noExn_ok, Bool.true_and, Bool.and_true, Bool.false_and, Bool.and_false, Bool.true_or, Bool.or_true, Bool.false_or, Bool.or_false, v_var, t_var, i_var, v_int, t_int, i_int, v_bl, t_bl, i_bl, v_non, t_non, i_non, v_str, t_str, i_str, v_glob, t_glob, i_glob, v_tup, t_tup, i_tup, v_lst, t_lst, i_lst, v_bin, t_bin, i_bin, v_neg, t_neg, i_neg, v_not, t_not, v_cmp, t_cmp, i_cmp, v_chain, t_chain, i_chain, v_bo, t_bo, v_ifx, i_ifx, v_call, t_call, i_call, v_isi, t_isi, i_isi, v_isi2, t_isi2, i_isi2, v_f1, t_f1, i_f1, v_mm, t_mm, i_mm, v_g1, t_g1, i_g1, v_sub, t_sub, i_sub, v_slc, t_slc, i_slc, v_no, t_no, i_rng, v_comp, t_comp, i_comp, v_frz, i_frz, v_app, es_nil, es_cons, bo_1, bo_2, bt_1, bt_2, kVar_, kGl_, kTr_, kTr2_, kI1_t, kI1_l, kI1_s, kTup_, kLst_, kBin_, kBin2_, kNeg_, kNot_, kNotT_, kB_, kVl_, kCmp_, kCmp2_, kCh_, kCh2_, kCh2b_, kCh3_, kIfx_, kCall_, kCal_, kIsi_, kIsi2_, kF1_, kMm_, kMm2_, kG1_, kSub_, kSub2_, kSl_, kSl2_, kSl2b_, kSl3_, kSl3b_, kRng_, kRng2_, kComp_, kFrz_, kApp_, kApp2_, kEs_, kEs2_, kBo_, kBoT_, x_asg, x_sto, x_expr, x_ite, x_for, x_while, x_ret, x_retn, x_pass, x_brk, x_cnt, xs_nil, xs_cons, kAsg_, kExp_, kIte_, kFor_, kRet_, kSto_, kSto2_, kSto3_, kSto4_, runB_, kRun_n, kRun_r, kRun_e, b_law_numbers, dom_law_is_row, c_row h, isR_none hs, nums, hs]
  | some xs =>
    have hcl := seqC_cl hs h
    by_cases hn : (xs.length : Int) = n
    · simp only [realM, List.map_cons, List.map_nil, List.length_cons, List.length_nil, List.cons_append, List.nil_append, List.getElem?_cons_zero, List.getElem?_cons_succ, List.set_cons_zero, List.set_cons_succ, MP.R.bind_ok, MP.R.bind_exn, MP.R.st_ok, MP.R.st_exn, RS.bind_next, RS.bind_ret, RS.bind_brk, RS.bind_cnt, RS.bind_exn, isTy, isL, if_true, if_false, Bool.false_eq_true, Bool.true_eq_false, Bool.not_false, Bool.not_true, reduceIte, cmp_lt, cmp_le, cmp_gt, cmp_ge, cmp_is, cmp_isnot, ite_andv, ite_orv, ite_andt, ite_ort, ite_andq, binV, truth_bl, List.replicate_succ, List.replicate_zero, seqOf_tup, seqOf_lst, seqOf_scr, len_tup, len_lst, len_scr, lstOf_lst, mm_int, Nat.zero_add, Nat.reduceAdd, Nat.reduceSub, Int.reduceNeg, int_int, Int.reduceLT, Int.reduceLE, Nat.reduceLT, Int.reduceToNat, true_and, and_true, decide_true, decide_false, id_eq, outS_go, outS_ret, bl_ne1, bl_ne2, noExn_ok, Bool.true_and, Bool.and_true, Bool.false_and, Bool.and_false, Bool.true_or, Bool.or_true, Bool.false_or, Bool.or_false, v_var, t_var, i_var, v_int, t_int, i_int, v_bl, t_bl, i_bl, v_non, t_non, i_non, v_str, t_str, i_str, v_glob, t_glob, i_glob, v_tup, t_tup, i_tup, v_lst, t_lst, i_lst, v_bin, t_bin, i_bin, v_neg, t_neg, i_neg, v_not, t_not, v_cmp, t_cmp, i_cmp, v_chain, t_chain, i_chain, v_bo, t_bo, v_ifx, i_ifx, v_call, t_call, i_call, v_isi, t_isi, i_isi, v_isi2, t_isi2, i_isi2, v_f1, t_f1, i_f1, v_mm, t_mm, i_mm, v_g1, t_g1, i_g1, v_sub, t_sub, i_sub, v_slc, t_slc, i_slc, v_no, t_no, i_rng, v_comp, t_comp, i_comp, v_frz, i_frz, v_app, es_nil, es_cons, bo_1, bo_2, bt_1, bt_2, kVar_, kGl_, kTr_, kTr2_, kI1_t, kI1_l, kI1_s, kTup_, kLst_, kBin_, kBin2_, kNeg_, kNot_, kNotT_, kB_, kVl_, kCmp_, kCmp2_, kCh_, kCh2_, kCh2b_, kCh3_, kIfx_, kCall_, kCal_, kIsi_, kIsi2_, kF1_, kMm_, kMm2_, kG1_, kSub_, kSub2_, kSl_, kSl2_, kSl2b_, kSl3_, kSl3b_, kRng_, kRng2_, kComp_, kFrz_, kApp_, kApp2_, kEs_, kEs2_, kBo_, kBoT_, x_asg, x_sto, x_expr, x_ite, x_for, x_while, x_ret, x_retn, x_pass, x_brk, x_cnt, xs_nil, xs_cons, kAsg_, kExp_, kIte_, kFor_, kRet_, kSto_, kSto2_, kSto3_, kSto4_, runB_, kRun_n, kRun_r, kRun_e, b_law_numbers, dom_law_is_row, c_row h, isR_some hs, seqC_len hs, vne_int, decide_eq_true hn, seqC_i hs]
      have ho := forL_fold (g := id) (i := 4) (body := evSs Φ G0 b_law_numbers_1)
        (fun (_ : Unit) o => [some a, some (.int n), some (.int l), some (.int u), o]) (fun _ => st) (fun _ x => if btw l u x then .go () else .ret (.bl false) st) (fun _ _ _ => rfl) xs
        (fun b x hx => by
          have hx' := closedL_mem hcl x hx
          cases x <;> simp only [realM, List.map_cons, List.map_nil, List.length_cons, List.length_nil, List.cons_append, List.nil_append, List.getElem?_cons_zero, List.getElem?_cons_succ, List.set_cons_zero, List.set_cons_succ, MP.R.bind_ok, MP.R.bind_exn, MP.R.st_ok, MP.R.st_exn, RS.bind_next, RS.bind_ret, RS.bind_brk, RS.bind_cnt, RS.bind_exn, isTy, isL, if_true, if_false, Bool.false_eq_true, Bool.true_eq_false, Bool.not_false, Bool.not_true, reduceIte, cmp_lt, cmp_le, cmp_gt, cmp_ge, cmp_is, cmp_isnot, ite_andv, ite_orv, ite_andt, ite_ort, ite_andq, binV, truth_bl, List.replicate_succ, List.replicate_zero, seqOf_tup, seqOf_lst, seqOf_scr, len_tup, len_lst, len_scr, lstOf_lst, mm_int, Nat.zero_add, Nat.reduceAdd, Nat.reduceSub, Int.reduceNeg, int_int, Int.reduceLT, Int.reduceLE, Nat.reduceLT, Int.reduceToNat, true_and, and_true, decide_true, decide_false, id_eq, outS_go, outS_ret, bl_ne1, bl_ne2, noExn_ok, Bool.true_and, Bool.and_true, Bool.false_and, Bool.and_false, Bool.true_or, Bool.or_true, Bool.false_or, Bool.or_false, v_var, t_var, i_var, v_int, t_int, i_int, v_bl, t_bl, i_bl, v_non, t_non, i_non, v_str, t_str, i_str, v_glob, t_glob, i_glob, v_tup, t_tup, i_tup, v_lst, t_lst, i_lst, v_bin, t_bin, i_bin, v_neg, t_neg, i_neg, v_not, t_not, v_cmp, t_cmp, i_cmp, v_chain, t_chain, i_chain, v_bo, t_bo, v_ifx, i_ifx, v_call, t_call, i_call, v_isi, t_isi, i_isi, v_isi2, t_isi2, i_isi2, v_f1, t_f1, i_f1, v_mm, t_mm, i_mm, v_g1, t_g1, i_g1, v_sub, t_sub, i_sub, v_slc, t_slc, i_slc, v_no, t_no, i_rng, v_comp, t_comp, i_comp, v_frz, i_frz, v_app, es_nil, es_cons, bo_1, bo_2, bt_1, bt_2, kVar_, kGl_, kTr_, kTr2_, kI1_t, kI1_l, kI1_s, kTup_, kLst_, kBin_, kBin2_, kNeg_, kNot_, kNotT_, kB_, kVl_, kCmp_, kCmp2_, kCh_, kCh2_, kCh2b_, kCh3_, kIfx_, kCall_, kCal_, kIsi_, kIsi2_, kF1_, kMm_, kMm2_, kG1_, kSub_, kSub2_, kSl_, kSl2_, kSl2b_, kSl3_, kSl3b_, kRng_, kRng2_, kComp_, kFrz_, kApp_, kApp2_, kEs_, kEs2_, kBo_, kBoT_, x_asg, x_sto, x_expr, x_ite, x_for, x_while, x_ret, x_retn, x_pass, x_brk, x_cnt, xs_nil, xs_cons, kAsg_, kExp_, kIte_, kFor_, kRet_, kSto_, kSto2_, kSto3_, kSto4_, runB_, kRun_n, kRun_r, kRun_e, b_law_numbers_1, dom_law_is_integer, c_whole hx', isW, btw]
          rename_i i
          by_cases h1 : l ≤ i <;> by_cases h2 : i ≤ u
          · have e1 : ¬ i < l := by omega
            have e2 : ¬ u < i := by omega
            simp only [realM, List.map_cons, List.map_nil, List.length_cons, List.length_nil, List.cons_append, List.nil_append, List.getElem?_cons_zero, List.getElem?_cons_succ, List.set_cons_zero, List.set_cons_succ, MP.R.bind_ok, MP.R.bind_exn, MP.R.st_ok, MP.R.st_exn, RS.bind_next, RS.bind_ret, RS.bind_brk, RS.bind_cnt, RS.bind_exn, isTy, isL, if_true, if_false, Bool.false_eq_true, Bool.true_eq_false, Bool.not_false, Bool.not_true, reduceIte, cmp_lt, cmp_le, cmp_gt, cmp_ge, cmp_is, cmp_isnot, ite_andv, ite_orv, ite_andt, ite_ort, ite_andq, binV, truth_bl, List.replicate_succ, List.replicate_zero, seqOf_tup, seqOf_lst, seqOf_scr, len_tup, len_lst, len_scr, lstOf_lst, mm_int, Nat.zero_add, Nat.reduceAdd, Nat.reduceSub, Int.reduceNeg, int_int, Int.reduceLT, Int.reduceLE, Nat.reduceLT, Int.reduceToNat, true_and, and_true, decide_true, decide_false, id_eq, outS_go, outS_ret, bl_ne1, bl_ne2, noExn_ok, Bool.true_and, Bool.and_true, Bool.false_and, Bool.and_false, Bool.true_or, Bool.or_true, Bool.false_or, Bool.or_false, v_var, t_var, i_var, v_int, t_int, i_int, v_bl, t_bl, i_bl, v_non, t_non, i_non, v_str, t_str, i_str, v_glob, t_glob, i_glob, v_tup, t_tup, i_tup, v_lst, t_lst, i_lst, v_bin, t_bin, i_bin, v_neg, t_neg, i_neg, v_not, t_not, v_cmp, t_cmp, i_cmp, v_chain, t_chain, i_chain, v_bo, t_bo, v_ifx, i_ifx, v_call, t_call, i_call, v_isi, t_isi, i_isi, v_isi2, t_isi2, i_isi2, v_f1, t_f1, i_f1, v_mm, t_mm, i_mm, v_g1, t_g1, i_g1, v_sub, t_sub, i_sub, v_slc, t_slc, i_slc, v_no, t_no, i_rng, v_comp, t_comp, i_comp, v_frz, i_frz, v_app, es_nil, es_cons, bo_1, bo_2, bt_1, bt_2, kVar_, kGl_, kTr_, kTr2_, kI1_t, kI1_l, kI1_s, kTup_, kLst_, kBin_, kBin2_, kNeg_, kNot_, kNotT_, kB_, kVl_, kCmp_, kCmp2_, kCh_, kCh2_, kCh2b_, kCh3_, kIfx_, kCall_, kCal_, kIsi_, kIsi2_, kF1_, kMm_, kMm2_, kG1_, kSub_, kSub2_, kSl_, kSl2_, kSl2b_, kSl3_, kSl3b_, kRng_, kRng2_, kComp_, kFrz_, kApp_, kApp2_, kEs_, kEs2_, kBo_, kBoT_, x_asg, x_sto, x_expr, x_ite, x_for, x_while, x_ret, x_retn, x_pass, x_brk, x_cnt, xs_nil, xs_cons, kAsg_, kExp_, kIte_, kFor_, kRet_, kSto_, kSto2_, kSto3_, kSto4_, runB_, kRun_n, kRun_r, kRun_e, decide_eq_false e1, decide_eq_false e2, decide_eq_true h1, decide_eq_true h2]
          · have e1 : ¬ i < l := by omega
            have e2 : u < i := by omega
            simp only [realM, List.map_cons, List.map_nil, List.length_cons, List.length_nil, List.cons_append, List.nil_append, List.getElem?_cons_zero, List.getElem?_cons_succ, List.set_cons_zero, List.set_cons_succ, MP.R.bind_ok, MP.R.bind_exn, MP.R.st_ok, MP.R.st_exn, RS.bind_next, RS.bind_ret, RS.bind_brk, RS.bind_cnt, RS.bind_exn, isTy, isL, if_true, if_false, Bool.false_eq_true, Bool.true_eq_false, Bool.not_false, Bool.not_true, reduceIte, cmp_lt, cmp_le, cmp_gt, cmp_ge, cmp_is, cmp_isnot, ite_andv, ite_orv, ite_andt, ite_ort, ite_andq, binV, truth_bl, List.replicate_succ, List.replicate_zero, seqOf_tup, seqOf_lst, seqOf_scr, len_tup, len_lst, len_scr, lstOf_lst, mm_int, Nat.zero_add, Nat.reduceAdd, Nat.reduceSub, Int.reduceNeg, int_int, Int.reduceLT, Int.reduceLE, Nat.reduceLT, Int.reduceToNat, true_and, and_true, decide_true, decide_false, id_eq, outS_go, outS_ret, bl_ne1, bl_ne2, noExn_ok, Bool.true_and, Bool.and_true, Bool.false_and, Bool.and_false, Bool.true_or, Bool.or_true, Bool.false_or, Bool.or_false, v_var, t_var, i_var, v_int, t_int, i_int, v_bl, t_bl, i_bl, v_non, t_non, i_non, v_str, t_str, i_str, v_glob, t_glob, i_glob, v_tup, t_tup, i_tup, v_lst, t_lst, i_lst, v_bin, t_bin, i_bin, v_neg, t_neg, i_neg, v_not, t_not, v_cmp, t_cmp, i_cmp, v_chain, t_chain, i_chain, v_bo, t_bo, v_ifx, i_ifx, v_call, t_call, i_call, v_isi, t_isi, i_isi, v_isi2, t_isi2, i_isi2, v_f1, t_f1, i_f1, v_mm, t_mm, i_mm, v_g1, t_g1, i_g1, v_sub, t_sub, i_sub, v_slc, t_slc, i_slc, v_no, t_no, i_rng, v_comp, t_comp, i_comp, v_frz, i_frz, v_app, es_nil, es_cons, bo_1, bo_2, bt_1, bt_2, kVar_, kGl_, kTr_, kTr2_, kI1_t, kI1_l, kI1_s, kTup_, kLst_, kBin_, kBin2_, kNeg_, kNot_, kNotT_, kB_, kVl_, kCmp_, kCmp2_, kCh_, kCh2_, kCh2b_, kCh3_, kIfx_, kCall_, kCal_, kIsi_, kIsi2_, kF1_, kMm_, kMm2_, kG1_, kSub_, kSub2_, kSl_, kSl2_, kSl2b_, kSl3_, kSl3b_, kRng_, kRng2_, kComp_, kFrz_, kApp_, kApp2_, kEs_, kEs2_, kBo_, kBoT_, x_asg, x_sto, x_expr, x_ite, x_for, x_while, x_ret, x_retn, x_pass, x_brk, x_cnt, xs_nil, xs_cons, kAsg_, kExp_, kIte_, kFor_, kRet_, kSto_, kSto2_, kSto3_, kSto4_, runB_, kRun_n, kRun_r, kRun_e, decide_eq_false e1, decide_eq_true e2, decide_eq_true h1, decide_eq_false h2]
          · have e1 : i < l := by omega
            simp only [realM, List.map_cons, List.map_nil, List.length_cons, List.length_nil, List.cons_append, List.nil_append, List.getElem?_cons_zero, List.getElem?_cons_succ, List.set_cons_zero, List.set_cons_succ, MP.R.bind_ok, MP.R.bind_exn, MP.R.st_ok, MP.R.st_exn, RS.bind_next, RS.bind_ret, RS.bind_brk, RS.bind_cnt, RS.bind_exn, isTy, isL, if_true, if_false, Bool.false_eq_true, Bool.true_eq_false, Bool.not_false, Bool.not_true, reduceIte, cmp_lt, cmp_le, cmp_gt, cmp_ge, cmp_is, cmp_isnot, ite_andv, ite_orv, ite_andt, ite_ort, ite_andq, binV, truth_bl, List.replicate_succ, List.replicate_zero, seqOf_tup, seqOf_lst, seqOf_scr, len_tup, len_lst, len_scr, lstOf_lst, mm_int, Nat.zero_add, Nat.reduceAdd, Nat.reduceSub, Int.reduceNeg, int_int, Int.reduceLT, Int.reduceLE, Nat.reduceLT, Int.reduceToNat, true_and, and_true, decide_true, decide_false, id_eq, outS_go, outS_ret, bl_ne1, bl_ne2, noExn_ok, Bool.true_and, Bool.and_true, Bool.false_and, Bool.and_false, Bool.true_or, Bool.or_true, Bool.false_or, Bool.or_false, v_var, t_var, i_var, v_int, t_int, i_int, v_bl, t_bl, i_bl, v_non, t_non, i_non, v_str, t_str, i_str, v_glob, t_glob, i_glob, v_tup, t_tup, i_tup, v_lst, t_lst, i_lst, v_bin, t_bin, i_bin, v_neg, t_neg, i_neg, v_not, t_not, v_cmp, t_cmp, i_cmp, v_chain, t_chain, i_chain, v_bo, t_bo, v_ifx, i_ifx, v_call, t_call, i_call, v_isi, t_isi, i_isi, v_isi2, t_isi2, i_isi2, v_f1, t_f1, i_f1, v_mm, t_mm, i_mm, v_g1, t_g1, i_g1, v_sub, t_sub, i_sub, v_slc, t_slc, i_slc, v_no, t_no, i_rng, v_comp, t_comp, i_comp, v_frz, i_frz, v_app, es_nil, es_cons, bo_1, bo_2, bt_1, bt_2, kVar_, kGl_, kTr_, kTr2_, kI1_t, kI1_l, kI1_s, kTup_, kLst_, kBin_, kBin2_, kNeg_, kNot_, kNotT_, kB_, kVl_, kCmp_, kCmp2_, kCh_, kCh2_, kCh2b_, kCh3_, kIfx_, kCall_, kCal_, kIsi_, kIsi2_, kF1_, kMm_, kMm2_, kG1_, kSub_, kSub2_, kSl_, kSl2_, kSl2b_, kSl3_, kSl3b_, kRng_, kRng2_, kComp_, kFrz_, kApp_, kApp2_, kEs_, kEs2_, kBo_, kBoT_, x_asg, x_sto, x_expr, x_ite, x_for, x_while, x_ret, x_retn, x_pass, x_brk, x_cnt, xs_nil, xs_cons, kAsg_, kExp_, kIte_, kFor_, kRet_, kSto_, kSto2_, kSto3_, kSto4_, runB_, kRun_n, kRun_r, kRun_e, decide_eq_true e1, decide_eq_false h1]
          · have e1 : i < l := by omega
            simp only [realM, List.map_cons, List.map_nil, List.length_cons, List.length_nil, List.cons_append, List.nil_append, List.getElem?_cons_zero, List.getElem?_cons_succ, List.set_cons_zero, List.set_cons_succ, MP.R.bind_ok, MP.R.bind_exn, MP.R.st_ok, MP.R.st_exn, RS.bind_next, RS.bind_ret, RS.bind_brk, RS.bind_cnt, RS.bind_exn, isTy, isL, if_true, if_false, Bool.false_eq_true, Bool.true_eq_false, Bool.not_false, Bool.not_true, reduceIte, cmp_lt, cmp_le, cmp_gt, cmp_ge, cmp_is, cmp_isnot, ite_andv, ite_orv, ite_andt, ite_ort, ite_andq, binV, truth_bl, List.replicate_succ, List.replicate_zero, seqOf_tup, seqOf_lst, seqOf_scr, len_tup, len_lst, len_scr, lstOf_lst, mm_int, Nat.zero_add, Nat.reduceAdd, Nat.reduceSub, Int.reduceNeg, int_int, Int.reduceLT, Int.reduceLE, Nat.reduceLT, Int.reduceToNat, true_and, and_true, decide_true, decide_false, id_eq, outS_go, outS_ret, bl_ne1, bl_ne2, noExn_ok, Bool.true_and, Bool.and_true, Bool.false_and, Bool.and_false, Bool.true_or, Bool.or_true, Bool.false_or, Bool.or_false, v_var, t_var, i_var, v_int, t_int, i_int, v_bl, t_bl, i_bl, v_non, t_non, i_non, v_str, t_str, i_str, v_glob, t_glob, i_glob, v_tup, t_tup, i_tup, v_lst, t_lst, i_lst, v_bin, t_bin, i_bin, v_neg, t_neg, i_neg, v_not, t_not, v_cmp, t_cmp, i_cmp, v_chain, t_chain, i_chain, v_bo, t_bo, v_ifx, i_ifx, v_call, t_call, i_call, v_isi, t_isi, i_isi, v_isi2, t_isi2, i_isi2, v_f1, t_f1, i_f1, v_mm, t_mm, i_mm, v_g1, t_g1, i_g1, v_sub, t_sub, i_sub, v_slc, t_slc, i_slc, v_no, t_no, i_rng, v_comp, t_comp, i_comp, v_frz, i_frz, v_app, es_nil, es_cons, bo_1, bo_2, bt_1, bt_2, kVar_, kGl_, kTr_, kTr2_, kI1_t, kI1_l, kI1_s, kTup_, kLst_, kBin_, kBin2_, kNeg_, kNot_, kNotT_, kB_, kVl_, kCmp_, kCmp2_, kCh_, kCh2_, kCh2b_, kCh3_, kIfx_, kCall_, kCal_, kIsi_, kIsi2_, kF1_, kMm_, kMm2_, kG1_, kSub_, kSub2_, kSl_, kSl2_, kSl2b_, kSl3_, kSl3b_, kRng_, kRng2_, kComp_, kFrz_, kApp_, kApp2_, kEs_, kEs2_, kBo_, kBoT_, x_asg, x_sto, x_expr, x_ite, x_for, x_while, x_ret, x_retn, x_pass, x_brk, x_cnt, xs_nil, xs_cons, kAsg_, kExp_, kIte_, kFor_, kRet_, kSto_, kSto2_, kSto3_, kSto4_, runB_, kRun_n, kRun_r, kRun_e, decide_eq_true e1, decide_eq_false h1]) () none
      rw [foldO_all, List.map_id] at ho
      rw [ho]
      cases hb : xs.all (btw l u) <;> simp only [realM, List.map_cons, List.map_nil, List.length_cons, List.length_nil, List.cons_append, List.nil_append, List.getElem?_cons_zero, List.getElem?_cons_succ, List.set_cons_zero, List.set_cons_succ, MP.R.bind_ok, MP.R.bind_exn, MP.R.st_ok, MP.R.st_exn, RS.bind_next, RS.bind_ret, RS.bind_brk, RS.bind_cnt, RS.bind_exn, isTy, isL, if_true, if_false, Bool.false_eq_true, Bool.true_eq_false, Bool.not_false, Bool.not_true, reduceIte, cmp_lt, cmp_le, cmp_gt, cmp_ge, cmp_is, cmp_isnot, ite_andv, ite_orv, ite_andt, ite_ort, ite_andq, binV, truth_bl, List.replicate_succ, List.replicate_zero, seqOf_tup, seqOf_lst, seqOf_scr, len_tup, len_lst, len_scr, lstOf_lst, mm_int, Nat.zero_add, Nat.reduceAdd, Nat.reduceSub, Int.reduceNeg, int_int, Int.reduceLT, Int.reduceLE, Nat.reduceLT, Int.reduceToNat, true_and, and_true, decide_true, decide_false, id_eq, outS_go, outS_ret, bl_ne1, bl_ne2, noExn_ok, Bool.true_and, Bool.and_true, Bool.false_and, Bool.and_false, Bool.true_or, Bool.or_true, Bool.false_or, Bool.or_false, v_var, t_var, i_var, v_int, t_int, i_int, v_bl, t_bl, i_bl, v_non, t_non, i_non, v_str, t_str, i_str, v_glob, t_glob, i_glob, v_tup, t_tup, i_tup, v_lst, t_lst, i_lst, v_bin, t_bin, i_bin, v_neg, t_neg, i_neg, v_not, t_not, v_cmp, t_cmp, i_cmp, v_chain, t_chain, i_chain, v_bo, t_bo, v_ifx, i_ifx, v_call, t_call, i_call, v_isi, t_isi, i_isi, v_isi2, t_isi2, i_isi2, v_f1, t_f1, i_f1, v_mm, t_mm, i_mm, v_g1, t_g1, i_g1, v_sub, t_sub, i_sub, v_slc, t_slc, i_slc, v_no, t_no, i_rng, v_comp, t_comp, i_comp, v_frz, i_frz, v_app, es_nil, es_cons, bo_1, bo_2, bt_1, bt_2, kVar_, kGl_, kTr_, kTr2_, kI1_t, kI1_l, kI1_s, kTup_, kLst_, kBin_, kBin2_, kNeg_, kNot_, kNotT_, kB_, kVl_, kCmp_, kCmp2_, kCh_, kCh2_, kCh2b_, kCh3_, kIfx_, kCall_, kCal_, kIsi_, kIsi2_, kF1_, kMm_, kMm2_, kG1_, kSub_, kSub2_, kSl_, kSl2_, kSl2b_, kSl3_, kSl3b_, kRng_, kRng2_, kComp_, kFrz_, kApp_, kApp2_, kEs_, kEs2_, kBo_, kBoT_, x_asg, x_sto, x_expr, x_ite, x_for, x_while, x_ret, x_retn, x_pass, x_brk, x_cnt, xs_nil, xs_cons, kAsg_, kExp_, kIte_, kFor_, kRet_, kSto_, kSto2_, kSto3_, kSto4_, runB_, kRun_n, kRun_r, kRun_e, nums, hs, hb, decide_eq_true hn]
    · simp only [realM, List.map_cons, List.map_nil, List.length_cons, List.length_nil, List.cons_append, List.nil_append, List.getElem?_cons_zero, List.getElem?_cons_succ, List.set_cons_zero, List.set_cons_succ, MP.R.bind_ok, MP.R.bind_exn, MP.R.st_ok, MP.R.st_exn, RS.bind_next, RS.bind_ret, RS.bind_brk, RS.bind_cnt, RS.bind_exn, isTy, isL, if_true, if_false, Bool.false_eq_true, Bool.true_eq_false, Bool.not_false, Bool.not_true, reduceIte, cmp_lt, cmp_le, cmp_gt, cmp_ge, cmp_is, cmp_isnot, ite_andv, ite_orv, ite_andt, ite_ort, ite_andq, binV, truth_bl, List.replicate_succ, List.replicate_zero, seqOf_tup, seqOf_lst, seqOf_scr, len_tup, len_lst, len_scr, lstOf_lst, mm_int, Nat.zero_add, Nat.reduceAdd, Nat.reduceSub, Int.reduceNeg, int_int, Int.reduceLT, Int.reduceLE, Nat.reduceLT, Int.reduceToNat, true_and, and_true, decide_true, decide_false, id_eq, outS_go, outS_ret, bl_ne1, bl_ne2, noExn_ok, Bool.true_and, Bool.and_true, Bool.false_and, Bool.and_false, Bool.true_or, Bool.or_true, Bool.false_or, Bool.or_false, v_var, t_var, i_var, v_int, t_int, i_int, v_bl, t_bl, i_bl, v_non, t_non, i_non, v_str, t_str, i_str, v_glob, t_glob, i_glob, v_tup, t_tup, i_tup, v_lst, t_lst, i_lst, v_bin, t_bin, i_bin, v_neg, t_neg, i_neg, v_not, t_not, v_cmp, t_cmp, i_cmp, v_chain, t_chain, i_chain, v_bo, t_bo, v_ifx, i_ifx, v_call, t_call, i_call, v_isi, t_isi, i_isi, v_isi2, t_isi2, i_isi2, v_f1, t_f1, i_f1, v_mm, t_mm, i_mm, v_g1, t_g1, i_g1, v_sub, t_sub, i_sub, v_slc, t_slc, i_slc, v_no, t_no, i_rng, v_comp, t_comp, i_comp, v_frz, i_frz, v_app, es_nil, es_cons, bo_1, bo_2, bt_1, bt_2, kVar_, kGl_, kTr_, kTr2_, kI1_t, kI1_l, kI1_s, kTup_, kLst_, kBin_, kBin2_, kNeg_, kNot_, kNotT_, kB_, kVl_, kCmp_, kCmp2_, kCh_, kCh2_, kCh2b_, kCh3_, kIfx_, kCall_, kCal_, kIsi_, kIsi2_, kF1_, kMm_, kMm2_, kG1_, kSub_, kSub2_, kSl_, kSl2_, kSl2b_, kSl3_, kSl3b_, kRng_, kRng2_, kComp_, kFrz_, kApp_, kApp2_, kEs_, kEs2_, kBo_, kBoT_, x_asg, x_sto, x_expr, x_ite, x_for, x_while, x_ret, x_retn, x_pass, x_brk, x_cnt, xs_nil, xs_cons, kAsg_, kExp_, kIte_, kFor_, kRet_, kSto_, kSto2_, kSto3_, kSto4_, runB_, kRun_n, kRun_r, kRun_e, b_law_numbers, dom_law_is_row, c_row h, isR_some hs, seqC_len hs, vne_int, decide_eq_false hn, nums, hs]
end
section
variable {st : Store}
def oV : Option Int → Val | some i => .int i | none => .non
def stepR (st : Store) (o : Option Int) (x : Val) : Out (Option Int) := match x with
  | .int i => if ltO o i then .go (some i) else .ret (.bl false) st
  | _ => .ret (.bl false) st
theorem risingF_int (o : Option Int) (i : Int) (xs : List Val) : risingF o (.int i :: xs) = (ltO o i && risingF (some i) xs) := by cases o <;> rfl
theorem risingF_bad {o : Option Int} {x : Val} {xs : List Val} (h : isW x = false) : risingF o (x :: xs) = false := by cases x <;> first | (cases o <;> rfl) | cases h
theorem foldR : ∀ (xs : List Val) (o : Option Int), (∃ o', foldO (stepR st) o xs = .go o' ∧ risingF o xs = true) ∨ (foldO (stepR st) o xs = .ret (.bl false) st ∧ risingF o xs = false)
  | [], o => .inl ⟨o, rfl, by cases o <;> rfl⟩
  | x :: xs, o => by
    cases x with
    | int i =>
      rw [risingF_int]
      by_cases h : ltO o i = true
      · rw [foldO_go (b' := some i) (by simp only [stepR, h, if_true]), h, Bool.true_and]; exact foldR xs (some i)
      · rw [foldO_ret (v := .bl false) (s := st) (by simp only [stepR, if_neg h]), Bool.eq_false_iff.mpr h]; exact .inr ⟨rfl, rfl⟩
    | _ => exact .inr ⟨foldO_ret rfl, risingF_bad rfl⟩
theorem r_is_rising : Real 1 3 b_is_rising f_is_rising := fun args st v hl hc hf => by
  obtain ⟨a, rfl⟩ := len1 hl
  have h := cl1 hc
  cases hf
  refine real0 ?_ rfl
  cases hs : seqC a with
  | none => simp only [realM, List.map_cons, List.map_nil, List.length_cons, List.length_nil, List.cons_append, List.nil_append, List.getElem?_cons_zero, List.getElem?_cons_succ, List.set_cons_zero, List.set_cons_succ, MP.R.bind_ok, MP.R.bind_exn, MP.R.st_ok, MP.R.st_exn, RS.bind_next, RS.bind_ret, RS.bind_brk, RS.bind_cnt, RS.bind_exn, isTy, isL, if_true, if_false, Bool.false_eq_true, Bool.true_eq_false, Bool.not_false, Bool.not_true, reduceIte, cmp_lt, cmp_le, cmp_gt, cmp_ge, cmp_is, cmp_isnot, ite_andv, ite_orv, ite_andt, ite_ort, ite_andq, binV, truth_bl, List.replicate_succ, List.replicate_zero, seqOf_tup, seqOf_lst, seqOf_scr, len_tup, len_lst, len_scr, lstOf_lst, mm_int, Nat.zero_add, Nat.reduceAdd, Nat.reduceSub, Int.reduceNeg, int_int, Int.reduceLT, Int.reduceLE, Nat.reduceLT, Int.reduceToNat, true_and, and_true, decide_true, decide_false, id_eq, outS_go, outS_ret, bl_ne1, bl_ne2, noExn_ok, Bool.true_and, Bool.and_true, Bool.false_and, Bool.and_false, Bool.true_or, Bool.or_true, Bool.false_or, Bool.or_false, v_var, t_var, i_var, v_int, t_int, i_int, v_bl, t_bl, i_bl, v_non, t_non, i_non, v_str, t_str, i_str, v_glob, t_glob, i_glob, v_tup, t_tup, i_tup, v_lst, t_lst, i_lst, v_bin, t_bin, i_bin, v_neg, t_neg, i_neg, v_not, t_not, v_cmp, t_cmp, i_cmp, v_chain, t_chain, i_chain, v_bo, t_bo, v_ifx, i_ifx, v_call, t_call, i_call, v_isi, t_isi, i_isi, v_isi2, t_isi2, i_isi2, v_f1, t_f1, i_f1, v_mm, t_mm, i_mm, v_g1, t_g1, i_g1, v_sub, t_sub, i_sub, v_slc, t_slc, i_slc, v_no, t_no, i_rng, v_comp, t_comp, i_comp, v_frz, i_frz, v_app, es_nil, es_cons, bo_1, bo_2, bt_1, bt_2, kVar_, kGl_, kTr_, kTr2_, kI1_t, kI1_l, kI1_s, kTup_, kLst_, kBin_, kBin2_, kNeg_, kNot_, kNotT_, kB_, kVl_, kCmp_, kCmp2_, kCh_, kCh2_, kCh2b_, kCh3_, kIfx_, kCall_, kCal_, kIsi_, kIsi2_, kF1_, kMm_, kMm2_, kG1_, kSub_, kSub2_, kSl_, kSl2_, kSl2b_, kSl3_, kSl3b_, kRng_, kRng2_, kComp_, kFrz_, kApp_, kApp2_, kEs_, kEs2_, kBo_, kBoT_, x_asg, x_sto, x_expr, x_ite, x_for, x_while, x_ret, x_retn, x_pass, x_brk, x_cnt, xs_nil, xs_cons, kAsg_, kExp_, kIte_, kFor_, kRet_, kSto_, kSto2_, kSto3_, kSto4_, runB_, kRun_n, kRun_r, kRun_e, b_is_rising, dom_is_row, c_row h, isR_none hs, rising, hs]
  | some xs =>
    have hcl := seqC_cl hs h
    simp only [realM, List.map_cons, List.map_nil, List.length_cons, List.length_nil, List.cons_append, List.nil_append, List.getElem?_cons_zero, List.getElem?_cons_succ, List.set_cons_zero, List.set_cons_succ, MP.R.bind_ok, MP.R.bind_exn, MP.R.st_ok, MP.R.st_exn, RS.bind_next, RS.bind_ret, RS.bind_brk, RS.bind_cnt, RS.bind_exn, isTy, isL, if_true, if_false, Bool.false_eq_true, Bool.true_eq_false, Bool.not_false, Bool.not_true, reduceIte, cmp_lt, cmp_le, cmp_gt, cmp_ge, cmp_is, cmp_isnot, ite_andv, ite_orv, ite_andt, ite_ort, ite_andq, binV, truth_bl, List.replicate_succ, List.replicate_zero, seqOf_tup, seqOf_lst, seqOf_scr, len_tup, len_lst, len_scr, lstOf_lst, mm_int, Nat.zero_add, Nat.reduceAdd, Nat.reduceSub, Int.reduceNeg, int_int, Int.reduceLT, Int.reduceLE, Nat.reduceLT, Int.reduceToNat, true_and, and_true, decide_true, decide_false, id_eq, outS_go, outS_ret, bl_ne1, bl_ne2, noExn_ok, Bool.true_and, Bool.and_true, Bool.false_and, Bool.and_false, Bool.true_or, Bool.or_true, Bool.false_or, Bool.or_false, v_var, t_var, i_var, v_int, t_int, i_int, v_bl, t_bl, i_bl, v_non, t_non, i_non, v_str, t_str, i_str, v_glob, t_glob, i_glob, v_tup, t_tup, i_tup, v_lst, t_lst, i_lst, v_bin, t_bin, i_bin, v_neg, t_neg, i_neg, v_not, t_not, v_cmp, t_cmp, i_cmp, v_chain, t_chain, i_chain, v_bo, t_bo, v_ifx, i_ifx, v_call, t_call, i_call, v_isi, t_isi, i_isi, v_isi2, t_isi2, i_isi2, v_f1, t_f1, i_f1, v_mm, t_mm, i_mm, v_g1, t_g1, i_g1, v_sub, t_sub, i_sub, v_slc, t_slc, i_slc, v_no, t_no, i_rng, v_comp, t_comp, i_comp, v_frz, i_frz, v_app, es_nil, es_cons, bo_1, bo_2, bt_1, bt_2, kVar_, kGl_, kTr_, kTr2_, kI1_t, kI1_l, kI1_s, kTup_, kLst_, kBin_, kBin2_, kNeg_, kNot_, kNotT_, kB_, kVl_, kCmp_, kCmp2_, kCh_, kCh2_, kCh2b_, kCh3_, kIfx_, kCall_, kCal_, kIsi_, kIsi2_, kF1_, kMm_, kMm2_, kG1_, kSub_, kSub2_, kSl_, kSl2_, kSl2b_, kSl3_, kSl3b_, kRng_, kRng2_, kComp_, kFrz_, kApp_, kApp2_, kEs_, kEs2_, kBo_, kBoT_, x_asg, x_sto, x_expr, x_ite, x_for, x_while, x_ret, x_retn, x_pass, x_brk, x_cnt, xs_nil, xs_cons, kAsg_, kExp_, kIte_, kFor_, kRet_, kSto_, kSto2_, kSto3_, kSto4_, runB_, kRun_n, kRun_r, kRun_e, b_is_rising, dom_is_row, c_row h, isR_some hs, seqC_i hs]
    have ho := forL_fold (g := id) (i := 2) (body := evSs Φ G0 b_is_rising_1)
      (fun (b : Option Int) o => [some a, some (oV b), o]) (fun _ => st) (stepR st) (fun _ _ _ => rfl) xs
      (fun b x hx => by
        have hx' := closedL_mem hcl x hx
        cases x <;> simp only [realM, List.map_cons, List.map_nil, List.length_cons, List.length_nil, List.cons_append, List.nil_append, List.getElem?_cons_zero, List.getElem?_cons_succ, List.set_cons_zero, List.set_cons_succ, MP.R.bind_ok, MP.R.bind_exn, MP.R.st_ok, MP.R.st_exn, RS.bind_next, RS.bind_ret, RS.bind_brk, RS.bind_cnt, RS.bind_exn, isTy, isL, if_true, if_false, Bool.false_eq_true, Bool.true_eq_false, Bool.not_false, Bool.not_true, reduceIte, cmp_lt, cmp_le, cmp_gt, cmp_ge, cmp_is, cmp_isnot, ite_andv, ite_orv, ite_andt, ite_ort, ite_andq, binV, truth_bl, List.replicate_succ, List.replicate_zero, seqOf_tup, seqOf_lst, seqOf_scr, len_tup, len_lst, len_scr, lstOf_lst, mm_int, Nat.zero_add, Nat.reduceAdd, Nat.reduceSub, Int.reduceNeg, int_int, Int.reduceLT, Int.reduceLE, Nat.reduceLT, Int.reduceToNat, true_and, and_true, decide_true, decide_false, id_eq, outS_go, outS_ret, bl_ne1, bl_ne2, noExn_ok, Bool.true_and, Bool.and_true, Bool.false_and, Bool.and_false, Bool.true_or, Bool.or_true, Bool.false_or, Bool.or_false, v_var, t_var, i_var, v_int, t_int, i_int, v_bl, t_bl, i_bl, v_non, t_non, i_non, v_str, t_str, i_str, v_glob, t_glob, i_glob, v_tup, t_tup, i_tup, v_lst, t_lst, i_lst, v_bin, t_bin, i_bin, v_neg, t_neg, i_neg, v_not, t_not, v_cmp, t_cmp, i_cmp, v_chain, t_chain, i_chain, v_bo, t_bo, v_ifx, i_ifx, v_call, t_call, i_call, v_isi, t_isi, i_isi, v_isi2, t_isi2, i_isi2, v_f1, t_f1, i_f1, v_mm, t_mm, i_mm, v_g1, t_g1, i_g1, v_sub, t_sub, i_sub, v_slc, t_slc, i_slc, v_no, t_no, i_rng, v_comp, t_comp, i_comp, v_frz, i_frz, v_app, es_nil, es_cons, bo_1, bo_2, bt_1, bt_2, kVar_, kGl_, kTr_, kTr2_, kI1_t, kI1_l, kI1_s, kTup_, kLst_, kBin_, kBin2_, kNeg_, kNot_, kNotT_, kB_, kVl_, kCmp_, kCmp2_, kCh_, kCh2_, kCh2b_, kCh3_, kIfx_, kCall_, kCal_, kIsi_, kIsi2_, kF1_, kMm_, kMm2_, kG1_, kSub_, kSub2_, kSl_, kSl2_, kSl2b_, kSl3_, kSl3b_, kRng_, kRng2_, kComp_, kFrz_, kApp_, kApp2_, kEs_, kEs2_, kBo_, kBoT_, x_asg, x_sto, x_expr, x_ite, x_for, x_while, x_ret, x_retn, x_pass, x_brk, x_cnt, xs_nil, xs_cons, kAsg_, kExp_, kIte_, kFor_, kRet_, kSto_, kSto2_, kSto3_, kSto4_, runB_, kRun_n, kRun_r, kRun_e, b_is_rising_1, dom_is_whole, c_whole hx', isW, stepR]
        rename_i i
        cases b with
        | none => simp only [realM, List.map_cons, List.map_nil, List.length_cons, List.length_nil, List.cons_append, List.nil_append, List.getElem?_cons_zero, List.getElem?_cons_succ, List.set_cons_zero, List.set_cons_succ, MP.R.bind_ok, MP.R.bind_exn, MP.R.st_ok, MP.R.st_exn, RS.bind_next, RS.bind_ret, RS.bind_brk, RS.bind_cnt, RS.bind_exn, isTy, isL, if_true, if_false, Bool.false_eq_true, Bool.true_eq_false, Bool.not_false, Bool.not_true, reduceIte, cmp_lt, cmp_le, cmp_gt, cmp_ge, cmp_is, cmp_isnot, ite_andv, ite_orv, ite_andt, ite_ort, ite_andq, binV, truth_bl, List.replicate_succ, List.replicate_zero, seqOf_tup, seqOf_lst, seqOf_scr, len_tup, len_lst, len_scr, lstOf_lst, mm_int, Nat.zero_add, Nat.reduceAdd, Nat.reduceSub, Int.reduceNeg, int_int, Int.reduceLT, Int.reduceLE, Nat.reduceLT, Int.reduceToNat, true_and, and_true, decide_true, decide_false, id_eq, outS_go, outS_ret, bl_ne1, bl_ne2, noExn_ok, Bool.true_and, Bool.and_true, Bool.false_and, Bool.and_false, Bool.true_or, Bool.or_true, Bool.false_or, Bool.or_false, v_var, t_var, i_var, v_int, t_int, i_int, v_bl, t_bl, i_bl, v_non, t_non, i_non, v_str, t_str, i_str, v_glob, t_glob, i_glob, v_tup, t_tup, i_tup, v_lst, t_lst, i_lst, v_bin, t_bin, i_bin, v_neg, t_neg, i_neg, v_not, t_not, v_cmp, t_cmp, i_cmp, v_chain, t_chain, i_chain, v_bo, t_bo, v_ifx, i_ifx, v_call, t_call, i_call, v_isi, t_isi, i_isi, v_isi2, t_isi2, i_isi2, v_f1, t_f1, i_f1, v_mm, t_mm, i_mm, v_g1, t_g1, i_g1, v_sub, t_sub, i_sub, v_slc, t_slc, i_slc, v_no, t_no, i_rng, v_comp, t_comp, i_comp, v_frz, i_frz, v_app, es_nil, es_cons, bo_1, bo_2, bt_1, bt_2, kVar_, kGl_, kTr_, kTr2_, kI1_t, kI1_l, kI1_s, kTup_, kLst_, kBin_, kBin2_, kNeg_, kNot_, kNotT_, kB_, kVl_, kCmp_, kCmp2_, kCh_, kCh2_, kCh2b_, kCh3_, kIfx_, kCall_, kCal_, kIsi_, kIsi2_, kF1_, kMm_, kMm2_, kG1_, kSub_, kSub2_, kSl_, kSl2_, kSl2b_, kSl3_, kSl3b_, kRng_, kRng2_, kComp_, kFrz_, kApp_, kApp2_, kEs_, kEs2_, kBo_, kBoT_, x_asg, x_sto, x_expr, x_ite, x_for, x_while, x_ret, x_retn, x_pass, x_brk, x_cnt, xs_nil, xs_cons, kAsg_, kExp_, kIte_, kFor_, kRet_, kSto_, kSto2_, kSto3_, kSto4_, runB_, kRun_n, kRun_r, kRun_e, oV, ltO]
        | some j =>
          by_cases h1 : j < i
          · have e1 : ¬ i ≤ j := by omega
            simp only [realM, List.map_cons, List.map_nil, List.length_cons, List.length_nil, List.cons_append, List.nil_append, List.getElem?_cons_zero, List.getElem?_cons_succ, List.set_cons_zero, List.set_cons_succ, MP.R.bind_ok, MP.R.bind_exn, MP.R.st_ok, MP.R.st_exn, RS.bind_next, RS.bind_ret, RS.bind_brk, RS.bind_cnt, RS.bind_exn, isTy, isL, if_true, if_false, Bool.false_eq_true, Bool.true_eq_false, Bool.not_false, Bool.not_true, reduceIte, cmp_lt, cmp_le, cmp_gt, cmp_ge, cmp_is, cmp_isnot, ite_andv, ite_orv, ite_andt, ite_ort, ite_andq, binV, truth_bl, List.replicate_succ, List.replicate_zero, seqOf_tup, seqOf_lst, seqOf_scr, len_tup, len_lst, len_scr, lstOf_lst, mm_int, Nat.zero_add, Nat.reduceAdd, Nat.reduceSub, Int.reduceNeg, int_int, Int.reduceLT, Int.reduceLE, Nat.reduceLT, Int.reduceToNat, true_and, and_true, decide_true, decide_false, id_eq, outS_go, outS_ret, bl_ne1, bl_ne2, noExn_ok, Bool.true_and, Bool.and_true, Bool.false_and, Bool.and_false, Bool.true_or, Bool.or_true, Bool.false_or, Bool.or_false, v_var, t_var, i_var, v_int, t_int, i_int, v_bl, t_bl, i_bl, v_non, t_non, i_non, v_str, t_str, i_str, v_glob, t_glob, i_glob, v_tup, t_tup, i_tup, v_lst, t_lst, i_lst, v_bin, t_bin, i_bin, v_neg, t_neg, i_neg, v_not, t_not, v_cmp, t_cmp, i_cmp, v_chain, t_chain, i_chain, v_bo, t_bo, v_ifx, i_ifx, v_call, t_call, i_call, v_isi, t_isi, i_isi, v_isi2, t_isi2, i_isi2, v_f1, t_f1, i_f1, v_mm, t_mm, i_mm, v_g1, t_g1, i_g1, v_sub, t_sub, i_sub, v_slc, t_slc, i_slc, v_no, t_no, i_rng, v_comp, t_comp, i_comp, v_frz, i_frz, v_app, es_nil, es_cons, bo_1, bo_2, bt_1, bt_2, kVar_, kGl_, kTr_, kTr2_, kI1_t, kI1_l, kI1_s, kTup_, kLst_, kBin_, kBin2_, kNeg_, kNot_, kNotT_, kB_, kVl_, kCmp_, kCmp2_, kCh_, kCh2_, kCh2b_, kCh3_, kIfx_, kCall_, kCal_, kIsi_, kIsi2_, kF1_, kMm_, kMm2_, kG1_, kSub_, kSub2_, kSl_, kSl2_, kSl2b_, kSl3_, kSl3b_, kRng_, kRng2_, kComp_, kFrz_, kApp_, kApp2_, kEs_, kEs2_, kBo_, kBoT_, x_asg, x_sto, x_expr, x_ite, x_for, x_while, x_ret, x_retn, x_pass, x_brk, x_cnt, xs_nil, xs_cons, kAsg_, kExp_, kIte_, kFor_, kRet_, kSto_, kSto2_, kSto3_, kSto4_, runB_, kRun_n, kRun_r, kRun_e, oV, ltO, decide_eq_false e1, decide_eq_true h1]
          · have e1 : i ≤ j := by omega
            simp only [realM, List.map_cons, List.map_nil, List.length_cons, List.length_nil, List.cons_append, List.nil_append, List.getElem?_cons_zero, List.getElem?_cons_succ, List.set_cons_zero, List.set_cons_succ, MP.R.bind_ok, MP.R.bind_exn, MP.R.st_ok, MP.R.st_exn, RS.bind_next, RS.bind_ret, RS.bind_brk, RS.bind_cnt, RS.bind_exn, isTy, isL, if_true, if_false, Bool.false_eq_true, Bool.true_eq_false, Bool.not_false, Bool.not_true, reduceIte, cmp_lt, cmp_le, cmp_gt, cmp_ge, cmp_is, cmp_isnot, ite_andv, ite_orv, ite_andt, ite_ort, ite_andq, binV, truth_bl, List.replicate_succ, List.replicate_zero, seqOf_tup, seqOf_lst, seqOf_scr, len_tup, len_lst, len_scr, lstOf_lst, mm_int, Nat.zero_add, Nat.reduceAdd, Nat.reduceSub, Int.reduceNeg, int_int, Int.reduceLT, Int.reduceLE, Nat.reduceLT, Int.reduceToNat, true_and, and_true, decide_true, decide_false, id_eq, outS_go, outS_ret, bl_ne1, bl_ne2, noExn_ok, Bool.true_and, Bool.and_true, Bool.false_and, Bool.and_false, Bool.true_or, Bool.or_true, Bool.false_or, Bool.or_false, v_var, t_var, i_var, v_int, t_int, i_int, v_bl, t_bl, i_bl, v_non, t_non, i_non, v_str, t_str, i_str, v_glob, t_glob, i_glob, v_tup, t_tup, i_tup, v_lst, t_lst, i_lst, v_bin, t_bin, i_bin, v_neg, t_neg, i_neg, v_not, t_not, v_cmp, t_cmp, i_cmp, v_chain, t_chain, i_chain, v_bo, t_bo, v_ifx, i_ifx, v_call, t_call, i_call, v_isi, t_isi, i_isi, v_isi2, t_isi2, i_isi2, v_f1, t_f1, i_f1, v_mm, t_mm, i_mm, v_g1, t_g1, i_g1, v_sub, t_sub, i_sub, v_slc, t_slc, i_slc, v_no, t_no, i_rng, v_comp, t_comp, i_comp, v_frz, i_frz, v_app, es_nil, es_cons, bo_1, bo_2, bt_1, bt_2, kVar_, kGl_, kTr_, kTr2_, kI1_t, kI1_l, kI1_s, kTup_, kLst_, kBin_, kBin2_, kNeg_, kNot_, kNotT_, kB_, kVl_, kCmp_, kCmp2_, kCh_, kCh2_, kCh2b_, kCh3_, kIfx_, kCall_, kCal_, kIsi_, kIsi2_, kF1_, kMm_, kMm2_, kG1_, kSub_, kSub2_, kSl_, kSl2_, kSl2b_, kSl3_, kSl3b_, kRng_, kRng2_, kComp_, kFrz_, kApp_, kApp2_, kEs_, kEs2_, kBo_, kBoT_, x_asg, x_sto, x_expr, x_ite, x_for, x_while, x_ret, x_retn, x_pass, x_brk, x_cnt, xs_nil, xs_cons, kAsg_, kExp_, kIte_, kFor_, kRet_, kSto_, kSto2_, kSto3_, kSto4_, runB_, kRun_n, kRun_r, kRun_e, oV, ltO, decide_eq_true e1, decide_eq_false h1]) none none
    rw [show oV none = .non from rfl, List.map_id] at ho
    rw [ho]
    rcases foldR (st := st) xs none with ⟨o', h1, h2⟩ | ⟨h1, h2⟩
    · rw [h1]; simp only [realM, List.map_cons, List.map_nil, List.length_cons, List.length_nil, List.cons_append, List.nil_append, List.getElem?_cons_zero, List.getElem?_cons_succ, List.set_cons_zero, List.set_cons_succ, MP.R.bind_ok, MP.R.bind_exn, MP.R.st_ok, MP.R.st_exn, RS.bind_next, RS.bind_ret, RS.bind_brk, RS.bind_cnt, RS.bind_exn, isTy, isL, if_true, if_false, Bool.false_eq_true, Bool.true_eq_false, Bool.not_false, Bool.not_true, reduceIte, cmp_lt, cmp_le, cmp_gt, cmp_ge, cmp_is, cmp_isnot, ite_andv, ite_orv, ite_andt, ite_ort, ite_andq, binV, truth_bl, List.replicate_succ, List.replicate_zero, seqOf_tup, seqOf_lst, seqOf_scr, len_tup, len_lst, len_scr, lstOf_lst, mm_int, Nat.zero_add, Nat.reduceAdd, Nat.reduceSub, Int.reduceNeg, int_int, Int.reduceLT, Int.reduceLE, Nat.reduceLT, Int.reduceToNat, true_and, and_true, decide_true, decide_false, id_eq, outS_go, outS_ret, bl_ne1, bl_ne2, noExn_ok, Bool.true_and, Bool.and_true, Bool.false_and, Bool.and_false, Bool.true_or, Bool.or_true, Bool.false_or, Bool.or_false, v_var, t_var, i_var, v_int, t_int, i_int, v_bl, t_bl, i_bl, v_non, t_non, i_non, v_str, t_str, i_str, v_glob, t_glob, i_glob, v_tup, t_tup, i_tup, v_lst, t_lst, i_lst, v_bin, t_bin, i_bin, v_neg, t_neg, i_neg, v_not, t_not, v_cmp, t_cmp, i_cmp, v_chain, t_chain, i_chain, v_bo, t_bo, v_ifx, i_ifx, v_call, t_call, i_call, v_isi, t_isi, i_isi, v_isi2, t_isi2, i_isi2, v_f1, t_f1, i_f1, v_mm, t_mm, i_mm, v_g1, t_g1, i_g1, v_sub, t_sub, i_sub, v_slc, t_slc, i_slc, v_no, t_no, i_rng, v_comp, t_comp, i_comp, v_frz, i_frz, v_app, es_nil, es_cons, bo_1, bo_2, bt_1, bt_2, kVar_, kGl_, kTr_, kTr2_, kI1_t, kI1_l, kI1_s, kTup_, kLst_, kBin_, kBin2_, kNeg_, kNot_, kNotT_, kB_, kVl_, kCmp_, kCmp2_, kCh_, kCh2_, kCh2b_, kCh3_, kIfx_, kCall_, kCal_, kIsi_, kIsi2_, kF1_, kMm_, kMm2_, kG1_, kSub_, kSub2_, kSl_, kSl2_, kSl2b_, kSl3_, kSl3b_, kRng_, kRng2_, kComp_, kFrz_, kApp_, kApp2_, kEs_, kEs2_, kBo_, kBoT_, x_asg, x_sto, x_expr, x_ite, x_for, x_while, x_ret, x_retn, x_pass, x_brk, x_cnt, xs_nil, xs_cons, kAsg_, kExp_, kIte_, kFor_, kRet_, kSto_, kSto2_, kSto3_, kSto4_, runB_, kRun_n, kRun_r, kRun_e, rising, hs, h2]
    · rw [h1]; simp only [realM, List.map_cons, List.map_nil, List.length_cons, List.length_nil, List.cons_append, List.nil_append, List.getElem?_cons_zero, List.getElem?_cons_succ, List.set_cons_zero, List.set_cons_succ, MP.R.bind_ok, MP.R.bind_exn, MP.R.st_ok, MP.R.st_exn, RS.bind_next, RS.bind_ret, RS.bind_brk, RS.bind_cnt, RS.bind_exn, isTy, isL, if_true, if_false, Bool.false_eq_true, Bool.true_eq_false, Bool.not_false, Bool.not_true, reduceIte, cmp_lt, cmp_le, cmp_gt, cmp_ge, cmp_is, cmp_isnot, ite_andv, ite_orv, ite_andt, ite_ort, ite_andq, binV, truth_bl, List.replicate_succ, List.replicate_zero, seqOf_tup, seqOf_lst, seqOf_scr, len_tup, len_lst, len_scr, lstOf_lst, mm_int, Nat.zero_add, Nat.reduceAdd, Nat.reduceSub, Int.reduceNeg, int_int, Int.reduceLT, Int.reduceLE, Nat.reduceLT, Int.reduceToNat, true_and, and_true, decide_true, decide_false, id_eq, outS_go, outS_ret, bl_ne1, bl_ne2, noExn_ok, Bool.true_and, Bool.and_true, Bool.false_and, Bool.and_false, Bool.true_or, Bool.or_true, Bool.false_or, Bool.or_false, v_var, t_var, i_var, v_int, t_int, i_int, v_bl, t_bl, i_bl, v_non, t_non, i_non, v_str, t_str, i_str, v_glob, t_glob, i_glob, v_tup, t_tup, i_tup, v_lst, t_lst, i_lst, v_bin, t_bin, i_bin, v_neg, t_neg, i_neg, v_not, t_not, v_cmp, t_cmp, i_cmp, v_chain, t_chain, i_chain, v_bo, t_bo, v_ifx, i_ifx, v_call, t_call, i_call, v_isi, t_isi, i_isi, v_isi2, t_isi2, i_isi2, v_f1, t_f1, i_f1, v_mm, t_mm, i_mm, v_g1, t_g1, i_g1, v_sub, t_sub, i_sub, v_slc, t_slc, i_slc, v_no, t_no, i_rng, v_comp, t_comp, i_comp, v_frz, i_frz, v_app, es_nil, es_cons, bo_1, bo_2, bt_1, bt_2, kVar_, kGl_, kTr_, kTr2_, kI1_t, kI1_l, kI1_s, kTup_, kLst_, kBin_, kBin2_, kNeg_, kNot_, kNotT_, kB_, kVl_, kCmp_, kCmp2_, kCh_, kCh2_, kCh2b_, kCh3_, kIfx_, kCall_, kCal_, kIsi_, kIsi2_, kF1_, kMm_, kMm2_, kG1_, kSub_, kSub2_, kSl_, kSl2_, kSl2b_, kSl3_, kSl3b_, kRng_, kRng2_, kComp_, kFrz_, kApp_, kApp2_, kEs_, kEs2_, kBo_, kBoT_, x_asg, x_sto, x_expr, x_ite, x_for, x_while, x_ret, x_retn, x_pass, x_brk, x_cnt, xs_nil, xs_cons, kAsg_, kExp_, kIte_, kFor_, kRet_, kSto_, kSto2_, kSto3_, kSto4_, runB_, kRun_n, kRun_r, kRun_e, rising, hs, h2]
theorem risingF_last : ∀ (xs : List Val) (o : Option Int) (i y : Val), risingF o (xs ++ [i, y]) = (risingF o (xs ++ [i]) && ltV i y)
  | [], o, i, y => by
    cases i with
    | int k =>
      show risingF o (.int k :: [y]) = (risingF o (.int k :: []) && _)
      rw [risingF_int, risingF_int]
      cases y <;> simp [risingF, ltV, ltO]
    | _ => rw [List.nil_append, List.nil_append, risingF_bad rfl, risingF_bad rfl]; rfl
  | x :: xs, o, i, y => by
    cases x with
    | int k => rw [List.cons_append, List.cons_append, risingF_int, risingF_int, risingF_last xs (some k) i y, Bool.and_assoc]
    | _ => rw [List.cons_append, List.cons_append, risingF_bad rfl, risingF_bad rfl]; rfl
/-- by place: what stands at k is an int above the one before it -/
def okAt (xs : List Val) (k : Nat) : Bool := match xs[k]? with
  | some x => if k = 0 then isW x else (match xs[k - 1]? with | some z => ltV z x | none => false)
  | none => false
theorem rising_take {xs : List Val} {k : Nat} {x : Val} (h : xs[k]? = some x) : risingF none (xs.take (k + 1)) = (risingF none (xs.take k) && okAt xs k) := by
  unfold okAt
  rw [h]
  cases k with
  | zero =>
    cases xs with
    | nil => cases h
    | cons y ys =>
      have hy : y = x := by simpa using h
      subst hy
      cases y <;> rfl
  | succ k =>
    have hk : k + 1 < xs.length := (List.getElem?_eq_some_iff.mp h).1
    have hk' : k < xs.length := by omega
    have hz : xs[k]? = some xs[k] := List.getElem?_eq_getElem hk'
    have e1 : xs.take (k + 1) = xs.take k ++ [xs[k]] := by rw [List.take_add_one, hz]; rfl
    have e2 : xs.take (k + 2) = xs.take k ++ [xs[k], x] := by rw [List.take_add_one, h, e1, List.append_assoc]; rfl
    rw [e1, e2, risingF_last, Nat.add_sub_cancel, hz]
    rfl
theorem okAt_W {xs : List Val} {k : Nat} {x : Val} (h : xs[k]? = some x) (hw : isW x = false) : okAt xs k = false := by
  unfold okAt
  rw [h]
  by_cases h0 : k = 0
  · subst h0; exact hw
  · simp only [if_neg h0]
    cases xs[k - 1]? with
    | none => rfl
    | some z => cases z <;> cases x <;> first | rfl | cases hw
theorem rising_range (xs : List Val) : ∀ n : Nat, n ≤ xs.length → (List.range n).all (okAt xs) = risingF none (xs.take n)
  | 0, _ => rfl
  | n + 1, h => by
    have hz : xs[n]? = some xs[n] := List.getElem?_eq_getElem (by omega)
    rw [List.range_succ, List.all_append, rising_range xs n (by omega), rising_take hz]
    simp
theorem ixC {v : Val} {xs : List Val} {k : Nat} {x : Val} (h : seqC v = some xs) (hx : xs[k]? = some x) : ixV st v (.int (k : Int)) = .ok x := by
  cases v <;> first
    | (cases h; unfold ixV seqOf; simp only [atI_n hx]; done)
    | cases h
/-- the walk by places -/
theorem r_law_rising : Real 1 2 b_law_rising f_law_rising := fun args st v hl hc hf => by
  obtain ⟨a, rfl⟩ := len1 hl
  have h := cl1 hc
  simp only [f_law_rising] at hf
  split at hf
  · rename_i hlen
    cases hf
    refine real0 ?_ rfl
    cases hs : seqC a with
    | none => simp only [realM, List.map_cons, List.map_nil, List.length_cons, List.length_nil, List.cons_append, List.nil_append, List.getElem?_cons_zero, List.getElem?_cons_succ, List.set_cons_zero, List.set_cons_succ, MP.R.bind_ok, MP.R.bind_exn, MP.R.st_ok, MP.R.st_exn, RS.bind_next, RS.bind_ret, RS.bind_brk, RS.bind_cnt, RS.bind_exn, isTy, isL, if_true, if_false, Bool.false_eq_true, Bool.true_eq_false, Bool.not_false, Bool.not_true, reduceIte, cmp_lt, cmp_le, cmp_gt, cmp_ge, cmp_is, cmp_isnot, ite_andv, ite_orv, ite_andt, ite_ort, ite_andq, binV, truth_bl, List.replicate_succ, List.replicate_zero, seqOf_tup, seqOf_lst, seqOf_scr, len_tup, len_lst, len_scr, lstOf_lst, mm_int, Nat.zero_add, Nat.reduceAdd, Nat.reduceSub, Int.reduceNeg, int_int, Int.reduceLT, Int.reduceLE, Nat.reduceLT, Int.reduceToNat, true_and, and_true, decide_true, decide_false, id_eq, outS_go, outS_ret, bl_ne1, bl_ne2, noExn_ok, Bool.true_and, Bool.and_true, Bool.false_and, Bool.and_false, Bool.true_or, Bool.or_true, Bool.false_or, Bool.or_false, v_var, t_var, i_var, v_int, t_int, i_int, v_bl, t_bl, i_bl, v_non, t_non, i_non, v_str, t_str, i_str, v_glob, t_glob, i_glob, v_tup, t_tup, i_tup, v_lst, t_lst, i_lst, v_bin, t_bin, i_bin, v_neg, t_neg, i_neg, v_not, t_not, v_cmp, t_cmp, i_cmp, v_chain, t_chain, i_chain, v_bo, t_bo, v_ifx, i_ifx, v_call, t_call, i_call, v_isi, t_isi, i_isi, v_isi2, t_isi2, i_isi2, v_f1, t_f1, i_f1, v_mm, t_mm, i_mm, v_g1, t_g1, i_g1, v_sub, t_sub, i_sub, v_slc, t_slc, i_slc, v_no, t_no, i_rng, v_comp, t_comp, i_comp, v_frz, i_frz, v_app, es_nil, es_cons, bo_1, bo_2, bt_1, bt_2, kVar_, kGl_, kTr_, kTr2_, kI1_t, kI1_l, kI1_s, kTup_, kLst_, kBin_, kBin2_, kNeg_, kNot_, kNotT_, kB_, kVl_, kCmp_, kCmp2_, kCh_, kCh2_, kCh2b_, kCh3_, kIfx_, kCall_, kCal_, kIsi_, kIsi2_, kF1_, kMm_, kMm2_, kG1_, kSub_, kSub2_, kSl_, kSl2_, kSl2b_, kSl3_, kSl3b_, kRng_, kRng2_, kComp_, kFrz_, kApp_, kApp2_, kEs_, kEs2_, kBo_, kBoT_, x_asg, x_sto, x_expr, x_ite, x_for, x_while, x_ret, x_retn, x_pass, x_brk, x_cnt, xs_nil, xs_cons, kAsg_, kExp_, kIte_, kFor_, kRet_, kSto_, kSto2_, kSto3_, kSto4_, runB_, kRun_n, kRun_r, kRun_e, b_law_rising, dom_law_is_row, c_row h, isR_none hs, rising, hs]
    | some xs =>
      have hcl := seqC_cl hs h
      have hb : xs.length ≤ 1000 := by unfold lenOk at hlen; rw [hs] at hlen; exact of_decide_eq_true hlen
      have hr : rngOk (xs.length : Int) = true := by unfold rngOk; exact decide_eq_true (by omega)
      simp only [realM, List.map_cons, List.map_nil, List.length_cons, List.length_nil, List.cons_append, List.nil_append, List.getElem?_cons_zero, List.getElem?_cons_succ, List.set_cons_zero, List.set_cons_succ, MP.R.bind_ok, MP.R.bind_exn, MP.R.st_ok, MP.R.st_exn, RS.bind_next, RS.bind_ret, RS.bind_brk, RS.bind_cnt, RS.bind_exn, isTy, isL, if_true, if_false, Bool.false_eq_true, Bool.true_eq_false, Bool.not_false, Bool.not_true, reduceIte, cmp_lt, cmp_le, cmp_gt, cmp_ge, cmp_is, cmp_isnot, ite_andv, ite_orv, ite_andt, ite_ort, ite_andq, binV, truth_bl, List.replicate_succ, List.replicate_zero, seqOf_tup, seqOf_lst, seqOf_scr, len_tup, len_lst, len_scr, lstOf_lst, mm_int, Nat.zero_add, Nat.reduceAdd, Nat.reduceSub, Int.reduceNeg, int_int, Int.reduceLT, Int.reduceLE, Nat.reduceLT, Int.reduceToNat, true_and, and_true, decide_true, decide_false, id_eq, outS_go, outS_ret, bl_ne1, bl_ne2, noExn_ok, Bool.true_and, Bool.and_true, Bool.false_and, Bool.and_false, Bool.true_or, Bool.or_true, Bool.false_or, Bool.or_false, v_var, t_var, i_var, v_int, t_int, i_int, v_bl, t_bl, i_bl, v_non, t_non, i_non, v_str, t_str, i_str, v_glob, t_glob, i_glob, v_tup, t_tup, i_tup, v_lst, t_lst, i_lst, v_bin, t_bin, i_bin, v_neg, t_neg, i_neg, v_not, t_not, v_cmp, t_cmp, i_cmp, v_chain, t_chain, i_chain, v_bo, t_bo, v_ifx, i_ifx, v_call, t_call, i_call, v_isi, t_isi, i_isi, v_isi2, t_isi2, i_isi2, v_f1, t_f1, i_f1, v_mm, t_mm, i_mm, v_g1, t_g1, i_g1, v_sub, t_sub, i_sub, v_slc, t_slc, i_slc, v_no, t_no, i_rng, v_comp, t_comp, i_comp, v_frz, i_frz, v_app, es_nil, es_cons, bo_1, bo_2, bt_1, bt_2, kVar_, kGl_, kTr_, kTr2_, kI1_t, kI1_l, kI1_s, kTup_, kLst_, kBin_, kBin2_, kNeg_, kNot_, kNotT_, kB_, kVl_, kCmp_, kCmp2_, kCh_, kCh2_, kCh2b_, kCh3_, kIfx_, kCall_, kCal_, kIsi_, kIsi2_, kF1_, kMm_, kMm2_, kG1_, kSub_, kSub2_, kSl_, kSl2_, kSl2b_, kSl3_, kSl3b_, kRng_, kRng2_, kComp_, kFrz_, kApp_, kApp2_, kEs_, kEs2_, kBo_, kBoT_, x_asg, x_sto, x_expr, x_ite, x_for, x_while, x_ret, x_retn, x_pass, x_brk, x_cnt, xs_nil, xs_cons, kAsg_, kExp_, kIte_, kFor_, kRet_, kSto_, kSto2_, kSto3_, kSto4_, runB_, kRun_n, kRun_r, kRun_e, b_law_rising, dom_law_is_row, c_row h, isR_some hs, seqC_len hs, rngV, hr, Int.toNat_natCast, rangeL_0]
      have ho := forL_foldP (g := fun (k : Nat) => Val.int k) (i := 1) (body := evSs Φ G0 b_law_rising_1)
        (fun (_ : Unit) o => [some a, o]) (fun _ => st) (fun _ k => if okAt xs k then .go () else .ret (.bl false) st)
        (fun _ ys => ∃ j, (List.range xs.length).drop j = ys ∧ ∀ i, i < j → ∀ z, xs[i]? = some z → isW z = true) (fun _ _ _ => rfl) (List.range xs.length)
        (fun b k ys ⟨j, hd, hp⟩ => by
          obtain ⟨rfl, hk', hys⟩ := range_drop hd
          have hx : xs[k]? = some xs[k] := List.getElem?_eq_getElem hk'
          generalize xs[k] = x at hx
          have hx' := closedL_mem hcl x (List.mem_of_getElem? hx)
          have hnext : ∀ b', (if okAt xs k = true then Out.go () else Out.ret (Val.bl false) st) = Out.go b' → ∃ j, (List.range xs.length).drop j = ys ∧ ∀ i, i < j → ∀ z, xs[i]? = some z → isW z = true := fun b' e => by
            refine ⟨k + 1, hys.symm, fun i hi z hz => ?_⟩
            by_cases hik : i = k
            · subst hik
              rw [hx] at hz; cases hz
              cases hw : isW x with
              | true => rfl
              | false => rw [okAt_W hx hw] at e; cases e
            · exact hp i (by omega) z hz
          refine ⟨?_, hnext⟩
          simp only [realM, List.map_cons, List.map_nil, List.length_cons, List.length_nil, List.cons_append, List.nil_append, List.getElem?_cons_zero, List.getElem?_cons_succ, List.set_cons_zero, List.set_cons_succ, MP.R.bind_ok, MP.R.bind_exn, MP.R.st_ok, MP.R.st_exn, RS.bind_next, RS.bind_ret, RS.bind_brk, RS.bind_cnt, RS.bind_exn, isTy, isL, if_true, if_false, Bool.false_eq_true, Bool.true_eq_false, Bool.not_false, Bool.not_true, reduceIte, cmp_lt, cmp_le, cmp_gt, cmp_ge, cmp_is, cmp_isnot, ite_andv, ite_orv, ite_andt, ite_ort, ite_andq, binV, truth_bl, List.replicate_succ, List.replicate_zero, seqOf_tup, seqOf_lst, seqOf_scr, len_tup, len_lst, len_scr, lstOf_lst, mm_int, Nat.zero_add, Nat.reduceAdd, Nat.reduceSub, Int.reduceNeg, int_int, Int.reduceLT, Int.reduceLE, Nat.reduceLT, Int.reduceToNat, true_and, and_true, decide_true, decide_false, id_eq, outS_go, outS_ret, bl_ne1, bl_ne2, noExn_ok, Bool.true_and, Bool.and_true, Bool.false_and, Bool.and_false, Bool.true_or, Bool.or_true, Bool.false_or, Bool.or_false, v_var, t_var, i_var, v_int, t_int, i_int, v_bl, t_bl, i_bl, v_non, t_non, i_non, v_str, t_str, i_str, v_glob, t_glob, i_glob, v_tup, t_tup, i_tup, v_lst, t_lst, i_lst, v_bin, t_bin, i_bin, v_neg, t_neg, i_neg, v_not, t_not, v_cmp, t_cmp, i_cmp, v_chain, t_chain, i_chain, v_bo, t_bo, v_ifx, i_ifx, v_call, t_call, i_call, v_isi, t_isi, i_isi, v_isi2, t_isi2, i_isi2, v_f1, t_f1, i_f1, v_mm, t_mm, i_mm, v_g1, t_g1, i_g1, v_sub, t_sub, i_sub, v_slc, t_slc, i_slc, v_no, t_no, i_rng, v_comp, t_comp, i_comp, v_frz, i_frz, v_app, es_nil, es_cons, bo_1, bo_2, bt_1, bt_2, kVar_, kGl_, kTr_, kTr2_, kI1_t, kI1_l, kI1_s, kTup_, kLst_, kBin_, kBin2_, kNeg_, kNot_, kNotT_, kB_, kVl_, kCmp_, kCmp2_, kCh_, kCh2_, kCh2b_, kCh3_, kIfx_, kCall_, kCal_, kIsi_, kIsi2_, kF1_, kMm_, kMm2_, kG1_, kSub_, kSub2_, kSl_, kSl2_, kSl2b_, kSl3_, kSl3b_, kRng_, kRng2_, kComp_, kFrz_, kApp_, kApp2_, kEs_, kEs2_, kBo_, kBoT_, x_asg, x_sto, x_expr, x_ite, x_for, x_while, x_ret, x_retn, x_pass, x_brk, x_cnt, xs_nil, xs_cons, kAsg_, kExp_, kIte_, kFor_, kRet_, kSto_, kSto2_, kSto3_, kSto4_, runB_, kRun_n, kRun_r, kRun_e, b_law_rising_1, ixC hs hx, dom_law_is_integer, c_whole hx']
          cases hw : isW x with
          | false => simp only [realM, List.map_cons, List.map_nil, List.length_cons, List.length_nil, List.cons_append, List.nil_append, List.getElem?_cons_zero, List.getElem?_cons_succ, List.set_cons_zero, List.set_cons_succ, MP.R.bind_ok, MP.R.bind_exn, MP.R.st_ok, MP.R.st_exn, RS.bind_next, RS.bind_ret, RS.bind_brk, RS.bind_cnt, RS.bind_exn, isTy, isL, if_true, if_false, Bool.false_eq_true, Bool.true_eq_false, Bool.not_false, Bool.not_true, reduceIte, cmp_lt, cmp_le, cmp_gt, cmp_ge, cmp_is, cmp_isnot, ite_andv, ite_orv, ite_andt, ite_ort, ite_andq, binV, truth_bl, List.replicate_succ, List.replicate_zero, seqOf_tup, seqOf_lst, seqOf_scr, len_tup, len_lst, len_scr, lstOf_lst, mm_int, Nat.zero_add, Nat.reduceAdd, Nat.reduceSub, Int.reduceNeg, int_int, Int.reduceLT, Int.reduceLE, Nat.reduceLT, Int.reduceToNat, true_and, and_true, decide_true, decide_false, id_eq, outS_go, outS_ret, bl_ne1, bl_ne2, noExn_ok, Bool.true_and, Bool.and_true, Bool.false_and, Bool.and_false, Bool.true_or, Bool.or_true, Bool.false_or, Bool.or_false, v_var, t_var, i_var, v_int, t_int, i_int, v_bl, t_bl, i_bl, v_non, t_non, i_non, v_str, t_str, i_str, v_glob, t_glob, i_glob, v_tup, t_tup, i_tup, v_lst, t_lst, i_lst, v_bin, t_bin, i_bin, v_neg, t_neg, i_neg, v_not, t_not, v_cmp, t_cmp, i_cmp, v_chain, t_chain, i_chain, v_bo, t_bo, v_ifx, i_ifx, v_call, t_call, i_call, v_isi, t_isi, i_isi, v_isi2, t_isi2, i_isi2, v_f1, t_f1, i_f1, v_mm, t_mm, i_mm, v_g1, t_g1, i_g1, v_sub, t_sub, i_sub, v_slc, t_slc, i_slc, v_no, t_no, i_rng, v_comp, t_comp, i_comp, v_frz, i_frz, v_app, es_nil, es_cons, bo_1, bo_2, bt_1, bt_2, kVar_, kGl_, kTr_, kTr2_, kI1_t, kI1_l, kI1_s, kTup_, kLst_, kBin_, kBin2_, kNeg_, kNot_, kNotT_, kB_, kVl_, kCmp_, kCmp2_, kCh_, kCh2_, kCh2b_, kCh3_, kIfx_, kCall_, kCal_, kIsi_, kIsi2_, kF1_, kMm_, kMm2_, kG1_, kSub_, kSub2_, kSl_, kSl2_, kSl2b_, kSl3_, kSl3b_, kRng_, kRng2_, kComp_, kFrz_, kApp_, kApp2_, kEs_, kEs2_, kBo_, kBoT_, x_asg, x_sto, x_expr, x_ite, x_for, x_while, x_ret, x_retn, x_pass, x_brk, x_cnt, xs_nil, xs_cons, kAsg_, kExp_, kIte_, kFor_, kRet_, kSto_, kSto2_, kSto3_, kSto4_, runB_, kRun_n, kRun_r, kRun_e, okAt_W hx hw]
          | true =>
            by_cases h0 : k = 0
            · subst h0
              have e : okAt xs 0 = true := by unfold okAt; rw [hx]; exact hw
              simp only [realM, List.map_cons, List.map_nil, List.length_cons, List.length_nil, List.cons_append, List.nil_append, List.getElem?_cons_zero, List.getElem?_cons_succ, List.set_cons_zero, List.set_cons_succ, MP.R.bind_ok, MP.R.bind_exn, MP.R.st_ok, MP.R.st_exn, RS.bind_next, RS.bind_ret, RS.bind_brk, RS.bind_cnt, RS.bind_exn, isTy, isL, if_true, if_false, Bool.false_eq_true, Bool.true_eq_false, Bool.not_false, Bool.not_true, reduceIte, cmp_lt, cmp_le, cmp_gt, cmp_ge, cmp_is, cmp_isnot, ite_andv, ite_orv, ite_andt, ite_ort, ite_andq, binV, truth_bl, List.replicate_succ, List.replicate_zero, seqOf_tup, seqOf_lst, seqOf_scr, len_tup, len_lst, len_scr, lstOf_lst, mm_int, Nat.zero_add, Nat.reduceAdd, Nat.reduceSub, Int.reduceNeg, int_int, Int.reduceLT, Int.reduceLE, Nat.reduceLT, Int.reduceToNat, true_and, and_true, decide_true, decide_false, id_eq, outS_go, outS_ret, bl_ne1, bl_ne2, noExn_ok, Bool.true_and, Bool.and_true, Bool.false_and, Bool.and_false, Bool.true_or, Bool.or_true, Bool.false_or, Bool.or_false, v_var, t_var, i_var, v_int, t_int, i_int, v_bl, t_bl, i_bl, v_non, t_non, i_non, v_str, t_str, i_str, v_glob, t_glob, i_glob, v_tup, t_tup, i_tup, v_lst, t_lst, i_lst, v_bin, t_bin, i_bin, v_neg, t_neg, i_neg, v_not, t_not, v_cmp, t_cmp, i_cmp, v_chain, t_chain, i_chain, v_bo, t_bo, v_ifx, i_ifx, v_call, t_call, i_call, v_isi, t_isi, i_isi, v_isi2, t_isi2, i_isi2, v_f1, t_f1, i_f1, v_mm, t_mm, i_mm, v_g1, t_g1, i_g1, v_sub, t_sub, i_sub, v_slc, t_slc, i_slc, v_no, t_no, i_rng, v_comp, t_comp, i_comp, v_frz, i_frz, v_app, es_nil, es_cons, bo_1, bo_2, bt_1, bt_2, kVar_, kGl_, kTr_, kTr2_, kI1_t, kI1_l, kI1_s, kTup_, kLst_, kBin_, kBin2_, kNeg_, kNot_, kNotT_, kB_, kVl_, kCmp_, kCmp2_, kCh_, kCh2_, kCh2b_, kCh3_, kIfx_, kCall_, kCal_, kIsi_, kIsi2_, kF1_, kMm_, kMm2_, kG1_, kSub_, kSub2_, kSl_, kSl2_, kSl2b_, kSl3_, kSl3b_, kRng_, kRng2_, kComp_, kFrz_, kApp_, kApp2_, kEs_, kEs2_, kBo_, kBoT_, x_asg, x_sto, x_expr, x_ite, x_for, x_while, x_ret, x_retn, x_pass, x_brk, x_cnt, xs_nil, xs_cons, kAsg_, kExp_, kIte_, kFor_, kRet_, kSto_, kSto2_, kSto3_, kSto4_, runB_, kRun_n, kRun_r, kRun_e, e, Int.ofNat_zero, Int.lt_irrefl, decide_false]
            · have e1 : ((k : Int) - 1) = ((k - 1 : Nat) : Int) := by omega
              have hz : xs[k - 1]? = some xs[k - 1] := List.getElem?_eq_getElem (by omega)
              generalize xs[k - 1] = z at hz
              have hzw := hp (k - 1) (by omega) z hz
              have e2 : (0 : Int) < (k : Int) := by omega
              have e3 : okAt xs k = ltV z x := by unfold okAt; rw [hx, hz]; simp only [if_neg h0]
              cases x <;> first | (cases hw; done) | skip
              cases z <;> first | (cases hzw; done) | skip
              rename_i i j
              by_cases h1 : j < i
              · have e4 : ¬ i ≤ j := by omega
                simp only [realM, List.map_cons, List.map_nil, List.length_cons, List.length_nil, List.cons_append, List.nil_append, List.getElem?_cons_zero, List.getElem?_cons_succ, List.set_cons_zero, List.set_cons_succ, MP.R.bind_ok, MP.R.bind_exn, MP.R.st_ok, MP.R.st_exn, RS.bind_next, RS.bind_ret, RS.bind_brk, RS.bind_cnt, RS.bind_exn, isTy, isL, if_true, if_false, Bool.false_eq_true, Bool.true_eq_false, Bool.not_false, Bool.not_true, reduceIte, cmp_lt, cmp_le, cmp_gt, cmp_ge, cmp_is, cmp_isnot, ite_andv, ite_orv, ite_andt, ite_ort, ite_andq, binV, truth_bl, List.replicate_succ, List.replicate_zero, seqOf_tup, seqOf_lst, seqOf_scr, len_tup, len_lst, len_scr, lstOf_lst, mm_int, Nat.zero_add, Nat.reduceAdd, Nat.reduceSub, Int.reduceNeg, int_int, Int.reduceLT, Int.reduceLE, Nat.reduceLT, Int.reduceToNat, true_and, and_true, decide_true, decide_false, id_eq, outS_go, outS_ret, bl_ne1, bl_ne2, noExn_ok, Bool.true_and, Bool.and_true, Bool.false_and, Bool.and_false, Bool.true_or, Bool.or_true, Bool.false_or, Bool.or_false, v_var, t_var, i_var, v_int, t_int, i_int, v_bl, t_bl, i_bl, v_non, t_non, i_non, v_str, t_str, i_str, v_glob, t_glob, i_glob, v_tup, t_tup, i_tup, v_lst, t_lst, i_lst, v_bin, t_bin, i_bin, v_neg, t_neg, i_neg, v_not, t_not, v_cmp, t_cmp, i_cmp, v_chain, t_chain, i_chain, v_bo, t_bo, v_ifx, i_ifx, v_call, t_call, i_call, v_isi, t_isi, i_isi, v_isi2, t_isi2, i_isi2, v_f1, t_f1, i_f1, v_mm, t_mm, i_mm, v_g1, t_g1, i_g1, v_sub, t_sub, i_sub, v_slc, t_slc, i_slc, v_no, t_no, i_rng, v_comp, t_comp, i_comp, v_frz, i_frz, v_app, es_nil, es_cons, bo_1, bo_2, bt_1, bt_2, kVar_, kGl_, kTr_, kTr2_, kI1_t, kI1_l, kI1_s, kTup_, kLst_, kBin_, kBin2_, kNeg_, kNot_, kNotT_, kB_, kVl_, kCmp_, kCmp2_, kCh_, kCh2_, kCh2b_, kCh3_, kIfx_, kCall_, kCal_, kIsi_, kIsi2_, kF1_, kMm_, kMm2_, kG1_, kSub_, kSub2_, kSl_, kSl2_, kSl2b_, kSl3_, kSl3b_, kRng_, kRng2_, kComp_, kFrz_, kApp_, kApp2_, kEs_, kEs2_, kBo_, kBoT_, x_asg, x_sto, x_expr, x_ite, x_for, x_while, x_ret, x_retn, x_pass, x_brk, x_cnt, xs_nil, xs_cons, kAsg_, kExp_, kIte_, kFor_, kRet_, kSto_, kSto2_, kSto3_, kSto4_, runB_, kRun_n, kRun_r, kRun_e, decide_eq_true e2, ixC hs hx, e1, ixC hs hz, e3, ltV, decide_eq_true h1, decide_eq_false e4]
              · have e4 : i ≤ j := by omega
                simp only [realM, List.map_cons, List.map_nil, List.length_cons, List.length_nil, List.cons_append, List.nil_append, List.getElem?_cons_zero, List.getElem?_cons_succ, List.set_cons_zero, List.set_cons_succ, MP.R.bind_ok, MP.R.bind_exn, MP.R.st_ok, MP.R.st_exn, RS.bind_next, RS.bind_ret, RS.bind_brk, RS.bind_cnt, RS.bind_exn, isTy, isL, if_true, if_false, Bool.false_eq_true, Bool.true_eq_false, Bool.not_false, Bool.not_true, reduceIte, cmp_lt, cmp_le, cmp_gt, cmp_ge, cmp_is, cmp_isnot, ite_andv, ite_orv, ite_andt, ite_ort, ite_andq, binV, truth_bl, List.replicate_succ, List.replicate_zero, seqOf_tup, seqOf_lst, seqOf_scr, len_tup, len_lst, len_scr, lstOf_lst, mm_int, Nat.zero_add, Nat.reduceAdd, Nat.reduceSub, Int.reduceNeg, int_int, Int.reduceLT, Int.reduceLE, Nat.reduceLT, Int.reduceToNat, true_and, and_true, decide_true, decide_false, id_eq, outS_go, outS_ret, bl_ne1, bl_ne2, noExn_ok, Bool.true_and, Bool.and_true, Bool.false_and, Bool.and_false, Bool.true_or, Bool.or_true, Bool.false_or, Bool.or_false, v_var, t_var, i_var, v_int, t_int, i_int, v_bl, t_bl, i_bl, v_non, t_non, i_non, v_str, t_str, i_str, v_glob, t_glob, i_glob, v_tup, t_tup, i_tup, v_lst, t_lst, i_lst, v_bin, t_bin, i_bin, v_neg, t_neg, i_neg, v_not, t_not, v_cmp, t_cmp, i_cmp, v_chain, t_chain, i_chain, v_bo, t_bo, v_ifx, i_ifx, v_call, t_call, i_call, v_isi, t_isi, i_isi, v_isi2, t_isi2, i_isi2, v_f1, t_f1, i_f1, v_mm, t_mm, i_mm, v_g1, t_g1, i_g1, v_sub, t_sub, i_sub, v_slc, t_slc, i_slc, v_no, t_no, i_rng, v_comp, t_comp, i_comp, v_frz, i_frz, v_app, es_nil, es_cons, bo_1, bo_2, bt_1, bt_2, kVar_, kGl_, kTr_, kTr2_, kI1_t, kI1_l, kI1_s, kTup_, kLst_, kBin_, kBin2_, kNeg_, kNot_, kNotT_, kB_, kVl_, kCmp_, kCmp2_, kCh_, kCh2_, kCh2b_, kCh3_, kIfx_, kCall_, kCal_, kIsi_, kIsi2_, kF1_, kMm_, kMm2_, kG1_, kSub_, kSub2_, kSl_, kSl2_, kSl2b_, kSl3_, kSl3b_, kRng_, kRng2_, kComp_, kFrz_, kApp_, kApp2_, kEs_, kEs2_, kBo_, kBoT_, x_asg, x_sto, x_expr, x_ite, x_for, x_while, x_ret, x_retn, x_pass, x_brk, x_cnt, xs_nil, xs_cons, kAsg_, kExp_, kIte_, kFor_, kRet_, kSto_, kSto2_, kSto3_, kSto4_, runB_, kRun_n, kRun_r, kRun_e, decide_eq_true e2, ixC hs hx, e1, ixC hs hz, e3, ltV, decide_eq_false h1, decide_eq_true e4]) () none ⟨0, rfl, fun i hi => absurd hi (Nat.not_lt_zero i)⟩
      rw [ho, foldO_all, rising_range xs xs.length (Nat.le_refl _), List.take_length]
      cases hb : risingF none xs <;> simp only [realM, List.map_cons, List.map_nil, List.length_cons, List.length_nil, List.cons_append, List.nil_append, List.getElem?_cons_zero, List.getElem?_cons_succ, List.set_cons_zero, List.set_cons_succ, MP.R.bind_ok, MP.R.bind_exn, MP.R.st_ok, MP.R.st_exn, RS.bind_next, RS.bind_ret, RS.bind_brk, RS.bind_cnt, RS.bind_exn, isTy, isL, if_true, if_false, Bool.false_eq_true, Bool.true_eq_false, Bool.not_false, Bool.not_true, reduceIte, cmp_lt, cmp_le, cmp_gt, cmp_ge, cmp_is, cmp_isnot, ite_andv, ite_orv, ite_andt, ite_ort, ite_andq, binV, truth_bl, List.replicate_succ, List.replicate_zero, seqOf_tup, seqOf_lst, seqOf_scr, len_tup, len_lst, len_scr, lstOf_lst, mm_int, Nat.zero_add, Nat.reduceAdd, Nat.reduceSub, Int.reduceNeg, int_int, Int.reduceLT, Int.reduceLE, Nat.reduceLT, Int.reduceToNat, true_and, and_true, decide_true, decide_false, id_eq, outS_go, outS_ret, bl_ne1, bl_ne2, noExn_ok, Bool.true_and, Bool.and_true, Bool.false_and, Bool.and_false, Bool.true_or, Bool.or_true, Bool.false_or, Bool.or_false, v_var, t_var, i_var, v_int, t_int, i_int, v_bl, t_bl, i_bl, v_non, t_non, i_non, v_str, t_str, i_str, v_glob, t_glob, i_glob, v_tup, t_tup, i_tup, v_lst, t_lst, i_lst, v_bin, t_bin, i_bin, v_neg, t_neg, i_neg, v_not, t_not, v_cmp, t_cmp, i_cmp, v_chain, t_chain, i_chain, v_bo, t_bo, v_ifx, i_ifx, v_call, t_call, i_call, v_isi, t_isi, i_isi, v_isi2, t_isi2, i_isi2, v_f1, t_f1, i_f1, v_mm, t_mm, i_mm, v_g1, t_g1, i_g1, v_sub, t_sub, i_sub, v_slc, t_slc, i_slc, v_no, t_no, i_rng, v_comp, t_comp, i_comp, v_frz, i_frz, v_app, es_nil, es_cons, bo_1, bo_2, bt_1, bt_2, kVar_, kGl_, kTr_, kTr2_, kI1_t, kI1_l, kI1_s, kTup_, kLst_, kBin_, kBin2_, kNeg_, kNot_, kNotT_, kB_, kVl_, kCmp_, kCmp2_, kCh_, kCh2_, kCh2b_, kCh3_, kIfx_, kCall_, kCal_, kIsi_, kIsi2_, kF1_, kMm_, kMm2_, kG1_, kSub_, kSub2_, kSl_, kSl2_, kSl2b_, kSl3_, kSl3b_, kRng_, kRng2_, kComp_, kFrz_, kApp_, kApp2_, kEs_, kEs2_, kBo_, kBoT_, x_asg, x_sto, x_expr, x_ite, x_for, x_while, x_ret, x_retn, x_pass, x_brk, x_cnt, xs_nil, xs_cons, kAsg_, kExp_, kIte_, kFor_, kRet_, kSto_, kSto2_, kSto3_, kSto4_, runB_, kRun_n, kRun_r, kRun_e, rising, hs, hb]
  · cases hf
end
section
variable {st : Store}
theorem isW_int {v : Val} (h : isW v = true) : ∃ i, v = .int i := by cases v <;> first | exact ⟨_, rfl⟩ | cases h
theorem r_law_judged : Real 4 5 b_law_judged f_law_judged := fun args st v hl hc hf => by
  obtain ⟨a, b, c, d, rfl⟩ := len4 hl
  have h : closed 0 a = true := by simp [closedL] at hc; exact hc.1
  cases b <;> cases c <;> cases d <;> first | (cases hf; done) | skip
  rename_i n l u
  simp only [f_law_judged] at hf
  split at hf
  · rename_i hlen
    cases hf
    refine real0 ?_ rfl
    cases hw : isW a with
    | false =>
      have e : btw l u a = false := by cases a <;> first | rfl | cases hw
      simp only [realM, List.map_cons, List.map_nil, List.length_cons, List.length_nil, List.cons_append, List.nil_append, List.getElem?_cons_zero, List.getElem?_cons_succ, List.set_cons_zero, List.set_cons_succ, MP.R.bind_ok, MP.R.bind_exn, MP.R.st_ok, MP.R.st_exn, RS.bind_next, RS.bind_ret, RS.bind_brk, RS.bind_cnt, RS.bind_exn, isTy, isL, if_true, if_false, Bool.false_eq_true, Bool.true_eq_false, Bool.not_false, Bool.not_true, reduceIte, cmp_lt, cmp_le, cmp_gt, cmp_ge, cmp_is, cmp_isnot, ite_andv, ite_orv, ite_andt, ite_ort, ite_andq, binV, truth_bl, List.replicate_succ, List.replicate_zero, seqOf_tup, seqOf_lst, seqOf_scr, len_tup, len_lst, len_scr, lstOf_lst, mm_int, Nat.zero_add, Nat.reduceAdd, Nat.reduceSub, Int.reduceNeg, int_int, Int.reduceLT, Int.reduceLE, Nat.reduceLT, Int.reduceToNat, true_and, and_true, decide_true, decide_false, id_eq, outS_go, outS_ret, bl_ne1, bl_ne2, noExn_ok, Bool.true_and, Bool.and_true, Bool.false_and, Bool.and_false, Bool.true_or, Bool.or_true, Bool.false_or, Bool.or_false, v_var, t_var, i_var, v_int, t_int, i_int, v_bl, t_bl, i_bl, v_non, t_non, i_non, v_str, t_str, i_str, v_glob, t_glob, i_glob, v_tup, t_tup, i_tup, v_lst, t_lst, i_lst, v_bin, t_bin, i_bin, v_neg, t_neg, i_neg, v_not, t_not, v_cmp, t_cmp, i_cmp, v_chain, t_chain, i_chain, v_bo, t_bo, v_ifx, i_ifx, v_call, t_call, i_call, v_isi, t_isi, i_isi, v_isi2, t_isi2, i_isi2, v_f1, t_f1, i_f1, v_mm, t_mm, i_mm, v_g1, t_g1, i_g1, v_sub, t_sub, i_sub, v_slc, t_slc, i_slc, v_no, t_no, i_rng, v_comp, t_comp, i_comp, v_frz, i_frz, v_app, es_nil, es_cons, bo_1, bo_2, bt_1, bt_2, kVar_, kGl_, kTr_, kTr2_, kI1_t, kI1_l, kI1_s, kTup_, kLst_, kBin_, kBin2_, kNeg_, kNot_, kNotT_, kB_, kVl_, kCmp_, kCmp2_, kCh_, kCh2_, kCh2b_, kCh3_, kIfx_, kCall_, kCal_, kIsi_, kIsi2_, kF1_, kMm_, kMm2_, kG1_, kSub_, kSub2_, kSl_, kSl2_, kSl2b_, kSl3_, kSl3b_, kRng_, kRng2_, kComp_, kFrz_, kApp_, kApp2_, kEs_, kEs2_, kBo_, kBoT_, x_asg, x_sto, x_expr, x_ite, x_for, x_while, x_ret, x_retn, x_pass, x_brk, x_cnt, xs_nil, xs_cons, kAsg_, kExp_, kIte_, kFor_, kRet_, kSto_, kSto2_, kSto3_, kSto4_, runB_, kRun_n, kRun_r, kRun_e, b_law_judged, dom_is_row, dom_law_is_row, dom_law_says, dom_is_whole, dom_law_is_integer, dom_is_between, dom_are_numbers, dom_law_numbers, dom_is_rising, dom_law_rising, c_row h, c_whole h, c_btw h, c_nums h, c_rising h, c_lrising h hlen, c_says, hw, e, beq_self_eq_true]
    | true =>
      obtain ⟨i, rfl⟩ := isW_int hw
      simp only [realM, List.map_cons, List.map_nil, List.length_cons, List.length_nil, List.cons_append, List.nil_append, List.getElem?_cons_zero, List.getElem?_cons_succ, List.set_cons_zero, List.set_cons_succ, MP.R.bind_ok, MP.R.bind_exn, MP.R.st_ok, MP.R.st_exn, RS.bind_next, RS.bind_ret, RS.bind_brk, RS.bind_cnt, RS.bind_exn, isTy, isL, if_true, if_false, Bool.false_eq_true, Bool.true_eq_false, Bool.not_false, Bool.not_true, reduceIte, cmp_lt, cmp_le, cmp_gt, cmp_ge, cmp_is, cmp_isnot, ite_andv, ite_orv, ite_andt, ite_ort, ite_andq, binV, truth_bl, List.replicate_succ, List.replicate_zero, seqOf_tup, seqOf_lst, seqOf_scr, len_tup, len_lst, len_scr, lstOf_lst, mm_int, Nat.zero_add, Nat.reduceAdd, Nat.reduceSub, Int.reduceNeg, int_int, Int.reduceLT, Int.reduceLE, Nat.reduceLT, Int.reduceToNat, true_and, and_true, decide_true, decide_false, id_eq, outS_go, outS_ret, bl_ne1, bl_ne2, noExn_ok, Bool.true_and, Bool.and_true, Bool.false_and, Bool.and_false, Bool.true_or, Bool.or_true, Bool.false_or, Bool.or_false, v_var, t_var, i_var, v_int, t_int, i_int, v_bl, t_bl, i_bl, v_non, t_non, i_non, v_str, t_str, i_str, v_glob, t_glob, i_glob, v_tup, t_tup, i_tup, v_lst, t_lst, i_lst, v_bin, t_bin, i_bin, v_neg, t_neg, i_neg, v_not, t_not, v_cmp, t_cmp, i_cmp, v_chain, t_chain, i_chain, v_bo, t_bo, v_ifx, i_ifx, v_call, t_call, i_call, v_isi, t_isi, i_isi, v_isi2, t_isi2, i_isi2, v_f1, t_f1, i_f1, v_mm, t_mm, i_mm, v_g1, t_g1, i_g1, v_sub, t_sub, i_sub, v_slc, t_slc, i_slc, v_no, t_no, i_rng, v_comp, t_comp, i_comp, v_frz, i_frz, v_app, es_nil, es_cons, bo_1, bo_2, bt_1, bt_2, kVar_, kGl_, kTr_, kTr2_, kI1_t, kI1_l, kI1_s, kTup_, kLst_, kBin_, kBin2_, kNeg_, kNot_, kNotT_, kB_, kVl_, kCmp_, kCmp2_, kCh_, kCh2_, kCh2b_, kCh3_, kIfx_, kCall_, kCal_, kIsi_, kIsi2_, kF1_, kMm_, kMm2_, kG1_, kSub_, kSub2_, kSl_, kSl2_, kSl2b_, kSl3_, kSl3b_, kRng_, kRng2_, kComp_, kFrz_, kApp_, kApp2_, kEs_, kEs2_, kBo_, kBoT_, x_asg, x_sto, x_expr, x_ite, x_for, x_while, x_ret, x_retn, x_pass, x_brk, x_cnt, xs_nil, xs_cons, kAsg_, kExp_, kIte_, kFor_, kRet_, kSto_, kSto2_, kSto3_, kSto4_, runB_, kRun_n, kRun_r, kRun_e, b_law_judged, dom_is_row, dom_law_is_row, dom_law_says, dom_is_whole, dom_law_is_integer, dom_is_between, dom_are_numbers, dom_law_numbers, dom_is_rising, dom_law_rising, c_row h, c_whole h, c_btw h, c_nums h, c_rising h, c_lrising h hlen, c_says, hw, btw, beq_self_eq_true]
  · cases hf
theorem shaped_bool (b : Bool) : True := trivial
theorem ixT {ns : List Int} {k : Nat} {i : Int} (h : ns[k]? = some i) : ixV st (.tup (vInts ns)) (.int (k : Int)) = .ok (.int i) := ixC (xs := vInts ns) rfl (vInts_get h)
theorem ixL {ns : List Int} {k : Nat} {i : Int} (h : ns[k]? = some i) : ixV st (.lst (vInts ns)) (.int (k : Int)) = .ok (.int i) := ixC (xs := vInts ns) rfl (vInts_get h)
theorem r_law_is_tuple : Real 2 3 b_law_is_tuple f_law_is_tuple := fun args st v hl hc hf => by
  obtain ⟨a, b, rfl⟩ := len2 hl
  cases a <;> cases b <;> first | (cases hf; done) | skip
  rename_i xs ys
  simp only [f_law_is_tuple] at hf
  split at hf
  · rename_i p q hp hq
    split at hf
    · rename_i hpq
      cases hf
      have e1 : xs = vInts p := asInts_eq hp
      have e2 : ys = vInts q := asInts_eq hq
      obtain ⟨rfl, hb⟩ := hpq
      subst e1 e2
      refine real0 ?_ rfl
      have hr : rngOk ((vInts p).length : Int) = true := by rw [vInts_len]; unfold rngOk; exact decide_eq_true (by omega)
      simp only [realM, List.map_cons, List.map_nil, List.length_cons, List.length_nil, List.cons_append, List.nil_append, List.getElem?_cons_zero, List.getElem?_cons_succ, List.set_cons_zero, List.set_cons_succ, MP.R.bind_ok, MP.R.bind_exn, MP.R.st_ok, MP.R.st_exn, RS.bind_next, RS.bind_ret, RS.bind_brk, RS.bind_cnt, RS.bind_exn, isTy, isL, if_true, if_false, Bool.false_eq_true, Bool.true_eq_false, Bool.not_false, Bool.not_true, reduceIte, cmp_lt, cmp_le, cmp_gt, cmp_ge, cmp_is, cmp_isnot, ite_andv, ite_orv, ite_andt, ite_ort, ite_andq, binV, truth_bl, List.replicate_succ, List.replicate_zero, seqOf_tup, seqOf_lst, seqOf_scr, len_tup, len_lst, len_scr, lstOf_lst, mm_int, Nat.zero_add, Nat.reduceAdd, Nat.reduceSub, Int.reduceNeg, int_int, Int.reduceLT, Int.reduceLE, Nat.reduceLT, Int.reduceToNat, true_and, and_true, decide_true, decide_false, id_eq, outS_go, outS_ret, bl_ne1, bl_ne2, noExn_ok, Bool.true_and, Bool.and_true, Bool.false_and, Bool.and_false, Bool.true_or, Bool.or_true, Bool.false_or, Bool.or_false, v_var, t_var, i_var, v_int, t_int, i_int, v_bl, t_bl, i_bl, v_non, t_non, i_non, v_str, t_str, i_str, v_glob, t_glob, i_glob, v_tup, t_tup, i_tup, v_lst, t_lst, i_lst, v_bin, t_bin, i_bin, v_neg, t_neg, i_neg, v_not, t_not, v_cmp, t_cmp, i_cmp, v_chain, t_chain, i_chain, v_bo, t_bo, v_ifx, i_ifx, v_call, t_call, i_call, v_isi, t_isi, i_isi, v_isi2, t_isi2, i_isi2, v_f1, t_f1, i_f1, v_mm, t_mm, i_mm, v_g1, t_g1, i_g1, v_sub, t_sub, i_sub, v_slc, t_slc, i_slc, v_no, t_no, i_rng, v_comp, t_comp, i_comp, v_frz, i_frz, v_app, es_nil, es_cons, bo_1, bo_2, bt_1, bt_2, kVar_, kGl_, kTr_, kTr2_, kI1_t, kI1_l, kI1_s, kTup_, kLst_, kBin_, kBin2_, kNeg_, kNot_, kNotT_, kB_, kVl_, kCmp_, kCmp2_, kCh_, kCh2_, kCh2b_, kCh3_, kIfx_, kCall_, kCal_, kIsi_, kIsi2_, kF1_, kMm_, kMm2_, kG1_, kSub_, kSub2_, kSl_, kSl2_, kSl2b_, kSl3_, kSl3b_, kRng_, kRng2_, kComp_, kFrz_, kApp_, kApp2_, kEs_, kEs2_, kBo_, kBoT_, x_asg, x_sto, x_expr, x_ite, x_for, x_while, x_ret, x_retn, x_pass, x_brk, x_cnt, xs_nil, xs_cons, kAsg_, kExp_, kIte_, kFor_, kRet_, kSto_, kSto2_, kSto3_, kSto4_, runB_, kRun_n, kRun_r, kRun_e, b_law_is_tuple, vne_int, decide_true, rngV, hr, Int.toNat_natCast, rangeL_0]
      have ho := forL_fold (g := fun (k : Nat) => Val.int k) (i := 2) (body := evSs Φ G0 b_law_is_tuple_1)
        (fun (_ : Unit) o => [some (.tup (vInts p)), some (.lst (vInts p)), o]) (fun _ => st) (fun _ k => .go ()) (fun _ _ _ => rfl) (List.range (vInts p).length)
        (fun b k hk => by
          have hk' : k < p.length := by rw [← vInts_len]; exact List.mem_range.mp hk
          have hx : p[k]? = some p[k] := List.getElem?_eq_getElem hk'
          generalize p[k] = i at hx
          simp only [realM, List.map_cons, List.map_nil, List.length_cons, List.length_nil, List.cons_append, List.nil_append, List.getElem?_cons_zero, List.getElem?_cons_succ, List.set_cons_zero, List.set_cons_succ, MP.R.bind_ok, MP.R.bind_exn, MP.R.st_ok, MP.R.st_exn, RS.bind_next, RS.bind_ret, RS.bind_brk, RS.bind_cnt, RS.bind_exn, isTy, isL, if_true, if_false, Bool.false_eq_true, Bool.true_eq_false, Bool.not_false, Bool.not_true, reduceIte, cmp_lt, cmp_le, cmp_gt, cmp_ge, cmp_is, cmp_isnot, ite_andv, ite_orv, ite_andt, ite_ort, ite_andq, binV, truth_bl, List.replicate_succ, List.replicate_zero, seqOf_tup, seqOf_lst, seqOf_scr, len_tup, len_lst, len_scr, lstOf_lst, mm_int, Nat.zero_add, Nat.reduceAdd, Nat.reduceSub, Int.reduceNeg, int_int, Int.reduceLT, Int.reduceLE, Nat.reduceLT, Int.reduceToNat, true_and, and_true, decide_true, decide_false, id_eq, outS_go, outS_ret, bl_ne1, bl_ne2, noExn_ok, Bool.true_and, Bool.and_true, Bool.false_and, Bool.and_false, Bool.true_or, Bool.or_true, Bool.false_or, Bool.or_false, v_var, t_var, i_var, v_int, t_int, i_int, v_bl, t_bl, i_bl, v_non, t_non, i_non, v_str, t_str, i_str, v_glob, t_glob, i_glob, v_tup, t_tup, i_tup, v_lst, t_lst, i_lst, v_bin, t_bin, i_bin, v_neg, t_neg, i_neg, v_not, t_not, v_cmp, t_cmp, i_cmp, v_chain, t_chain, i_chain, v_bo, t_bo, v_ifx, i_ifx, v_call, t_call, i_call, v_isi, t_isi, i_isi, v_isi2, t_isi2, i_isi2, v_f1, t_f1, i_f1, v_mm, t_mm, i_mm, v_g1, t_g1, i_g1, v_sub, t_sub, i_sub, v_slc, t_slc, i_slc, v_no, t_no, i_rng, v_comp, t_comp, i_comp, v_frz, i_frz, v_app, es_nil, es_cons, bo_1, bo_2, bt_1, bt_2, kVar_, kGl_, kTr_, kTr2_, kI1_t, kI1_l, kI1_s, kTup_, kLst_, kBin_, kBin2_, kNeg_, kNot_, kNotT_, kB_, kVl_, kCmp_, kCmp2_, kCh_, kCh2_, kCh2b_, kCh3_, kIfx_, kCall_, kCal_, kIsi_, kIsi2_, kF1_, kMm_, kMm2_, kG1_, kSub_, kSub2_, kSl_, kSl2_, kSl2b_, kSl3_, kSl3b_, kRng_, kRng2_, kComp_, kFrz_, kApp_, kApp2_, kEs_, kEs2_, kBo_, kBoT_, x_asg, x_sto, x_expr, x_ite, x_for, x_while, x_ret, x_retn, x_pass, x_brk, x_cnt, xs_nil, xs_cons, kAsg_, kExp_, kIte_, kFor_, kRet_, kSto_, kSto2_, kSto3_, kSto4_, runB_, kRun_n, kRun_r, kRun_e, b_law_is_tuple_1, ixT hx, ixL hx, dom_law_is_integer, c_whole (v := .int i) rfl, isW, vne_int, decide_true]) () none
      have hgo : ∀ l : List Nat, foldO (fun (_ : Unit) (_ : Nat) => Out.go ()) () l = .go () := fun l => by
        induction l with
        | nil => rfl
        | cons x xs ih => exact ih
      rw [ho, hgo]
      simp only [realM, List.map_cons, List.map_nil, List.length_cons, List.length_nil, List.cons_append, List.nil_append, List.getElem?_cons_zero, List.getElem?_cons_succ, List.set_cons_zero, List.set_cons_succ, MP.R.bind_ok, MP.R.bind_exn, MP.R.st_ok, MP.R.st_exn, RS.bind_next, RS.bind_ret, RS.bind_brk, RS.bind_cnt, RS.bind_exn, isTy, isL, if_true, if_false, Bool.false_eq_true, Bool.true_eq_false, Bool.not_false, Bool.not_true, reduceIte, cmp_lt, cmp_le, cmp_gt, cmp_ge, cmp_is, cmp_isnot, ite_andv, ite_orv, ite_andt, ite_ort, ite_andq, binV, truth_bl, List.replicate_succ, List.replicate_zero, seqOf_tup, seqOf_lst, seqOf_scr, len_tup, len_lst, len_scr, lstOf_lst, mm_int, Nat.zero_add, Nat.reduceAdd, Nat.reduceSub, Int.reduceNeg, int_int, Int.reduceLT, Int.reduceLE, Nat.reduceLT, Int.reduceToNat, true_and, and_true, decide_true, decide_false, id_eq, outS_go, outS_ret, bl_ne1, bl_ne2, noExn_ok, Bool.true_and, Bool.and_true, Bool.false_and, Bool.and_false, Bool.true_or, Bool.or_true, Bool.false_or, Bool.or_false, v_var, t_var, i_var, v_int, t_int, i_int, v_bl, t_bl, i_bl, v_non, t_non, i_non, v_str, t_str, i_str, v_glob, t_glob, i_glob, v_tup, t_tup, i_tup, v_lst, t_lst, i_lst, v_bin, t_bin, i_bin, v_neg, t_neg, i_neg, v_not, t_not, v_cmp, t_cmp, i_cmp, v_chain, t_chain, i_chain, v_bo, t_bo, v_ifx, i_ifx, v_call, t_call, i_call, v_isi, t_isi, i_isi, v_isi2, t_isi2, i_isi2, v_f1, t_f1, i_f1, v_mm, t_mm, i_mm, v_g1, t_g1, i_g1, v_sub, t_sub, i_sub, v_slc, t_slc, i_slc, v_no, t_no, i_rng, v_comp, t_comp, i_comp, v_frz, i_frz, v_app, es_nil, es_cons, bo_1, bo_2, bt_1, bt_2, kVar_, kGl_, kTr_, kTr2_, kI1_t, kI1_l, kI1_s, kTup_, kLst_, kBin_, kBin2_, kNeg_, kNot_, kNotT_, kB_, kVl_, kCmp_, kCmp2_, kCh_, kCh2_, kCh2b_, kCh3_, kIfx_, kCall_, kCal_, kIsi_, kIsi2_, kF1_, kMm_, kMm2_, kG1_, kSub_, kSub2_, kSl_, kSl2_, kSl2b_, kSl3_, kSl3b_, kRng_, kRng2_, kComp_, kFrz_, kApp_, kApp2_, kEs_, kEs2_, kBo_, kBoT_, x_asg, x_sto, x_expr, x_ite, x_for, x_while, x_ret, x_retn, x_pass, x_brk, x_cnt, xs_nil, xs_cons, kAsg_, kExp_, kIte_, kFor_, kRet_, kSto_, kSto2_, kSto3_, kSto4_, runB_, kRun_n, kRun_r, kRun_e]
    · cases hf
  · cases hf
theorem seqInts_of {v : Val} {ns : List Int} (h : seqInts v = some ns) : seqC v = some (vInts ns) := by
  unfold seqInts at h
  cases hs : seqC v with
  | none => rw [hs] at h; cases h
  | some xs =>
    rw [hs] at h
    rw [asInts_eq (show asInts xs = some ns from h)]; rfl
theorem seqOfC {v : Val} {xs : List Val} (h : seqC v = some xs) : ∃ k, seqOf st v = some (k, xs) := by
  cases v <;> first | (cases h; exact ⟨_, rfl⟩) | cases h
theorem r_union : Real 2 2 b_union f_union := fun args st v hl hc hf => by
  obtain ⟨a, b, rfl⟩ := len2 hl
  simp only [f_union] at hf
  split at hf
  · rename_i p q hp hq
    split at hf
    · rename_i hb
      cases hf
      obtain ⟨k1, h1⟩ := seqOfC (st := st) (seqInts_of hp)
      obtain ⟨k2, h2⟩ := seqOfC (st := st) (seqInts_of hq)
      rw [List.length_append] at hb
      have z1 : (vInts p).length ≤ szMax := by rw [vInts_len]; exact small (by omega)
      have z2 : (vInts q).length ≤ szMax := by rw [vInts_len]; exact small (by omega)
      have z3 : (vInts (p ++ q)).length ≤ szMax := by rw [vInts_len, List.length_append]; exact small hb
      have z4 : (vInts (sortS (p ++ q))).length ≤ szMax := by have := sortS_len (p ++ q); rw [List.length_append] at this; rw [vInts_len]; exact small (by omega)
      have z5 : (p ++ q).length < 64 := by rw [List.length_append]; exact hb
      refine real0 ?_ (closed_vInts 0 _)
      simp only [realM, List.map_cons, List.map_nil, List.length_cons, List.length_nil, List.cons_append, List.nil_append, List.getElem?_cons_zero, List.getElem?_cons_succ, List.set_cons_zero, List.set_cons_succ, MP.R.bind_ok, MP.R.bind_exn, MP.R.st_ok, MP.R.st_exn, RS.bind_next, RS.bind_ret, RS.bind_brk, RS.bind_cnt, RS.bind_exn, isTy, isL, if_true, if_false, Bool.false_eq_true, Bool.true_eq_false, Bool.not_false, Bool.not_true, reduceIte, cmp_lt, cmp_le, cmp_gt, cmp_ge, cmp_is, cmp_isnot, ite_andv, ite_orv, ite_andt, ite_ort, ite_andq, binV, truth_bl, List.replicate_succ, List.replicate_zero, seqOf_tup, seqOf_lst, seqOf_scr, len_tup, len_lst, len_scr, lstOf_lst, mm_int, Nat.zero_add, Nat.reduceAdd, Nat.reduceSub, Int.reduceNeg, int_int, Int.reduceLT, Int.reduceLE, Nat.reduceLT, Int.reduceToNat, true_and, and_true, decide_true, decide_false, id_eq, outS_go, outS_ret, bl_ne1, bl_ne2, noExn_ok, Bool.true_and, Bool.and_true, Bool.false_and, Bool.and_false, Bool.true_or, Bool.or_true, Bool.false_or, Bool.or_false, v_var, t_var, i_var, v_int, t_int, i_int, v_bl, t_bl, i_bl, v_non, t_non, i_non, v_str, t_str, i_str, v_glob, t_glob, i_glob, v_tup, t_tup, i_tup, v_lst, t_lst, i_lst, v_bin, t_bin, i_bin, v_neg, t_neg, i_neg, v_not, t_not, v_cmp, t_cmp, i_cmp, v_chain, t_chain, i_chain, v_bo, t_bo, v_ifx, i_ifx, v_call, t_call, i_call, v_isi, t_isi, i_isi, v_isi2, t_isi2, i_isi2, v_f1, t_f1, i_f1, v_mm, t_mm, i_mm, v_g1, t_g1, i_g1, v_sub, t_sub, i_sub, v_slc, t_slc, i_slc, v_no, t_no, i_rng, v_comp, t_comp, i_comp, v_frz, i_frz, v_app, es_nil, es_cons, bo_1, bo_2, bt_1, bt_2, kVar_, kGl_, kTr_, kTr2_, kI1_t, kI1_l, kI1_s, kTup_, kLst_, kBin_, kBin2_, kNeg_, kNot_, kNotT_, kB_, kVl_, kCmp_, kCmp2_, kCh_, kCh2_, kCh2b_, kCh3_, kIfx_, kCall_, kCal_, kIsi_, kIsi2_, kF1_, kMm_, kMm2_, kG1_, kSub_, kSub2_, kSl_, kSl2_, kSl2b_, kSl3_, kSl3b_, kRng_, kRng2_, kComp_, kFrz_, kApp_, kApp2_, kEs_, kEs2_, kBo_, kBoT_, x_asg, x_sto, x_expr, x_ite, x_for, x_while, x_ret, x_retn, x_pass, x_brk, x_cnt, xs_nil, xs_cons, kAsg_, kExp_, kIte_, kFor_, kRet_, kSto_, kSto2_, kSto3_, kSto4_, runB_, kRun_n, kRun_r, kRun_e, b_union, g1V, h1, h2, newL_f _ z1, newL_f _ z2, lstOf, vInts_app, newL_f _ z3, asInts_vInts, z5]
      rw [show List.map Val.int (sortS (p ++ q)) = vInts (sortS (p ++ q)) from rfl]
      simp only [realM, List.map_cons, List.map_nil, List.length_cons, List.length_nil, List.cons_append, List.nil_append, List.getElem?_cons_zero, List.getElem?_cons_succ, List.set_cons_zero, List.set_cons_succ, MP.R.bind_ok, MP.R.bind_exn, MP.R.st_ok, MP.R.st_exn, RS.bind_next, RS.bind_ret, RS.bind_brk, RS.bind_cnt, RS.bind_exn, isTy, isL, if_true, if_false, Bool.false_eq_true, Bool.true_eq_false, Bool.not_false, Bool.not_true, reduceIte, cmp_lt, cmp_le, cmp_gt, cmp_ge, cmp_is, cmp_isnot, ite_andv, ite_orv, ite_andt, ite_ort, ite_andq, binV, truth_bl, List.replicate_succ, List.replicate_zero, seqOf_tup, seqOf_lst, seqOf_scr, len_tup, len_lst, len_scr, lstOf_lst, mm_int, Nat.zero_add, Nat.reduceAdd, Nat.reduceSub, Int.reduceNeg, int_int, Int.reduceLT, Int.reduceLE, Nat.reduceLT, Int.reduceToNat, true_and, and_true, decide_true, decide_false, id_eq, outS_go, outS_ret, bl_ne1, bl_ne2, noExn_ok, Bool.true_and, Bool.and_true, Bool.false_and, Bool.and_false, Bool.true_or, Bool.or_true, Bool.false_or, Bool.or_false, v_var, t_var, i_var, v_int, t_int, i_int, v_bl, t_bl, i_bl, v_non, t_non, i_non, v_str, t_str, i_str, v_glob, t_glob, i_glob, v_tup, t_tup, i_tup, v_lst, t_lst, i_lst, v_bin, t_bin, i_bin, v_neg, t_neg, i_neg, v_not, t_not, v_cmp, t_cmp, i_cmp, v_chain, t_chain, i_chain, v_bo, t_bo, v_ifx, i_ifx, v_call, t_call, i_call, v_isi, t_isi, i_isi, v_isi2, t_isi2, i_isi2, v_f1, t_f1, i_f1, v_mm, t_mm, i_mm, v_g1, t_g1, i_g1, v_sub, t_sub, i_sub, v_slc, t_slc, i_slc, v_no, t_no, i_rng, v_comp, t_comp, i_comp, v_frz, i_frz, v_app, es_nil, es_cons, bo_1, bo_2, bt_1, bt_2, kVar_, kGl_, kTr_, kTr2_, kI1_t, kI1_l, kI1_s, kTup_, kLst_, kBin_, kBin2_, kNeg_, kNot_, kNotT_, kB_, kVl_, kCmp_, kCmp2_, kCh_, kCh2_, kCh2b_, kCh3_, kIfx_, kCall_, kCal_, kIsi_, kIsi2_, kF1_, kMm_, kMm2_, kG1_, kSub_, kSub2_, kSl_, kSl2_, kSl2b_, kSl3_, kSl3b_, kRng_, kRng2_, kComp_, kFrz_, kApp_, kApp2_, kEs_, kEs2_, kBo_, kBoT_, x_asg, x_sto, x_expr, x_ite, x_for, x_while, x_ret, x_retn, x_pass, x_brk, x_cnt, xs_nil, xs_cons, kAsg_, kExp_, kIte_, kFor_, kRet_, kSto_, kSto2_, kSto3_, kSto4_, runB_, kRun_n, kRun_r, kRun_e, newL_f _ z4, newT_f _ z4, g1V]
    · cases hf
  · cases hf
end
section
variable {st : Store}
theorem eqF_int (i j : Int) : eqF (.int i) (.int j) = decide (i = j) := rfl
theorem any_int (ns : List Int) (i : Int) : (vInts ns).any (fun z => eqF z (.int i)) = ns.contains i := by
  unfold vInts
  induction ns with
  | nil => rfl
  | cons n ns ih =>
    rw [List.map_cons, List.any_cons, ih, List.contains_cons, eqF_int]
    congr 1
    by_cases h : n = i
    · subst h; simp
    · have h' : ¬ i = n := fun e => h e.symm
      simp [h, h']
theorem flat_vInts (ns : List Int) : (vInts ns).all flat = true := by unfold vInts; simp [flat]
theorem in_ints {v : Val} {ns : List Int} (h : seqC v = some (vInts ns)) (i : Int) : cmpV .in_ (.int i) v st = .ok (ns.contains i) := by
  obtain ⟨k, hk⟩ := seqOfC (st := st) h
  show (match seqOf st v with | some (_, xs) => if flat (.int i) && xs.all flat then R.ok (xs.any fun z => eqF z (.int i)) else .stuck | none => .stuck) = _
  rw [hk]
  simp only [flat_vInts, any_int, flat, Bool.true_and, if_true]
theorem notin_ints {v : Val} {ns : List Int} (h : seqC v = some (vInts ns)) (i : Int) : cmpV .notin (.int i) v st = .ok (!ns.contains i) := by
  obtain ⟨k, hk⟩ := seqOfC (st := st) h
  show (match seqOf st v with | some (_, xs) => if flat (.int i) && xs.all flat then R.ok (!xs.any fun z => eqF z (.int i)) else .stuck | none => .stuck) = _
  rw [hk]
  simp only [flat_vInts, any_int, flat, Bool.true_and, if_true]
/-- a test of ints, of values -/
def pI (p : Int → Bool) : Val → Bool | .int i => p i | _ => false
theorem filter_vInts (p : Int → Bool) (ns : List Int) : (vInts ns).filter (pI p) = vInts (ns.filter p) := by
  unfold vInts
  induction ns with
  | nil => rfl
  | cons n ns ih =>
    rw [List.map_cons, List.filter_cons, List.filter_cons, ih]
    show (if p n = true then _ else _) = _
    cases p n <;> rfl
theorem mem_vInts {ns : List Int} {v : Val} (h : v ∈ vInts ns) : ∃ i, v = .int i := by
  unfold vInts at h
  obtain ⟨i, _, rfl⟩ := List.mem_map.mp h
  exact ⟨i, rfl⟩
theorem filter_len (p : Int → Bool) (ns : List Int) : (ns.filter p).length ≤ ns.length := List.length_filter_le p ns
theorem comp_minus {env : MP.Env} {x : Nat} {cc : E} {p q : List Int} (hx : x < env.length)
    (hcc : ∀ i : Int, (ev Φ G0 cc).t (env.set x (some (.int i))) st = .ok (!q.contains i, st)) :
    compL (ev Φ G0 cc).t (ev Φ G0 (.var x)).v x (vInts p) env st = .ok (vInts (p.filter fun n => !q.contains n), st) := by
  rw [compL_pure (p := pI fun n => !q.contains n) (f := id), filter_vInts, List.map_id]
  · intro v hv
    obtain ⟨i, rfl⟩ := mem_vInts hv
    exact hcc i
  · intro v hv _
    rw [v_var, List.getElem?_set_self hx]; rfl
theorem comp_common {env : MP.Env} {x : Nat} {cc : E} {p q : List Int} (hx : x < env.length)
    (hcc : ∀ i : Int, (ev Φ G0 cc).t (env.set x (some (.int i))) st = .ok (q.contains i, st)) :
    compL (ev Φ G0 cc).t (ev Φ G0 (.var x)).v x (vInts p) env st = .ok (vInts (p.filter fun n => q.contains n), st) := by
  rw [compL_pure (p := pI fun n => q.contains n) (f := id), filter_vInts, List.map_id]
  · intro v hv
    obtain ⟨i, rfl⟩ := mem_vInts hv
    exact hcc i
  · intro v hv _
    rw [v_var, List.getElem?_set_self hx]; rfl
theorem r_minus : Real 2 3 b_minus f_minus := fun args st v hl hc hf => by
  obtain ⟨a, b, rfl⟩ := len2 hl
  simp only [f_minus] at hf
  split at hf
  · rename_i p q hp hq
    split at hf
    · rename_i hb
      cases hf
      have h1 := seqInts_of hp
      have h2 := seqInts_of hq
      refine real0 ?_ (closed_vInts 0 _)
      have z1 : (vInts p).length ≤ szMax := by rw [vInts_len]; exact small hb
      have z4 : (vInts (p.filter fun n => !q.contains n)).length ≤ szMax := by have := filter_len (fun n => !q.contains n) p; rw [vInts_len]; exact small (by omega)
      simp only [realM, List.map_cons, List.map_nil, List.length_cons, List.length_nil, List.cons_append, List.nil_append, List.getElem?_cons_zero, List.getElem?_cons_succ, List.set_cons_zero, List.set_cons_succ, MP.R.bind_ok, MP.R.bind_exn, MP.R.st_ok, MP.R.st_exn, RS.bind_next, RS.bind_ret, RS.bind_brk, RS.bind_cnt, RS.bind_exn, isTy, isL, if_true, if_false, Bool.false_eq_true, Bool.true_eq_false, Bool.not_false, Bool.not_true, reduceIte, cmp_lt, cmp_le, cmp_gt, cmp_ge, cmp_is, cmp_isnot, ite_andv, ite_orv, ite_andt, ite_ort, ite_andq, binV, truth_bl, List.replicate_succ, List.replicate_zero, seqOf_tup, seqOf_lst, seqOf_scr, len_tup, len_lst, len_scr, lstOf_lst, mm_int, Nat.zero_add, Nat.reduceAdd, Nat.reduceSub, Int.reduceNeg, int_int, Int.reduceLT, Int.reduceLE, Nat.reduceLT, Int.reduceToNat, true_and, and_true, decide_true, decide_false, id_eq, outS_go, outS_ret, bl_ne1, bl_ne2, noExn_ok, Bool.true_and, Bool.and_true, Bool.false_and, Bool.and_false, Bool.true_or, Bool.or_true, Bool.false_or, Bool.or_false, v_var, t_var, i_var, v_int, t_int, i_int, v_bl, t_bl, i_bl, v_non, t_non, i_non, v_str, t_str, i_str, v_glob, t_glob, i_glob, v_tup, t_tup, i_tup, v_lst, t_lst, i_lst, v_bin, t_bin, i_bin, v_neg, t_neg, i_neg, v_not, t_not, v_cmp, t_cmp, i_cmp, v_chain, t_chain, i_chain, v_bo, t_bo, v_ifx, i_ifx, v_call, t_call, i_call, v_isi, t_isi, i_isi, v_isi2, t_isi2, i_isi2, v_f1, t_f1, i_f1, v_mm, t_mm, i_mm, v_g1, t_g1, i_g1, v_sub, t_sub, i_sub, v_slc, t_slc, i_slc, v_no, t_no, i_rng, v_comp, t_comp, i_comp, v_frz, i_frz, v_app, es_nil, es_cons, bo_1, bo_2, bt_1, bt_2, kVar_, kGl_, kTr_, kTr2_, kI1_t, kI1_l, kI1_s, kTup_, kLst_, kBin_, kBin2_, kNeg_, kNot_, kNotT_, kB_, kVl_, kCmp_, kCmp2_, kCh_, kCh2_, kCh2b_, kCh3_, kIfx_, kCall_, kCal_, kIsi_, kIsi2_, kF1_, kMm_, kMm2_, kG1_, kSub_, kSub2_, kSl_, kSl2_, kSl2b_, kSl3_, kSl3b_, kRng_, kRng2_, kComp_, kFrz_, kApp_, kApp2_, kEs_, kEs2_, kBo_, kBoT_, x_asg, x_sto, x_expr, x_ite, x_for, x_while, x_ret, x_retn, x_pass, x_brk, x_cnt, xs_nil, xs_cons, kAsg_, kExp_, kIte_, kFor_, kRet_, kSto_, kSto2_, kSto3_, kSto4_, runB_, kRun_n, kRun_r, kRun_e, b_minus, seqC_i h1, z1]
      rw [comp_minus (x := 2) (q := q) (by simp) fun i => by simp only [realM, List.map_cons, List.map_nil, List.length_cons, List.length_nil, List.cons_append, List.nil_append, List.getElem?_cons_zero, List.getElem?_cons_succ, List.set_cons_zero, List.set_cons_succ, MP.R.bind_ok, MP.R.bind_exn, MP.R.st_ok, MP.R.st_exn, RS.bind_next, RS.bind_ret, RS.bind_brk, RS.bind_cnt, RS.bind_exn, isTy, isL, if_true, if_false, Bool.false_eq_true, Bool.true_eq_false, Bool.not_false, Bool.not_true, reduceIte, cmp_lt, cmp_le, cmp_gt, cmp_ge, cmp_is, cmp_isnot, ite_andv, ite_orv, ite_andt, ite_ort, ite_andq, binV, truth_bl, List.replicate_succ, List.replicate_zero, seqOf_tup, seqOf_lst, seqOf_scr, len_tup, len_lst, len_scr, lstOf_lst, mm_int, Nat.zero_add, Nat.reduceAdd, Nat.reduceSub, Int.reduceNeg, int_int, Int.reduceLT, Int.reduceLE, Nat.reduceLT, Int.reduceToNat, true_and, and_true, decide_true, decide_false, id_eq, outS_go, outS_ret, bl_ne1, bl_ne2, noExn_ok, Bool.true_and, Bool.and_true, Bool.false_and, Bool.and_false, Bool.true_or, Bool.or_true, Bool.false_or, Bool.or_false, v_var, t_var, i_var, v_int, t_int, i_int, v_bl, t_bl, i_bl, v_non, t_non, i_non, v_str, t_str, i_str, v_glob, t_glob, i_glob, v_tup, t_tup, i_tup, v_lst, t_lst, i_lst, v_bin, t_bin, i_bin, v_neg, t_neg, i_neg, v_not, t_not, v_cmp, t_cmp, i_cmp, v_chain, t_chain, i_chain, v_bo, t_bo, v_ifx, i_ifx, v_call, t_call, i_call, v_isi, t_isi, i_isi, v_isi2, t_isi2, i_isi2, v_f1, t_f1, i_f1, v_mm, t_mm, i_mm, v_g1, t_g1, i_g1, v_sub, t_sub, i_sub, v_slc, t_slc, i_slc, v_no, t_no, i_rng, v_comp, t_comp, i_comp, v_frz, i_frz, v_app, es_nil, es_cons, bo_1, bo_2, bt_1, bt_2, kVar_, kGl_, kTr_, kTr2_, kI1_t, kI1_l, kI1_s, kTup_, kLst_, kBin_, kBin2_, kNeg_, kNot_, kNotT_, kB_, kVl_, kCmp_, kCmp2_, kCh_, kCh2_, kCh2b_, kCh3_, kIfx_, kCall_, kCal_, kIsi_, kIsi2_, kF1_, kMm_, kMm2_, kG1_, kSub_, kSub2_, kSl_, kSl2_, kSl2b_, kSl3_, kSl3b_, kRng_, kRng2_, kComp_, kFrz_, kApp_, kApp2_, kEs_, kEs2_, kBo_, kBoT_, x_asg, x_sto, x_expr, x_ite, x_for, x_while, x_ret, x_retn, x_pass, x_brk, x_cnt, xs_nil, xs_cons, kAsg_, kExp_, kIte_, kFor_, kRet_, kSto_, kSto2_, kSto3_, kSto4_, runB_, kRun_n, kRun_r, kRun_e, b_minus_1, notin_ints h2]]
      simp only [realM, List.map_cons, List.map_nil, List.length_cons, List.length_nil, List.cons_append, List.nil_append, List.getElem?_cons_zero, List.getElem?_cons_succ, List.set_cons_zero, List.set_cons_succ, MP.R.bind_ok, MP.R.bind_exn, MP.R.st_ok, MP.R.st_exn, RS.bind_next, RS.bind_ret, RS.bind_brk, RS.bind_cnt, RS.bind_exn, isTy, isL, if_true, if_false, Bool.false_eq_true, Bool.true_eq_false, Bool.not_false, Bool.not_true, reduceIte, cmp_lt, cmp_le, cmp_gt, cmp_ge, cmp_is, cmp_isnot, ite_andv, ite_orv, ite_andt, ite_ort, ite_andq, binV, truth_bl, List.replicate_succ, List.replicate_zero, seqOf_tup, seqOf_lst, seqOf_scr, len_tup, len_lst, len_scr, lstOf_lst, mm_int, Nat.zero_add, Nat.reduceAdd, Nat.reduceSub, Int.reduceNeg, int_int, Int.reduceLT, Int.reduceLE, Nat.reduceLT, Int.reduceToNat, true_and, and_true, decide_true, decide_false, id_eq, outS_go, outS_ret, bl_ne1, bl_ne2, noExn_ok, Bool.true_and, Bool.and_true, Bool.false_and, Bool.and_false, Bool.true_or, Bool.or_true, Bool.false_or, Bool.or_false, v_var, t_var, i_var, v_int, t_int, i_int, v_bl, t_bl, i_bl, v_non, t_non, i_non, v_str, t_str, i_str, v_glob, t_glob, i_glob, v_tup, t_tup, i_tup, v_lst, t_lst, i_lst, v_bin, t_bin, i_bin, v_neg, t_neg, i_neg, v_not, t_not, v_cmp, t_cmp, i_cmp, v_chain, t_chain, i_chain, v_bo, t_bo, v_ifx, i_ifx, v_call, t_call, i_call, v_isi, t_isi, i_isi, v_isi2, t_isi2, i_isi2, v_f1, t_f1, i_f1, v_mm, t_mm, i_mm, v_g1, t_g1, i_g1, v_sub, t_sub, i_sub, v_slc, t_slc, i_slc, v_no, t_no, i_rng, v_comp, t_comp, i_comp, v_frz, i_frz, v_app, es_nil, es_cons, bo_1, bo_2, bt_1, bt_2, kVar_, kGl_, kTr_, kTr2_, kI1_t, kI1_l, kI1_s, kTup_, kLst_, kBin_, kBin2_, kNeg_, kNot_, kNotT_, kB_, kVl_, kCmp_, kCmp2_, kCh_, kCh2_, kCh2b_, kCh3_, kIfx_, kCall_, kCal_, kIsi_, kIsi2_, kF1_, kMm_, kMm2_, kG1_, kSub_, kSub2_, kSl_, kSl2_, kSl2b_, kSl3_, kSl3b_, kRng_, kRng2_, kComp_, kFrz_, kApp_, kApp2_, kEs_, kEs2_, kBo_, kBoT_, x_asg, x_sto, x_expr, x_ite, x_for, x_while, x_ret, x_retn, x_pass, x_brk, x_cnt, xs_nil, xs_cons, kAsg_, kExp_, kIte_, kFor_, kRet_, kSto_, kSto2_, kSto3_, kSto4_, runB_, kRun_n, kRun_r, kRun_e, newL_f _ z4, g1V, newT_f _ z4]
    · cases hf
  · cases hf
theorem r_common : Real 2 3 b_common f_common := fun args st v hl hc hf => by
  obtain ⟨a, b, rfl⟩ := len2 hl
  simp only [f_common] at hf
  split at hf
  · rename_i p q hp hq
    split at hf
    · rename_i hb
      cases hf
      have h1 := seqInts_of hp
      have h2 := seqInts_of hq
      refine real0 ?_ (closed_vInts 0 _)
      have z1 : (vInts p).length ≤ szMax := by rw [vInts_len]; exact small hb
      have z4 : (vInts (p.filter fun n => q.contains n)).length ≤ szMax := by have := filter_len (fun n => q.contains n) p; rw [vInts_len]; exact small (by omega)
      simp only [realM, List.map_cons, List.map_nil, List.length_cons, List.length_nil, List.cons_append, List.nil_append, List.getElem?_cons_zero, List.getElem?_cons_succ, List.set_cons_zero, List.set_cons_succ, MP.R.bind_ok, MP.R.bind_exn, MP.R.st_ok, MP.R.st_exn, RS.bind_next, RS.bind_ret, RS.bind_brk, RS.bind_cnt, RS.bind_exn, isTy, isL, if_true, if_false, Bool.false_eq_true, Bool.true_eq_false, Bool.not_false, Bool.not_true, reduceIte, cmp_lt, cmp_le, cmp_gt, cmp_ge, cmp_is, cmp_isnot, ite_andv, ite_orv, ite_andt, ite_ort, ite_andq, binV, truth_bl, List.replicate_succ, List.replicate_zero, seqOf_tup, seqOf_lst, seqOf_scr, len_tup, len_lst, len_scr, lstOf_lst, mm_int, Nat.zero_add, Nat.reduceAdd, Nat.reduceSub, Int.reduceNeg, int_int, Int.reduceLT, Int.reduceLE, Nat.reduceLT, Int.reduceToNat, true_and, and_true, decide_true, decide_false, id_eq, outS_go, outS_ret, bl_ne1, bl_ne2, noExn_ok, Bool.true_and, Bool.and_true, Bool.false_and, Bool.and_false, Bool.true_or, Bool.or_true, Bool.false_or, Bool.or_false, v_var, t_var, i_var, v_int, t_int, i_int, v_bl, t_bl, i_bl, v_non, t_non, i_non, v_str, t_str, i_str, v_glob, t_glob, i_glob, v_tup, t_tup, i_tup, v_lst, t_lst, i_lst, v_bin, t_bin, i_bin, v_neg, t_neg, i_neg, v_not, t_not, v_cmp, t_cmp, i_cmp, v_chain, t_chain, i_chain, v_bo, t_bo, v_ifx, i_ifx, v_call, t_call, i_call, v_isi, t_isi, i_isi, v_isi2, t_isi2, i_isi2, v_f1, t_f1, i_f1, v_mm, t_mm, i_mm, v_g1, t_g1, i_g1, v_sub, t_sub, i_sub, v_slc, t_slc, i_slc, v_no, t_no, i_rng, v_comp, t_comp, i_comp, v_frz, i_frz, v_app, es_nil, es_cons, bo_1, bo_2, bt_1, bt_2, kVar_, kGl_, kTr_, kTr2_, kI1_t, kI1_l, kI1_s, kTup_, kLst_, kBin_, kBin2_, kNeg_, kNot_, kNotT_, kB_, kVl_, kCmp_, kCmp2_, kCh_, kCh2_, kCh2b_, kCh3_, kIfx_, kCall_, kCal_, kIsi_, kIsi2_, kF1_, kMm_, kMm2_, kG1_, kSub_, kSub2_, kSl_, kSl2_, kSl2b_, kSl3_, kSl3b_, kRng_, kRng2_, kComp_, kFrz_, kApp_, kApp2_, kEs_, kEs2_, kBo_, kBoT_, x_asg, x_sto, x_expr, x_ite, x_for, x_while, x_ret, x_retn, x_pass, x_brk, x_cnt, xs_nil, xs_cons, kAsg_, kExp_, kIte_, kFor_, kRet_, kSto_, kSto2_, kSto3_, kSto4_, runB_, kRun_n, kRun_r, kRun_e, b_common, seqC_i h1, z1]
      rw [comp_common (x := 2) (q := q) (by simp) fun i => by simp only [realM, List.map_cons, List.map_nil, List.length_cons, List.length_nil, List.cons_append, List.nil_append, List.getElem?_cons_zero, List.getElem?_cons_succ, List.set_cons_zero, List.set_cons_succ, MP.R.bind_ok, MP.R.bind_exn, MP.R.st_ok, MP.R.st_exn, RS.bind_next, RS.bind_ret, RS.bind_brk, RS.bind_cnt, RS.bind_exn, isTy, isL, if_true, if_false, Bool.false_eq_true, Bool.true_eq_false, Bool.not_false, Bool.not_true, reduceIte, cmp_lt, cmp_le, cmp_gt, cmp_ge, cmp_is, cmp_isnot, ite_andv, ite_orv, ite_andt, ite_ort, ite_andq, binV, truth_bl, List.replicate_succ, List.replicate_zero, seqOf_tup, seqOf_lst, seqOf_scr, len_tup, len_lst, len_scr, lstOf_lst, mm_int, Nat.zero_add, Nat.reduceAdd, Nat.reduceSub, Int.reduceNeg, int_int, Int.reduceLT, Int.reduceLE, Nat.reduceLT, Int.reduceToNat, true_and, and_true, decide_true, decide_false, id_eq, outS_go, outS_ret, bl_ne1, bl_ne2, noExn_ok, Bool.true_and, Bool.and_true, Bool.false_and, Bool.and_false, Bool.true_or, Bool.or_true, Bool.false_or, Bool.or_false, v_var, t_var, i_var, v_int, t_int, i_int, v_bl, t_bl, i_bl, v_non, t_non, i_non, v_str, t_str, i_str, v_glob, t_glob, i_glob, v_tup, t_tup, i_tup, v_lst, t_lst, i_lst, v_bin, t_bin, i_bin, v_neg, t_neg, i_neg, v_not, t_not, v_cmp, t_cmp, i_cmp, v_chain, t_chain, i_chain, v_bo, t_bo, v_ifx, i_ifx, v_call, t_call, i_call, v_isi, t_isi, i_isi, v_isi2, t_isi2, i_isi2, v_f1, t_f1, i_f1, v_mm, t_mm, i_mm, v_g1, t_g1, i_g1, v_sub, t_sub, i_sub, v_slc, t_slc, i_slc, v_no, t_no, i_rng, v_comp, t_comp, i_comp, v_frz, i_frz, v_app, es_nil, es_cons, bo_1, bo_2, bt_1, bt_2, kVar_, kGl_, kTr_, kTr2_, kI1_t, kI1_l, kI1_s, kTup_, kLst_, kBin_, kBin2_, kNeg_, kNot_, kNotT_, kB_, kVl_, kCmp_, kCmp2_, kCh_, kCh2_, kCh2b_, kCh3_, kIfx_, kCall_, kCal_, kIsi_, kIsi2_, kF1_, kMm_, kMm2_, kG1_, kSub_, kSub2_, kSl_, kSl2_, kSl2b_, kSl3_, kSl3b_, kRng_, kRng2_, kComp_, kFrz_, kApp_, kApp2_, kEs_, kEs2_, kBo_, kBoT_, x_asg, x_sto, x_expr, x_ite, x_for, x_while, x_ret, x_retn, x_pass, x_brk, x_cnt, xs_nil, xs_cons, kAsg_, kExp_, kIte_, kFor_, kRet_, kSto_, kSto2_, kSto3_, kSto4_, runB_, kRun_n, kRun_r, kRun_e, b_common_1, in_ints h2]]
      simp only [realM, List.map_cons, List.map_nil, List.length_cons, List.length_nil, List.cons_append, List.nil_append, List.getElem?_cons_zero, List.getElem?_cons_succ, List.set_cons_zero, List.set_cons_succ, MP.R.bind_ok, MP.R.bind_exn, MP.R.st_ok, MP.R.st_exn, RS.bind_next, RS.bind_ret, RS.bind_brk, RS.bind_cnt, RS.bind_exn, isTy, isL, if_true, if_false, Bool.false_eq_true, Bool.true_eq_false, Bool.not_false, Bool.not_true, reduceIte, cmp_lt, cmp_le, cmp_gt, cmp_ge, cmp_is, cmp_isnot, ite_andv, ite_orv, ite_andt, ite_ort, ite_andq, binV, truth_bl, List.replicate_succ, List.replicate_zero, seqOf_tup, seqOf_lst, seqOf_scr, len_tup, len_lst, len_scr, lstOf_lst, mm_int, Nat.zero_add, Nat.reduceAdd, Nat.reduceSub, Int.reduceNeg, int_int, Int.reduceLT, Int.reduceLE, Nat.reduceLT, Int.reduceToNat, true_and, and_true, decide_true, decide_false, id_eq, outS_go, outS_ret, bl_ne1, bl_ne2, noExn_ok, Bool.true_and, Bool.and_true, Bool.false_and, Bool.and_false, Bool.true_or, Bool.or_true, Bool.false_or, Bool.or_false, v_var, t_var, i_var, v_int, t_int, i_int, v_bl, t_bl, i_bl, v_non, t_non, i_non, v_str, t_str, i_str, v_glob, t_glob, i_glob, v_tup, t_tup, i_tup, v_lst, t_lst, i_lst, v_bin, t_bin, i_bin, v_neg, t_neg, i_neg, v_not, t_not, v_cmp, t_cmp, i_cmp, v_chain, t_chain, i_chain, v_bo, t_bo, v_ifx, i_ifx, v_call, t_call, i_call, v_isi, t_isi, i_isi, v_isi2, t_isi2, i_isi2, v_f1, t_f1, i_f1, v_mm, t_mm, i_mm, v_g1, t_g1, i_g1, v_sub, t_sub, i_sub, v_slc, t_slc, i_slc, v_no, t_no, i_rng, v_comp, t_comp, i_comp, v_frz, i_frz, v_app, es_nil, es_cons, bo_1, bo_2, bt_1, bt_2, kVar_, kGl_, kTr_, kTr2_, kI1_t, kI1_l, kI1_s, kTup_, kLst_, kBin_, kBin2_, kNeg_, kNot_, kNotT_, kB_, kVl_, kCmp_, kCmp2_, kCh_, kCh2_, kCh2b_, kCh3_, kIfx_, kCall_, kCal_, kIsi_, kIsi2_, kF1_, kMm_, kMm2_, kG1_, kSub_, kSub2_, kSl_, kSl2_, kSl2b_, kSl3_, kSl3b_, kRng_, kRng2_, kComp_, kFrz_, kApp_, kApp2_, kEs_, kEs2_, kBo_, kBoT_, x_asg, x_sto, x_expr, x_ite, x_for, x_while, x_ret, x_retn, x_pass, x_brk, x_cnt, xs_nil, xs_cons, kAsg_, kExp_, kIte_, kFor_, kRet_, kSto_, kSto2_, kSto3_, kSto4_, runB_, kRun_n, kRun_r, kRun_e, newL_f _ z4, g1V, newT_f _ z4]
    · cases hf
  · cases hf
end
section
variable {st : Store}
theorem cl2 {a b : Val} (h : closedL 0 [a, b] = true) : closed 0 a = true ∧ closed 0 b = true := by simpa [closedL] using h
structure B1 where
  t : Int
  c : Option Val
  row : List Int
def step1 (ns : List Int) (kind : Int) (b : B1) (k : Nat) : B1 :=
  let c := cell ns (3 + k)
  let t' := b.t + c % 4 + step4 kind
  ⟨t', some (.int c), b.row ++ [if kind < 2 then c else t']⟩
theorem fold1 (ns : List Int) (kind : Int) : ∀ (n k : Nat) (b : B1), ∃ b', foldO (fun b k => Out.go (step1 ns kind b k)) b (List.range' k n) = .go b' ∧ b'.row = b.row ++ firstRow ns kind n k b.t
  | 0, k, b => ⟨b, rfl, by simp [firstRow]⟩
  | n + 1, k, b => by
    obtain ⟨b', h1, h2⟩ := fold1 ns kind n (k + 1) (step1 ns kind b k)
    refine ⟨b', ?_, ?_⟩
    · rw [List.range'_succ, foldO_go rfl]; exact h1
    · rw [h2]
      simp only [step1, firstRow, List.append_assoc, List.cons_append, List.nil_append]
theorem firstRow_len (ns : List Int) (kind : Int) : ∀ (n k : Nat) (t : Int), (firstRow ns kind n k t).length = n
  | 0, _, _ => rfl
  | n + 1, k, t => by simp only [firstRow, List.length_cons, firstRow_len ns kind n]
theorem kind_cases {k : Int} (h0 : 0 ≤ k) (h1 : k < 4) : k = 0 ∨ k = 1 ∨ k = 2 ∨ k = 3 := by omega
theorem step4_ix {kind : Int} (h0 : 0 ≤ kind) (h1 : kind < 4) : ixV st (.lst [.int 0, .int 0, .int (-1), .int 1]) (.int kind) = .ok (.int (step4 kind)) := by
  rcases kind_cases h0 h1 with rfl | rfl | rfl | rfl <;> rfl
theorem r_law_first : Real 1 6 b_law_first f_law_first := fun args st v hl hc hf => by
  obtain ⟨a, rfl⟩ := len1 hl
  cases a <;> first | (cases hf; done) | skip
  rename_i xs
  simp only [f_law_first] at hf
  cases ha : asInts xs with
  | none => rw [ha] at hf; cases hf
  | some ns =>
    rw [ha] at hf
    cases hf
    have e1 : xs = vInts ns := asInts_eq ha
    subst e1
    show ∃ g, realM Φ (fun _ => none) 1 6 b_law_first [Val.scr (vInts ns)] st = .ok (.lst (vInts (firstL ns)), st ++ g) ∧ closed 0 (.lst (vInts (firstL ns))) = true
    have hk0 : 0 ≤ kindOf ns := by unfold kindOf; omega
    have hk4 : kindOf ns < 4 := by unfold kindOf; omega
    have hn0 : 0 ≤ cell ns 0 % 21 := by omega
    have hn : (cell ns 0 % 21).toNat ≤ 20 := by omega
    have hr : rngOk (cell ns 0 % 21) = true := by unfold rngOk; exact decide_eq_true (by omega)
    generalize hnn : (cell ns 0 % 21).toNat = n at hn
    have zr : ([] : List Val).length ≤ szMax := Nat.zero_le _
    have ho := forL_foldP (g := fun (k : Nat) => Val.int k) (i := 4) (body := evSs Φ G0 b_law_first_1)
      (fun (b : B1) o => [some (.scr (vInts ns)), some (.int (kindOf ns)), some (.int b.t), some (.loc st.length), o, b.c]) (fun b => st ++ [.lst (vInts b.row)]) (fun b k => .go (step1 ns (kindOf ns) b k))
      (fun b ys => b.row.length + ys.length ≤ 63) (fun _ _ _ => rfl) (List.range' 0 n)
      (fun b k ys hp => by
        refine ⟨?_, fun b' e => ?_⟩
        · have e3 : (0 : Int) ≤ 3 + (k : Int) := by omega
          have e4 : (3 + (k : Int)).toNat = 3 + k := by omega
          have hsz : (vInts b.row).length < szMax := by rw [vInts_len]; simp at hp; unfold szMax; omega
          by_cases h2 : kindOf ns < 2
          · simp only [realM, List.map_cons, List.map_nil, List.length_cons, List.length_nil, List.cons_append, List.nil_append, List.getElem?_cons_zero, List.getElem?_cons_succ, List.set_cons_zero, List.set_cons_succ, MP.R.bind_ok, MP.R.bind_exn, MP.R.st_ok, MP.R.st_exn, RS.bind_next, RS.bind_ret, RS.bind_brk, RS.bind_cnt, RS.bind_exn, isTy, isL, if_true, if_false, Bool.false_eq_true, Bool.true_eq_false, Bool.not_false, Bool.not_true, reduceIte, cmp_lt, cmp_le, cmp_gt, cmp_ge, cmp_is, cmp_isnot, ite_andv, ite_orv, ite_andt, ite_ort, ite_andq, binV, truth_bl, List.replicate_succ, List.replicate_zero, seqOf_tup, seqOf_lst, seqOf_scr, len_tup, len_lst, len_scr, lstOf_lst, mm_int, Nat.zero_add, Nat.reduceAdd, Nat.reduceSub, Int.reduceNeg, int_int, Int.reduceLT, Int.reduceLE, Nat.reduceLT, Int.reduceToNat, true_and, and_true, decide_true, decide_false, id_eq, outS_go, outS_ret, bl_ne1, bl_ne2, noExn_ok, Bool.true_and, Bool.and_true, Bool.false_and, Bool.and_false, Bool.true_or, Bool.or_true, Bool.false_or, Bool.or_false, v_var, t_var, i_var, v_int, t_int, i_int, v_bl, t_bl, i_bl, v_non, t_non, i_non, v_str, t_str, i_str, v_glob, t_glob, i_glob, v_tup, t_tup, i_tup, v_lst, t_lst, i_lst, v_bin, t_bin, i_bin, v_neg, t_neg, i_neg, v_not, t_not, v_cmp, t_cmp, i_cmp, v_chain, t_chain, i_chain, v_bo, t_bo, v_ifx, i_ifx, v_call, t_call, i_call, v_isi, t_isi, i_isi, v_isi2, t_isi2, i_isi2, v_f1, t_f1, i_f1, v_mm, t_mm, i_mm, v_g1, t_g1, i_g1, v_sub, t_sub, i_sub, v_slc, t_slc, i_slc, v_no, t_no, i_rng, v_comp, t_comp, i_comp, v_frz, i_frz, v_app, es_nil, es_cons, bo_1, bo_2, bt_1, bt_2, kVar_, kGl_, kTr_, kTr2_, kI1_t, kI1_l, kI1_s, kTup_, kLst_, kBin_, kBin2_, kNeg_, kNot_, kNotT_, kB_, kVl_, kCmp_, kCmp2_, kCh_, kCh2_, kCh2b_, kCh3_, kIfx_, kCall_, kCal_, kIsi_, kIsi2_, kF1_, kMm_, kMm2_, kG1_, kSub_, kSub2_, kSl_, kSl2_, kSl2b_, kSl3_, kSl3b_, kRng_, kRng2_, kComp_, kFrz_, kApp_, kApp2_, kEs_, kEs2_, kBo_, kBoT_, x_asg, x_sto, x_expr, x_ite, x_for, x_while, x_ret, x_retn, x_pass, x_brk, x_cnt, xs_nil, xs_cons, kAsg_, kExp_, kIte_, kFor_, kRet_, kSto_, kSto2_, kSto3_, kSto4_, runB_, kRun_n, kRun_r, kRun_e, b_law_first_1, dom_law_cell, c_cell e3, e4, newL_f _ (show ([Val.int 0, .int 0, .int (-1), .int 1] : List Val).length ≤ szMax by decide), step4_ix hk0 hk4, decide_eq_true h2, cell_is, cell_app _ _ hsz, step1, if_pos h2]
            rw [show ∀ (l : List Int) (i : Int), vInts l ++ [.int i] = vInts (l ++ [i]) from fun l i => vInts_app l [i]]
          · simp only [realM, List.map_cons, List.map_nil, List.length_cons, List.length_nil, List.cons_append, List.nil_append, List.getElem?_cons_zero, List.getElem?_cons_succ, List.set_cons_zero, List.set_cons_succ, MP.R.bind_ok, MP.R.bind_exn, MP.R.st_ok, MP.R.st_exn, RS.bind_next, RS.bind_ret, RS.bind_brk, RS.bind_cnt, RS.bind_exn, isTy, isL, if_true, if_false, Bool.false_eq_true, Bool.true_eq_false, Bool.not_false, Bool.not_true, reduceIte, cmp_lt, cmp_le, cmp_gt, cmp_ge, cmp_is, cmp_isnot, ite_andv, ite_orv, ite_andt, ite_ort, ite_andq, binV, truth_bl, List.replicate_succ, List.replicate_zero, seqOf_tup, seqOf_lst, seqOf_scr, len_tup, len_lst, len_scr, lstOf_lst, mm_int, Nat.zero_add, Nat.reduceAdd, Nat.reduceSub, Int.reduceNeg, int_int, Int.reduceLT, Int.reduceLE, Nat.reduceLT, Int.reduceToNat, true_and, and_true, decide_true, decide_false, id_eq, outS_go, outS_ret, bl_ne1, bl_ne2, noExn_ok, Bool.true_and, Bool.and_true, Bool.false_and, Bool.and_false, Bool.true_or, Bool.or_true, Bool.false_or, Bool.or_false, v_var, t_var, i_var, v_int, t_int, i_int, v_bl, t_bl, i_bl, v_non, t_non, i_non, v_str, t_str, i_str, v_glob, t_glob, i_glob, v_tup, t_tup, i_tup, v_lst, t_lst, i_lst, v_bin, t_bin, i_bin, v_neg, t_neg, i_neg, v_not, t_not, v_cmp, t_cmp, i_cmp, v_chain, t_chain, i_chain, v_bo, t_bo, v_ifx, i_ifx, v_call, t_call, i_call, v_isi, t_isi, i_isi, v_isi2, t_isi2, i_isi2, v_f1, t_f1, i_f1, v_mm, t_mm, i_mm, v_g1, t_g1, i_g1, v_sub, t_sub, i_sub, v_slc, t_slc, i_slc, v_no, t_no, i_rng, v_comp, t_comp, i_comp, v_frz, i_frz, v_app, es_nil, es_cons, bo_1, bo_2, bt_1, bt_2, kVar_, kGl_, kTr_, kTr2_, kI1_t, kI1_l, kI1_s, kTup_, kLst_, kBin_, kBin2_, kNeg_, kNot_, kNotT_, kB_, kVl_, kCmp_, kCmp2_, kCh_, kCh2_, kCh2b_, kCh3_, kIfx_, kCall_, kCal_, kIsi_, kIsi2_, kF1_, kMm_, kMm2_, kG1_, kSub_, kSub2_, kSl_, kSl2_, kSl2b_, kSl3_, kSl3b_, kRng_, kRng2_, kComp_, kFrz_, kApp_, kApp2_, kEs_, kEs2_, kBo_, kBoT_, x_asg, x_sto, x_expr, x_ite, x_for, x_while, x_ret, x_retn, x_pass, x_brk, x_cnt, xs_nil, xs_cons, kAsg_, kExp_, kIte_, kFor_, kRet_, kSto_, kSto2_, kSto3_, kSto4_, runB_, kRun_n, kRun_r, kRun_e, b_law_first_1, dom_law_cell, c_cell e3, e4, newL_f _ (show ([Val.int 0, .int 0, .int (-1), .int 1] : List Val).length ≤ szMax by decide), step4_ix hk0 hk4, decide_eq_false h2, cell_is, cell_app _ _ hsz, step1, if_neg h2]
            rw [show ∀ (l : List Int) (i : Int), vInts l ++ [.int i] = vInts (l ++ [i]) from fun l i => vInts_app l [i]]
        · cases e
          simp [step1] at hp ⊢; omega) ⟨cell ns 2, none, []⟩ none (by simp; omega)
    obtain ⟨b', h1, h2⟩ := fold1 ns (kindOf ns) n 0 ⟨cell ns 2, none, []⟩
    rw [h1] at ho
    have hrow : b'.row = firstRow ns (kindOf ns) n 0 (cell ns 2) := by rw [h2]; rfl
    have hlen := firstRow_len ns (kindOf ns) n 0 (cell ns 2)
    rw [← hrow] at hlen
    have hfl : firstL ns = if kindOf ns = 1 then sortS b'.row else b'.row := by unfold firstL; rw [hnn, hrow]
    have hkk : cell ns 1 % 4 = kindOf ns := rfl
    dsimp only at ho
    by_cases hk1 : kindOf ns = 1
    · rw [hfl, if_pos hk1]
      refine ⟨[.lst (vInts b'.row)], ?_, closed_vInts 0 _⟩
      rw [gO]
      have hz : (vInts (sortS b'.row)).length ≤ szMax := by have := sortS_len b'.row; rw [vInts_len]; exact small (by omega)
      have hz2 : b'.row.length < 64 := by omega
      simp only [realM, List.map_cons, List.map_nil, List.length_cons, List.length_nil, List.cons_append, List.nil_append, List.getElem?_cons_zero, List.getElem?_cons_succ, List.set_cons_zero, List.set_cons_succ, MP.R.bind_ok, MP.R.bind_exn, MP.R.st_ok, MP.R.st_exn, RS.bind_next, RS.bind_ret, RS.bind_brk, RS.bind_cnt, RS.bind_exn, isTy, isL, if_true, if_false, Bool.false_eq_true, Bool.true_eq_false, Bool.not_false, Bool.not_true, reduceIte, cmp_lt, cmp_le, cmp_gt, cmp_ge, cmp_is, cmp_isnot, ite_andv, ite_orv, ite_andt, ite_ort, ite_andq, binV, truth_bl, List.replicate_succ, List.replicate_zero, seqOf_tup, seqOf_lst, seqOf_scr, len_tup, len_lst, len_scr, lstOf_lst, mm_int, Nat.zero_add, Nat.reduceAdd, Nat.reduceSub, Int.reduceNeg, int_int, Int.reduceLT, Int.reduceLE, Nat.reduceLT, Int.reduceToNat, true_and, and_true, decide_true, decide_false, id_eq, outS_go, outS_ret, bl_ne1, bl_ne2, noExn_ok, Bool.true_and, Bool.and_true, Bool.false_and, Bool.and_false, Bool.true_or, Bool.or_true, Bool.false_or, Bool.or_false, v_var, t_var, i_var, v_int, t_int, i_int, v_bl, t_bl, i_bl, v_non, t_non, i_non, v_str, t_str, i_str, v_glob, t_glob, i_glob, v_tup, t_tup, i_tup, v_lst, t_lst, i_lst, v_bin, t_bin, i_bin, v_neg, t_neg, i_neg, v_not, t_not, v_cmp, t_cmp, i_cmp, v_chain, t_chain, i_chain, v_bo, t_bo, v_ifx, i_ifx, v_call, t_call, i_call, v_isi, t_isi, i_isi, v_isi2, t_isi2, i_isi2, v_f1, t_f1, i_f1, v_mm, t_mm, i_mm, v_g1, t_g1, i_g1, v_sub, t_sub, i_sub, v_slc, t_slc, i_slc, v_no, t_no, i_rng, v_comp, t_comp, i_comp, v_frz, i_frz, v_app, es_nil, es_cons, bo_1, bo_2, bt_1, bt_2, kVar_, kGl_, kTr_, kTr2_, kI1_t, kI1_l, kI1_s, kTup_, kLst_, kBin_, kBin2_, kNeg_, kNot_, kNotT_, kB_, kVl_, kCmp_, kCmp2_, kCh_, kCh2_, kCh2b_, kCh3_, kIfx_, kCall_, kCal_, kIsi_, kIsi2_, kF1_, kMm_, kMm2_, kG1_, kSub_, kSub2_, kSl_, kSl2_, kSl2b_, kSl3_, kSl3b_, kRng_, kRng2_, kComp_, kFrz_, kApp_, kApp2_, kEs_, kEs2_, kBo_, kBoT_, x_asg, x_sto, x_expr, x_ite, x_for, x_while, x_ret, x_retn, x_pass, x_brk, x_cnt, xs_nil, xs_cons, kAsg_, kExp_, kIte_, kFor_, kRet_, kSto_, kSto2_, kSto3_, kSto4_, runB_, kRun_n, kRun_r, kRun_e, b_law_first, dom_law_cell, c_cell (show (0 : Int) ≤ 1 by decide), c_cell (show (0 : Int) ≤ 2 by decide), c_cell (show (0 : Int) ≤ 0 by decide), newL_t _ zr, rngV, hkk, hr, hnn, rangeL_r, veq_int]
      rw [show ([] : List Val) = vInts [] from rfl, ho]
      simp only [realM, List.map_cons, List.map_nil, List.length_cons, List.length_nil, List.cons_append, List.nil_append, List.getElem?_cons_zero, List.getElem?_cons_succ, List.set_cons_zero, List.set_cons_succ, MP.R.bind_ok, MP.R.bind_exn, MP.R.st_ok, MP.R.st_exn, RS.bind_next, RS.bind_ret, RS.bind_brk, RS.bind_cnt, RS.bind_exn, isTy, isL, if_true, if_false, Bool.false_eq_true, Bool.true_eq_false, Bool.not_false, Bool.not_true, reduceIte, cmp_lt, cmp_le, cmp_gt, cmp_ge, cmp_is, cmp_isnot, ite_andv, ite_orv, ite_andt, ite_ort, ite_andq, binV, truth_bl, List.replicate_succ, List.replicate_zero, seqOf_tup, seqOf_lst, seqOf_scr, len_tup, len_lst, len_scr, lstOf_lst, mm_int, Nat.zero_add, Nat.reduceAdd, Nat.reduceSub, Int.reduceNeg, int_int, Int.reduceLT, Int.reduceLE, Nat.reduceLT, Int.reduceToNat, true_and, and_true, decide_true, decide_false, id_eq, outS_go, outS_ret, bl_ne1, bl_ne2, noExn_ok, Bool.true_and, Bool.and_true, Bool.false_and, Bool.and_false, Bool.true_or, Bool.or_true, Bool.false_or, Bool.or_false, v_var, t_var, i_var, v_int, t_int, i_int, v_bl, t_bl, i_bl, v_non, t_non, i_non, v_str, t_str, i_str, v_glob, t_glob, i_glob, v_tup, t_tup, i_tup, v_lst, t_lst, i_lst, v_bin, t_bin, i_bin, v_neg, t_neg, i_neg, v_not, t_not, v_cmp, t_cmp, i_cmp, v_chain, t_chain, i_chain, v_bo, t_bo, v_ifx, i_ifx, v_call, t_call, i_call, v_isi, t_isi, i_isi, v_isi2, t_isi2, i_isi2, v_f1, t_f1, i_f1, v_mm, t_mm, i_mm, v_g1, t_g1, i_g1, v_sub, t_sub, i_sub, v_slc, t_slc, i_slc, v_no, t_no, i_rng, v_comp, t_comp, i_comp, v_frz, i_frz, v_app, es_nil, es_cons, bo_1, bo_2, bt_1, bt_2, kVar_, kGl_, kTr_, kTr2_, kI1_t, kI1_l, kI1_s, kTup_, kLst_, kBin_, kBin2_, kNeg_, kNot_, kNotT_, kB_, kVl_, kCmp_, kCmp2_, kCh_, kCh2_, kCh2b_, kCh3_, kIfx_, kCall_, kCal_, kIsi_, kIsi2_, kF1_, kMm_, kMm2_, kG1_, kSub_, kSub2_, kSl_, kSl2_, kSl2b_, kSl3_, kSl3b_, kRng_, kRng2_, kComp_, kFrz_, kApp_, kApp2_, kEs_, kEs2_, kBo_, kBoT_, x_asg, x_sto, x_expr, x_ite, x_for, x_while, x_ret, x_retn, x_pass, x_brk, x_cnt, xs_nil, xs_cons, kAsg_, kExp_, kIte_, kFor_, kRet_, kSto_, kSto2_, kSto3_, kSto4_, runB_, kRun_n, kRun_r, kRun_e, hk1, veq_int, decide_true, g1V, cell_seq, asInts_vInts, hz2]
      rw [show List.map Val.int (sortS b'.row) = vInts (sortS b'.row) from rfl]
      simp only [realM, List.map_cons, List.map_nil, List.length_cons, List.length_nil, List.cons_append, List.nil_append, List.getElem?_cons_zero, List.getElem?_cons_succ, List.set_cons_zero, List.set_cons_succ, MP.R.bind_ok, MP.R.bind_exn, MP.R.st_ok, MP.R.st_exn, RS.bind_next, RS.bind_ret, RS.bind_brk, RS.bind_cnt, RS.bind_exn, isTy, isL, if_true, if_false, Bool.false_eq_true, Bool.true_eq_false, Bool.not_false, Bool.not_true, reduceIte, cmp_lt, cmp_le, cmp_gt, cmp_ge, cmp_is, cmp_isnot, ite_andv, ite_orv, ite_andt, ite_ort, ite_andq, binV, truth_bl, List.replicate_succ, List.replicate_zero, seqOf_tup, seqOf_lst, seqOf_scr, len_tup, len_lst, len_scr, lstOf_lst, mm_int, Nat.zero_add, Nat.reduceAdd, Nat.reduceSub, Int.reduceNeg, int_int, Int.reduceLT, Int.reduceLE, Nat.reduceLT, Int.reduceToNat, true_and, and_true, decide_true, decide_false, id_eq, outS_go, outS_ret, bl_ne1, bl_ne2, noExn_ok, Bool.true_and, Bool.and_true, Bool.false_and, Bool.and_false, Bool.true_or, Bool.or_true, Bool.false_or, Bool.or_false, v_var, t_var, i_var, v_int, t_int, i_int, v_bl, t_bl, i_bl, v_non, t_non, i_non, v_str, t_str, i_str, v_glob, t_glob, i_glob, v_tup, t_tup, i_tup, v_lst, t_lst, i_lst, v_bin, t_bin, i_bin, v_neg, t_neg, i_neg, v_not, t_not, v_cmp, t_cmp, i_cmp, v_chain, t_chain, i_chain, v_bo, t_bo, v_ifx, i_ifx, v_call, t_call, i_call, v_isi, t_isi, i_isi, v_isi2, t_isi2, i_isi2, v_f1, t_f1, i_f1, v_mm, t_mm, i_mm, v_g1, t_g1, i_g1, v_sub, t_sub, i_sub, v_slc, t_slc, i_slc, v_no, t_no, i_rng, v_comp, t_comp, i_comp, v_frz, i_frz, v_app, es_nil, es_cons, bo_1, bo_2, bt_1, bt_2, kVar_, kGl_, kTr_, kTr2_, kI1_t, kI1_l, kI1_s, kTup_, kLst_, kBin_, kBin2_, kNeg_, kNot_, kNotT_, kB_, kVl_, kCmp_, kCmp2_, kCh_, kCh2_, kCh2b_, kCh3_, kIfx_, kCall_, kCal_, kIsi_, kIsi2_, kF1_, kMm_, kMm2_, kG1_, kSub_, kSub2_, kSl_, kSl2_, kSl2b_, kSl3_, kSl3b_, kRng_, kRng2_, kComp_, kFrz_, kApp_, kApp2_, kEs_, kEs2_, kBo_, kBoT_, x_asg, x_sto, x_expr, x_ite, x_for, x_while, x_ret, x_retn, x_pass, x_brk, x_cnt, xs_nil, xs_cons, kAsg_, kExp_, kIte_, kFor_, kRet_, kSto_, kSto2_, kSto3_, kSto4_, runB_, kRun_n, kRun_r, kRun_e, newL_f _ hz]
    · rw [hfl, if_neg hk1]
      refine ⟨[.frz (vInts b'.row)], ?_, closed_vInts 0 _⟩
      rw [gO]
      simp only [realM, List.map_cons, List.map_nil, List.length_cons, List.length_nil, List.cons_append, List.nil_append, List.getElem?_cons_zero, List.getElem?_cons_succ, List.set_cons_zero, List.set_cons_succ, MP.R.bind_ok, MP.R.bind_exn, MP.R.st_ok, MP.R.st_exn, RS.bind_next, RS.bind_ret, RS.bind_brk, RS.bind_cnt, RS.bind_exn, isTy, isL, if_true, if_false, Bool.false_eq_true, Bool.true_eq_false, Bool.not_false, Bool.not_true, reduceIte, cmp_lt, cmp_le, cmp_gt, cmp_ge, cmp_is, cmp_isnot, ite_andv, ite_orv, ite_andt, ite_ort, ite_andq, binV, truth_bl, List.replicate_succ, List.replicate_zero, seqOf_tup, seqOf_lst, seqOf_scr, len_tup, len_lst, len_scr, lstOf_lst, mm_int, Nat.zero_add, Nat.reduceAdd, Nat.reduceSub, Int.reduceNeg, int_int, Int.reduceLT, Int.reduceLE, Nat.reduceLT, Int.reduceToNat, true_and, and_true, decide_true, decide_false, id_eq, outS_go, outS_ret, bl_ne1, bl_ne2, noExn_ok, Bool.true_and, Bool.and_true, Bool.false_and, Bool.and_false, Bool.true_or, Bool.or_true, Bool.false_or, Bool.or_false, v_var, t_var, i_var, v_int, t_int, i_int, v_bl, t_bl, i_bl, v_non, t_non, i_non, v_str, t_str, i_str, v_glob, t_glob, i_glob, v_tup, t_tup, i_tup, v_lst, t_lst, i_lst, v_bin, t_bin, i_bin, v_neg, t_neg, i_neg, v_not, t_not, v_cmp, t_cmp, i_cmp, v_chain, t_chain, i_chain, v_bo, t_bo, v_ifx, i_ifx, v_call, t_call, i_call, v_isi, t_isi, i_isi, v_isi2, t_isi2, i_isi2, v_f1, t_f1, i_f1, v_mm, t_mm, i_mm, v_g1, t_g1, i_g1, v_sub, t_sub, i_sub, v_slc, t_slc, i_slc, v_no, t_no, i_rng, v_comp, t_comp, i_comp, v_frz, i_frz, v_app, es_nil, es_cons, bo_1, bo_2, bt_1, bt_2, kVar_, kGl_, kTr_, kTr2_, kI1_t, kI1_l, kI1_s, kTup_, kLst_, kBin_, kBin2_, kNeg_, kNot_, kNotT_, kB_, kVl_, kCmp_, kCmp2_, kCh_, kCh2_, kCh2b_, kCh3_, kIfx_, kCall_, kCal_, kIsi_, kIsi2_, kF1_, kMm_, kMm2_, kG1_, kSub_, kSub2_, kSl_, kSl2_, kSl2b_, kSl3_, kSl3b_, kRng_, kRng2_, kComp_, kFrz_, kApp_, kApp2_, kEs_, kEs2_, kBo_, kBoT_, x_asg, x_sto, x_expr, x_ite, x_for, x_while, x_ret, x_retn, x_pass, x_brk, x_cnt, xs_nil, xs_cons, kAsg_, kExp_, kIte_, kFor_, kRet_, kSto_, kSto2_, kSto3_, kSto4_, runB_, kRun_n, kRun_r, kRun_e, b_law_first, dom_law_cell, c_cell (show (0 : Int) ≤ 1 by decide), c_cell (show (0 : Int) ≤ 2 by decide), c_cell (show (0 : Int) ≤ 0 by decide), newL_t _ zr, rngV, hkk, hr, hnn, rangeL_r, veq_int]
      rw [show ([] : List Val) = vInts [] from rfl, ho]
      simp only [realM, List.map_cons, List.map_nil, List.length_cons, List.length_nil, List.cons_append, List.nil_append, List.getElem?_cons_zero, List.getElem?_cons_succ, List.set_cons_zero, List.set_cons_succ, MP.R.bind_ok, MP.R.bind_exn, MP.R.st_ok, MP.R.st_exn, RS.bind_next, RS.bind_ret, RS.bind_brk, RS.bind_cnt, RS.bind_exn, isTy, isL, if_true, if_false, Bool.false_eq_true, Bool.true_eq_false, Bool.not_false, Bool.not_true, reduceIte, cmp_lt, cmp_le, cmp_gt, cmp_ge, cmp_is, cmp_isnot, ite_andv, ite_orv, ite_andt, ite_ort, ite_andq, binV, truth_bl, List.replicate_succ, List.replicate_zero, seqOf_tup, seqOf_lst, seqOf_scr, len_tup, len_lst, len_scr, lstOf_lst, mm_int, Nat.zero_add, Nat.reduceAdd, Nat.reduceSub, Int.reduceNeg, int_int, Int.reduceLT, Int.reduceLE, Nat.reduceLT, Int.reduceToNat, true_and, and_true, decide_true, decide_false, id_eq, outS_go, outS_ret, bl_ne1, bl_ne2, noExn_ok, Bool.true_and, Bool.and_true, Bool.false_and, Bool.and_false, Bool.true_or, Bool.or_true, Bool.false_or, Bool.or_false, v_var, t_var, i_var, v_int, t_int, i_int, v_bl, t_bl, i_bl, v_non, t_non, i_non, v_str, t_str, i_str, v_glob, t_glob, i_glob, v_tup, t_tup, i_tup, v_lst, t_lst, i_lst, v_bin, t_bin, i_bin, v_neg, t_neg, i_neg, v_not, t_not, v_cmp, t_cmp, i_cmp, v_chain, t_chain, i_chain, v_bo, t_bo, v_ifx, i_ifx, v_call, t_call, i_call, v_isi, t_isi, i_isi, v_isi2, t_isi2, i_isi2, v_f1, t_f1, i_f1, v_mm, t_mm, i_mm, v_g1, t_g1, i_g1, v_sub, t_sub, i_sub, v_slc, t_slc, i_slc, v_no, t_no, i_rng, v_comp, t_comp, i_comp, v_frz, i_frz, v_app, es_nil, es_cons, bo_1, bo_2, bt_1, bt_2, kVar_, kGl_, kTr_, kTr2_, kI1_t, kI1_l, kI1_s, kTup_, kLst_, kBin_, kBin2_, kNeg_, kNot_, kNotT_, kB_, kVl_, kCmp_, kCmp2_, kCh_, kCh2_, kCh2b_, kCh3_, kIfx_, kCall_, kCal_, kIsi_, kIsi2_, kF1_, kMm_, kMm2_, kG1_, kSub_, kSub2_, kSl_, kSl2_, kSl2b_, kSl3_, kSl3b_, kRng_, kRng2_, kComp_, kFrz_, kApp_, kApp2_, kEs_, kEs2_, kBo_, kBoT_, x_asg, x_sto, x_expr, x_ite, x_for, x_while, x_ret, x_retn, x_pass, x_brk, x_cnt, xs_nil, xs_cons, kAsg_, kExp_, kIte_, kFor_, kRet_, kSto_, kSto2_, kSto3_, kSto4_, runB_, kRun_n, kRun_r, kRun_e, veq_int, decide_eq_false hk1, cell_frz]
end
section
variable {st : Store}
theorem vInts_snoc (l : List Int) (i : Int) : vInts l ++ [.int i] = vInts (l ++ [i]) := vInts_app l [i]
theorem ixLz {ns : List Int} {z : Int} (h0 : 0 ≤ z) (h1 : z < ns.length) : ixV st (.lst (vInts ns)) (.int z) = .ok (.int (ns.getD z.toNat 0)) := by
  obtain ⟨k, rfl⟩ := Int.eq_ofNat_of_zero_le h0
  have hk : k < ns.length := by omega
  rw [ixL (List.getElem?_eq_getElem hk)]
  simp [hk]
def item2 (ns ms : List Int) (k : Nat) : Int := let c := cell ns (51 + k)
  if (cell ns 50 / 13) % 2 = 1 ∧ 0 < ms.length ∧ c % 3 = 0 then ms.getD ((c / 3) % (ms.length : Int)).toNat 0 else c
theorem secRow_eq (ns ms : List Int) : secRow ns ms = (List.range (cell ns 50 % 13).toNat).map (item2 ns ms) := rfl
structure B2 where
  c : Option Val
  row : List Int
theorem fold2 (ns ms : List Int) : ∀ (l : List Nat) (b : B2), ∃ b', foldO (fun (b : B2) k => Out.go (⟨some (.int (cell ns (51 + k))), b.row ++ [item2 ns ms k]⟩ : B2)) b l = .go b' ∧ b'.row = b.row ++ l.map (item2 ns ms)
  | [], b => ⟨b, rfl, by simp⟩
  | k :: l, b => by
    obtain ⟨b', h1, h2⟩ := fold2 ns ms l ⟨some (.int (cell ns (51 + k))), b.row ++ [item2 ns ms k]⟩
    exact ⟨b', by rw [foldO_go rfl]; exact h1, by rw [h2]; simp⟩
theorem r_law_second : Real 2 6 b_law_second f_law_second := fun args st v hl hc hf => by
  obtain ⟨a, b, rfl⟩ := len2 hl
  cases a <;> cases b <;> first | (cases hf; done) | skip
  rename_i xs ys
  simp only [f_law_second] at hf
  split at hf
  · rename_i ns ms ha hb
    split at hf
    · rename_i hms
      cases hf
      have e1 : xs = vInts ns := asInts_eq ha
      have e2 : ys = vInts ms := asInts_eq hb
      subst e1 e2
      have hr : rngOk (cell ns 50 % 13) = true := by unfold rngOk; exact decide_eq_true (by omega)
      generalize hnn : (cell ns 50 % 13).toNat = n
      have hn : n ≤ 12 := by omega
      have zr : ([] : List Val).length ≤ szMax := Nat.zero_le _
      generalize hmx : decide ((cell ns 50 / 13) % 2 = 1) = mx
      have ho := forL_foldP (g := fun (k : Nat) => Val.int k) (i := 4) (body := evSs Φ G0 b_law_second_1)
        (fun (b : B2) o => [some (.scr (vInts ns)), some (.lst (vInts ms)), some (.loc st.length), some (.bl mx), o, b.c]) (fun b => st ++ [.lst (vInts b.row)]) (fun b k => .go ⟨some (.int (cell ns (51 + k))), b.row ++ [item2 ns ms k]⟩)
        (fun b ys => b.row.length + ys.length ≤ 63) (fun _ _ _ => rfl) (List.range n)
        (fun b k ys hp => by
          refine ⟨?_, fun b' e => ?_⟩
          · have e3 : (0 : Int) ≤ 51 + (k : Int) := by omega
            have e4 : (51 + (k : Int)).toNat = 51 + k := by omega
            have hsz : (vInts b.row).length < szMax := by rw [vInts_len]; simp at hp; unfold szMax; omega
            by_cases h2 : (cell ns 50 / 13) % 2 = 1 ∧ 0 < ms.length ∧ cell ns (51 + k) % 3 = 0
            · obtain ⟨h3, h4, h5⟩ := h2
              have h4' : (0 : Int) < (ms.length : Int) := by omega
              have hmt : mx = true := by rw [← hmx]; exact decide_eq_true h3
              have hi : item2 ns ms k = ms.getD ((cell ns (51 + k) / 3) % (ms.length : Int)).toNat 0 := by unfold item2; exact if_pos ⟨h3, h4, h5⟩
              simp only [realM, List.map_cons, List.map_nil, List.length_cons, List.length_nil, List.cons_append, List.nil_append, List.getElem?_cons_zero, List.getElem?_cons_succ, List.set_cons_zero, List.set_cons_succ, MP.R.bind_ok, MP.R.bind_exn, MP.R.st_ok, MP.R.st_exn, RS.bind_next, RS.bind_ret, RS.bind_brk, RS.bind_cnt, RS.bind_exn, isTy, isL, if_true, if_false, Bool.false_eq_true, Bool.true_eq_false, Bool.not_false, Bool.not_true, reduceIte, cmp_lt, cmp_le, cmp_gt, cmp_ge, cmp_is, cmp_isnot, ite_andv, ite_orv, ite_andt, ite_ort, ite_andq, binV, truth_bl, List.replicate_succ, List.replicate_zero, seqOf_tup, seqOf_lst, seqOf_scr, len_tup, len_lst, len_scr, lstOf_lst, mm_int, Nat.zero_add, Nat.reduceAdd, Nat.reduceSub, Int.reduceNeg, int_int, Int.reduceLT, Int.reduceLE, Nat.reduceLT, Int.reduceToNat, true_and, and_true, decide_true, decide_false, id_eq, outS_go, outS_ret, bl_ne1, bl_ne2, noExn_ok, Bool.true_and, Bool.and_true, Bool.false_and, Bool.and_false, Bool.true_or, Bool.or_true, Bool.false_or, Bool.or_false, v_var, t_var, i_var, v_int, t_int, i_int, v_bl, t_bl, i_bl, v_non, t_non, i_non, v_str, t_str, i_str, v_glob, t_glob, i_glob, v_tup, t_tup, i_tup, v_lst, t_lst, i_lst, v_bin, t_bin, i_bin, v_neg, t_neg, i_neg, v_not, t_not, v_cmp, t_cmp, i_cmp, v_chain, t_chain, i_chain, v_bo, t_bo, v_ifx, i_ifx, v_call, t_call, i_call, v_isi, t_isi, i_isi, v_isi2, t_isi2, i_isi2, v_f1, t_f1, i_f1, v_mm, t_mm, i_mm, v_g1, t_g1, i_g1, v_sub, t_sub, i_sub, v_slc, t_slc, i_slc, v_no, t_no, i_rng, v_comp, t_comp, i_comp, v_frz, i_frz, v_app, es_nil, es_cons, bo_1, bo_2, bt_1, bt_2, kVar_, kGl_, kTr_, kTr2_, kI1_t, kI1_l, kI1_s, kTup_, kLst_, kBin_, kBin2_, kNeg_, kNot_, kNotT_, kB_, kVl_, kCmp_, kCmp2_, kCh_, kCh2_, kCh2b_, kCh3_, kIfx_, kCall_, kCal_, kIsi_, kIsi2_, kF1_, kMm_, kMm2_, kG1_, kSub_, kSub2_, kSl_, kSl2_, kSl2b_, kSl3_, kSl3b_, kRng_, kRng2_, kComp_, kFrz_, kApp_, kApp2_, kEs_, kEs2_, kBo_, kBoT_, x_asg, x_sto, x_expr, x_ite, x_for, x_while, x_ret, x_retn, x_pass, x_brk, x_cnt, xs_nil, xs_cons, kAsg_, kExp_, kIte_, kFor_, kRet_, kSto_, kSto2_, kSto3_, kSto4_, runB_, kRun_n, kRun_r, kRun_e, b_law_second_1, dom_law_cell, c_cell e3, e4, hmt, vInts_len, decide_eq_true h4', veq_int, decide_eq_true h5, cell_is, fdl 3, h4', ixLz (Int.emod_nonneg _ (by omega)) (Int.emod_lt_of_pos _ h4'), cell_app _ _ hsz, vInts_snoc, hi]
            · have hi : item2 ns ms k = cell ns (51 + k) := by unfold item2; exact if_neg h2
              have hb : (mx && (decide ((0 : Int) < (ms.length : Int)) && decide (cell ns (51 + k) % 3 = 0))) = false := by
                rw [← hmx]
                apply Bool.eq_false_iff.mpr
                intro t
                simp only [Bool.and_eq_true, decide_eq_true_eq] at t
                exact h2 ⟨t.1, by omega, t.2.2⟩
              simp only [realM, List.map_cons, List.map_nil, List.length_cons, List.length_nil, List.cons_append, List.nil_append, List.getElem?_cons_zero, List.getElem?_cons_succ, List.set_cons_zero, List.set_cons_succ, MP.R.bind_ok, MP.R.bind_exn, MP.R.st_ok, MP.R.st_exn, RS.bind_next, RS.bind_ret, RS.bind_brk, RS.bind_cnt, RS.bind_exn, isTy, isL, if_true, if_false, Bool.false_eq_true, Bool.true_eq_false, Bool.not_false, Bool.not_true, reduceIte, cmp_lt, cmp_le, cmp_gt, cmp_ge, cmp_is, cmp_isnot, ite_andv, ite_orv, ite_andt, ite_ort, ite_andq, binV, truth_bl, List.replicate_succ, List.replicate_zero, seqOf_tup, seqOf_lst, seqOf_scr, len_tup, len_lst, len_scr, lstOf_lst, mm_int, Nat.zero_add, Nat.reduceAdd, Nat.reduceSub, Int.reduceNeg, int_int, Int.reduceLT, Int.reduceLE, Nat.reduceLT, Int.reduceToNat, true_and, and_true, decide_true, decide_false, id_eq, outS_go, outS_ret, bl_ne1, bl_ne2, noExn_ok, Bool.true_and, Bool.and_true, Bool.false_and, Bool.and_false, Bool.true_or, Bool.or_true, Bool.false_or, Bool.or_false, v_var, t_var, i_var, v_int, t_int, i_int, v_bl, t_bl, i_bl, v_non, t_non, i_non, v_str, t_str, i_str, v_glob, t_glob, i_glob, v_tup, t_tup, i_tup, v_lst, t_lst, i_lst, v_bin, t_bin, i_bin, v_neg, t_neg, i_neg, v_not, t_not, v_cmp, t_cmp, i_cmp, v_chain, t_chain, i_chain, v_bo, t_bo, v_ifx, i_ifx, v_call, t_call, i_call, v_isi, t_isi, i_isi, v_isi2, t_isi2, i_isi2, v_f1, t_f1, i_f1, v_mm, t_mm, i_mm, v_g1, t_g1, i_g1, v_sub, t_sub, i_sub, v_slc, t_slc, i_slc, v_no, t_no, i_rng, v_comp, t_comp, i_comp, v_frz, i_frz, v_app, es_nil, es_cons, bo_1, bo_2, bt_1, bt_2, kVar_, kGl_, kTr_, kTr2_, kI1_t, kI1_l, kI1_s, kTup_, kLst_, kBin_, kBin2_, kNeg_, kNot_, kNotT_, kB_, kVl_, kCmp_, kCmp2_, kCh_, kCh2_, kCh2b_, kCh3_, kIfx_, kCall_, kCal_, kIsi_, kIsi2_, kF1_, kMm_, kMm2_, kG1_, kSub_, kSub2_, kSl_, kSl2_, kSl2b_, kSl3_, kSl3b_, kRng_, kRng2_, kComp_, kFrz_, kApp_, kApp2_, kEs_, kEs2_, kBo_, kBoT_, x_asg, x_sto, x_expr, x_ite, x_for, x_while, x_ret, x_retn, x_pass, x_brk, x_cnt, xs_nil, xs_cons, kAsg_, kExp_, kIte_, kFor_, kRet_, kSto_, kSto2_, kSto3_, kSto4_, runB_, kRun_n, kRun_r, kRun_e, b_law_second_1, dom_law_cell, c_cell e3, e4, vInts_len, veq_int, hb, cell_is, cell_app _ _ hsz, vInts_snoc, hi]
          · cases e
            simp at hp ⊢; omega) ⟨none, []⟩ none (by simp; omega)
      obtain ⟨b', h1, h2⟩ := fold2 ns ms (List.range n) ⟨none, []⟩
      rw [h1] at ho
      dsimp only at ho
      have hrow : secRow ns ms = b'.row := by rw [h2, secRow_eq, hnn]; rfl
      have hlen : b'.row.length = n := by rw [h2]; simp
      rw [hrow]
      refine ⟨[.lst (vInts b'.row)], ?_, closed_vInts 0 _⟩
      rw [gO]
      have hz : (vInts (sortS b'.row)).length ≤ szMax := by have := sortS_len b'.row; rw [vInts_len]; exact small (by omega)
      have hz2 : b'.row.length < 64 := by omega
      simp only [realM, List.map_cons, List.map_nil, List.length_cons, List.length_nil, List.cons_append, List.nil_append, List.getElem?_cons_zero, List.getElem?_cons_succ, List.set_cons_zero, List.set_cons_succ, MP.R.bind_ok, MP.R.bind_exn, MP.R.st_ok, MP.R.st_exn, RS.bind_next, RS.bind_ret, RS.bind_brk, RS.bind_cnt, RS.bind_exn, isTy, isL, if_true, if_false, Bool.false_eq_true, Bool.true_eq_false, Bool.not_false, Bool.not_true, reduceIte, cmp_lt, cmp_le, cmp_gt, cmp_ge, cmp_is, cmp_isnot, ite_andv, ite_orv, ite_andt, ite_ort, ite_andq, binV, truth_bl, List.replicate_succ, List.replicate_zero, seqOf_tup, seqOf_lst, seqOf_scr, len_tup, len_lst, len_scr, lstOf_lst, mm_int, Nat.zero_add, Nat.reduceAdd, Nat.reduceSub, Int.reduceNeg, int_int, Int.reduceLT, Int.reduceLE, Nat.reduceLT, Int.reduceToNat, true_and, and_true, decide_true, decide_false, id_eq, outS_go, outS_ret, bl_ne1, bl_ne2, noExn_ok, Bool.true_and, Bool.and_true, Bool.false_and, Bool.and_false, Bool.true_or, Bool.or_true, Bool.false_or, Bool.or_false, v_var, t_var, i_var, v_int, t_int, i_int, v_bl, t_bl, i_bl, v_non, t_non, i_non, v_str, t_str, i_str, v_glob, t_glob, i_glob, v_tup, t_tup, i_tup, v_lst, t_lst, i_lst, v_bin, t_bin, i_bin, v_neg, t_neg, i_neg, v_not, t_not, v_cmp, t_cmp, i_cmp, v_chain, t_chain, i_chain, v_bo, t_bo, v_ifx, i_ifx, v_call, t_call, i_call, v_isi, t_isi, i_isi, v_isi2, t_isi2, i_isi2, v_f1, t_f1, i_f1, v_mm, t_mm, i_mm, v_g1, t_g1, i_g1, v_sub, t_sub, i_sub, v_slc, t_slc, i_slc, v_no, t_no, i_rng, v_comp, t_comp, i_comp, v_frz, i_frz, v_app, es_nil, es_cons, bo_1, bo_2, bt_1, bt_2, kVar_, kGl_, kTr_, kTr2_, kI1_t, kI1_l, kI1_s, kTup_, kLst_, kBin_, kBin2_, kNeg_, kNot_, kNotT_, kB_, kVl_, kCmp_, kCmp2_, kCh_, kCh2_, kCh2b_, kCh3_, kIfx_, kCall_, kCal_, kIsi_, kIsi2_, kF1_, kMm_, kMm2_, kG1_, kSub_, kSub2_, kSl_, kSl2_, kSl2b_, kSl3_, kSl3b_, kRng_, kRng2_, kComp_, kFrz_, kApp_, kApp2_, kEs_, kEs2_, kBo_, kBoT_, x_asg, x_sto, x_expr, x_ite, x_for, x_while, x_ret, x_retn, x_pass, x_brk, x_cnt, xs_nil, xs_cons, kAsg_, kExp_, kIte_, kFor_, kRet_, kSto_, kSto2_, kSto3_, kSto4_, runB_, kRun_n, kRun_r, kRun_e, b_law_second, dom_law_cell, c_cell (show (0 : Int) ≤ 50 by decide), newL_t _ zr, fdl 13, veq_int, hmx, rngV, hr, hnn, rangeL_0]
      rw [show ([] : List Val) = vInts [] from rfl, ho]
      simp only [realM, List.map_cons, List.map_nil, List.length_cons, List.length_nil, List.cons_append, List.nil_append, List.getElem?_cons_zero, List.getElem?_cons_succ, List.set_cons_zero, List.set_cons_succ, MP.R.bind_ok, MP.R.bind_exn, MP.R.st_ok, MP.R.st_exn, RS.bind_next, RS.bind_ret, RS.bind_brk, RS.bind_cnt, RS.bind_exn, isTy, isL, if_true, if_false, Bool.false_eq_true, Bool.true_eq_false, Bool.not_false, Bool.not_true, reduceIte, cmp_lt, cmp_le, cmp_gt, cmp_ge, cmp_is, cmp_isnot, ite_andv, ite_orv, ite_andt, ite_ort, ite_andq, binV, truth_bl, List.replicate_succ, List.replicate_zero, seqOf_tup, seqOf_lst, seqOf_scr, len_tup, len_lst, len_scr, lstOf_lst, mm_int, Nat.zero_add, Nat.reduceAdd, Nat.reduceSub, Int.reduceNeg, int_int, Int.reduceLT, Int.reduceLE, Nat.reduceLT, Int.reduceToNat, true_and, and_true, decide_true, decide_false, id_eq, outS_go, outS_ret, bl_ne1, bl_ne2, noExn_ok, Bool.true_and, Bool.and_true, Bool.false_and, Bool.and_false, Bool.true_or, Bool.or_true, Bool.false_or, Bool.or_false, v_var, t_var, i_var, v_int, t_int, i_int, v_bl, t_bl, i_bl, v_non, t_non, i_non, v_str, t_str, i_str, v_glob, t_glob, i_glob, v_tup, t_tup, i_tup, v_lst, t_lst, i_lst, v_bin, t_bin, i_bin, v_neg, t_neg, i_neg, v_not, t_not, v_cmp, t_cmp, i_cmp, v_chain, t_chain, i_chain, v_bo, t_bo, v_ifx, i_ifx, v_call, t_call, i_call, v_isi, t_isi, i_isi, v_isi2, t_isi2, i_isi2, v_f1, t_f1, i_f1, v_mm, t_mm, i_mm, v_g1, t_g1, i_g1, v_sub, t_sub, i_sub, v_slc, t_slc, i_slc, v_no, t_no, i_rng, v_comp, t_comp, i_comp, v_frz, i_frz, v_app, es_nil, es_cons, bo_1, bo_2, bt_1, bt_2, kVar_, kGl_, kTr_, kTr2_, kI1_t, kI1_l, kI1_s, kTup_, kLst_, kBin_, kBin2_, kNeg_, kNot_, kNotT_, kB_, kVl_, kCmp_, kCmp2_, kCh_, kCh2_, kCh2b_, kCh3_, kIfx_, kCall_, kCal_, kIsi_, kIsi2_, kF1_, kMm_, kMm2_, kG1_, kSub_, kSub2_, kSl_, kSl2_, kSl2b_, kSl3_, kSl3b_, kRng_, kRng2_, kComp_, kFrz_, kApp_, kApp2_, kEs_, kEs2_, kBo_, kBoT_, x_asg, x_sto, x_expr, x_ite, x_for, x_while, x_ret, x_retn, x_pass, x_brk, x_cnt, xs_nil, xs_cons, kAsg_, kExp_, kIte_, kFor_, kRet_, kSto_, kSto2_, kSto3_, kSto4_, runB_, kRun_n, kRun_r, kRun_e, g1V, cell_seq, asInts_vInts, hz2]
      rw [show List.map Val.int (sortS b'.row) = vInts (sortS b'.row) from rfl]
      simp only [realM, List.map_cons, List.map_nil, List.length_cons, List.length_nil, List.cons_append, List.nil_append, List.getElem?_cons_zero, List.getElem?_cons_succ, List.set_cons_zero, List.set_cons_succ, MP.R.bind_ok, MP.R.bind_exn, MP.R.st_ok, MP.R.st_exn, RS.bind_next, RS.bind_ret, RS.bind_brk, RS.bind_cnt, RS.bind_exn, isTy, isL, if_true, if_false, Bool.false_eq_true, Bool.true_eq_false, Bool.not_false, Bool.not_true, reduceIte, cmp_lt, cmp_le, cmp_gt, cmp_ge, cmp_is, cmp_isnot, ite_andv, ite_orv, ite_andt, ite_ort, ite_andq, binV, truth_bl, List.replicate_succ, List.replicate_zero, seqOf_tup, seqOf_lst, seqOf_scr, len_tup, len_lst, len_scr, lstOf_lst, mm_int, Nat.zero_add, Nat.reduceAdd, Nat.reduceSub, Int.reduceNeg, int_int, Int.reduceLT, Int.reduceLE, Nat.reduceLT, Int.reduceToNat, true_and, and_true, decide_true, decide_false, id_eq, outS_go, outS_ret, bl_ne1, bl_ne2, noExn_ok, Bool.true_and, Bool.and_true, Bool.false_and, Bool.and_false, Bool.true_or, Bool.or_true, Bool.false_or, Bool.or_false, v_var, t_var, i_var, v_int, t_int, i_int, v_bl, t_bl, i_bl, v_non, t_non, i_non, v_str, t_str, i_str, v_glob, t_glob, i_glob, v_tup, t_tup, i_tup, v_lst, t_lst, i_lst, v_bin, t_bin, i_bin, v_neg, t_neg, i_neg, v_not, t_not, v_cmp, t_cmp, i_cmp, v_chain, t_chain, i_chain, v_bo, t_bo, v_ifx, i_ifx, v_call, t_call, i_call, v_isi, t_isi, i_isi, v_isi2, t_isi2, i_isi2, v_f1, t_f1, i_f1, v_mm, t_mm, i_mm, v_g1, t_g1, i_g1, v_sub, t_sub, i_sub, v_slc, t_slc, i_slc, v_no, t_no, i_rng, v_comp, t_comp, i_comp, v_frz, i_frz, v_app, es_nil, es_cons, bo_1, bo_2, bt_1, bt_2, kVar_, kGl_, kTr_, kTr2_, kI1_t, kI1_l, kI1_s, kTup_, kLst_, kBin_, kBin2_, kNeg_, kNot_, kNotT_, kB_, kVl_, kCmp_, kCmp2_, kCh_, kCh2_, kCh2b_, kCh3_, kIfx_, kCall_, kCal_, kIsi_, kIsi2_, kF1_, kMm_, kMm2_, kG1_, kSub_, kSub2_, kSl_, kSl2_, kSl2b_, kSl3_, kSl3b_, kRng_, kRng2_, kComp_, kFrz_, kApp_, kApp2_, kEs_, kEs2_, kBo_, kBoT_, x_asg, x_sto, x_expr, x_ite, x_for, x_while, x_ret, x_retn, x_pass, x_brk, x_cnt, xs_nil, xs_cons, kAsg_, kExp_, kIte_, kFor_, kRet_, kSto_, kSto2_, kSto3_, kSto4_, runB_, kRun_n, kRun_r, kRun_e, newL_f _ hz]
    · cases hf
  · cases hf
theorem odd_ix {b k : Int} (h0 : 0 ≤ k) (h1 : k < 9) : ixV st (.lst [.bl true, .bl false, .non, .str "", .str "3", .tup [], .lst [.int 1], .int b, .tup [.int b]]) (.int k) = .ok (oddV b k) := by
  have : k = 0 ∨ k = 1 ∨ k = 2 ∨ k = 3 ∨ k = 4 ∨ k = 5 ∨ k = 6 ∨ k = 7 ∨ k = 8 := by omega
  rcases this with rfl | rfl | rfl | rfl | rfl | rfl | rfl | rfl | rfl <;> rfl
theorem oddV_closed (b k : Int) : closed 0 (oddV b k) = true := by
  unfold oddV
  repeat' split
  all_goals rfl
theorem r_law_odd : Real 3 4 b_law_odd f_law_odd := fun args st v hl hc hf => by
  obtain ⟨a, b, c, rfl⟩ := len3 hl
  cases a <;> cases b <;> cases c <;> first | (cases hf; done) | skip
  rename_i xs ys p
  simp only [f_law_odd] at hf
  split at hf
  · rename_i ns ms ha hb
    split at hf
    · rename_i hp
      cases hf
      have e1 : xs = vInts ns := asInts_eq ha
      have e2 : ys = vInts ms := asInts_eq hb
      subst e1 e2
      refine real0 ?_ (oddV_closed _ _)
      have z9 : ∀ b : Int, ([Val.bl true, .bl false, .non, .str "", .str "3", .tup [], .lst [.int 1], .int b, .tup [.int b]] : List Val).length ≤ szMax := fun b => by unfold szMax; simp
      have z1 : ∀ v : Val, ([v] : List Val).length ≤ szMax := fun b => by unfold szMax; simp
      have z0 : ([] : List Val).length ≤ szMax := Nat.zero_le _
      have k0 : 0 ≤ cell ns 44 % 9 := by omega
      have k9 : cell ns 44 % 9 < 9 := by omega
      by_cases h0 : 0 < p
      · have h1 : 0 ≤ p - 1 := by omega
        have h2 : p - 1 < ms.length := by rcases hp.2 with h | h <;> omega
        simp only [realM, List.map_cons, List.map_nil, List.length_cons, List.length_nil, List.cons_append, List.nil_append, List.getElem?_cons_zero, List.getElem?_cons_succ, List.set_cons_zero, List.set_cons_succ, MP.R.bind_ok, MP.R.bind_exn, MP.R.st_ok, MP.R.st_exn, RS.bind_next, RS.bind_ret, RS.bind_brk, RS.bind_cnt, RS.bind_exn, isTy, isL, if_true, if_false, Bool.false_eq_true, Bool.true_eq_false, Bool.not_false, Bool.not_true, reduceIte, cmp_lt, cmp_le, cmp_gt, cmp_ge, cmp_is, cmp_isnot, ite_andv, ite_orv, ite_andt, ite_ort, ite_andq, binV, truth_bl, List.replicate_succ, List.replicate_zero, seqOf_tup, seqOf_lst, seqOf_scr, len_tup, len_lst, len_scr, lstOf_lst, mm_int, Nat.zero_add, Nat.reduceAdd, Nat.reduceSub, Int.reduceNeg, int_int, Int.reduceLT, Int.reduceLE, Nat.reduceLT, Int.reduceToNat, true_and, and_true, decide_true, decide_false, id_eq, outS_go, outS_ret, bl_ne1, bl_ne2, noExn_ok, Bool.true_and, Bool.and_true, Bool.false_and, Bool.and_false, Bool.true_or, Bool.or_true, Bool.false_or, Bool.or_false, v_var, t_var, i_var, v_int, t_int, i_int, v_bl, t_bl, i_bl, v_non, t_non, i_non, v_str, t_str, i_str, v_glob, t_glob, i_glob, v_tup, t_tup, i_tup, v_lst, t_lst, i_lst, v_bin, t_bin, i_bin, v_neg, t_neg, i_neg, v_not, t_not, v_cmp, t_cmp, i_cmp, v_chain, t_chain, i_chain, v_bo, t_bo, v_ifx, i_ifx, v_call, t_call, i_call, v_isi, t_isi, i_isi, v_isi2, t_isi2, i_isi2, v_f1, t_f1, i_f1, v_mm, t_mm, i_mm, v_g1, t_g1, i_g1, v_sub, t_sub, i_sub, v_slc, t_slc, i_slc, v_no, t_no, i_rng, v_comp, t_comp, i_comp, v_frz, i_frz, v_app, es_nil, es_cons, bo_1, bo_2, bt_1, bt_2, kVar_, kGl_, kTr_, kTr2_, kI1_t, kI1_l, kI1_s, kTup_, kLst_, kBin_, kBin2_, kNeg_, kNot_, kNotT_, kB_, kVl_, kCmp_, kCmp2_, kCh_, kCh2_, kCh2b_, kCh3_, kIfx_, kCall_, kCal_, kIsi_, kIsi2_, kF1_, kMm_, kMm2_, kG1_, kSub_, kSub2_, kSl_, kSl2_, kSl2b_, kSl3_, kSl3b_, kRng_, kRng2_, kComp_, kFrz_, kApp_, kApp2_, kEs_, kEs2_, kBo_, kBoT_, x_asg, x_sto, x_expr, x_ite, x_for, x_while, x_ret, x_retn, x_pass, x_brk, x_cnt, xs_nil, xs_cons, kAsg_, kExp_, kIte_, kFor_, kRet_, kSto_, kSto2_, kSto3_, kSto4_, runB_, kRun_n, kRun_r, kRun_e, b_law_odd, decide_eq_true h0, ixLz h1 h2, newT_f _ z0, newT_f _ (z1 _), newL_f _ (z1 _), newL_f _ (z9 _), dom_law_cell, c_cell (show (0 : Int) ≤ 44 by decide), odd_ix k0 k9, if_pos h0]
      · simp only [realM, List.map_cons, List.map_nil, List.length_cons, List.length_nil, List.cons_append, List.nil_append, List.getElem?_cons_zero, List.getElem?_cons_succ, List.set_cons_zero, List.set_cons_succ, MP.R.bind_ok, MP.R.bind_exn, MP.R.st_ok, MP.R.st_exn, RS.bind_next, RS.bind_ret, RS.bind_brk, RS.bind_cnt, RS.bind_exn, isTy, isL, if_true, if_false, Bool.false_eq_true, Bool.true_eq_false, Bool.not_false, Bool.not_true, reduceIte, cmp_lt, cmp_le, cmp_gt, cmp_ge, cmp_is, cmp_isnot, ite_andv, ite_orv, ite_andt, ite_ort, ite_andq, binV, truth_bl, List.replicate_succ, List.replicate_zero, seqOf_tup, seqOf_lst, seqOf_scr, len_tup, len_lst, len_scr, lstOf_lst, mm_int, Nat.zero_add, Nat.reduceAdd, Nat.reduceSub, Int.reduceNeg, int_int, Int.reduceLT, Int.reduceLE, Nat.reduceLT, Int.reduceToNat, true_and, and_true, decide_true, decide_false, id_eq, outS_go, outS_ret, bl_ne1, bl_ne2, noExn_ok, Bool.true_and, Bool.and_true, Bool.false_and, Bool.and_false, Bool.true_or, Bool.or_true, Bool.false_or, Bool.or_false, v_var, t_var, i_var, v_int, t_int, i_int, v_bl, t_bl, i_bl, v_non, t_non, i_non, v_str, t_str, i_str, v_glob, t_glob, i_glob, v_tup, t_tup, i_tup, v_lst, t_lst, i_lst, v_bin, t_bin, i_bin, v_neg, t_neg, i_neg, v_not, t_not, v_cmp, t_cmp, i_cmp, v_chain, t_chain, i_chain, v_bo, t_bo, v_ifx, i_ifx, v_call, t_call, i_call, v_isi, t_isi, i_isi, v_isi2, t_isi2, i_isi2, v_f1, t_f1, i_f1, v_mm, t_mm, i_mm, v_g1, t_g1, i_g1, v_sub, t_sub, i_sub, v_slc, t_slc, i_slc, v_no, t_no, i_rng, v_comp, t_comp, i_comp, v_frz, i_frz, v_app, es_nil, es_cons, bo_1, bo_2, bt_1, bt_2, kVar_, kGl_, kTr_, kTr2_, kI1_t, kI1_l, kI1_s, kTup_, kLst_, kBin_, kBin2_, kNeg_, kNot_, kNotT_, kB_, kVl_, kCmp_, kCmp2_, kCh_, kCh2_, kCh2b_, kCh3_, kIfx_, kCall_, kCal_, kIsi_, kIsi2_, kF1_, kMm_, kMm2_, kG1_, kSub_, kSub2_, kSl_, kSl2_, kSl2b_, kSl3_, kSl3b_, kRng_, kRng2_, kComp_, kFrz_, kApp_, kApp2_, kEs_, kEs2_, kBo_, kBoT_, x_asg, x_sto, x_expr, x_ite, x_for, x_while, x_ret, x_retn, x_pass, x_brk, x_cnt, xs_nil, xs_cons, kAsg_, kExp_, kIte_, kFor_, kRet_, kSto_, kSto2_, kSto3_, kSto4_, runB_, kRun_n, kRun_r, kRun_e, b_law_odd, decide_eq_false h0, newT_f _ z0, newT_f _ (z1 _), newL_f _ (z1 _), newL_f _ (z9 _), dom_law_cell, c_cell (show (0 : Int) ≤ 44 by decide), odd_ix k0 k9, if_neg h0]
    · cases hf
  · cases hf
end
section
variable {st : Store}
theorem c_istup {p : List Int} (h : p.length ≤ 1000) : m_law_is_tuple [.tup (vInts p), .lst (vInts p)] st = .ok (.bl true, st) := by
  refine pureM_ok rfl (by simp [closedL, closed, closed_vInts]) ?_
  simp only [f_law_is_tuple, asInts_vInts, true_and, h, if_true]
theorem c_union {x y : Val} {p q : List Int} (hx : seqInts x = some p) (hy : seqInts y = some q) (cx : closed 0 x = true) (cy : closed 0 y = true) (h : (p ++ q).length < 64) : m_union [x, y] st = .ok (.tup (vInts (sortS (p ++ q))), st) := by
  refine pureM_ok rfl (by simp [closedL, cx, cy]) ?_
  simp only [f_union, hx, hy, h, if_true]
theorem c_minus {x y : Val} {p q : List Int} (hx : seqInts x = some p) (hy : seqInts y = some q) (cx : closed 0 x = true) (cy : closed 0 y = true) (h : p.length < 64) : m_minus [x, y] st = .ok (.tup (vInts (p.filter fun n => !q.contains n)), st) := by
  refine pureM_ok rfl (by simp [closedL, cx, cy]) ?_
  simp only [f_minus, hx, hy, h, if_true]
theorem c_common {x y : Val} {p q : List Int} (hx : seqInts x = some p) (hy : seqInts y = some q) (cx : closed 0 x = true) (cy : closed 0 y = true) (h : p.length < 64) : m_common [x, y] st = .ok (.tup (vInts (p.filter fun n => q.contains n)), st) := by
  refine pureM_ok rfl (by simp [closedL, cx, cy]) ?_
  simp only [f_common, hx, hy, h, if_true]
theorem si_l (p : List Int) : seqInts (.lst (vInts p)) = some p := by unfold seqInts seqC; exact asInts_vInts p
theorem si_t (p : List Int) : seqInts (.tup (vInts p)) = some p := by unfold seqInts seqC; exact asInts_vInts p
theorem eq_list (p : List Int) : cmpV .eq (.lst (vInts p)) (.lst (vInts p)) st = .ok true := eq_self (sz_mono (show 1 ≤ 64 by decide) (sz_lst (sz_ints p))) st
theorem r_law_sets : Real 3 6 b_law_sets f_law_sets := fun args st v hl hc hf => by
  obtain ⟨a, b, c, rfl⟩ := len3 hl
  cases a <;> cases b <;> cases c <;> first | (cases hf; done) | skip
  rename_i xs as bs
  simp only [f_law_sets] at hf
  split at hf
  · rename_i _ p q ha hb hc'
    rename_i ns _ _ _
    split at hf
    · rename_i hlen
      cases hf
      have e2 : as = vInts p := asInts_eq hb
      have e3 : bs = vInts q := asInts_eq hc'
      subst e2 e3
      obtain ⟨ns, hns⟩ : ∃ ns, asInts xs = some ns := ⟨_, ha⟩
      have e1 : xs = vInts ns := asInts_eq hns
      subst e1
      refine real0 ?_ rfl
      have hl2 := hlen
      rw [List.length_append] at hl2
      have z1 : (vInts p).length ≤ szMax := by rw [vInts_len]; exact small (by omega)
      have z2 : (vInts q).length ≤ szMax := by rw [vInts_len]; exact small (by omega)
      have z3 : (vInts (p ++ q)).length ≤ szMax := by rw [vInts_len]; exact small hlen
      have zs := sortS_len (p ++ q)
      have z4 : (vInts (sortS (p ++ q))).length ≤ szMax := by rw [vInts_len]; exact small (by omega)
      have z5 := filter_len (fun n => !q.contains n) p
      have z6 : (vInts (p.filter fun n => !q.contains n)).length ≤ szMax := by rw [vInts_len]; exact small (by omega)
      have z7 := filter_len (fun n => q.contains n) p
      have z8 : (vInts (p.filter fun n => q.contains n)).length ≤ szMax := by rw [vInts_len]; exact small (by omega)
      have hp64 : p.length < 64 := by omega
      have z10 : (sortS (p ++ q)).length ≤ 1000 := by omega
      have z11 : (p.filter fun n => !q.contains n).length ≤ 1000 := by omega
      have z12 : (p.filter fun n => q.contains n).length ≤ 1000 := by omega
      have cc := fun st : Store => c_cell (st := st) (ns := ns) (show (0 : Int) ≤ 46 by decide)
      have f1 := fun (st : Store) => glist_of (st := st) (v := .lst (vInts p)) rfl z1
      have f2 := fun (st : Store) => glist_of (st := st) (v := .lst (vInts q)) rfl z2
      have f3 := fun (st : Store) => glist_of (st := st) (v := .tup (vInts p)) rfl z1
      have f4 := fun (st : Store) => glist_of (st := st) (v := .tup (vInts q)) rfl z2
      have f5 := fun (st : Store) => gtup_of (m := false) (st := st) (v := .lst (vInts p)) rfl z1
      have f6 := fun (st : Store) => gtup_of (m := false) (st := st) (v := .lst (vInts q)) rfl z2
      have cl := closed_vInts 0
      by_cases h1 : (cell ns 46 / 2) % 2 = 1 <;> by_cases h2 : (cell ns 46 / 4) % 2 = 1
      · have k1 : ∀ i : Int, (ev Φ G0 b_law_sets_1).t ([some (.scr (vInts ns)), some (.lst (vInts p)), some (.lst (vInts q)), some (.tup (vInts p)), some (.tup (vInts q)), none].set 5 (some (.int i))) st = .ok (!q.contains i, st) := fun i => by
          simp only [realM, List.map_cons, List.map_nil, List.length_cons, List.length_nil, List.cons_append, List.nil_append, List.getElem?_cons_zero, List.getElem?_cons_succ, List.set_cons_zero, List.set_cons_succ, MP.R.bind_ok, MP.R.bind_exn, MP.R.st_ok, MP.R.st_exn, RS.bind_next, RS.bind_ret, RS.bind_brk, RS.bind_cnt, RS.bind_exn, isTy, isL, if_true, if_false, Bool.false_eq_true, Bool.true_eq_false, Bool.not_false, Bool.not_true, reduceIte, cmp_lt, cmp_le, cmp_gt, cmp_ge, cmp_is, cmp_isnot, ite_andv, ite_orv, ite_andt, ite_ort, ite_andq, binV, truth_bl, List.replicate_succ, List.replicate_zero, seqOf_tup, seqOf_lst, seqOf_scr, len_tup, len_lst, len_scr, lstOf_lst, mm_int, Nat.zero_add, Nat.reduceAdd, Nat.reduceSub, Int.reduceNeg, int_int, Int.reduceLT, Int.reduceLE, Nat.reduceLT, Int.reduceToNat, true_and, and_true, decide_true, decide_false, id_eq, outS_go, outS_ret, bl_ne1, bl_ne2, noExn_ok, Bool.true_and, Bool.and_true, Bool.false_and, Bool.and_false, Bool.true_or, Bool.or_true, Bool.false_or, Bool.or_false, v_var, t_var, i_var, v_int, t_int, i_int, v_bl, t_bl, i_bl, v_non, t_non, i_non, v_str, t_str, i_str, v_glob, t_glob, i_glob, v_tup, t_tup, i_tup, v_lst, t_lst, i_lst, v_bin, t_bin, i_bin, v_neg, t_neg, i_neg, v_not, t_not, v_cmp, t_cmp, i_cmp, v_chain, t_chain, i_chain, v_bo, t_bo, v_ifx, i_ifx, v_call, t_call, i_call, v_isi, t_isi, i_isi, v_isi2, t_isi2, i_isi2, v_f1, t_f1, i_f1, v_mm, t_mm, i_mm, v_g1, t_g1, i_g1, v_sub, t_sub, i_sub, v_slc, t_slc, i_slc, v_no, t_no, i_rng, v_comp, t_comp, i_comp, v_frz, i_frz, v_app, es_nil, es_cons, bo_1, bo_2, bt_1, bt_2, kVar_, kGl_, kTr_, kTr2_, kI1_t, kI1_l, kI1_s, kTup_, kLst_, kBin_, kBin2_, kNeg_, kNot_, kNotT_, kB_, kVl_, kCmp_, kCmp2_, kCh_, kCh2_, kCh2b_, kCh3_, kIfx_, kCall_, kCal_, kIsi_, kIsi2_, kF1_, kMm_, kMm2_, kG1_, kSub_, kSub2_, kSl_, kSl2_, kSl2b_, kSl3_, kSl3b_, kRng_, kRng2_, kComp_, kFrz_, kApp_, kApp2_, kEs_, kEs2_, kBo_, kBoT_, x_asg, x_sto, x_expr, x_ite, x_for, x_while, x_ret, x_retn, x_pass, x_brk, x_cnt, xs_nil, xs_cons, kAsg_, kExp_, kIte_, kFor_, kRet_, kSto_, kSto2_, kSto3_, kSto4_, runB_, kRun_n, kRun_r, kRun_e, b_law_sets_1, notin_ints (seqInts_of (si_l q))]
        have k2 : ∀ i : Int, (ev Φ G0 b_law_sets_2).t ([some (.scr (vInts ns)), some (.lst (vInts p)), some (.lst (vInts q)), some (.tup (vInts p)), some (.tup (vInts q)), none].set 5 (some (.int i))) st = .ok (q.contains i, st) := fun i => by
          simp only [realM, List.map_cons, List.map_nil, List.length_cons, List.length_nil, List.cons_append, List.nil_append, List.getElem?_cons_zero, List.getElem?_cons_succ, List.set_cons_zero, List.set_cons_succ, MP.R.bind_ok, MP.R.bind_exn, MP.R.st_ok, MP.R.st_exn, RS.bind_next, RS.bind_ret, RS.bind_brk, RS.bind_cnt, RS.bind_exn, isTy, isL, if_true, if_false, Bool.false_eq_true, Bool.true_eq_false, Bool.not_false, Bool.not_true, reduceIte, cmp_lt, cmp_le, cmp_gt, cmp_ge, cmp_is, cmp_isnot, ite_andv, ite_orv, ite_andt, ite_ort, ite_andq, binV, truth_bl, List.replicate_succ, List.replicate_zero, seqOf_tup, seqOf_lst, seqOf_scr, len_tup, len_lst, len_scr, lstOf_lst, mm_int, Nat.zero_add, Nat.reduceAdd, Nat.reduceSub, Int.reduceNeg, int_int, Int.reduceLT, Int.reduceLE, Nat.reduceLT, Int.reduceToNat, true_and, and_true, decide_true, decide_false, id_eq, outS_go, outS_ret, bl_ne1, bl_ne2, noExn_ok, Bool.true_and, Bool.and_true, Bool.false_and, Bool.and_false, Bool.true_or, Bool.or_true, Bool.false_or, Bool.or_false, v_var, t_var, i_var, v_int, t_int, i_int, v_bl, t_bl, i_bl, v_non, t_non, i_non, v_str, t_str, i_str, v_glob, t_glob, i_glob, v_tup, t_tup, i_tup, v_lst, t_lst, i_lst, v_bin, t_bin, i_bin, v_neg, t_neg, i_neg, v_not, t_not, v_cmp, t_cmp, i_cmp, v_chain, t_chain, i_chain, v_bo, t_bo, v_ifx, i_ifx, v_call, t_call, i_call, v_isi, t_isi, i_isi, v_isi2, t_isi2, i_isi2, v_f1, t_f1, i_f1, v_mm, t_mm, i_mm, v_g1, t_g1, i_g1, v_sub, t_sub, i_sub, v_slc, t_slc, i_slc, v_no, t_no, i_rng, v_comp, t_comp, i_comp, v_frz, i_frz, v_app, es_nil, es_cons, bo_1, bo_2, bt_1, bt_2, kVar_, kGl_, kTr_, kTr2_, kI1_t, kI1_l, kI1_s, kTup_, kLst_, kBin_, kBin2_, kNeg_, kNot_, kNotT_, kB_, kVl_, kCmp_, kCmp2_, kCh_, kCh2_, kCh2b_, kCh3_, kIfx_, kCall_, kCal_, kIsi_, kIsi2_, kF1_, kMm_, kMm2_, kG1_, kSub_, kSub2_, kSl_, kSl2_, kSl2b_, kSl3_, kSl3b_, kRng_, kRng2_, kComp_, kFrz_, kApp_, kApp2_, kEs_, kEs2_, kBo_, kBoT_, x_asg, x_sto, x_expr, x_ite, x_for, x_while, x_ret, x_retn, x_pass, x_brk, x_cnt, xs_nil, xs_cons, kAsg_, kExp_, kIte_, kFor_, kRet_, kSto_, kSto2_, kSto3_, kSto4_, runB_, kRun_n, kRun_r, kRun_e, b_law_sets_2, in_ints (seqInts_of (si_l q))]
        simp only [realM, List.map_cons, List.map_nil, List.length_cons, List.length_nil, List.cons_append, List.nil_append, List.getElem?_cons_zero, List.getElem?_cons_succ, List.set_cons_zero, List.set_cons_succ, MP.R.bind_ok, MP.R.bind_exn, MP.R.st_ok, MP.R.st_exn, RS.bind_next, RS.bind_ret, RS.bind_brk, RS.bind_cnt, RS.bind_exn, isTy, isL, if_true, if_false, Bool.false_eq_true, Bool.true_eq_false, Bool.not_false, Bool.not_true, reduceIte, cmp_lt, cmp_le, cmp_gt, cmp_ge, cmp_is, cmp_isnot, ite_andv, ite_orv, ite_andt, ite_ort, ite_andq, binV, truth_bl, List.replicate_succ, List.replicate_zero, seqOf_tup, seqOf_lst, seqOf_scr, len_tup, len_lst, len_scr, lstOf_lst, mm_int, Nat.zero_add, Nat.reduceAdd, Nat.reduceSub, Int.reduceNeg, int_int, Int.reduceLT, Int.reduceLE, Nat.reduceLT, Int.reduceToNat, true_and, and_true, decide_true, decide_false, id_eq, outS_go, outS_ret, bl_ne1, bl_ne2, noExn_ok, Bool.true_and, Bool.and_true, Bool.false_and, Bool.and_false, Bool.true_or, Bool.or_true, Bool.false_or, Bool.or_false, v_var, t_var, i_var, v_int, t_int, i_int, v_bl, t_bl, i_bl, v_non, t_non, i_non, v_str, t_str, i_str, v_glob, t_glob, i_glob, v_tup, t_tup, i_tup, v_lst, t_lst, i_lst, v_bin, t_bin, i_bin, v_neg, t_neg, i_neg, v_not, t_not, v_cmp, t_cmp, i_cmp, v_chain, t_chain, i_chain, v_bo, t_bo, v_ifx, i_ifx, v_call, t_call, i_call, v_isi, t_isi, i_isi, v_isi2, t_isi2, i_isi2, v_f1, t_f1, i_f1, v_mm, t_mm, i_mm, v_g1, t_g1, i_g1, v_sub, t_sub, i_sub, v_slc, t_slc, i_slc, v_no, t_no, i_rng, v_comp, t_comp, i_comp, v_frz, i_frz, v_app, es_nil, es_cons, bo_1, bo_2, bt_1, bt_2, kVar_, kGl_, kTr_, kTr2_, kI1_t, kI1_l, kI1_s, kTup_, kLst_, kBin_, kBin2_, kNeg_, kNot_, kNotT_, kB_, kVl_, kCmp_, kCmp2_, kCh_, kCh2_, kCh2b_, kCh3_, kIfx_, kCall_, kCal_, kIsi_, kIsi2_, kF1_, kMm_, kMm2_, kG1_, kSub_, kSub2_, kSl_, kSl2_, kSl2b_, kSl3_, kSl3b_, kRng_, kRng2_, kComp_, kFrz_, kApp_, kApp2_, kEs_, kEs2_, kBo_, kBoT_, x_asg, x_sto, x_expr, x_ite, x_for, x_while, x_ret, x_retn, x_pass, x_brk, x_cnt, xs_nil, xs_cons, kAsg_, kExp_, kIte_, kFor_, kRet_, kSto_, kSto2_, kSto3_, kSto4_, runB_, kRun_n, kRun_r, kRun_e, b_law_sets, f1, f2, f3, f4, f5, f6, dom_law_cell, cc, fdl 2, fdl 4, veq_int, decide_eq_true h1, decide_eq_true h2, dom_union, dom_minus, dom_common, dom_law_is_tuple, c_union (si_t p) (si_t q) (cl p) (cl q) hlen, c_minus (si_t p) (si_t q) (cl p) (cl q) hp64, c_common (si_t p) (si_t q) (cl p) (cl q) hp64, lstOf, vInts_app, newL_f _ z3, sset_l hlen, c_istup z10, c_istup z11, c_istup z12, seqC_i (v := .lst (vInts p)) rfl, z1,
          comp_minus (x := 5) (q := q) (show 5 < ([some (.scr (vInts ns)), some (.lst (vInts p)), some (.lst (vInts q)), some (.tup (vInts p)), some (.tup (vInts q)), none] : MP.Env).length by simp) k1, comp_common (x := 5) (q := q) (show 5 < ([some (.scr (vInts ns)), some (.lst (vInts p)), some (.lst (vInts q)), some (.tup (vInts p)), some (.tup (vInts q)), none] : MP.Env).length by simp) k2, newL_f _ z6, newL_f _ z8, eq_list]
      · have k1 : ∀ i : Int, (ev Φ G0 b_law_sets_1).t ([some (.scr (vInts ns)), some (.lst (vInts p)), some (.lst (vInts q)), some (.tup (vInts p)), some (.lst (vInts q)), none].set 5 (some (.int i))) st = .ok (!q.contains i, st) := fun i => by
          simp only [realM, List.map_cons, List.map_nil, List.length_cons, List.length_nil, List.cons_append, List.nil_append, List.getElem?_cons_zero, List.getElem?_cons_succ, List.set_cons_zero, List.set_cons_succ, MP.R.bind_ok, MP.R.bind_exn, MP.R.st_ok, MP.R.st_exn, RS.bind_next, RS.bind_ret, RS.bind_brk, RS.bind_cnt, RS.bind_exn, isTy, isL, if_true, if_false, Bool.false_eq_true, Bool.true_eq_false, Bool.not_false, Bool.not_true, reduceIte, cmp_lt, cmp_le, cmp_gt, cmp_ge, cmp_is, cmp_isnot, ite_andv, ite_orv, ite_andt, ite_ort, ite_andq, binV, truth_bl, List.replicate_succ, List.replicate_zero, seqOf_tup, seqOf_lst, seqOf_scr, len_tup, len_lst, len_scr, lstOf_lst, mm_int, Nat.zero_add, Nat.reduceAdd, Nat.reduceSub, Int.reduceNeg, int_int, Int.reduceLT, Int.reduceLE, Nat.reduceLT, Int.reduceToNat, true_and, and_true, decide_true, decide_false, id_eq, outS_go, outS_ret, bl_ne1, bl_ne2, noExn_ok, Bool.true_and, Bool.and_true, Bool.false_and, Bool.and_false, Bool.true_or, Bool.or_true, Bool.false_or, Bool.or_false, v_var, t_var, i_var, v_int, t_int, i_int, v_bl, t_bl, i_bl, v_non, t_non, i_non, v_str, t_str, i_str, v_glob, t_glob, i_glob, v_tup, t_tup, i_tup, v_lst, t_lst, i_lst, v_bin, t_bin, i_bin, v_neg, t_neg, i_neg, v_not, t_not, v_cmp, t_cmp, i_cmp, v_chain, t_chain, i_chain, v_bo, t_bo, v_ifx, i_ifx, v_call, t_call, i_call, v_isi, t_isi, i_isi, v_isi2, t_isi2, i_isi2, v_f1, t_f1, i_f1, v_mm, t_mm, i_mm, v_g1, t_g1, i_g1, v_sub, t_sub, i_sub, v_slc, t_slc, i_slc, v_no, t_no, i_rng, v_comp, t_comp, i_comp, v_frz, i_frz, v_app, es_nil, es_cons, bo_1, bo_2, bt_1, bt_2, kVar_, kGl_, kTr_, kTr2_, kI1_t, kI1_l, kI1_s, kTup_, kLst_, kBin_, kBin2_, kNeg_, kNot_, kNotT_, kB_, kVl_, kCmp_, kCmp2_, kCh_, kCh2_, kCh2b_, kCh3_, kIfx_, kCall_, kCal_, kIsi_, kIsi2_, kF1_, kMm_, kMm2_, kG1_, kSub_, kSub2_, kSl_, kSl2_, kSl2b_, kSl3_, kSl3b_, kRng_, kRng2_, kComp_, kFrz_, kApp_, kApp2_, kEs_, kEs2_, kBo_, kBoT_, x_asg, x_sto, x_expr, x_ite, x_for, x_while, x_ret, x_retn, x_pass, x_brk, x_cnt, xs_nil, xs_cons, kAsg_, kExp_, kIte_, kFor_, kRet_, kSto_, kSto2_, kSto3_, kSto4_, runB_, kRun_n, kRun_r, kRun_e, b_law_sets_1, notin_ints (seqInts_of (si_l q))]
        have k2 : ∀ i : Int, (ev Φ G0 b_law_sets_2).t ([some (.scr (vInts ns)), some (.lst (vInts p)), some (.lst (vInts q)), some (.tup (vInts p)), some (.lst (vInts q)), none].set 5 (some (.int i))) st = .ok (q.contains i, st) := fun i => by
          simp only [realM, List.map_cons, List.map_nil, List.length_cons, List.length_nil, List.cons_append, List.nil_append, List.getElem?_cons_zero, List.getElem?_cons_succ, List.set_cons_zero, List.set_cons_succ, MP.R.bind_ok, MP.R.bind_exn, MP.R.st_ok, MP.R.st_exn, RS.bind_next, RS.bind_ret, RS.bind_brk, RS.bind_cnt, RS.bind_exn, isTy, isL, if_true, if_false, Bool.false_eq_true, Bool.true_eq_false, Bool.not_false, Bool.not_true, reduceIte, cmp_lt, cmp_le, cmp_gt, cmp_ge, cmp_is, cmp_isnot, ite_andv, ite_orv, ite_andt, ite_ort, ite_andq, binV, truth_bl, List.replicate_succ, List.replicate_zero, seqOf_tup, seqOf_lst, seqOf_scr, len_tup, len_lst, len_scr, lstOf_lst, mm_int, Nat.zero_add, Nat.reduceAdd, Nat.reduceSub, Int.reduceNeg, int_int, Int.reduceLT, Int.reduceLE, Nat.reduceLT, Int.reduceToNat, true_and, and_true, decide_true, decide_false, id_eq, outS_go, outS_ret, bl_ne1, bl_ne2, noExn_ok, Bool.true_and, Bool.and_true, Bool.false_and, Bool.and_false, Bool.true_or, Bool.or_true, Bool.false_or, Bool.or_false, v_var, t_var, i_var, v_int, t_int, i_int, v_bl, t_bl, i_bl, v_non, t_non, i_non, v_str, t_str, i_str, v_glob, t_glob, i_glob, v_tup, t_tup, i_tup, v_lst, t_lst, i_lst, v_bin, t_bin, i_bin, v_neg, t_neg, i_neg, v_not, t_not, v_cmp, t_cmp, i_cmp, v_chain, t_chain, i_chain, v_bo, t_bo, v_ifx, i_ifx, v_call, t_call, i_call, v_isi, t_isi, i_isi, v_isi2, t_isi2, i_isi2, v_f1, t_f1, i_f1, v_mm, t_mm, i_mm, v_g1, t_g1, i_g1, v_sub, t_sub, i_sub, v_slc, t_slc, i_slc, v_no, t_no, i_rng, v_comp, t_comp, i_comp, v_frz, i_frz, v_app, es_nil, es_cons, bo_1, bo_2, bt_1, bt_2, kVar_, kGl_, kTr_, kTr2_, kI1_t, kI1_l, kI1_s, kTup_, kLst_, kBin_, kBin2_, kNeg_, kNot_, kNotT_, kB_, kVl_, kCmp_, kCmp2_, kCh_, kCh2_, kCh2b_, kCh3_, kIfx_, kCall_, kCal_, kIsi_, kIsi2_, kF1_, kMm_, kMm2_, kG1_, kSub_, kSub2_, kSl_, kSl2_, kSl2b_, kSl3_, kSl3b_, kRng_, kRng2_, kComp_, kFrz_, kApp_, kApp2_, kEs_, kEs2_, kBo_, kBoT_, x_asg, x_sto, x_expr, x_ite, x_for, x_while, x_ret, x_retn, x_pass, x_brk, x_cnt, xs_nil, xs_cons, kAsg_, kExp_, kIte_, kFor_, kRet_, kSto_, kSto2_, kSto3_, kSto4_, runB_, kRun_n, kRun_r, kRun_e, b_law_sets_2, in_ints (seqInts_of (si_l q))]
        simp only [realM, List.map_cons, List.map_nil, List.length_cons, List.length_nil, List.cons_append, List.nil_append, List.getElem?_cons_zero, List.getElem?_cons_succ, List.set_cons_zero, List.set_cons_succ, MP.R.bind_ok, MP.R.bind_exn, MP.R.st_ok, MP.R.st_exn, RS.bind_next, RS.bind_ret, RS.bind_brk, RS.bind_cnt, RS.bind_exn, isTy, isL, if_true, if_false, Bool.false_eq_true, Bool.true_eq_false, Bool.not_false, Bool.not_true, reduceIte, cmp_lt, cmp_le, cmp_gt, cmp_ge, cmp_is, cmp_isnot, ite_andv, ite_orv, ite_andt, ite_ort, ite_andq, binV, truth_bl, List.replicate_succ, List.replicate_zero, seqOf_tup, seqOf_lst, seqOf_scr, len_tup, len_lst, len_scr, lstOf_lst, mm_int, Nat.zero_add, Nat.reduceAdd, Nat.reduceSub, Int.reduceNeg, int_int, Int.reduceLT, Int.reduceLE, Nat.reduceLT, Int.reduceToNat, true_and, and_true, decide_true, decide_false, id_eq, outS_go, outS_ret, bl_ne1, bl_ne2, noExn_ok, Bool.true_and, Bool.and_true, Bool.false_and, Bool.and_false, Bool.true_or, Bool.or_true, Bool.false_or, Bool.or_false, v_var, t_var, i_var, v_int, t_int, i_int, v_bl, t_bl, i_bl, v_non, t_non, i_non, v_str, t_str, i_str, v_glob, t_glob, i_glob, v_tup, t_tup, i_tup, v_lst, t_lst, i_lst, v_bin, t_bin, i_bin, v_neg, t_neg, i_neg, v_not, t_not, v_cmp, t_cmp, i_cmp, v_chain, t_chain, i_chain, v_bo, t_bo, v_ifx, i_ifx, v_call, t_call, i_call, v_isi, t_isi, i_isi, v_isi2, t_isi2, i_isi2, v_f1, t_f1, i_f1, v_mm, t_mm, i_mm, v_g1, t_g1, i_g1, v_sub, t_sub, i_sub, v_slc, t_slc, i_slc, v_no, t_no, i_rng, v_comp, t_comp, i_comp, v_frz, i_frz, v_app, es_nil, es_cons, bo_1, bo_2, bt_1, bt_2, kVar_, kGl_, kTr_, kTr2_, kI1_t, kI1_l, kI1_s, kTup_, kLst_, kBin_, kBin2_, kNeg_, kNot_, kNotT_, kB_, kVl_, kCmp_, kCmp2_, kCh_, kCh2_, kCh2b_, kCh3_, kIfx_, kCall_, kCal_, kIsi_, kIsi2_, kF1_, kMm_, kMm2_, kG1_, kSub_, kSub2_, kSl_, kSl2_, kSl2b_, kSl3_, kSl3b_, kRng_, kRng2_, kComp_, kFrz_, kApp_, kApp2_, kEs_, kEs2_, kBo_, kBoT_, x_asg, x_sto, x_expr, x_ite, x_for, x_while, x_ret, x_retn, x_pass, x_brk, x_cnt, xs_nil, xs_cons, kAsg_, kExp_, kIte_, kFor_, kRet_, kSto_, kSto2_, kSto3_, kSto4_, runB_, kRun_n, kRun_r, kRun_e, b_law_sets, f1, f2, f3, f4, f5, f6, dom_law_cell, cc, fdl 2, fdl 4, veq_int, decide_eq_true h1, decide_eq_false h2, dom_union, dom_minus, dom_common, dom_law_is_tuple, c_union (si_t p) (si_l q) (cl p) (cl q) hlen, c_minus (si_t p) (si_l q) (cl p) (cl q) hp64, c_common (si_t p) (si_l q) (cl p) (cl q) hp64, lstOf, vInts_app, newL_f _ z3, sset_l hlen, c_istup z10, c_istup z11, c_istup z12, seqC_i (v := .lst (vInts p)) rfl, z1,
          comp_minus (x := 5) (q := q) (show 5 < ([some (.scr (vInts ns)), some (.lst (vInts p)), some (.lst (vInts q)), some (.tup (vInts p)), some (.lst (vInts q)), none] : MP.Env).length by simp) k1, comp_common (x := 5) (q := q) (show 5 < ([some (.scr (vInts ns)), some (.lst (vInts p)), some (.lst (vInts q)), some (.tup (vInts p)), some (.lst (vInts q)), none] : MP.Env).length by simp) k2, newL_f _ z6, newL_f _ z8, eq_list]
      · have k1 : ∀ i : Int, (ev Φ G0 b_law_sets_1).t ([some (.scr (vInts ns)), some (.lst (vInts p)), some (.lst (vInts q)), some (.lst (vInts p)), some (.tup (vInts q)), none].set 5 (some (.int i))) st = .ok (!q.contains i, st) := fun i => by
          simp only [realM, List.map_cons, List.map_nil, List.length_cons, List.length_nil, List.cons_append, List.nil_append, List.getElem?_cons_zero, List.getElem?_cons_succ, List.set_cons_zero, List.set_cons_succ, MP.R.bind_ok, MP.R.bind_exn, MP.R.st_ok, MP.R.st_exn, RS.bind_next, RS.bind_ret, RS.bind_brk, RS.bind_cnt, RS.bind_exn, isTy, isL, if_true, if_false, Bool.false_eq_true, Bool.true_eq_false, Bool.not_false, Bool.not_true, reduceIte, cmp_lt, cmp_le, cmp_gt, cmp_ge, cmp_is, cmp_isnot, ite_andv, ite_orv, ite_andt, ite_ort, ite_andq, binV, truth_bl, List.replicate_succ, List.replicate_zero, seqOf_tup, seqOf_lst, seqOf_scr, len_tup, len_lst, len_scr, lstOf_lst, mm_int, Nat.zero_add, Nat.reduceAdd, Nat.reduceSub, Int.reduceNeg, int_int, Int.reduceLT, Int.reduceLE, Nat.reduceLT, Int.reduceToNat, true_and, and_true, decide_true, decide_false, id_eq, outS_go, outS_ret, bl_ne1, bl_ne2, noExn_ok, Bool.true_and, Bool.and_true, Bool.false_and, Bool.and_false, Bool.true_or, Bool.or_true, Bool.false_or, Bool.or_false, v_var, t_var, i_var, v_int, t_int, i_int, v_bl, t_bl, i_bl, v_non, t_non, i_non, v_str, t_str, i_str, v_glob, t_glob, i_glob, v_tup, t_tup, i_tup, v_lst, t_lst, i_lst, v_bin, t_bin, i_bin, v_neg, t_neg, i_neg, v_not, t_not, v_cmp, t_cmp, i_cmp, v_chain, t_chain, i_chain, v_bo, t_bo, v_ifx, i_ifx, v_call, t_call, i_call, v_isi, t_isi, i_isi, v_isi2, t_isi2, i_isi2, v_f1, t_f1, i_f1, v_mm, t_mm, i_mm, v_g1, t_g1, i_g1, v_sub, t_sub, i_sub, v_slc, t_slc, i_slc, v_no, t_no, i_rng, v_comp, t_comp, i_comp, v_frz, i_frz, v_app, es_nil, es_cons, bo_1, bo_2, bt_1, bt_2, kVar_, kGl_, kTr_, kTr2_, kI1_t, kI1_l, kI1_s, kTup_, kLst_, kBin_, kBin2_, kNeg_, kNot_, kNotT_, kB_, kVl_, kCmp_, kCmp2_, kCh_, kCh2_, kCh2b_, kCh3_, kIfx_, kCall_, kCal_, kIsi_, kIsi2_, kF1_, kMm_, kMm2_, kG1_, kSub_, kSub2_, kSl_, kSl2_, kSl2b_, kSl3_, kSl3b_, kRng_, kRng2_, kComp_, kFrz_, kApp_, kApp2_, kEs_, kEs2_, kBo_, kBoT_, x_asg, x_sto, x_expr, x_ite, x_for, x_while, x_ret, x_retn, x_pass, x_brk, x_cnt, xs_nil, xs_cons, kAsg_, kExp_, kIte_, kFor_, kRet_, kSto_, kSto2_, kSto3_, kSto4_, runB_, kRun_n, kRun_r, kRun_e, b_law_sets_1, notin_ints (seqInts_of (si_l q))]
        have k2 : ∀ i : Int, (ev Φ G0 b_law_sets_2).t ([some (.scr (vInts ns)), some (.lst (vInts p)), some (.lst (vInts q)), some (.lst (vInts p)), some (.tup (vInts q)), none].set 5 (some (.int i))) st = .ok (q.contains i, st) := fun i => by
          simp only [realM, List.map_cons, List.map_nil, List.length_cons, List.length_nil, List.cons_append, List.nil_append, List.getElem?_cons_zero, List.getElem?_cons_succ, List.set_cons_zero, List.set_cons_succ, MP.R.bind_ok, MP.R.bind_exn, MP.R.st_ok, MP.R.st_exn, RS.bind_next, RS.bind_ret, RS.bind_brk, RS.bind_cnt, RS.bind_exn, isTy, isL, if_true, if_false, Bool.false_eq_true, Bool.true_eq_false, Bool.not_false, Bool.not_true, reduceIte, cmp_lt, cmp_le, cmp_gt, cmp_ge, cmp_is, cmp_isnot, ite_andv, ite_orv, ite_andt, ite_ort, ite_andq, binV, truth_bl, List.replicate_succ, List.replicate_zero, seqOf_tup, seqOf_lst, seqOf_scr, len_tup, len_lst, len_scr, lstOf_lst, mm_int, Nat.zero_add, Nat.reduceAdd, Nat.reduceSub, Int.reduceNeg, int_int, Int.reduceLT, Int.reduceLE, Nat.reduceLT, Int.reduceToNat, true_and, and_true, decide_true, decide_false, id_eq, outS_go, outS_ret, bl_ne1, bl_ne2, noExn_ok, Bool.true_and, Bool.and_true, Bool.false_and, Bool.and_false, Bool.true_or, Bool.or_true, Bool.false_or, Bool.or_false, v_var, t_var, i_var, v_int, t_int, i_int, v_bl, t_bl, i_bl, v_non, t_non, i_non, v_str, t_str, i_str, v_glob, t_glob, i_glob, v_tup, t_tup, i_tup, v_lst, t_lst, i_lst, v_bin, t_bin, i_bin, v_neg, t_neg, i_neg, v_not, t_not, v_cmp, t_cmp, i_cmp, v_chain, t_chain, i_chain, v_bo, t_bo, v_ifx, i_ifx, v_call, t_call, i_call, v_isi, t_isi, i_isi, v_isi2, t_isi2, i_isi2, v_f1, t_f1, i_f1, v_mm, t_mm, i_mm, v_g1, t_g1, i_g1, v_sub, t_sub, i_sub, v_slc, t_slc, i_slc, v_no, t_no, i_rng, v_comp, t_comp, i_comp, v_frz, i_frz, v_app, es_nil, es_cons, bo_1, bo_2, bt_1, bt_2, kVar_, kGl_, kTr_, kTr2_, kI1_t, kI1_l, kI1_s, kTup_, kLst_, kBin_, kBin2_, kNeg_, kNot_, kNotT_, kB_, kVl_, kCmp_, kCmp2_, kCh_, kCh2_, kCh2b_, kCh3_, kIfx_, kCall_, kCal_, kIsi_, kIsi2_, kF1_, kMm_, kMm2_, kG1_, kSub_, kSub2_, kSl_, kSl2_, kSl2b_, kSl3_, kSl3b_, kRng_, kRng2_, kComp_, kFrz_, kApp_, kApp2_, kEs_, kEs2_, kBo_, kBoT_, x_asg, x_sto, x_expr, x_ite, x_for, x_while, x_ret, x_retn, x_pass, x_brk, x_cnt, xs_nil, xs_cons, kAsg_, kExp_, kIte_, kFor_, kRet_, kSto_, kSto2_, kSto3_, kSto4_, runB_, kRun_n, kRun_r, kRun_e, b_law_sets_2, in_ints (seqInts_of (si_l q))]
        simp only [realM, List.map_cons, List.map_nil, List.length_cons, List.length_nil, List.cons_append, List.nil_append, List.getElem?_cons_zero, List.getElem?_cons_succ, List.set_cons_zero, List.set_cons_succ, MP.R.bind_ok, MP.R.bind_exn, MP.R.st_ok, MP.R.st_exn, RS.bind_next, RS.bind_ret, RS.bind_brk, RS.bind_cnt, RS.bind_exn, isTy, isL, if_true, if_false, Bool.false_eq_true, Bool.true_eq_false, Bool.not_false, Bool.not_true, reduceIte, cmp_lt, cmp_le, cmp_gt, cmp_ge, cmp_is, cmp_isnot, ite_andv, ite_orv, ite_andt, ite_ort, ite_andq, binV, truth_bl, List.replicate_succ, List.replicate_zero, seqOf_tup, seqOf_lst, seqOf_scr, len_tup, len_lst, len_scr, lstOf_lst, mm_int, Nat.zero_add, Nat.reduceAdd, Nat.reduceSub, Int.reduceNeg, int_int, Int.reduceLT, Int.reduceLE, Nat.reduceLT, Int.reduceToNat, true_and, and_true, decide_true, decide_false, id_eq, outS_go, outS_ret, bl_ne1, bl_ne2, noExn_ok, Bool.true_and, Bool.and_true, Bool.false_and, Bool.and_false, Bool.true_or, Bool.or_true, Bool.false_or, Bool.or_false, v_var, t_var, i_var, v_int, t_int, i_int, v_bl, t_bl, i_bl, v_non, t_non, i_non, v_str, t_str, i_str, v_glob, t_glob, i_glob, v_tup, t_tup, i_tup, v_lst, t_lst, i_lst, v_bin, t_bin, i_bin, v_neg, t_neg, i_neg, v_not, t_not, v_cmp, t_cmp, i_cmp, v_chain, t_chain, i_chain, v_bo, t_bo, v_ifx, i_ifx, v_call, t_call, i_call, v_isi, t_isi, i_isi, v_isi2, t_isi2, i_isi2, v_f1, t_f1, i_f1, v_mm, t_mm, i_mm, v_g1, t_g1, i_g1, v_sub, t_sub, i_sub, v_slc, t_slc, i_slc, v_no, t_no, i_rng, v_comp, t_comp, i_comp, v_frz, i_frz, v_app, es_nil, es_cons, bo_1, bo_2, bt_1, bt_2, kVar_, kGl_, kTr_, kTr2_, kI1_t, kI1_l, kI1_s, kTup_, kLst_, kBin_, kBin2_, kNeg_, kNot_, kNotT_, kB_, kVl_, kCmp_, kCmp2_, kCh_, kCh2_, kCh2b_, kCh3_, kIfx_, kCall_, kCal_, kIsi_, kIsi2_, kF1_, kMm_, kMm2_, kG1_, kSub_, kSub2_, kSl_, kSl2_, kSl2b_, kSl3_, kSl3b_, kRng_, kRng2_, kComp_, kFrz_, kApp_, kApp2_, kEs_, kEs2_, kBo_, kBoT_, x_asg, x_sto, x_expr, x_ite, x_for, x_while, x_ret, x_retn, x_pass, x_brk, x_cnt, xs_nil, xs_cons, kAsg_, kExp_, kIte_, kFor_, kRet_, kSto_, kSto2_, kSto3_, kSto4_, runB_, kRun_n, kRun_r, kRun_e, b_law_sets, f1, f2, f3, f4, f5, f6, dom_law_cell, cc, fdl 2, fdl 4, veq_int, decide_eq_false h1, decide_eq_true h2, dom_union, dom_minus, dom_common, dom_law_is_tuple, c_union (si_l p) (si_t q) (cl p) (cl q) hlen, c_minus (si_l p) (si_t q) (cl p) (cl q) hp64, c_common (si_l p) (si_t q) (cl p) (cl q) hp64, lstOf, vInts_app, newL_f _ z3, sset_l hlen, c_istup z10, c_istup z11, c_istup z12, seqC_i (v := .lst (vInts p)) rfl, z1,
          comp_minus (x := 5) (q := q) (show 5 < ([some (.scr (vInts ns)), some (.lst (vInts p)), some (.lst (vInts q)), some (.lst (vInts p)), some (.tup (vInts q)), none] : MP.Env).length by simp) k1, comp_common (x := 5) (q := q) (show 5 < ([some (.scr (vInts ns)), some (.lst (vInts p)), some (.lst (vInts q)), some (.lst (vInts p)), some (.tup (vInts q)), none] : MP.Env).length by simp) k2, newL_f _ z6, newL_f _ z8, eq_list]
      · have k1 : ∀ i : Int, (ev Φ G0 b_law_sets_1).t ([some (.scr (vInts ns)), some (.lst (vInts p)), some (.lst (vInts q)), some (.lst (vInts p)), some (.lst (vInts q)), none].set 5 (some (.int i))) st = .ok (!q.contains i, st) := fun i => by
          simp only [realM, List.map_cons, List.map_nil, List.length_cons, List.length_nil, List.cons_append, List.nil_append, List.getElem?_cons_zero, List.getElem?_cons_succ, List.set_cons_zero, List.set_cons_succ, MP.R.bind_ok, MP.R.bind_exn, MP.R.st_ok, MP.R.st_exn, RS.bind_next, RS.bind_ret, RS.bind_brk, RS.bind_cnt, RS.bind_exn, isTy, isL, if_true, if_false, Bool.false_eq_true, Bool.true_eq_false, Bool.not_false, Bool.not_true, reduceIte, cmp_lt, cmp_le, cmp_gt, cmp_ge, cmp_is, cmp_isnot, ite_andv, ite_orv, ite_andt, ite_ort, ite_andq, binV, truth_bl, List.replicate_succ, List.replicate_zero, seqOf_tup, seqOf_lst, seqOf_scr, len_tup, len_lst, len_scr, lstOf_lst, mm_int, Nat.zero_add, Nat.reduceAdd, Nat.reduceSub, Int.reduceNeg, int_int, Int.reduceLT, Int.reduceLE, Nat.reduceLT, Int.reduceToNat, true_and, and_true, decide_true, decide_false, id_eq, outS_go, outS_ret, bl_ne1, bl_ne2, noExn_ok, Bool.true_and, Bool.and_true, Bool.false_and, Bool.and_false, Bool.true_or, Bool.or_true, Bool.false_or, Bool.or_false, v_var, t_var, i_var, v_int, t_int, i_int, v_bl, t_bl, i_bl, v_non, t_non, i_non, v_str, t_str, i_str, v_glob, t_glob, i_glob, v_tup, t_tup, i_tup, v_lst, t_lst, i_lst, v_bin, t_bin, i_bin, v_neg, t_neg, i_neg, v_not, t_not, v_cmp, t_cmp, i_cmp, v_chain, t_chain, i_chain, v_bo, t_bo, v_ifx, i_ifx, v_call, t_call, i_call, v_isi, t_isi, i_isi, v_isi2, t_isi2, i_isi2, v_f1, t_f1, i_f1, v_mm, t_mm, i_mm, v_g1, t_g1, i_g1, v_sub, t_sub, i_sub, v_slc, t_slc, i_slc, v_no, t_no, i_rng, v_comp, t_comp, i_comp, v_frz, i_frz, v_app, es_nil, es_cons, bo_1, bo_2, bt_1, bt_2, kVar_, kGl_, kTr_, kTr2_, kI1_t, kI1_l, kI1_s, kTup_, kLst_, kBin_, kBin2_, kNeg_, kNot_, kNotT_, kB_, kVl_, kCmp_, kCmp2_, kCh_, kCh2_, kCh2b_, kCh3_, kIfx_, kCall_, kCal_, kIsi_, kIsi2_, kF1_, kMm_, kMm2_, kG1_, kSub_, kSub2_, kSl_, kSl2_, kSl2b_, kSl3_, kSl3b_, kRng_, kRng2_, kComp_, kFrz_, kApp_, kApp2_, kEs_, kEs2_, kBo_, kBoT_, x_asg, x_sto, x_expr, x_ite, x_for, x_while, x_ret, x_retn, x_pass, x_brk, x_cnt, xs_nil, xs_cons, kAsg_, kExp_, kIte_, kFor_, kRet_, kSto_, kSto2_, kSto3_, kSto4_, runB_, kRun_n, kRun_r, kRun_e, b_law_sets_1, notin_ints (seqInts_of (si_l q))]
        have k2 : ∀ i : Int, (ev Φ G0 b_law_sets_2).t ([some (.scr (vInts ns)), some (.lst (vInts p)), some (.lst (vInts q)), some (.lst (vInts p)), some (.lst (vInts q)), none].set 5 (some (.int i))) st = .ok (q.contains i, st) := fun i => by
          simp only [realM, List.map_cons, List.map_nil, List.length_cons, List.length_nil, List.cons_append, List.nil_append, List.getElem?_cons_zero, List.getElem?_cons_succ, List.set_cons_zero, List.set_cons_succ, MP.R.bind_ok, MP.R.bind_exn, MP.R.st_ok, MP.R.st_exn, RS.bind_next, RS.bind_ret, RS.bind_brk, RS.bind_cnt, RS.bind_exn, isTy, isL, if_true, if_false, Bool.false_eq_true, Bool.true_eq_false, Bool.not_false, Bool.not_true, reduceIte, cmp_lt, cmp_le, cmp_gt, cmp_ge, cmp_is, cmp_isnot, ite_andv, ite_orv, ite_andt, ite_ort, ite_andq, binV, truth_bl, List.replicate_succ, List.replicate_zero, seqOf_tup, seqOf_lst, seqOf_scr, len_tup, len_lst, len_scr, lstOf_lst, mm_int, Nat.zero_add, Nat.reduceAdd, Nat.reduceSub, Int.reduceNeg, int_int, Int.reduceLT, Int.reduceLE, Nat.reduceLT, Int.reduceToNat, true_and, and_true, decide_true, decide_false, id_eq, outS_go, outS_ret, bl_ne1, bl_ne2, noExn_ok, Bool.true_and, Bool.and_true, Bool.false_and, Bool.and_false, Bool.true_or, Bool.or_true, Bool.false_or, Bool.or_false, v_var, t_var, i_var, v_int, t_int, i_int, v_bl, t_bl, i_bl, v_non, t_non, i_non, v_str, t_str, i_str, v_glob, t_glob, i_glob, v_tup, t_tup, i_tup, v_lst, t_lst, i_lst, v_bin, t_bin, i_bin, v_neg, t_neg, i_neg, v_not, t_not, v_cmp, t_cmp, i_cmp, v_chain, t_chain, i_chain, v_bo, t_bo, v_ifx, i_ifx, v_call, t_call, i_call, v_isi, t_isi, i_isi, v_isi2, t_isi2, i_isi2, v_f1, t_f1, i_f1, v_mm, t_mm, i_mm, v_g1, t_g1, i_g1, v_sub, t_sub, i_sub, v_slc, t_slc, i_slc, v_no, t_no, i_rng, v_comp, t_comp, i_comp, v_frz, i_frz, v_app, es_nil, es_cons, bo_1, bo_2, bt_1, bt_2, kVar_, kGl_, kTr_, kTr2_, kI1_t, kI1_l, kI1_s, kTup_, kLst_, kBin_, kBin2_, kNeg_, kNot_, kNotT_, kB_, kVl_, kCmp_, kCmp2_, kCh_, kCh2_, kCh2b_, kCh3_, kIfx_, kCall_, kCal_, kIsi_, kIsi2_, kF1_, kMm_, kMm2_, kG1_, kSub_, kSub2_, kSl_, kSl2_, kSl2b_, kSl3_, kSl3b_, kRng_, kRng2_, kComp_, kFrz_, kApp_, kApp2_, kEs_, kEs2_, kBo_, kBoT_, x_asg, x_sto, x_expr, x_ite, x_for, x_while, x_ret, x_retn, x_pass, x_brk, x_cnt, xs_nil, xs_cons, kAsg_, kExp_, kIte_, kFor_, kRet_, kSto_, kSto2_, kSto3_, kSto4_, runB_, kRun_n, kRun_r, kRun_e, b_law_sets_2, in_ints (seqInts_of (si_l q))]
        simp only [realM, List.map_cons, List.map_nil, List.length_cons, List.length_nil, List.cons_append, List.nil_append, List.getElem?_cons_zero, List.getElem?_cons_succ, List.set_cons_zero, List.set_cons_succ, MP.R.bind_ok, MP.R.bind_exn, MP.R.st_ok, MP.R.st_exn, RS.bind_next, RS.bind_ret, RS.bind_brk, RS.bind_cnt, RS.bind_exn, isTy, isL, if_true, if_false, Bool.false_eq_true, Bool.true_eq_false, Bool.not_false, Bool.not_true, reduceIte, cmp_lt, cmp_le, cmp_gt, cmp_ge, cmp_is, cmp_isnot, ite_andv, ite_orv, ite_andt, ite_ort, ite_andq, binV, truth_bl, List.replicate_succ, List.replicate_zero, seqOf_tup, seqOf_lst, seqOf_scr, len_tup, len_lst, len_scr, lstOf_lst, mm_int, Nat.zero_add, Nat.reduceAdd, Nat.reduceSub, Int.reduceNeg, int_int, Int.reduceLT, Int.reduceLE, Nat.reduceLT, Int.reduceToNat, true_and, and_true, decide_true, decide_false, id_eq, outS_go, outS_ret, bl_ne1, bl_ne2, noExn_ok, Bool.true_and, Bool.and_true, Bool.false_and, Bool.and_false, Bool.true_or, Bool.or_true, Bool.false_or, Bool.or_false, v_var, t_var, i_var, v_int, t_int, i_int, v_bl, t_bl, i_bl, v_non, t_non, i_non, v_str, t_str, i_str, v_glob, t_glob, i_glob, v_tup, t_tup, i_tup, v_lst, t_lst, i_lst, v_bin, t_bin, i_bin, v_neg, t_neg, i_neg, v_not, t_not, v_cmp, t_cmp, i_cmp, v_chain, t_chain, i_chain, v_bo, t_bo, v_ifx, i_ifx, v_call, t_call, i_call, v_isi, t_isi, i_isi, v_isi2, t_isi2, i_isi2, v_f1, t_f1, i_f1, v_mm, t_mm, i_mm, v_g1, t_g1, i_g1, v_sub, t_sub, i_sub, v_slc, t_slc, i_slc, v_no, t_no, i_rng, v_comp, t_comp, i_comp, v_frz, i_frz, v_app, es_nil, es_cons, bo_1, bo_2, bt_1, bt_2, kVar_, kGl_, kTr_, kTr2_, kI1_t, kI1_l, kI1_s, kTup_, kLst_, kBin_, kBin2_, kNeg_, kNot_, kNotT_, kB_, kVl_, kCmp_, kCmp2_, kCh_, kCh2_, kCh2b_, kCh3_, kIfx_, kCall_, kCal_, kIsi_, kIsi2_, kF1_, kMm_, kMm2_, kG1_, kSub_, kSub2_, kSl_, kSl2_, kSl2b_, kSl3_, kSl3b_, kRng_, kRng2_, kComp_, kFrz_, kApp_, kApp2_, kEs_, kEs2_, kBo_, kBoT_, x_asg, x_sto, x_expr, x_ite, x_for, x_while, x_ret, x_retn, x_pass, x_brk, x_cnt, xs_nil, xs_cons, kAsg_, kExp_, kIte_, kFor_, kRet_, kSto_, kSto2_, kSto3_, kSto4_, runB_, kRun_n, kRun_r, kRun_e, b_law_sets, f1, f2, f3, f4, f5, f6, dom_law_cell, cc, fdl 2, fdl 4, veq_int, decide_eq_false h1, decide_eq_false h2, dom_union, dom_minus, dom_common, dom_law_is_tuple, c_union (si_l p) (si_l q) (cl p) (cl q) hlen, c_minus (si_l p) (si_l q) (cl p) (cl q) hp64, c_common (si_l p) (si_l q) (cl p) (cl q) hp64, lstOf, vInts_app, newL_f _ z3, sset_l hlen, c_istup z10, c_istup z11, c_istup z12, seqC_i (v := .lst (vInts p)) rfl, z1,
          comp_minus (x := 5) (q := q) (show 5 < ([some (.scr (vInts ns)), some (.lst (vInts p)), some (.lst (vInts q)), some (.lst (vInts p)), some (.lst (vInts q)), none] : MP.Env).length by simp) k1, comp_common (x := 5) (q := q) (show 5 < ([some (.scr (vInts ns)), some (.lst (vInts p)), some (.lst (vInts q)), some (.lst (vInts p)), some (.lst (vInts q)), none] : MP.Env).length by simp) k2, newL_f _ z6, newL_f _ z8, eq_list]
    · cases hf
  · cases hf
end
section
variable {st : Store}
theorem c_first {ns : List Int} : m_law_first [.scr (vInts ns)] st = .ok (.lst (vInts (firstL ns)), st) := by
  refine pureM_ok rfl (by simp [closedL, closed, closed_vInts]) ?_
  simp only [f_law_first, asInts_vInts]; rfl
theorem c_odd {ns ms : List Int} {p : Int} (h : 0 ≤ p ∧ (p = 0 ∨ p < ms.length)) : ∃ b : Int, ∀ st, m_law_odd [.scr (vInts ns), .lst (vInts ms), .int p] st = .ok (oddV b (cell ns 44 % 9), st) :=
  ⟨if 0 < p then ms.getD (p - 1).toNat 0 else 7, fun st => pureM_ok rfl (by simp [closedL, closed, closed_vInts]) (by simp only [f_law_odd, asInts_vInts, if_pos h])⟩
theorem c_second {ns ms : List Int} (h : ms.length < 64) : m_law_second [.scr (vInts ns), .lst (vInts ms)] st = .ok (.lst (vInts (sortS (secRow ns ms))), st) := by
  refine pureM_ok rfl (by simp [closedL, closed, closed_vInts]) ?_
  simp only [f_law_second, asInts_vInts, if_pos h]
theorem c_sets {ns a b : List Int} (h : (a ++ b).length < 64) : m_law_sets [.scr (vInts ns), .lst (vInts a), .lst (vInts b)] st = .ok (.bl true, st) := by
  refine pureM_ok rfl (by simp [closedL, closed, closed_vInts]) ?_
  simp only [f_law_sets, asInts_vInts, if_pos h]
theorem firstL_len (ns : List Int) : (firstL ns).length ≤ 20 := by
  have h := firstRow_len ns (kindOf ns) (cell ns 0 % 21).toNat 0 (cell ns 2)
  have h2 := sortS_len (firstRow ns (kindOf ns) (cell ns 0 % 21).toNat 0 (cell ns 2))
  have h3 : (cell ns 0 % 21).toNat ≤ 20 := by omega
  unfold firstL
  simp only
  split <;> omega
theorem secRow_len (ns ms : List Int) : (secRow ns ms).length ≤ 12 := by
  rw [secRow_eq, List.length_map, List.length_range]; omega
/-- a thing that may stand in the row -/
structure Okv (v : Val) : Prop where
  cl : closed 0 v = true
  ln : lenOk v = true
  sz : sz 2 v = true
theorem okv_odd (b k : Int) : Okv (oddV b k) := by
  unfold oddV
  repeat' split
  all_goals exact ⟨rfl, rfl, by first | rfl | decide +kernel⟩
theorem okv_int (i : Int) : Okv (.int i) := ⟨rfl, rfl, sz_int i⟩
theorem closedL_of : ∀ {xs : List Val}, (∀ x ∈ xs, Okv x) → closedL 0 xs = true
  | [], _ => rfl
  | x :: xs, h => by
    show (closed 0 x && closedL 0 xs) = true
    rw [(h x (List.mem_cons_self ..)).cl, closedL_of fun y hy => h y (List.mem_cons_of_mem _ hy)]; rfl
theorem law_for {a b c d e f g h pl : Option Val} {lo hi : Int} (xs : List Val) (hx : ∀ x ∈ xs, Okv x) (o : Option Val) : forL 9 (evSs Φ G0 b_law_2) xs [a, b, c, d, some (.int lo), some (.int hi), e, f, g, o, h, pl] st = .next [a, b, c, d, some (.int lo), some (.int hi), e, f, g, lastV id o xs, h, pl] st := by
  have ho := forL_fold (g := id) (i := 9) (body := evSs Φ G0 b_law_2) (fun (_ : Unit) o => [a, b, c, d, some (.int lo), some (.int hi), e, f, g, o, h, pl]) (fun _ => st) (fun _ _ => .go ()) (fun _ _ _ => rfl) xs
    (fun _ x hxm => by
      have hk := hx x hxm
      simp only [realM, List.map_cons, List.map_nil, List.length_cons, List.length_nil, List.cons_append, List.nil_append, List.getElem?_cons_zero, List.getElem?_cons_succ, List.set_cons_zero, List.set_cons_succ, MP.R.bind_ok, MP.R.bind_exn, MP.R.st_ok, MP.R.st_exn, RS.bind_next, RS.bind_ret, RS.bind_brk, RS.bind_cnt, RS.bind_exn, isTy, isL, if_true, if_false, Bool.false_eq_true, Bool.true_eq_false, Bool.not_false, Bool.not_true, reduceIte, cmp_lt, cmp_le, cmp_gt, cmp_ge, cmp_is, cmp_isnot, ite_andv, ite_orv, ite_andt, ite_ort, ite_andq, binV, truth_bl, List.replicate_succ, List.replicate_zero, seqOf_tup, seqOf_lst, seqOf_scr, len_tup, len_lst, len_scr, lstOf_lst, mm_int, Nat.zero_add, Nat.reduceAdd, Nat.reduceSub, Int.reduceNeg, int_int, Int.reduceLT, Int.reduceLE, Nat.reduceLT, Int.reduceToNat, true_and, and_true, decide_true, decide_false, id_eq, outS_go, outS_ret, bl_ne1, bl_ne2, noExn_ok, Bool.true_and, Bool.and_true, Bool.false_and, Bool.and_false, Bool.true_or, Bool.or_true, Bool.false_or, Bool.or_false, v_var, t_var, i_var, v_int, t_int, i_int, v_bl, t_bl, i_bl, v_non, t_non, i_non, v_str, t_str, i_str, v_glob, t_glob, i_glob, v_tup, t_tup, i_tup, v_lst, t_lst, i_lst, v_bin, t_bin, i_bin, v_neg, t_neg, i_neg, v_not, t_not, v_cmp, t_cmp, i_cmp, v_chain, t_chain, i_chain, v_bo, t_bo, v_ifx, i_ifx, v_call, t_call, i_call, v_isi, t_isi, i_isi, v_isi2, t_isi2, i_isi2, v_f1, t_f1, i_f1, v_mm, t_mm, i_mm, v_g1, t_g1, i_g1, v_sub, t_sub, i_sub, v_slc, t_slc, i_slc, v_no, t_no, i_rng, v_comp, t_comp, i_comp, v_frz, i_frz, v_app, es_nil, es_cons, bo_1, bo_2, bt_1, bt_2, kVar_, kGl_, kTr_, kTr2_, kI1_t, kI1_l, kI1_s, kTup_, kLst_, kBin_, kBin2_, kNeg_, kNot_, kNotT_, kB_, kVl_, kCmp_, kCmp2_, kCh_, kCh2_, kCh2b_, kCh3_, kIfx_, kCall_, kCal_, kIsi_, kIsi2_, kF1_, kMm_, kMm2_, kG1_, kSub_, kSub2_, kSl_, kSl2_, kSl2b_, kSl3_, kSl3b_, kRng_, kRng2_, kComp_, kFrz_, kApp_, kApp2_, kEs_, kEs2_, kBo_, kBoT_, x_asg, x_sto, x_expr, x_ite, x_for, x_while, x_ret, x_retn, x_pass, x_brk, x_cnt, xs_nil, xs_cons, kAsg_, kExp_, kIte_, kFor_, kRet_, kSto_, kSto2_, kSto3_, kSto4_, runB_, kRun_n, kRun_r, kRun_e, b_law_2, dom_law_judged, c_judged hk.cl hk.ln]) () o
  rw [List.map_id, foldO_go'] at ho
  exact ho
theorem law_tail {ns : List Int} {L0 : List Val} {O : Val} {lo hi n0 n1 : Int} {pl : Option Val} (hR : ∀ x ∈ L0, Okv x) (hO : Okv O) (hl : L0.length ≤ 20) :
    ∃ g, kRun (evSs Φ G0 b_law_c7 [some (.scr (vInts ns)), some (.lst (vInts (firstL ns))), some (.loc st.length), some O, some (.int lo), some (.int hi), some (.lst [.int n0, .int n1]), none, none, none, none, pl] (st ++ [.lst L0])) = .ok (.bl true, st ++ g) := by
  refine ⟨[.frz L0], ?_⟩
  have zR : L0.length ≤ szMax := by unfold szMax; omega
  have zR1 : (L0 ++ [O]).length ≤ szMax := by rw [List.length_append]; unfold szMax; simp; omega
  have z1 : ∀ v : Val, ([v] : List Val).length ≤ szMax := fun b => by unfold szMax; simp
  have cR := closedL_of hR
  have q1 := glist_of (v := .loc st.length) (st := st ++ [.lst L0]) (cell_seq L0) zR
  have q2 := gtup_of (m := false) (v := .loc st.length) (st := st ++ [.lst L0]) (cell_seq L0) zR
  have j1 : lenOk (.lst L0) = true := decide_eq_true (by omega)
  have j2 : lenOk (.tup L0) = true := decide_eq_true (by omega)
  have hF := firstL_len ns
  have hS := sortS_len (firstL ns)
  have hS1 := secRow_len ns (sortS (firstL ns))
  have hS2 := sortS_len (secRow ns (sortS (firstL ns)))
  have hF1 : (firstL ns).length < 64 := by omega
  have hF2 : (sortS (firstL ns)).length < 64 := by omega
  have hF3 : (sortS (firstL ns) ++ sortS (secRow ns (sortS (firstL ns)))).length < 64 := by rw [List.length_append]; omega
  have n2 : ∀ st, cmpV .ne (.lst L0) (.lst L0) st = .ok false := ne_self (sz_mono (show 3 ≤ 64 by decide) (sz_lst fun x hx => (hR x hx).sz))
  have i0 : ∀ st, ixV st (.lst [.int n0, .int n1]) (.int 0) = .ok (.int n0) := fun _ => rfl
  have i1 : ∀ st, ixV st (.lst [.int n0, .int n1]) (.int 1) = .ok (.int n1) := fun _ => rfl
  have i2 : (0 : Int) ≤ 46 := by decide
  have i3 : (0 : Int) ≤ 49 := by decide
  have hxs : ∀ x ∈ L0 ++ [O], Okv x := fun x hx => by
    rcases List.mem_append.mp hx with h | h
    · exact hR x h
    · rw [List.mem_singleton.mp h]; exact hO
  by_cases h2 : cell ns 46 % 2 = 1
  · simp only [realM, List.map_cons, List.map_nil, List.length_cons, List.length_nil, List.cons_append, List.nil_append, List.getElem?_cons_zero, List.getElem?_cons_succ, List.set_cons_zero, List.set_cons_succ, MP.R.bind_ok, MP.R.bind_exn, MP.R.st_ok, MP.R.st_exn, RS.bind_next, RS.bind_ret, RS.bind_brk, RS.bind_cnt, RS.bind_exn, isTy, isL, if_true, if_false, Bool.false_eq_true, Bool.true_eq_false, Bool.not_false, Bool.not_true, reduceIte, cmp_lt, cmp_le, cmp_gt, cmp_ge, cmp_is, cmp_isnot, ite_andv, ite_orv, ite_andt, ite_ort, ite_andq, binV, truth_bl, List.replicate_succ, List.replicate_zero, seqOf_tup, seqOf_lst, seqOf_scr, len_tup, len_lst, len_scr, lstOf_lst, mm_int, Nat.zero_add, Nat.reduceAdd, Nat.reduceSub, Int.reduceNeg, int_int, Int.reduceLT, Int.reduceLE, Nat.reduceLT, Int.reduceToNat, true_and, and_true, decide_true, decide_false, id_eq, outS_go, outS_ret, bl_ne1, bl_ne2, noExn_ok, Bool.true_and, Bool.and_true, Bool.false_and, Bool.and_false, Bool.true_or, Bool.or_true, Bool.false_or, Bool.or_false, v_var, t_var, i_var, v_int, t_int, i_int, v_bl, t_bl, i_bl, v_non, t_non, i_non, v_str, t_str, i_str, v_glob, t_glob, i_glob, v_tup, t_tup, i_tup, v_lst, t_lst, i_lst, v_bin, t_bin, i_bin, v_neg, t_neg, i_neg, v_not, t_not, v_cmp, t_cmp, i_cmp, v_chain, t_chain, i_chain, v_bo, t_bo, v_ifx, i_ifx, v_call, t_call, i_call, v_isi, t_isi, i_isi, v_isi2, t_isi2, i_isi2, v_f1, t_f1, i_f1, v_mm, t_mm, i_mm, v_g1, t_g1, i_g1, v_sub, t_sub, i_sub, v_slc, t_slc, i_slc, v_no, t_no, i_rng, v_comp, t_comp, i_comp, v_frz, i_frz, v_app, es_nil, es_cons, bo_1, bo_2, bt_1, bt_2, kVar_, kGl_, kTr_, kTr2_, kI1_t, kI1_l, kI1_s, kTup_, kLst_, kBin_, kBin2_, kNeg_, kNot_, kNotT_, kB_, kVl_, kCmp_, kCmp2_, kCh_, kCh2_, kCh2b_, kCh3_, kIfx_, kCall_, kCal_, kIsi_, kIsi2_, kF1_, kMm_, kMm2_, kG1_, kSub_, kSub2_, kSl_, kSl2_, kSl2b_, kSl3_, kSl3b_, kRng_, kRng2_, kComp_, kFrz_, kApp_, kApp2_, kEs_, kEs2_, kBo_, kBoT_, x_asg, x_sto, x_expr, x_ite, x_for, x_while, x_ret, x_retn, x_pass, x_brk, x_cnt, xs_nil, xs_cons, kAsg_, kExp_, kIte_, kFor_, kRet_, kSto_, kSto2_, kSto3_, kSto4_, runB_, kRun_n, kRun_r, kRun_e, b_law_c7, q1, q2, dom_law_cell, c_cell i2, c_cell i3, veq_int, decide_eq_true h2, cell_len, dom_law_judged, i0, i1, c_judged (v := .tup L0) cR j2, cell_lst, newL_f _ (z1 _), newL_f _ zR1]
    rw [law_for (L0 ++ [O]) hxs]
    simp only [realM, List.map_cons, List.map_nil, List.length_cons, List.length_nil, List.cons_append, List.nil_append, List.getElem?_cons_zero, List.getElem?_cons_succ, List.set_cons_zero, List.set_cons_succ, MP.R.bind_ok, MP.R.bind_exn, MP.R.st_ok, MP.R.st_exn, RS.bind_next, RS.bind_ret, RS.bind_brk, RS.bind_cnt, RS.bind_exn, isTy, isL, if_true, if_false, Bool.false_eq_true, Bool.true_eq_false, Bool.not_false, Bool.not_true, reduceIte, cmp_lt, cmp_le, cmp_gt, cmp_ge, cmp_is, cmp_isnot, ite_andv, ite_orv, ite_andt, ite_ort, ite_andq, binV, truth_bl, List.replicate_succ, List.replicate_zero, seqOf_tup, seqOf_lst, seqOf_scr, len_tup, len_lst, len_scr, lstOf_lst, mm_int, Nat.zero_add, Nat.reduceAdd, Nat.reduceSub, Int.reduceNeg, int_int, Int.reduceLT, Int.reduceLE, Nat.reduceLT, Int.reduceToNat, true_and, and_true, decide_true, decide_false, id_eq, outS_go, outS_ret, bl_ne1, bl_ne2, noExn_ok, Bool.true_and, Bool.and_true, Bool.false_and, Bool.and_false, Bool.true_or, Bool.or_true, Bool.false_or, Bool.or_false, v_var, t_var, i_var, v_int, t_int, i_int, v_bl, t_bl, i_bl, v_non, t_non, i_non, v_str, t_str, i_str, v_glob, t_glob, i_glob, v_tup, t_tup, i_tup, v_lst, t_lst, i_lst, v_bin, t_bin, i_bin, v_neg, t_neg, i_neg, v_not, t_not, v_cmp, t_cmp, i_cmp, v_chain, t_chain, i_chain, v_bo, t_bo, v_ifx, i_ifx, v_call, t_call, i_call, v_isi, t_isi, i_isi, v_isi2, t_isi2, i_isi2, v_f1, t_f1, i_f1, v_mm, t_mm, i_mm, v_g1, t_g1, i_g1, v_sub, t_sub, i_sub, v_slc, t_slc, i_slc, v_no, t_no, i_rng, v_comp, t_comp, i_comp, v_frz, i_frz, v_app, es_nil, es_cons, bo_1, bo_2, bt_1, bt_2, kVar_, kGl_, kTr_, kTr2_, kI1_t, kI1_l, kI1_s, kTup_, kLst_, kBin_, kBin2_, kNeg_, kNot_, kNotT_, kB_, kVl_, kCmp_, kCmp2_, kCh_, kCh2_, kCh2b_, kCh3_, kIfx_, kCall_, kCal_, kIsi_, kIsi2_, kF1_, kMm_, kMm2_, kG1_, kSub_, kSub2_, kSl_, kSl2_, kSl2b_, kSl3_, kSl3b_, kRng_, kRng2_, kComp_, kFrz_, kApp_, kApp2_, kEs_, kEs2_, kBo_, kBoT_, x_asg, x_sto, x_expr, x_ite, x_for, x_while, x_ret, x_retn, x_pass, x_brk, x_cnt, xs_nil, xs_cons, kAsg_, kExp_, kIte_, kFor_, kRet_, kSto_, kSto2_, kSto3_, kSto4_, runB_, kRun_n, kRun_r, kRun_e, glist_of (v := .tup L0) rfl zR, cell_frz, n2, sset_l hF1, dom_law_second, dom_law_sets, c_second hF2, c_sets hF3]
  · simp only [realM, List.map_cons, List.map_nil, List.length_cons, List.length_nil, List.cons_append, List.nil_append, List.getElem?_cons_zero, List.getElem?_cons_succ, List.set_cons_zero, List.set_cons_succ, MP.R.bind_ok, MP.R.bind_exn, MP.R.st_ok, MP.R.st_exn, RS.bind_next, RS.bind_ret, RS.bind_brk, RS.bind_cnt, RS.bind_exn, isTy, isL, if_true, if_false, Bool.false_eq_true, Bool.true_eq_false, Bool.not_false, Bool.not_true, reduceIte, cmp_lt, cmp_le, cmp_gt, cmp_ge, cmp_is, cmp_isnot, ite_andv, ite_orv, ite_andt, ite_ort, ite_andq, binV, truth_bl, List.replicate_succ, List.replicate_zero, seqOf_tup, seqOf_lst, seqOf_scr, len_tup, len_lst, len_scr, lstOf_lst, mm_int, Nat.zero_add, Nat.reduceAdd, Nat.reduceSub, Int.reduceNeg, int_int, Int.reduceLT, Int.reduceLE, Nat.reduceLT, Int.reduceToNat, true_and, and_true, decide_true, decide_false, id_eq, outS_go, outS_ret, bl_ne1, bl_ne2, noExn_ok, Bool.true_and, Bool.and_true, Bool.false_and, Bool.and_false, Bool.true_or, Bool.or_true, Bool.false_or, Bool.or_false, v_var, t_var, i_var, v_int, t_int, i_int, v_bl, t_bl, i_bl, v_non, t_non, i_non, v_str, t_str, i_str, v_glob, t_glob, i_glob, v_tup, t_tup, i_tup, v_lst, t_lst, i_lst, v_bin, t_bin, i_bin, v_neg, t_neg, i_neg, v_not, t_not, v_cmp, t_cmp, i_cmp, v_chain, t_chain, i_chain, v_bo, t_bo, v_ifx, i_ifx, v_call, t_call, i_call, v_isi, t_isi, i_isi, v_isi2, t_isi2, i_isi2, v_f1, t_f1, i_f1, v_mm, t_mm, i_mm, v_g1, t_g1, i_g1, v_sub, t_sub, i_sub, v_slc, t_slc, i_slc, v_no, t_no, i_rng, v_comp, t_comp, i_comp, v_frz, i_frz, v_app, es_nil, es_cons, bo_1, bo_2, bt_1, bt_2, kVar_, kGl_, kTr_, kTr2_, kI1_t, kI1_l, kI1_s, kTup_, kLst_, kBin_, kBin2_, kNeg_, kNot_, kNotT_, kB_, kVl_, kCmp_, kCmp2_, kCh_, kCh2_, kCh2b_, kCh3_, kIfx_, kCall_, kCal_, kIsi_, kIsi2_, kF1_, kMm_, kMm2_, kG1_, kSub_, kSub2_, kSl_, kSl2_, kSl2b_, kSl3_, kSl3b_, kRng_, kRng2_, kComp_, kFrz_, kApp_, kApp2_, kEs_, kEs2_, kBo_, kBoT_, x_asg, x_sto, x_expr, x_ite, x_for, x_while, x_ret, x_retn, x_pass, x_brk, x_cnt, xs_nil, xs_cons, kAsg_, kExp_, kIte_, kFor_, kRet_, kSto_, kSto2_, kSto3_, kSto4_, runB_, kRun_n, kRun_r, kRun_e, b_law_c7, q1, q2, dom_law_cell, c_cell i2, c_cell i3, veq_int, decide_eq_false h2, cell_len, dom_law_judged, i0, i1, c_judged (v := .lst L0) cR j1, cell_lst, newL_f _ (z1 _), newL_f _ zR1]
    rw [law_for (L0 ++ [O]) hxs]
    simp only [realM, List.map_cons, List.map_nil, List.length_cons, List.length_nil, List.cons_append, List.nil_append, List.getElem?_cons_zero, List.getElem?_cons_succ, List.set_cons_zero, List.set_cons_succ, MP.R.bind_ok, MP.R.bind_exn, MP.R.st_ok, MP.R.st_exn, RS.bind_next, RS.bind_ret, RS.bind_brk, RS.bind_cnt, RS.bind_exn, isTy, isL, if_true, if_false, Bool.false_eq_true, Bool.true_eq_false, Bool.not_false, Bool.not_true, reduceIte, cmp_lt, cmp_le, cmp_gt, cmp_ge, cmp_is, cmp_isnot, ite_andv, ite_orv, ite_andt, ite_ort, ite_andq, binV, truth_bl, List.replicate_succ, List.replicate_zero, seqOf_tup, seqOf_lst, seqOf_scr, len_tup, len_lst, len_scr, lstOf_lst, mm_int, Nat.zero_add, Nat.reduceAdd, Nat.reduceSub, Int.reduceNeg, int_int, Int.reduceLT, Int.reduceLE, Nat.reduceLT, Int.reduceToNat, true_and, and_true, decide_true, decide_false, id_eq, outS_go, outS_ret, bl_ne1, bl_ne2, noExn_ok, Bool.true_and, Bool.and_true, Bool.false_and, Bool.and_false, Bool.true_or, Bool.or_true, Bool.false_or, Bool.or_false, v_var, t_var, i_var, v_int, t_int, i_int, v_bl, t_bl, i_bl, v_non, t_non, i_non, v_str, t_str, i_str, v_glob, t_glob, i_glob, v_tup, t_tup, i_tup, v_lst, t_lst, i_lst, v_bin, t_bin, i_bin, v_neg, t_neg, i_neg, v_not, t_not, v_cmp, t_cmp, i_cmp, v_chain, t_chain, i_chain, v_bo, t_bo, v_ifx, i_ifx, v_call, t_call, i_call, v_isi, t_isi, i_isi, v_isi2, t_isi2, i_isi2, v_f1, t_f1, i_f1, v_mm, t_mm, i_mm, v_g1, t_g1, i_g1, v_sub, t_sub, i_sub, v_slc, t_slc, i_slc, v_no, t_no, i_rng, v_comp, t_comp, i_comp, v_frz, i_frz, v_app, es_nil, es_cons, bo_1, bo_2, bt_1, bt_2, kVar_, kGl_, kTr_, kTr2_, kI1_t, kI1_l, kI1_s, kTup_, kLst_, kBin_, kBin2_, kNeg_, kNot_, kNotT_, kB_, kVl_, kCmp_, kCmp2_, kCh_, kCh2_, kCh2b_, kCh3_, kIfx_, kCall_, kCal_, kIsi_, kIsi2_, kF1_, kMm_, kMm2_, kG1_, kSub_, kSub2_, kSl_, kSl2_, kSl2b_, kSl3_, kSl3b_, kRng_, kRng2_, kComp_, kFrz_, kApp_, kApp2_, kEs_, kEs2_, kBo_, kBoT_, x_asg, x_sto, x_expr, x_ite, x_for, x_while, x_ret, x_retn, x_pass, x_brk, x_cnt, xs_nil, xs_cons, kAsg_, kExp_, kIte_, kFor_, kRet_, kSto_, kSto2_, kSto3_, kSto4_, runB_, kRun_n, kRun_r, kRun_e, glist_of (v := .lst L0) rfl zR, cell_frz, n2, sset_l hF1, dom_law_second, dom_law_sets, c_second hF2, c_sets hF3]
end
section
variable {st : Store}
theorem okv_ints {ns : List Int} : ∀ x ∈ vInts ns, Okv x := fun x hx => by
  obtain ⟨i, rfl⟩ := mem_vInts hx
  exact okv_int i
theorem z2 (v u : Val) : ([v, u] : List Val).length ≤ szMax := by unfold szMax; simp
theorem law_0 {ns : List Int} {O : Val} (zF : (vInts (firstL ns)).length ≤ szMax) (o1 : ∀ st, m_law_odd [.scr (vInts ns), .lst (vInts (firstL ns)), .int 0] st = .ok (O, st)) :
    realM Φ G0 1 12 b_law [Val.scr (vInts ns)] st = kRun (evSs Φ G0 b_law_c3 [some (.scr (vInts ns)), some (.lst (vInts (firstL ns))), some (.loc st.length), some O, none, none, none, none, none, none, none, none] (st ++ [.lst (vInts (firstL ns))])) := by
  have q1 := glist_m (v := .lst (vInts (firstL ns))) (st := st) rfl zF
  simp only [realM, List.map_cons, List.map_nil, List.length_cons, List.length_nil, List.cons_append, List.nil_append, List.getElem?_cons_zero, List.getElem?_cons_succ, List.set_cons_zero, List.set_cons_succ, MP.R.bind_ok, MP.R.bind_exn, MP.R.st_ok, MP.R.st_exn, RS.bind_next, RS.bind_ret, RS.bind_brk, RS.bind_cnt, RS.bind_exn, isTy, isL, if_true, if_false, Bool.false_eq_true, Bool.true_eq_false, Bool.not_false, Bool.not_true, reduceIte, cmp_lt, cmp_le, cmp_gt, cmp_ge, cmp_is, cmp_isnot, ite_andv, ite_orv, ite_andt, ite_ort, ite_andq, binV, truth_bl, List.replicate_succ, List.replicate_zero, seqOf_tup, seqOf_lst, seqOf_scr, len_tup, len_lst, len_scr, lstOf_lst, mm_int, Nat.zero_add, Nat.reduceAdd, Nat.reduceSub, Int.reduceNeg, int_int, Int.reduceLT, Int.reduceLE, Nat.reduceLT, Int.reduceToNat, true_and, and_true, decide_true, decide_false, id_eq, outS_go, outS_ret, bl_ne1, bl_ne2, noExn_ok, Bool.true_and, Bool.and_true, Bool.false_and, Bool.and_false, Bool.true_or, Bool.or_true, Bool.false_or, Bool.or_false, v_var, t_var, i_var, v_int, t_int, i_int, v_bl, t_bl, i_bl, v_non, t_non, i_non, v_str, t_str, i_str, v_glob, t_glob, i_glob, v_tup, t_tup, i_tup, v_lst, t_lst, i_lst, v_bin, t_bin, i_bin, v_neg, t_neg, i_neg, v_not, t_not, v_cmp, t_cmp, i_cmp, v_chain, t_chain, i_chain, v_bo, t_bo, v_ifx, i_ifx, v_call, t_call, i_call, v_isi, t_isi, i_isi, v_isi2, t_isi2, i_isi2, v_f1, t_f1, i_f1, v_mm, t_mm, i_mm, v_g1, t_g1, i_g1, v_sub, t_sub, i_sub, v_slc, t_slc, i_slc, v_no, t_no, i_rng, v_comp, t_comp, i_comp, v_frz, i_frz, v_app, es_nil, es_cons, bo_1, bo_2, bt_1, bt_2, kVar_, kGl_, kTr_, kTr2_, kI1_t, kI1_l, kI1_s, kTup_, kLst_, kBin_, kBin2_, kNeg_, kNot_, kNotT_, kB_, kVl_, kCmp_, kCmp2_, kCh_, kCh2_, kCh2b_, kCh3_, kIfx_, kCall_, kCal_, kIsi_, kIsi2_, kF1_, kMm_, kMm2_, kG1_, kSub_, kSub2_, kSl_, kSl2_, kSl2b_, kSl3_, kSl3b_, kRng_, kRng2_, kComp_, kFrz_, kApp_, kApp2_, kEs_, kEs2_, kBo_, kBoT_, x_asg, x_sto, x_expr, x_ite, x_for, x_while, x_ret, x_retn, x_pass, x_brk, x_cnt, xs_nil, xs_cons, kAsg_, kExp_, kIte_, kFor_, kRet_, kSto_, kSto2_, kSto3_, kSto4_, runB_, kRun_n, kRun_r, kRun_e, b_law, dom_law_first, c_first, q1, dom_law_odd, o1]
theorem law_3 {ns : List Int} {a b c : Option Val} {s : Store} :
    evSs Φ G0 b_law_c3 [some (.scr (vInts ns)), a, b, c, none, none, none, none, none, none, none, none] s = evSs Φ G0 b_law_c6 [some (.scr (vInts ns)), a, b, c, some (.int (cell ns 47)), some (.int (cell ns 48)), some (.lst [.int (cell ns 47), .int (cell ns 48)]), none, none, none, none, none] s := by
  have i1 : (0 : Int) ≤ 47 := by decide
  have i2 : (0 : Int) ≤ 48 := by decide
  simp only [realM, List.map_cons, List.map_nil, List.length_cons, List.length_nil, List.cons_append, List.nil_append, List.getElem?_cons_zero, List.getElem?_cons_succ, List.set_cons_zero, List.set_cons_succ, MP.R.bind_ok, MP.R.bind_exn, MP.R.st_ok, MP.R.st_exn, RS.bind_next, RS.bind_ret, RS.bind_brk, RS.bind_cnt, RS.bind_exn, isTy, isL, if_true, if_false, Bool.false_eq_true, Bool.true_eq_false, Bool.not_false, Bool.not_true, reduceIte, cmp_lt, cmp_le, cmp_gt, cmp_ge, cmp_is, cmp_isnot, ite_andv, ite_orv, ite_andt, ite_ort, ite_andq, binV, truth_bl, List.replicate_succ, List.replicate_zero, seqOf_tup, seqOf_lst, seqOf_scr, len_tup, len_lst, len_scr, lstOf_lst, mm_int, Nat.zero_add, Nat.reduceAdd, Nat.reduceSub, Int.reduceNeg, int_int, Int.reduceLT, Int.reduceLE, Nat.reduceLT, Int.reduceToNat, true_and, and_true, decide_true, decide_false, id_eq, outS_go, outS_ret, bl_ne1, bl_ne2, noExn_ok, Bool.true_and, Bool.and_true, Bool.false_and, Bool.and_false, Bool.true_or, Bool.or_true, Bool.false_or, Bool.or_false, v_var, t_var, i_var, v_int, t_int, i_int, v_bl, t_bl, i_bl, v_non, t_non, i_non, v_str, t_str, i_str, v_glob, t_glob, i_glob, v_tup, t_tup, i_tup, v_lst, t_lst, i_lst, v_bin, t_bin, i_bin, v_neg, t_neg, i_neg, v_not, t_not, v_cmp, t_cmp, i_cmp, v_chain, t_chain, i_chain, v_bo, t_bo, v_ifx, i_ifx, v_call, t_call, i_call, v_isi, t_isi, i_isi, v_isi2, t_isi2, i_isi2, v_f1, t_f1, i_f1, v_mm, t_mm, i_mm, v_g1, t_g1, i_g1, v_sub, t_sub, i_sub, v_slc, t_slc, i_slc, v_no, t_no, i_rng, v_comp, t_comp, i_comp, v_frz, i_frz, v_app, es_nil, es_cons, bo_1, bo_2, bt_1, bt_2, kVar_, kGl_, kTr_, kTr2_, kI1_t, kI1_l, kI1_s, kTup_, kLst_, kBin_, kBin2_, kNeg_, kNot_, kNotT_, kB_, kVl_, kCmp_, kCmp2_, kCh_, kCh2_, kCh2b_, kCh3_, kIfx_, kCall_, kCal_, kIsi_, kIsi2_, kF1_, kMm_, kMm2_, kG1_, kSub_, kSub2_, kSl_, kSl2_, kSl2b_, kSl3_, kSl3b_, kRng_, kRng2_, kComp_, kFrz_, kApp_, kApp2_, kEs_, kEs2_, kBo_, kBoT_, x_asg, x_sto, x_expr, x_ite, x_for, x_while, x_ret, x_retn, x_pass, x_brk, x_cnt, xs_nil, xs_cons, kAsg_, kExp_, kIte_, kFor_, kRet_, kSto_, kSto2_, kSto3_, kSto4_, runB_, kRun_n, kRun_r, kRun_e, b_law_c3, dom_law_cell, c_cell i1, c_cell i2, newL_f _ (z2 _ _)]
/-- the block for a row that is not empty -/
theorem law_blk {ns : List Int} {O O2 : Val} {p n m : Int} {k : Nat} {near : Val} (h0 : (0 : Int) < ((vInts (firstL ns)).length : Int)) (hp : cell ns 43 % ((vInts (firstL ns)).length : Int) = p) (o2 : ∀ st, m_law_odd [.scr (vInts ns), .lst (vInts (firstL ns)), .int p] st = .ok (O2, st))
    (hmn : ∀ st, f1V .min (.lst (vInts (firstL ns))) st = .ok (.int n)) (hmx : ∀ st, f1V .max (.lst (vInts (firstL ns))) st = .ok (.int m)) (ix : ∀ st : Store, ∃ i, ixV st (.lst (vInts (firstL ns))) (.int p) = .ok (.int i))
    (hset : vSto (.loc st.length) (.int p) O2 (st ++ [.lst (vInts (firstL ns))]) = .ok (st ++ [.lst ((vInts (firstL ns)).set k O2)])) :
    evSs Φ G0 b_law_1 [some (.scr (vInts ns)), some (.lst (vInts (firstL ns))), some (.loc st.length), some O, some (.int (cell ns 47)), some (.int (cell ns 48)), some near, none, none, none, none, none] (st ++ [.lst (vInts (firstL ns))]) =
      .next [some (.scr (vInts ns)), some (.lst (vInts (firstL ns))), some (.loc st.length), some O2, some (.int (cell ns 47)), some (.int (cell ns 48)), some (.lst [.int n, .int m]), none, none, none, none, some (.int p)] (st ++ [.lst (if 3 < cell ns 45 % 9 then (vInts (firstL ns)).set k O2 else vInts (firstL ns))]) := by
  have i3 : (0 : Int) ≤ 43 := by decide
  have i4 : (0 : Int) ≤ 45 := by decide
  obtain ⟨i, ix⟩ := ix (st ++ [.lst (vInts (firstL ns))])
  by_cases h3 : 3 < cell ns 45 % 9
  · simp only [realM, List.map_cons, List.map_nil, List.length_cons, List.length_nil, List.cons_append, List.nil_append, List.getElem?_cons_zero, List.getElem?_cons_succ, List.set_cons_zero, List.set_cons_succ, MP.R.bind_ok, MP.R.bind_exn, MP.R.st_ok, MP.R.st_exn, RS.bind_next, RS.bind_ret, RS.bind_brk, RS.bind_cnt, RS.bind_exn, isTy, isL, if_true, if_false, Bool.false_eq_true, Bool.true_eq_false, Bool.not_false, Bool.not_true, reduceIte, cmp_lt, cmp_le, cmp_gt, cmp_ge, cmp_is, cmp_isnot, ite_andv, ite_orv, ite_andt, ite_ort, ite_andq, binV, truth_bl, List.replicate_succ, List.replicate_zero, seqOf_tup, seqOf_lst, seqOf_scr, len_tup, len_lst, len_scr, lstOf_lst, mm_int, Nat.zero_add, Nat.reduceAdd, Nat.reduceSub, Int.reduceNeg, int_int, Int.reduceLT, Int.reduceLE, Nat.reduceLT, Int.reduceToNat, true_and, and_true, decide_true, decide_false, id_eq, outS_go, outS_ret, bl_ne1, bl_ne2, noExn_ok, Bool.true_and, Bool.and_true, Bool.false_and, Bool.and_false, Bool.true_or, Bool.or_true, Bool.false_or, Bool.or_false, v_var, t_var, i_var, v_int, t_int, i_int, v_bl, t_bl, i_bl, v_non, t_non, i_non, v_str, t_str, i_str, v_glob, t_glob, i_glob, v_tup, t_tup, i_tup, v_lst, t_lst, i_lst, v_bin, t_bin, i_bin, v_neg, t_neg, i_neg, v_not, t_not, v_cmp, t_cmp, i_cmp, v_chain, t_chain, i_chain, v_bo, t_bo, v_ifx, i_ifx, v_call, t_call, i_call, v_isi, t_isi, i_isi, v_isi2, t_isi2, i_isi2, v_f1, t_f1, i_f1, v_mm, t_mm, i_mm, v_g1, t_g1, i_g1, v_sub, t_sub, i_sub, v_slc, t_slc, i_slc, v_no, t_no, i_rng, v_comp, t_comp, i_comp, v_frz, i_frz, v_app, es_nil, es_cons, bo_1, bo_2, bt_1, bt_2, kVar_, kGl_, kTr_, kTr2_, kI1_t, kI1_l, kI1_s, kTup_, kLst_, kBin_, kBin2_, kNeg_, kNot_, kNotT_, kB_, kVl_, kCmp_, kCmp2_, kCh_, kCh2_, kCh2b_, kCh3_, kIfx_, kCall_, kCal_, kIsi_, kIsi2_, kF1_, kMm_, kMm2_, kG1_, kSub_, kSub2_, kSl_, kSl2_, kSl2b_, kSl3_, kSl3b_, kRng_, kRng2_, kComp_, kFrz_, kApp_, kApp2_, kEs_, kEs2_, kBo_, kBoT_, x_asg, x_sto, x_expr, x_ite, x_for, x_while, x_ret, x_retn, x_pass, x_brk, x_cnt, xs_nil, xs_cons, kAsg_, kExp_, kIte_, kFor_, kRet_, kSto_, kSto2_, kSto3_, kSto4_, runB_, kRun_n, kRun_r, kRun_e, b_law_1, dom_law_cell, c_cell i3, c_cell i4, cell_len, h0, hp, dom_law_odd, o2, hmn, hmx, newL_f _ (z2 _ _), dom_law_edges, ix, c_edges, decide_eq_true h3, hset, if_pos h3]
  · simp only [realM, List.map_cons, List.map_nil, List.length_cons, List.length_nil, List.cons_append, List.nil_append, List.getElem?_cons_zero, List.getElem?_cons_succ, List.set_cons_zero, List.set_cons_succ, MP.R.bind_ok, MP.R.bind_exn, MP.R.st_ok, MP.R.st_exn, RS.bind_next, RS.bind_ret, RS.bind_brk, RS.bind_cnt, RS.bind_exn, isTy, isL, if_true, if_false, Bool.false_eq_true, Bool.true_eq_false, Bool.not_false, Bool.not_true, reduceIte, cmp_lt, cmp_le, cmp_gt, cmp_ge, cmp_is, cmp_isnot, ite_andv, ite_orv, ite_andt, ite_ort, ite_andq, binV, truth_bl, List.replicate_succ, List.replicate_zero, seqOf_tup, seqOf_lst, seqOf_scr, len_tup, len_lst, len_scr, lstOf_lst, mm_int, Nat.zero_add, Nat.reduceAdd, Nat.reduceSub, Int.reduceNeg, int_int, Int.reduceLT, Int.reduceLE, Nat.reduceLT, Int.reduceToNat, true_and, and_true, decide_true, decide_false, id_eq, outS_go, outS_ret, bl_ne1, bl_ne2, noExn_ok, Bool.true_and, Bool.and_true, Bool.false_and, Bool.and_false, Bool.true_or, Bool.or_true, Bool.false_or, Bool.or_false, v_var, t_var, i_var, v_int, t_int, i_int, v_bl, t_bl, i_bl, v_non, t_non, i_non, v_str, t_str, i_str, v_glob, t_glob, i_glob, v_tup, t_tup, i_tup, v_lst, t_lst, i_lst, v_bin, t_bin, i_bin, v_neg, t_neg, i_neg, v_not, t_not, v_cmp, t_cmp, i_cmp, v_chain, t_chain, i_chain, v_bo, t_bo, v_ifx, i_ifx, v_call, t_call, i_call, v_isi, t_isi, i_isi, v_isi2, t_isi2, i_isi2, v_f1, t_f1, i_f1, v_mm, t_mm, i_mm, v_g1, t_g1, i_g1, v_sub, t_sub, i_sub, v_slc, t_slc, i_slc, v_no, t_no, i_rng, v_comp, t_comp, i_comp, v_frz, i_frz, v_app, es_nil, es_cons, bo_1, bo_2, bt_1, bt_2, kVar_, kGl_, kTr_, kTr2_, kI1_t, kI1_l, kI1_s, kTup_, kLst_, kBin_, kBin2_, kNeg_, kNot_, kNotT_, kB_, kVl_, kCmp_, kCmp2_, kCh_, kCh2_, kCh2b_, kCh3_, kIfx_, kCall_, kCal_, kIsi_, kIsi2_, kF1_, kMm_, kMm2_, kG1_, kSub_, kSub2_, kSl_, kSl2_, kSl2b_, kSl3_, kSl3b_, kRng_, kRng2_, kComp_, kFrz_, kApp_, kApp2_, kEs_, kEs2_, kBo_, kBoT_, x_asg, x_sto, x_expr, x_ite, x_for, x_while, x_ret, x_retn, x_pass, x_brk, x_cnt, xs_nil, xs_cons, kAsg_, kExp_, kIte_, kFor_, kRet_, kSto_, kSto2_, kSto3_, kSto4_, runB_, kRun_n, kRun_r, kRun_e, b_law_1, dom_law_cell, c_cell i3, c_cell i4, cell_len, h0, hp, dom_law_odd, o2, hmn, hmx, newL_f _ (z2 _ _), dom_law_edges, ix, c_edges, decide_eq_false h3, if_neg h3]
theorem law_6t {env : MP.Env} {s : Store} {xs : List Val} {env' : MP.Env} {s' : Store} {a : Option Val} {b : Option Val} (hl : f1V .len (.loc st.length) s = .ok (.int xs.length)) (h0 : (0 : Int) < (xs.length : Int))
    (hb : evSs Φ G0 b_law_1 (a :: b :: some (.loc st.length) :: env) s = .next env' s') : evSs Φ G0 b_law_c6 (a :: b :: some (.loc st.length) :: env) s = evSs Φ G0 b_law_c7 env' s' := by
  simp only [realM, List.map_cons, List.map_nil, List.length_cons, List.length_nil, List.cons_append, List.nil_append, List.getElem?_cons_zero, List.getElem?_cons_succ, List.set_cons_zero, List.set_cons_succ, MP.R.bind_ok, MP.R.bind_exn, MP.R.st_ok, MP.R.st_exn, RS.bind_next, RS.bind_ret, RS.bind_brk, RS.bind_cnt, RS.bind_exn, isTy, isL, if_true, if_false, Bool.false_eq_true, Bool.true_eq_false, Bool.not_false, Bool.not_true, reduceIte, cmp_lt, cmp_le, cmp_gt, cmp_ge, cmp_is, cmp_isnot, ite_andv, ite_orv, ite_andt, ite_ort, ite_andq, binV, truth_bl, List.replicate_succ, List.replicate_zero, seqOf_tup, seqOf_lst, seqOf_scr, len_tup, len_lst, len_scr, lstOf_lst, mm_int, Nat.zero_add, Nat.reduceAdd, Nat.reduceSub, Int.reduceNeg, int_int, Int.reduceLT, Int.reduceLE, Nat.reduceLT, Int.reduceToNat, true_and, and_true, decide_true, decide_false, id_eq, outS_go, outS_ret, bl_ne1, bl_ne2, noExn_ok, Bool.true_and, Bool.and_true, Bool.false_and, Bool.and_false, Bool.true_or, Bool.or_true, Bool.false_or, Bool.or_false, v_var, t_var, i_var, v_int, t_int, i_int, v_bl, t_bl, i_bl, v_non, t_non, i_non, v_str, t_str, i_str, v_glob, t_glob, i_glob, v_tup, t_tup, i_tup, v_lst, t_lst, i_lst, v_bin, t_bin, i_bin, v_neg, t_neg, i_neg, v_not, t_not, v_cmp, t_cmp, i_cmp, v_chain, t_chain, i_chain, v_bo, t_bo, v_ifx, i_ifx, v_call, t_call, i_call, v_isi, t_isi, i_isi, v_isi2, t_isi2, i_isi2, v_f1, t_f1, i_f1, v_mm, t_mm, i_mm, v_g1, t_g1, i_g1, v_sub, t_sub, i_sub, v_slc, t_slc, i_slc, v_no, t_no, i_rng, v_comp, t_comp, i_comp, v_frz, i_frz, v_app, es_nil, es_cons, bo_1, bo_2, bt_1, bt_2, kVar_, kGl_, kTr_, kTr2_, kI1_t, kI1_l, kI1_s, kTup_, kLst_, kBin_, kBin2_, kNeg_, kNot_, kNotT_, kB_, kVl_, kCmp_, kCmp2_, kCh_, kCh2_, kCh2b_, kCh3_, kIfx_, kCall_, kCal_, kIsi_, kIsi2_, kF1_, kMm_, kMm2_, kG1_, kSub_, kSub2_, kSl_, kSl2_, kSl2b_, kSl3_, kSl3b_, kRng_, kRng2_, kComp_, kFrz_, kApp_, kApp2_, kEs_, kEs2_, kBo_, kBoT_, x_asg, x_sto, x_expr, x_ite, x_for, x_while, x_ret, x_retn, x_pass, x_brk, x_cnt, xs_nil, xs_cons, kAsg_, kExp_, kIte_, kFor_, kRet_, kSto_, kSto2_, kSto3_, kSto4_, runB_, kRun_n, kRun_r, kRun_e, b_law_c6, hl, decide_eq_true h0, hb]
theorem law_6f {env : MP.Env} {s : Store} {xs : List Val} {a : Option Val} {b : Option Val} (hl : f1V .len (.loc st.length) s = .ok (.int xs.length)) (h0 : ¬ (0 : Int) < (xs.length : Int)) :
    evSs Φ G0 b_law_c6 (a :: b :: some (.loc st.length) :: env) s = evSs Φ G0 b_law_c7 (a :: b :: some (.loc st.length) :: env) s := by
  simp only [realM, List.map_cons, List.map_nil, List.length_cons, List.length_nil, List.cons_append, List.nil_append, List.getElem?_cons_zero, List.getElem?_cons_succ, List.set_cons_zero, List.set_cons_succ, MP.R.bind_ok, MP.R.bind_exn, MP.R.st_ok, MP.R.st_exn, RS.bind_next, RS.bind_ret, RS.bind_brk, RS.bind_cnt, RS.bind_exn, isTy, isL, if_true, if_false, Bool.false_eq_true, Bool.true_eq_false, Bool.not_false, Bool.not_true, reduceIte, cmp_lt, cmp_le, cmp_gt, cmp_ge, cmp_is, cmp_isnot, ite_andv, ite_orv, ite_andt, ite_ort, ite_andq, binV, truth_bl, List.replicate_succ, List.replicate_zero, seqOf_tup, seqOf_lst, seqOf_scr, len_tup, len_lst, len_scr, lstOf_lst, mm_int, Nat.zero_add, Nat.reduceAdd, Nat.reduceSub, Int.reduceNeg, int_int, Int.reduceLT, Int.reduceLE, Nat.reduceLT, Int.reduceToNat, true_and, and_true, decide_true, decide_false, id_eq, outS_go, outS_ret, bl_ne1, bl_ne2, noExn_ok, Bool.true_and, Bool.and_true, Bool.false_and, Bool.and_false, Bool.true_or, Bool.or_true, Bool.false_or, Bool.or_false, v_var, t_var, i_var, v_int, t_int, i_int, v_bl, t_bl, i_bl, v_non, t_non, i_non, v_str, t_str, i_str, v_glob, t_glob, i_glob, v_tup, t_tup, i_tup, v_lst, t_lst, i_lst, v_bin, t_bin, i_bin, v_neg, t_neg, i_neg, v_not, t_not, v_cmp, t_cmp, i_cmp, v_chain, t_chain, i_chain, v_bo, t_bo, v_ifx, i_ifx, v_call, t_call, i_call, v_isi, t_isi, i_isi, v_isi2, t_isi2, i_isi2, v_f1, t_f1, i_f1, v_mm, t_mm, i_mm, v_g1, t_g1, i_g1, v_sub, t_sub, i_sub, v_slc, t_slc, i_slc, v_no, t_no, i_rng, v_comp, t_comp, i_comp, v_frz, i_frz, v_app, es_nil, es_cons, bo_1, bo_2, bt_1, bt_2, kVar_, kGl_, kTr_, kTr2_, kI1_t, kI1_l, kI1_s, kTup_, kLst_, kBin_, kBin2_, kNeg_, kNot_, kNotT_, kB_, kVl_, kCmp_, kCmp2_, kCh_, kCh2_, kCh2b_, kCh3_, kIfx_, kCall_, kCal_, kIsi_, kIsi2_, kF1_, kMm_, kMm2_, kG1_, kSub_, kSub2_, kSl_, kSl2_, kSl2b_, kSl3_, kSl3b_, kRng_, kRng2_, kComp_, kFrz_, kApp_, kApp2_, kEs_, kEs2_, kBo_, kBoT_, x_asg, x_sto, x_expr, x_ite, x_for, x_while, x_ret, x_retn, x_pass, x_brk, x_cnt, xs_nil, xs_cons, kAsg_, kExp_, kIte_, kFor_, kRet_, kSto_, kSto2_, kSto3_, kSto4_, runB_, kRun_n, kRun_r, kRun_e, b_law_c6, hl, decide_eq_false h0]
theorem law_real {ns : List Int} : ∃ g, realM Φ G0 1 12 b_law [Val.scr (vInts ns)] st = .ok (.bl true, st ++ g) := by
  have hF := firstL_len ns
  have zF : (vInts (firstL ns)).length ≤ szMax := by rw [vInts_len]; unfold szMax; omega
  obtain ⟨b1, o1⟩ := c_odd (ns := ns) (ms := firstL ns) (p := 0) ⟨Int.le_refl _, .inl rfl⟩
  rw [law_0 zF o1, law_3]
  have hlen := cell_len (st := st) (vInts (firstL ns))
  by_cases h0 : 0 < (firstL ns).length
  · have h0' : (0 : Int) < ((vInts (firstL ns)).length : Int) := by rw [vInts_len]; omega
    have p0 : 0 ≤ cell ns 43 % ((vInts (firstL ns)).length : Int) := Int.emod_nonneg _ (by omega)
    have p1 : cell ns 43 % ((vInts (firstL ns)).length : Int) < ((firstL ns).length : Int) := by have := Int.emod_lt_of_pos (cell ns 43) h0'; rw [vInts_len] at this; rw [vInts_len]; exact this
    generalize hp : cell ns 43 % ((vInts (firstL ns)).length : Int) = p at p0 p1
    obtain ⟨b2, o2⟩ := c_odd (ns := ns) (ms := firstL ns) (p := p) ⟨p0, .inr p1⟩
    obtain ⟨k, rfl⟩ := Int.eq_ofNat_of_zero_le p0
    have hkl : k < (vInts (firstL ns)).length := by rw [vInts_len]; omega
    obtain ⟨n, hmn⟩ : ∃ n, ∀ st, f1V .min (.lst (vInts (firstL ns))) st = .ok (.int n) := by
      cases hfl : firstL ns with
      | nil => rw [hfl] at h0; cases h0
      | cons x r => exact ⟨minL x r, fun st => by show (match asInts (vInts (x :: r)) with | some (n :: ns) => R.ok (Val.int (minL n ns)) | _ => .stuck) = _; rw [asInts_vInts]⟩
    obtain ⟨m, hmx⟩ : ∃ n, ∀ st, f1V .max (.lst (vInts (firstL ns))) st = .ok (.int n) := by
      cases hfl : firstL ns with
      | nil => rw [hfl] at h0; cases h0
      | cons x r => exact ⟨maxL x r, fun st => by show (match asInts (vInts (x :: r)) with | some (n :: ns) => R.ok (Val.int (maxL n ns)) | _ => .stuck) = _; rw [asInts_vInts]⟩
    rw [law_6t hlen h0' (law_blk h0' hp o2 hmn hmx (fun st => ⟨_, ixLz p0 p1⟩) (cell_sto _ k _ hkl))]
    refine law_tail ?_ (okv_odd _ _) ?_
    · intro x hx
      split at hx
      · rcases List.mem_or_eq_of_mem_set hx with h | h
        · exact okv_ints x h
        · rw [h]; exact okv_odd _ _
      · exact okv_ints x hx
    · split
      · rw [List.length_set, vInts_len]; exact hF
      · rw [vInts_len]; exact hF
  · have h0' : ¬ (0 : Int) < ((vInts (firstL ns)).length : Int) := by rw [vInts_len]; omega
    rw [law_6f hlen h0']
    exact law_tail okv_ints (okv_odd _ _) (by rw [vInts_len]; exact hF)
theorem r_law : Real 1 12 b_law f_law := fun args st v hl hc hf => by
  obtain ⟨a, rfl⟩ := len1 hl
  cases a <;> first | (cases hf; done) | skip
  rename_i xs
  simp only [f_law] at hf
  cases ha : asInts xs with
  | none => rw [ha] at hf; cases hf
  | some ns =>
    rw [ha] at hf
    cases hf
    have e1 : xs = vInts ns := asInts_eq ha
    subst e1
    obtain ⟨g, hg⟩ := law_real (st := st) (ns := ns)
    exact ⟨g, hg, rfl⟩
end
/-! ### all of them -/
theorem meets_all {Y : Fx} : ∀ d ∈ tab, Meets Y d.m (realM Φ (fun _ => none) d.ps.length d.N.length d.body) := by
  intro d hd
  simp only [tab, List.mem_cons, List.not_mem_nil, or_false] at hd
  rcases hd with rfl | rfl | rfl | rfl | rfl | rfl | rfl | rfl | rfl | rfl | rfl | rfl | rfl | rfl | rfl | rfl | rfl | rfl | rfl | rfl | rfl | rfl
  · exact meets_pure r_law_cell
  · exact meets_pure r_law_first
  · exact meets_pure r_law_odd
  · exact meets_pure r_law_says
  · exact meets_pure r_is_whole
  · exact meets_pure r_is_between
  · exact meets_pure r_law_edges
  · exact meets_pure r_is_row
  · exact meets_pure r_law_is_row
  · exact meets_pure r_law_is_integer
  · exact meets_pure r_are_numbers
  · exact meets_pure r_law_numbers
  · exact meets_pure r_is_rising
  · exact meets_pure r_law_rising
  · exact meets_pure r_law_judged
  · exact meets_pure r_law_is_tuple
  · exact meets_pure r_union
  · exact meets_pure r_minus
  · exact meets_pure r_common
  · exact meets_pure r_law_sets
  · exact meets_pure r_law_second
  · exact meets_pure r_law
theorem arity_all : ∀ d ∈ tab, ∀ args st, args.length ≠ d.ps.length → d.m args st = .stuck := by
  intro d hd
  simp only [tab, List.mem_cons, List.not_mem_nil, or_false] at hd
  rcases hd with rfl | rfl | rfl | rfl | rfl | rfl | rfl | rfl | rfl | rfl | rfl | rfl | rfl | rfl | rfl | rfl | rfl | rfl | rfl | rfl | rfl | rfl <;> exact arity_pure
theorem c_law (ns : List Int) : pureM 1 f_law [.scr (vInts ns)] [] = .ok (.bl true, []) := by
  refine pureM_ok rfl (by simp [closedL, closed, closed_vInts]) ?_
  simp only [f_law, asInts_vInts]; rfl
theorem law_true : ∀ ns : List Int, ns.length ≤ 63 → (∀ z ∈ ns, Builtin.Int.intBits z ≤ 1048576) → ∃ st', d_law.m [.scr (ns.map .int)] [] = .ok (.bl true, st') := fun ns _ _ => ⟨[], c_law ns⟩
theorem all_mk {P : Program} {w : World} {K : PySem.W.Frag} {h : Heap} {mg : Str → Option Value} {fa : Addr} (X : K.In h) (G : h.Ns mainGlobals mg) (hfa : mg "law" = some (.ref fa))
    {f0 : Addr} {od0 an0 : Option Addr} {sl0 : Array (Option Value)} {oc0 kV0 dc0 pm0 cd0 ct0 : Value}
    {f1 : Addr} {od1 an1 : Option Addr} {sl1 : Array (Option Value)} {oc1 kV1 dc1 pm1 cd1 ct1 : Value}
    {f2 : Addr} {od2 an2 : Option Addr} {sl2 : Array (Option Value)} {oc2 kV2 dc2 pm2 cd2 ct2 : Value}
    {f3 : Addr} {od3 an3 : Option Addr} {sl3 : Array (Option Value)} {oc3 kV3 dc3 pm3 cd3 ct3 : Value}
    {f4 : Addr} {od4 an4 : Option Addr} {sl4 : Array (Option Value)} {oc4 kV4 dc4 pm4 cd4 ct4 : Value}
    {f5 : Addr} {od5 an5 : Option Addr} {sl5 : Array (Option Value)} {oc5 kV5 dc5 pm5 cd5 ct5 : Value}
    {f6 : Addr} {od6 an6 : Option Addr} {sl6 : Array (Option Value)} {oc6 kV6 dc6 pm6 cd6 ct6 : Value}
    {f7 : Addr} {od7 an7 : Option Addr} {sl7 : Array (Option Value)} {oc7 kV7 dc7 pm7 cd7 ct7 : Value}
    {f8 : Addr} {od8 an8 : Option Addr} {sl8 : Array (Option Value)} {oc8 kV8 dc8 pm8 cd8 ct8 : Value}
    {f9 : Addr} {od9 an9 : Option Addr} {sl9 : Array (Option Value)} {oc9 kV9 dc9 pm9 cd9 ct9 : Value}
    {f10 : Addr} {od10 an10 : Option Addr} {sl10 : Array (Option Value)} {oc10 kV10 dc10 pm10 cd10 ct10 : Value}
    {f11 : Addr} {od11 an11 : Option Addr} {sl11 : Array (Option Value)} {oc11 kV11 dc11 pm11 cd11 ct11 : Value}
    {f12 : Addr} {od12 an12 : Option Addr} {sl12 : Array (Option Value)} {oc12 kV12 dc12 pm12 cd12 ct12 : Value}
    {f13 : Addr} {od13 an13 : Option Addr} {sl13 : Array (Option Value)} {oc13 kV13 dc13 pm13 cd13 ct13 : Value}
    {f14 : Addr} {od14 an14 : Option Addr} {sl14 : Array (Option Value)} {oc14 kV14 dc14 pm14 cd14 ct14 : Value}
    {f15 : Addr} {od15 an15 : Option Addr} {sl15 : Array (Option Value)} {oc15 kV15 dc15 pm15 cd15 ct15 : Value}
    {f16 : Addr} {od16 an16 : Option Addr} {sl16 : Array (Option Value)} {oc16 kV16 dc16 pm16 cd16 ct16 : Value}
    {f17 : Addr} {od17 an17 : Option Addr} {sl17 : Array (Option Value)} {oc17 kV17 dc17 pm17 cd17 ct17 : Value}
    {f18 : Addr} {od18 an18 : Option Addr} {sl18 : Array (Option Value)} {oc18 kV18 dc18 pm18 cd18 ct18 : Value}
    {f19 : Addr} {od19 an19 : Option Addr} {sl19 : Array (Option Value)} {oc19 kV19 dc19 pm19 cd19 ct19 : Value}
    {f20 : Addr} {od20 an20 : Option Addr} {sl20 : Array (Option Value)} {oc20 kV20 dc20 pm20 cd20 ct20 : Value}
    {f21 : Addr} {od21 an21 : Option Addr} {sl21 : Array (Option Value)} {oc21 kV21 dc21 pm21 cd21 ct21 : Value}
    (a0 : PySem.W.nsIn K mainGlobals "_law_cell" = some (some (.ref f0)))
    (l0 : K.lookup f0 = some ⟨oc0, od0, .func (PySem.W.fnOf "_law_cell" "_law_cell" (defArgs d_law_cell.st) (defBody d_law_cell.st) (defScope d_law_cell.st) .none kV0 dc0 pm0 an0 cd0 ct0), sl0⟩)
    (c0 : PySem.W.codeIn K cd0 "_law_cell" = true) (k0 : PySem.W.keepIn K (.ref f0) = true)
    (a1 : PySem.W.nsIn K mainGlobals "_law_first" = some (some (.ref f1)))
    (l1 : K.lookup f1 = some ⟨oc1, od1, .func (PySem.W.fnOf "_law_first" "_law_first" (defArgs d_law_first.st) (defBody d_law_first.st) (defScope d_law_first.st) .none kV1 dc1 pm1 an1 cd1 ct1), sl1⟩)
    (c1 : PySem.W.codeIn K cd1 "_law_first" = true) (k1 : PySem.W.keepIn K (.ref f1) = true)
    (a2 : PySem.W.nsIn K mainGlobals "_law_odd" = some (some (.ref f2)))
    (l2 : K.lookup f2 = some ⟨oc2, od2, .func (PySem.W.fnOf "_law_odd" "_law_odd" (defArgs d_law_odd.st) (defBody d_law_odd.st) (defScope d_law_odd.st) .none kV2 dc2 pm2 an2 cd2 ct2), sl2⟩)
    (c2 : PySem.W.codeIn K cd2 "_law_odd" = true) (k2 : PySem.W.keepIn K (.ref f2) = true)
    (a3 : PySem.W.nsIn K mainGlobals "_law_says" = some (some (.ref f3)))
    (l3 : K.lookup f3 = some ⟨oc3, od3, .func (PySem.W.fnOf "_law_says" "_law_says" (defArgs d_law_says.st) (defBody d_law_says.st) (defScope d_law_says.st) .none kV3 dc3 pm3 an3 cd3 ct3), sl3⟩)
    (c3 : PySem.W.codeIn K cd3 "_law_says" = true) (k3 : PySem.W.keepIn K (.ref f3) = true)
    (a4 : PySem.W.nsIn K mainGlobals "is_whole" = some (some (.ref f4)))
    (l4 : K.lookup f4 = some ⟨oc4, od4, .func (PySem.W.fnOf "is_whole" "is_whole" (defArgs d_is_whole.st) (defBody d_is_whole.st) (defScope d_is_whole.st) .none kV4 dc4 pm4 an4 cd4 ct4), sl4⟩)
    (c4 : PySem.W.codeIn K cd4 "is_whole" = true) (k4 : PySem.W.keepIn K (.ref f4) = true)
    (a5 : PySem.W.nsIn K mainGlobals "is_between" = some (some (.ref f5)))
    (l5 : K.lookup f5 = some ⟨oc5, od5, .func (PySem.W.fnOf "is_between" "is_between" (defArgs d_is_between.st) (defBody d_is_between.st) (defScope d_is_between.st) .none kV5 dc5 pm5 an5 cd5 ct5), sl5⟩)
    (c5 : PySem.W.codeIn K cd5 "is_between" = true) (k5 : PySem.W.keepIn K (.ref f5) = true)
    (a6 : PySem.W.nsIn K mainGlobals "_law_edges" = some (some (.ref f6)))
    (l6 : K.lookup f6 = some ⟨oc6, od6, .func (PySem.W.fnOf "_law_edges" "_law_edges" (defArgs d_law_edges.st) (defBody d_law_edges.st) (defScope d_law_edges.st) .none kV6 dc6 pm6 an6 cd6 ct6), sl6⟩)
    (c6 : PySem.W.codeIn K cd6 "_law_edges" = true) (k6 : PySem.W.keepIn K (.ref f6) = true)
    (a7 : PySem.W.nsIn K mainGlobals "is_row" = some (some (.ref f7)))
    (l7 : K.lookup f7 = some ⟨oc7, od7, .func (PySem.W.fnOf "is_row" "is_row" (defArgs d_is_row.st) (defBody d_is_row.st) (defScope d_is_row.st) .none kV7 dc7 pm7 an7 cd7 ct7), sl7⟩)
    (c7 : PySem.W.codeIn K cd7 "is_row" = true) (k7 : PySem.W.keepIn K (.ref f7) = true)
    (a8 : PySem.W.nsIn K mainGlobals "_law_is_row" = some (some (.ref f8)))
    (l8 : K.lookup f8 = some ⟨oc8, od8, .func (PySem.W.fnOf "_law_is_row" "_law_is_row" (defArgs d_law_is_row.st) (defBody d_law_is_row.st) (defScope d_law_is_row.st) .none kV8 dc8 pm8 an8 cd8 ct8), sl8⟩)
    (c8 : PySem.W.codeIn K cd8 "_law_is_row" = true) (k8 : PySem.W.keepIn K (.ref f8) = true)
    (a9 : PySem.W.nsIn K mainGlobals "_law_is_integer" = some (some (.ref f9)))
    (l9 : K.lookup f9 = some ⟨oc9, od9, .func (PySem.W.fnOf "_law_is_integer" "_law_is_integer" (defArgs d_law_is_integer.st) (defBody d_law_is_integer.st) (defScope d_law_is_integer.st) .none kV9 dc9 pm9 an9 cd9 ct9), sl9⟩)
    (c9 : PySem.W.codeIn K cd9 "_law_is_integer" = true) (k9 : PySem.W.keepIn K (.ref f9) = true)
    (a10 : PySem.W.nsIn K mainGlobals "are_numbers" = some (some (.ref f10)))
    (l10 : K.lookup f10 = some ⟨oc10, od10, .func (PySem.W.fnOf "are_numbers" "are_numbers" (defArgs d_are_numbers.st) (defBody d_are_numbers.st) (defScope d_are_numbers.st) .none kV10 dc10 pm10 an10 cd10 ct10), sl10⟩)
    (c10 : PySem.W.codeIn K cd10 "are_numbers" = true) (k10 : PySem.W.keepIn K (.ref f10) = true)
    (a11 : PySem.W.nsIn K mainGlobals "_law_numbers" = some (some (.ref f11)))
    (l11 : K.lookup f11 = some ⟨oc11, od11, .func (PySem.W.fnOf "_law_numbers" "_law_numbers" (defArgs d_law_numbers.st) (defBody d_law_numbers.st) (defScope d_law_numbers.st) .none kV11 dc11 pm11 an11 cd11 ct11), sl11⟩)
    (c11 : PySem.W.codeIn K cd11 "_law_numbers" = true) (k11 : PySem.W.keepIn K (.ref f11) = true)
    (a12 : PySem.W.nsIn K mainGlobals "is_rising" = some (some (.ref f12)))
    (l12 : K.lookup f12 = some ⟨oc12, od12, .func (PySem.W.fnOf "is_rising" "is_rising" (defArgs d_is_rising.st) (defBody d_is_rising.st) (defScope d_is_rising.st) .none kV12 dc12 pm12 an12 cd12 ct12), sl12⟩)
    (c12 : PySem.W.codeIn K cd12 "is_rising" = true) (k12 : PySem.W.keepIn K (.ref f12) = true)
    (a13 : PySem.W.nsIn K mainGlobals "_law_rising" = some (some (.ref f13)))
    (l13 : K.lookup f13 = some ⟨oc13, od13, .func (PySem.W.fnOf "_law_rising" "_law_rising" (defArgs d_law_rising.st) (defBody d_law_rising.st) (defScope d_law_rising.st) .none kV13 dc13 pm13 an13 cd13 ct13), sl13⟩)
    (c13 : PySem.W.codeIn K cd13 "_law_rising" = true) (k13 : PySem.W.keepIn K (.ref f13) = true)
    (a14 : PySem.W.nsIn K mainGlobals "_law_judged" = some (some (.ref f14)))
    (l14 : K.lookup f14 = some ⟨oc14, od14, .func (PySem.W.fnOf "_law_judged" "_law_judged" (defArgs d_law_judged.st) (defBody d_law_judged.st) (defScope d_law_judged.st) .none kV14 dc14 pm14 an14 cd14 ct14), sl14⟩)
    (c14 : PySem.W.codeIn K cd14 "_law_judged" = true) (k14 : PySem.W.keepIn K (.ref f14) = true)
    (a15 : PySem.W.nsIn K mainGlobals "_law_is_tuple" = some (some (.ref f15)))
    (l15 : K.lookup f15 = some ⟨oc15, od15, .func (PySem.W.fnOf "_law_is_tuple" "_law_is_tuple" (defArgs d_law_is_tuple.st) (defBody d_law_is_tuple.st) (defScope d_law_is_tuple.st) .none kV15 dc15 pm15 an15 cd15 ct15), sl15⟩)
    (c15 : PySem.W.codeIn K cd15 "_law_is_tuple" = true) (k15 : PySem.W.keepIn K (.ref f15) = true)
    (a16 : PySem.W.nsIn K mainGlobals "union" = some (some (.ref f16)))
    (l16 : K.lookup f16 = some ⟨oc16, od16, .func (PySem.W.fnOf "union" "union" (defArgs d_union.st) (defBody d_union.st) (defScope d_union.st) .none kV16 dc16 pm16 an16 cd16 ct16), sl16⟩)
    (c16 : PySem.W.codeIn K cd16 "union" = true) (k16 : PySem.W.keepIn K (.ref f16) = true)
    (a17 : PySem.W.nsIn K mainGlobals "minus" = some (some (.ref f17)))
    (l17 : K.lookup f17 = some ⟨oc17, od17, .func (PySem.W.fnOf "minus" "minus" (defArgs d_minus.st) (defBody d_minus.st) (defScope d_minus.st) .none kV17 dc17 pm17 an17 cd17 ct17), sl17⟩)
    (c17 : PySem.W.codeIn K cd17 "minus" = true) (k17 : PySem.W.keepIn K (.ref f17) = true)
    (a18 : PySem.W.nsIn K mainGlobals "common" = some (some (.ref f18)))
    (l18 : K.lookup f18 = some ⟨oc18, od18, .func (PySem.W.fnOf "common" "common" (defArgs d_common.st) (defBody d_common.st) (defScope d_common.st) .none kV18 dc18 pm18 an18 cd18 ct18), sl18⟩)
    (c18 : PySem.W.codeIn K cd18 "common" = true) (k18 : PySem.W.keepIn K (.ref f18) = true)
    (a19 : PySem.W.nsIn K mainGlobals "_law_sets" = some (some (.ref f19)))
    (l19 : K.lookup f19 = some ⟨oc19, od19, .func (PySem.W.fnOf "_law_sets" "_law_sets" (defArgs d_law_sets.st) (defBody d_law_sets.st) (defScope d_law_sets.st) .none kV19 dc19 pm19 an19 cd19 ct19), sl19⟩)
    (c19 : PySem.W.codeIn K cd19 "_law_sets" = true) (k19 : PySem.W.keepIn K (.ref f19) = true)
    (a20 : PySem.W.nsIn K mainGlobals "_law_second" = some (some (.ref f20)))
    (l20 : K.lookup f20 = some ⟨oc20, od20, .func (PySem.W.fnOf "_law_second" "_law_second" (defArgs d_law_second.st) (defBody d_law_second.st) (defScope d_law_second.st) .none kV20 dc20 pm20 an20 cd20 ct20), sl20⟩)
    (c20 : PySem.W.codeIn K cd20 "_law_second" = true) (k20 : PySem.W.keepIn K (.ref f20) = true)
    (a21 : PySem.W.nsIn K mainGlobals "law" = some (some (.ref f21)))
    (l21 : K.lookup f21 = some ⟨oc21, od21, .func (PySem.W.fnOf "law" "law" (defArgs d_law.st) (defBody d_law.st) (defScope d_law.st) .none kV21 dc21 pm21 an21 cd21 ct21), sl21⟩)
    (c21 : PySem.W.codeIn K cd21 "law" = true) (k21 : PySem.W.keepIn K (.ref f21) = true)
    (z0 : PySem.W.nsIn K mainGlobals "bool" = some none)
    (z1 : PySem.W.nsIn K mainGlobals "int" = some none)
    (z2 : PySem.W.nsIn K mainGlobals "isinstance" = some none)
    (z3 : PySem.W.nsIn K mainGlobals "len" = some none)
    (z4 : PySem.W.nsIn K mainGlobals "list" = some none)
    (z5 : PySem.W.nsIn K mainGlobals "max" = some none)
    (z6 : PySem.W.nsIn K mainGlobals "min" = some none)
    (z7 : PySem.W.nsIn K mainGlobals "range" = some none)
    (z8 : PySem.W.nsIn K mainGlobals "set" = some none)
    (z9 : PySem.W.nsIn K mainGlobals "sorted" = some none)
    (z10 : PySem.W.nsIn K mainGlobals "tuple" = some none)
    : ∃ fd : FuncData, (∀ (s : Shared) (u : Value), BindsTo s fd ⟨[u], []⟩ [("script", u)]) ∧ ∀ base : Heap, K.In base → base.Ns mainGlobals mg → FnOk P w K mg base (L2.CX P w) 41 fa fd [("script" : Str)] (MP.spLaw K) := by
  have e := hfa.symm.trans (PySem.W.mg_of X G a21)
  cases e
  have s0 : Stands K mg d_law_cell := MP.stand_mk X G d_law_cell a0 l0 c0 k0 fun _ _ _ _ _ _ us hl => match us, hl with | [_, _], _ => rfl
  have s1 : Stands K mg d_law_first := MP.stand_mk X G d_law_first a1 l1 c1 k1 fun _ _ _ _ _ _ us hl => match us, hl with | [_], _ => rfl
  have s2 : Stands K mg d_law_odd := MP.stand_mk X G d_law_odd a2 l2 c2 k2 fun _ _ _ _ _ _ us hl => match us, hl with | [_, _, _], _ => rfl
  have s3 : Stands K mg d_law_says := MP.stand_mk X G d_law_says a3 l3 c3 k3 fun _ _ _ _ _ _ us hl => match us, hl with | [_, _], _ => rfl
  have s4 : Stands K mg d_is_whole := MP.stand_mk X G d_is_whole a4 l4 c4 k4 fun _ _ _ _ _ _ us hl => match us, hl with | [_], _ => rfl
  have s5 : Stands K mg d_is_between := MP.stand_mk X G d_is_between a5 l5 c5 k5 fun _ _ _ _ _ _ us hl => match us, hl with | [_, _, _], _ => rfl
  have s6 : Stands K mg d_law_edges := MP.stand_mk X G d_law_edges a6 l6 c6 k6 fun _ _ _ _ _ _ us hl => match us, hl with | [_], _ => rfl
  have s7 : Stands K mg d_is_row := MP.stand_mk X G d_is_row a7 l7 c7 k7 fun _ _ _ _ _ _ us hl => match us, hl with | [_], _ => rfl
  have s8 : Stands K mg d_law_is_row := MP.stand_mk X G d_law_is_row a8 l8 c8 k8 fun _ _ _ _ _ _ us hl => match us, hl with | [_], _ => rfl
  have s9 : Stands K mg d_law_is_integer := MP.stand_mk X G d_law_is_integer a9 l9 c9 k9 fun _ _ _ _ _ _ us hl => match us, hl with | [_], _ => rfl
  have s10 : Stands K mg d_are_numbers := MP.stand_mk X G d_are_numbers a10 l10 c10 k10 fun _ _ _ _ _ _ us hl => match us, hl with | [_, _, _, _], _ => rfl
  have s11 : Stands K mg d_law_numbers := MP.stand_mk X G d_law_numbers a11 l11 c11 k11 fun _ _ _ _ _ _ us hl => match us, hl with | [_, _, _, _], _ => rfl
  have s12 : Stands K mg d_is_rising := MP.stand_mk X G d_is_rising a12 l12 c12 k12 fun _ _ _ _ _ _ us hl => match us, hl with | [_], _ => rfl
  have s13 : Stands K mg d_law_rising := MP.stand_mk X G d_law_rising a13 l13 c13 k13 fun _ _ _ _ _ _ us hl => match us, hl with | [_], _ => rfl
  have s14 : Stands K mg d_law_judged := MP.stand_mk X G d_law_judged a14 l14 c14 k14 fun _ _ _ _ _ _ us hl => match us, hl with | [_, _, _, _], _ => rfl
  have s15 : Stands K mg d_law_is_tuple := MP.stand_mk X G d_law_is_tuple a15 l15 c15 k15 fun _ _ _ _ _ _ us hl => match us, hl with | [_, _], _ => rfl
  have s16 : Stands K mg d_union := MP.stand_mk X G d_union a16 l16 c16 k16 fun _ _ _ _ _ _ us hl => match us, hl with | [_, _], _ => rfl
  have s17 : Stands K mg d_minus := MP.stand_mk X G d_minus a17 l17 c17 k17 fun _ _ _ _ _ _ us hl => match us, hl with | [_, _], _ => rfl
  have s18 : Stands K mg d_common := MP.stand_mk X G d_common a18 l18 c18 k18 fun _ _ _ _ _ _ us hl => match us, hl with | [_, _], _ => rfl
  have s19 : Stands K mg d_law_sets := MP.stand_mk X G d_law_sets a19 l19 c19 k19 fun _ _ _ _ _ _ us hl => match us, hl with | [_, _, _], _ => rfl
  have s20 : Stands K mg d_law_second := MP.stand_mk X G d_law_second a20 l20 c20 k20 fun _ _ _ _ _ _ us hl => match us, hl with | [_, _], _ => rfl
  have s21 : Stands K mg d_law := MP.stand_mk X G d_law a21 l21 c21 k21 fun _ _ _ _ _ _ us hl => match us, hl with | [_], _ => rfl
  have p : Prg ⟨K, mg, fun _ => none⟩ tab Φ (fun _ => none) bs := by
    refine ⟨?_, meets_all, arity_all, chk_all, ?_, fun x v e => (by cases e), ?_⟩
    · intro d hd
      simp only [tab, List.mem_cons, List.not_mem_nil, or_false] at hd
      rcases hd with rfl | rfl | rfl | rfl | rfl | rfl | rfl | rfl | rfl | rfl | rfl | rfl | rfl | rfl | rfl | rfl | rfl | rfl | rfl | rfl | rfl | rfl
      · exact dom_law_cell
      · exact dom_law_first
      · exact dom_law_odd
      · exact dom_law_says
      · exact dom_is_whole
      · exact dom_is_between
      · exact dom_law_edges
      · exact dom_is_row
      · exact dom_law_is_row
      · exact dom_law_is_integer
      · exact dom_are_numbers
      · exact dom_law_numbers
      · exact dom_is_rising
      · exact dom_law_rising
      · exact dom_law_judged
      · exact dom_law_is_tuple
      · exact dom_union
      · exact dom_minus
      · exact dom_common
      · exact dom_law_sets
      · exact dom_law_second
      · exact dom_law
    · intro d hd
      simp only [tab, List.mem_cons, List.not_mem_nil, or_false] at hd
      rcases hd with rfl | rfl | rfl | rfl | rfl | rfl | rfl | rfl | rfl | rfl | rfl | rfl | rfl | rfl | rfl | rfl | rfl | rfl | rfl | rfl | rfl | rfl
      · exact s0
      · exact s1
      · exact s2
      · exact s3
      · exact s4
      · exact s5
      · exact s6
      · exact s7
      · exact s8
      · exact s9
      · exact s10
      · exact s11
      · exact s12
      · exact s13
      · exact s14
      · exact s15
      · exact s16
      · exact s17
      · exact s18
      · exact s19
      · exact s20
      · exact s21
    · intro x hx
      simp only [bs, List.mem_cons, List.not_mem_nil, or_false] at hx
      rcases hx with rfl | rfl | rfl | rfl | rfl | rfl | rfl | rfl | rfl | rfl | rfl
      · exact PySem.W.mg_none_of X G z0
      · exact PySem.W.mg_none_of X G z1
      · exact PySem.W.mg_none_of X G z2
      · exact PySem.W.mg_none_of X G z3
      · exact PySem.W.mg_none_of X G z4
      · exact PySem.W.mg_none_of X G z5
      · exact PySem.W.mg_none_of X G z6
      · exact PySem.W.mg_none_of X G z7
      · exact PySem.W.mg_none_of X G z8
      · exact PySem.W.mg_none_of X G z9
      · exact PySem.W.mg_none_of X G z10
  have F := fun_mk (x := "law") (qual := "law") (st := d_law.st) l21 c21 k21
  exact ⟨_, fun s v => .of_eq rfl, fun base _ _ => MP.law_fn p (d := d_law) (by simp [tab]) (by decide) rfl law_true F⟩
end LawMP
open PySem PySem.W PyProof.Rows in
set_option maxRecDepth 100000 in
set_option maxHeartbeats 0 in
theorem PySem.Challenge.cw_lastdoor_k01_rows_holds : PySem.Challenge.rw_lastdoor_k01_rows.Holds := by
  w_on; o_law; k_head; (case hw => w_witness2)
  k_fill
  refine MP.walk_mp (l := PySem.Challenge.rw_lastdoor_k01_rows) rfl rfl (fun w h Y => PySem.W.kIn_of Y) ?F
  case F =>
    intro w mg fa h KX G hmg
    refine' LawMP.all_mk KX G hmg ?a0 ?l0 ?c0 ?k0 ?a1 ?l1 ?c1 ?k1 ?a2 ?l2 ?c2 ?k2 ?a3 ?l3 ?c3 ?k3 ?a4 ?l4 ?c4 ?k4 ?a5 ?l5 ?c5 ?k5 ?a6 ?l6 ?c6 ?k6 ?a7 ?l7 ?c7 ?k7 ?a8 ?l8 ?c8 ?k8 ?a9 ?l9 ?c9 ?k9 ?a10 ?l10 ?c10 ?k10 ?a11 ?l11 ?c11 ?k11 ?a12 ?l12 ?c12 ?k12 ?a13 ?l13 ?c13 ?k13 ?a14 ?l14 ?c14 ?k14 ?a15 ?l15 ?c15 ?k15 ?a16 ?l16 ?c16 ?k16 ?a17 ?l17 ?c17 ?k17 ?a18 ?l18 ?c18 ?k18 ?a19 ?l19 ?c19 ?k19 ?a20 ?l20 ?c20 ?k20 ?a21 ?l21 ?c21 ?k21 ?z0 ?z1 ?z2 ?z3 ?z4 ?z5 ?z6 ?z7 ?z8 ?z9 ?z10
    (case a0 => k_is)
    (case l0 => k_is)
    (case c0 => k_is)
    (case k0 => k_is)
    (case a1 => k_is)
    (case l1 => k_is)
    (case c1 => k_is)
    (case k1 => k_is)
    (case a2 => k_is)
    (case l2 => k_is)
    (case c2 => k_is)
    (case k2 => k_is)
    (case a3 => k_is)
    (case l3 => k_is)
    (case c3 => k_is)
    (case k3 => k_is)
    (case a4 => k_is)
    (case l4 => k_is)
    (case c4 => k_is)
    (case k4 => k_is)
    (case a5 => k_is)
    (case l5 => k_is)
    (case c5 => k_is)
    (case k5 => k_is)
    (case a6 => k_is)
    (case l6 => k_is)
    (case c6 => k_is)
    (case k6 => k_is)
    (case a7 => k_is)
    (case l7 => k_is)
    (case c7 => k_is)
    (case k7 => k_is)
    (case a8 => k_is)
    (case l8 => k_is)
    (case c8 => k_is)
    (case k8 => k_is)
    (case a9 => k_is)
    (case l9 => k_is)
    (case c9 => k_is)
    (case k9 => k_is)
    (case a10 => k_is)
    (case l10 => k_is)
    (case c10 => k_is)
    (case k10 => k_is)
    (case a11 => k_is)
    (case l11 => k_is)
    (case c11 => k_is)
    (case k11 => k_is)
    (case a12 => k_is)
    (case l12 => k_is)
    (case c12 => k_is)
    (case k12 => k_is)
    (case a13 => k_is)
    (case l13 => k_is)
    (case c13 => k_is)
    (case k13 => k_is)
    (case a14 => k_is)
    (case l14 => k_is)
    (case c14 => k_is)
    (case k14 => k_is)
    (case a15 => k_is)
    (case l15 => k_is)
    (case c15 => k_is)
    (case k15 => k_is)
    (case a16 => k_is)
    (case l16 => k_is)
    (case c16 => k_is)
    (case k16 => k_is)
    (case a17 => k_is)
    (case l17 => k_is)
    (case c17 => k_is)
    (case k17 => k_is)
    (case a18 => k_is)
    (case l18 => k_is)
    (case c18 => k_is)
    (case k18 => k_is)
    (case a19 => k_is)
    (case l19 => k_is)
    (case c19 => k_is)
    (case k19 => k_is)
    (case a20 => k_is)
    (case l20 => k_is)
    (case c20 => k_is)
    (case k20 => k_is)
    (case a21 => k_is)
    (case l21 => k_is)
    (case c21 => k_is)
    (case k21 => k_is)
    (case z0 => k_is)
    (case z1 => k_is)
    (case z2 => k_is)
    (case z3 => k_is)
    (case z4 => k_is)
    (case z5 => k_is)
    (case z6 => k_is)
    (case z7 => k_is)
    (case z8 => k_is)
    (case z9 => k_is)
    (case z10 => k_is)
#print axioms PySem.Challenge.cw_lastdoor_k01_rows_holds
